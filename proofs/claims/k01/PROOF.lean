import PyProof.Rows.All
import Wide.All
import OpenK.AllK
import Wide.FinOn
import HandS.ForMost
import HandS.ForExc
import HandS.CallSlots
import HandS.Lambda
import HandS.TupAny
import HandS.IsInst
import HandS.Conv
import HandS.Wide
import HandS.Style
import KE.DataEq
import KE.DataCmp
import KE.SortData
import KE.KTupSum
import HandS.Flow
import KE.KDictPairs
import HandS.ExcOwn
import HandS.ExcInit
import KE.KExcSuper
import HandS.ExcField
import KE.KRevSl
import HandS.Strs
import HandS.SetBool
import HandS.SetKeys
import KE.GoesMore
import KE.GoesZip
import KE.GoesEnum
import HandS.More
import HandS.HeadHook3
import HandS.Words
import HandS.HeadHook4
import HandS.HeadWalk
import HandS.HeadEnd
import HandS.Head2
import PySem.Challenge.RW_crosslaid_k01_whole_conditions_on_rows
set_option Elab.async false
set_option linter.all false
set_option maxRecDepth 100000
/-! values as trees, a partial store, and how they lie in the hand layer's abstract heap -/
namespace TL
open PySem PySem.Spec PyProof.Rows L2

/-- a value: tuples, and lists that nobody changes any more (cl), are values; other objects are addresses -/
inductive T where
  | non | bl (b : Bool) | int (i : Int) | str (s : Str) | tup (xs : List T) | cl (xs : List T) | dct (ks vs : List T) | ref (a : Addr)
/-- what stands in the store -/
inductive Ob where
  | lst (xs : List T)
  | dict (ks vs : List T)
  | ins (c : Nat) (fs : List (Str × T))
abbrev Sto := List (Addr × Ob)
def get : Sto → Addr → Option Ob
  | [], _ => none
  | (b, o) :: r, a => if a = b then some o else get r a
def put : Sto → Addr → Ob → Sto
  | [], _, _ => []
  | (b, o) :: r, a, u => if a = b then (b, u) :: r else (b, o) :: put r a u
def del : Sto → Addr → Sto
  | [], _ => []
  | (b, o) :: r, a => if a = b then del r a else (b, o) :: del r a
theorem get_put {η : Sto} {a b : Addr} {u : Ob} : get (put η a u) b = if b = a then (get η a).map (fun _ => u) else get η b := by
  induction η with
  | nil => simp [put, get]
  | cons p r ih =>
    obtain ⟨c, o⟩ := p
    by_cases h1 : a = c
    · subst h1
      by_cases h2 : b = a
      · subst h2; simp [put, get]
      · simp [put, get, h2]
    · by_cases h2 : b = a
      · subst h2
        simp [put, get, h1, ih]
      · by_cases h3 : b = c
        · subst h3; simp [put, get, h1, h2]
        · simp [put, get, h1, h2, h3, ih]
theorem get_del {η : Sto} {a b : Addr} : get (del η a) b = if b = a then none else get η b := by
  induction η with
  | nil => simp [del, get]
  | cons p r ih =>
    obtain ⟨c, o⟩ := p
    by_cases h1 : a = c
    · subst h1
      by_cases h2 : b = a
      · subst h2; simp [del, ih]
      · simp [del, get, h2, ih]
    · by_cases h2 : b = a
      · subst h2; simp [del, get, h1, ih]
      · by_cases h3 : b = c
        · subst h3; simp [del, get, h1, h2]
        · simp [del, get, h1, h2, h3, ih]
theorem get_cons {η : Sto} {a b : Addr} {o : Ob} : get ((b, o) :: η) a = if a = b then some o else get η a := rfl
/-- less is told -/
def Sub (η η' : Sto) : Prop := ∀ a o, get η a = some o → get η' a = some o

/-- an exception: the class by its place in the table, the value handed in -/
structure Exc where
  cls : Nat
  arg : T

/-- all that is fixed while a law runs -/
structure Glob where
  P : Program
  w : World
  K : PySem.W.Frag
  mg : Str → Option Value
  base : Heap
  /-- the code tables that lambdas need -/
  Tb : List (Addr × Str)
  /-- the exception classes: where they stand, their field -/
  xs : List (Addr × Str)
  /-- the classes of instances: where they stand -/
  cs : List Addr
  /-- lists that are being made: nobody knows them yet -/
  Z : Addr → Prop

def keyR : T → Key → Prop
  | .int i, .inl j => i = j
  | .str x, .inr y => x = y
  | _, _ => False
def KwT (K : PySem.W.Frag) (a : Addr) (xs : List V) : Prop := ∃ (o : Obj) (its : Array Value) (n : Nat), K.lookup a = some o ∧ o.cls = .type "tuple" ∧ o.dict = none ∧ o.data = .seq its n ∧ its.size ≤ sizeLine ∧ Vals xs its.toList
def KwL (K : PySem.W.Frag) (a : Addr) (xs : List V) : Prop := ∃ (o : Obj) (its : Array Value) (n : Nat), K.lookup a = some o ∧ o.cls = .type "list" ∧ o.dict = none ∧ o.data = .seq its n ∧ its.size ≤ sizeLine ∧ Vals xs its.toList
/-- a list, a tuple that stands still -/
def StL (G : Glob) (H : Hp) (η : Sto) (a : Addr) (vs : List V) : Prop := (Rd H a (.lst vs) ∧ get η a = none ∧ ¬ G.Z a) ∨ KwL G.K a vs
/-- a tuple whose object is known to bear no dict -/
def FzT (H : Hp) (a : Addr) (vs : List V) : Prop := ∃ o, H a = some (.frz o (.tup vs)) ∧ o.dict = none
def StT (G : Glob) (H : Hp) (η : Sto) (a : Addr) (vs : List V) : Prop := (FzT H a vs ∧ get η a = none ∧ ¬ G.Z a) ∨ KwT G.K a vs
theorem StL.sq {G : Glob} {H : Hp} {η : Sto} {a : Addr} {vs : List V} (h : StL G H η a vs) : SqL G.K H a vs := h.elim (fun h => .inl h.1) .inr
theorem StT.sq {G : Glob} {H : Hp} {η : Sto} {a : Addr} {vs : List V} (h : StT G H η a vs) : SqT G.K H a vs := h.elim (fun ⟨⟨o, h, _⟩, _⟩ => .inl (.inr ⟨o, h⟩)) fun ⟨o, its, n, h1, h2, _, h3⟩ => .inr ⟨o, its, n, h1, h2, h3⟩
inductive KeysR : List T → List Key → Prop
  | nil : KeysR [] []
  | cons {t : T} {ts : List T} {k : Key} {ks : List Key} : keyR t k → KeysR ts ks → KeysR (t :: ts) (k :: ks)
mutual
inductive ValR (G : Glob) (H : Hp) (η : Sto) : T → V → Prop
  | non : ValR G H η .non .non
  | bl (b : Bool) : ValR G H η (.bl b) (.bl b)
  | int (i : Int) : ValR G H η (.int i) (.int i)
  | str (s : Str) : s.length ≤ sizeLine → ValR G H η (.str s) (.str s)
  | ref (a : Addr) : ValR G H η (.ref a) (.ref a)
  | tup {a : Addr} {vs : List V} {ts : List T} : StT G H η a vs → ValsR G H η ts vs → ValR G H η (.tup ts) (.ref a)
  | cl {a : Addr} {vs : List V} {ts : List T} : StL G H η a vs → ValsR G H η ts vs → ValR G H η (.cl ts) (.ref a)
  | dct {a : Addr} {kvs : List (Key × V)} {ks vs : List T} : H a = some (.dK kvs) → (get η a = none ∧ ¬ G.Z a) → KeysR ks (kvs.map (·.1)) → ValsR G H η vs (kvs.map (·.2)) → ValR G H η (.dct ks vs) (.ref a)
inductive ValsR (G : Glob) (H : Hp) (η : Sto) : List T → List V → Prop
  | nil : ValsR G H η [] []
  | cons {t : T} {ts : List T} {v : V} {vs : List V} : ValR G H η t v → ValsR G H η ts vs → ValsR G H η (t :: ts) (v :: vs)
end
section
variable {G : Glob} {H : Hp} {η : Sto}
theorem ValsR.length : ∀ {ts : List T} {vs : List V}, ValsR G H η ts vs → ts.length = vs.length
  | _, _, .nil => rfl
  | _, _, .cons _ r => congrArg (· + 1) (ValsR.length r)
theorem ValsR.get : ∀ {ts : List T} {vs : List V} {i : Nat} {t : T}, ValsR G H η ts vs → ts[i]? = some t → ∃ v, vs[i]? = some v ∧ ValR G H η t v
  | _, _, _, _, .nil, e => by simp at e
  | _, _, 0, _, .cons h _, e => by simp at e; subst e; exact ⟨_, rfl, h⟩
  | _, _, i + 1, t, .cons _ r, e => by
    obtain ⟨v, h1, h2⟩ := ValsR.get (i := i) (t := t) r (by simpa using e)
    exact ⟨v, by simpa using h1, h2⟩
theorem ValsR.append : ∀ {ts us : List T} {vs ws : List V}, ValsR G H η ts vs → ValsR G H η us ws → ValsR G H η (ts ++ us) (vs ++ ws)
  | _, _, _, _, .nil, s => s
  | _, _, _, _, .cons h r, s => .cons h (ValsR.append r s)
theorem ValsR.set {t : T} {v : V} (h : ValR G H η t v) : ∀ {ts : List T} {vs : List V} (i : Nat), ValsR G H η ts vs → ValsR G H η (ts.set i t) (vs.set i v)
  | _, _, _, .nil => .nil
  | _, _, 0, .cons _ r => .cons h r
  | _, _, i + 1, .cons q r => .cons q (ValsR.set h i r)
theorem ValsR.take : ∀ {ts : List T} {vs : List V} (n : Nat), ValsR G H η ts vs → ValsR G H η (ts.take n) (vs.take n)
  | _, _, 0, _ => .nil
  | _, _, _ + 1, .nil => .nil
  | _, _, n + 1, .cons h r => .cons h (ValsR.take n r)
theorem ValsR.drop : ∀ {ts : List T} {vs : List V} (n : Nat), ValsR G H η ts vs → ValsR G H η (ts.drop n) (vs.drop n)
  | _, _, 0, r => r
  | _, _, _ + 1, .nil => .nil
  | _, _, n + 1, .cons _ r => ValsR.drop n r
theorem ValsR.two {t u : T} {vs : List V} (h : ValsR G H η [t, u] vs) : ∃ v w, vs = [v, w] ∧ ValR G H η t v ∧ ValR G H η u w := by
  cases h with
  | cons h r => cases r with
    | cons h2 r2 => cases r2; exact ⟨_, _, rfl, h, h2⟩
theorem ValsR.one {t : T} {vs : List V} (h : ValsR G H η [t] vs) : ∃ v, vs = [v] ∧ ValR G H η t v := by
  cases h with
  | cons h r => cases r; exact ⟨_, rfl, h⟩
end

def FldsR (G : Glob) (H : Hp) (η : Sto) : List (Str × T) → List (Str × V) → Prop
  | [], [] => True
  | (f, t) :: r, (g, v) :: s => f = g ∧ ValR G H η t v ∧ FldsR G H η r s
  | _, _ => False
def ObR (G : Glob) (H : Hp) (η : Sto) (a : Addr) : Ob → Prop
  | .lst ts => ∃ vs, H a = some (.lst vs) ∧ ValsR G H η ts vs
  | .dict ks vs => ∃ kvs, H a = some (.dK kvs) ∧ KeysR ks (kvs.map (·.1)) ∧ ValsR G H η vs (kvs.map (·.2))
  | .ins c fs => ∃ C dx gs, G.cs[c]? = some C ∧ H a = some (.ins C dx gs) ∧ FldsR G H η fs gs
/-- what may stand at a hidden address -/
structure HidO (o : HO) : Prop where
  mu : Mut (some o)
  nt : ∀ ps, o ≠ .tbl ps
  nc : ∀ c q, o ≠ LamX.CodeO c q
theorem hid_lst {vs : List V} : HidO (.lst vs) := ⟨trivial, fun _ z => (by cases z), fun c q z => (by unfold LamX.CodeO at z; cases z)⟩
structure StoR (G : Glob) (H : Hp) (η : Sto) : Prop where
  ob : ∀ a o, TL.get η a = some o → ObR G H η a o
  tb : LamX.Tabs G.Tb H
  hz : ∀ a, G.Z a → (∃ o, H a = some o ∧ HidO o) ∧ TL.get η a = none
/-- what is not in the store stays (code tables may grow) -/
structure Frm (η : Sto) (H : Hp) (η' : Sto) (H' : Hp) : Prop where
  hp : ∀ b o, H b = some o → TL.get η b = none → (∀ ps, o ≠ .tbl ps) → H' b = some o
  st : ∀ b o, H b = some o → TL.get η b = none → (∀ ps, o ≠ .tbl ps) → TL.get η' b = none
theorem Frm.refl {η : Sto} {H : Hp} : Frm η H η H := ⟨fun _ _ h _ _ => h, fun _ _ _ n _ => n⟩
section
variable {G : Glob} {H H' H1 H2 : Hp} {η η' η1 η2 : Sto}
theorem Rd.frm {G : Glob} (f : Frm η H η' H') {a : Addr} {u : HO} (t : ∀ ps, u ≠ .tbl ps) (h : Rd H a u) (e : get η a = none ∧ ¬ G.Z a) : Rd H' a u ∧ get η' a = none ∧ ¬ G.Z a := by
  rcases h with h | ⟨o, h⟩
  · exact ⟨.inl (f.hp a _ h e.1 t), f.st a _ h e.1 t, e.2⟩
  · exact ⟨.inr ⟨o, f.hp a _ h e.1 (fun ps z => by cases z)⟩, f.st a _ h e.1 (fun ps z => by cases z), e.2⟩
theorem StT.frm (f : Frm η H η' H') {a : Addr} {vs : List V} (h : StT G H η a vs) : StT G H' η' a vs :=
  h.imp (fun ⟨⟨o, h, d⟩, e⟩ => ⟨⟨o, f.hp a _ h e.1 (fun _ z => by cases z), d⟩, f.st a _ h e.1 (fun _ z => by cases z), e.2⟩) id
theorem StL.frm (f : Frm η H η' H') {a : Addr} {vs : List V} (h : StL G H η a vs) : StL G H' η' a vs :=
  h.imp (fun h => Rd.frm (G := G) f (fun _ z => by cases z) h.1 h.2) id
mutual
theorem ValR.frm (f : Frm η H η' H') {t : T} {v : V} (h : ValR G H η t v) : ValR G H' η' t v := by
  cases h with
  | non => exact .non
  | bl b => exact .bl b
  | int i => exact .int i
  | str s l => exact .str s l
  | ref a => exact .ref a
  | tup h r => exact .tup (StT.frm f h) (ValsR.frm f r)
  | cl h r => exact .cl (StL.frm f h) (ValsR.frm f r)
  | dct h e k r => exact .dct (f.hp _ _ h e.1 (fun _ z => by cases z)) ⟨f.st _ _ h e.1 (fun _ z => by cases z), e.2⟩ k (ValsR.frm f r)
theorem ValsR.frm (f : Frm η H η' H') {ts : List T} {vs : List V} (h : ValsR G H η ts vs) : ValsR G H' η' ts vs := by
  cases h with
  | nil => exact .nil
  | cons h r => exact .cons (ValR.frm f h) (ValsR.frm f r)
end
theorem FldsR.frm (f : Frm η H η' H') : ∀ {fs : List (Str × T)} {gs : List (Str × V)}, FldsR G H η fs gs → FldsR G H' η' fs gs
  | [], [], _ => trivial
  | (_, _) :: _, (_, _) :: _, ⟨h1, h2, h3⟩ => ⟨h1, h2.frm f, FldsR.frm f h3⟩
  | [], _ :: _, h => h.elim
  | _ :: _, [], h => h.elim
theorem Frm.trans (f : Frm η H η1 H1) (g : Frm η1 H1 η2 H2) : Frm η H η2 H2 :=
  ⟨fun b o h n t => g.hp b o (f.hp b o h n t) (f.st b o h n t) t, fun b o h n t => g.st b o (f.hp b o h n t) (f.st b o h n t) t⟩
theorem KeysR.length : ∀ {ts : List T} {ks : List Key}, KeysR ts ks → ts.length = ks.length
  | _, _, .nil => rfl
  | _, _, .cons _ r => congrArg (· + 1) (KeysR.length r)
theorem ObR.there {a : Addr} {o : Ob} (h : ObR G H η a o) : ∃ u, H a = some u ∧ (∀ ps, u ≠ .tbl ps) ∧ Mut (some u) := by
  cases o with
  | lst ts => obtain ⟨vs, e, _⟩ := h; exact ⟨_, e, (fun _ z => by cases z), trivial⟩
  | dict ks vs => obtain ⟨kvs, e, _⟩ := h; exact ⟨_, e, (fun _ z => by cases z), trivial⟩
  | ins c fs => obtain ⟨C, dx, gs, _, e, _⟩ := h; exact ⟨_, e, (fun _ z => by cases z), trivial⟩
theorem StoR.nn (S : StoR G H η) {p : Addr} (h : H p = none) : get η p = none := by
  cases e : get η p with
  | none => rfl
  | some o =>
    obtain ⟨u, q, _⟩ := (S.ob p o e).there
    rw [h] at q; cases q
theorem StoR.nz (S : StoR G H η) {p : Addr} (h : H p = none) : get η p = none ∧ ¬ G.Z p := ⟨S.nn h, fun z => by
  obtain ⟨⟨o, e, _⟩, _⟩ := S.hz p z
  rw [h] at e; cases e⟩
theorem ObR.frm (f : Frm η H η' H') {a : Addr} {o : Ob} (e : H' a = H a) (h : ObR G H η a o) : ObR G H' η' a o := by
  cases o with
  | lst ts => obtain ⟨vs, q, r⟩ := h; exact ⟨vs, e.trans q, r.frm f⟩
  | dict ks vs => obtain ⟨kvs, q, k, r⟩ := h; exact ⟨kvs, e.trans q, k, r.frm f⟩
  | ins c fs => obtain ⟨C, dx, gs, hc, q, r⟩ := h; exact ⟨C, dx, gs, hc, e.trans q, r.frm f⟩
/-- a new object that the store need not tell -/
theorem Frm.new {p : Addr} {o : HO} (h : H p = none) : Frm η H η (upd H p o) :=
  ⟨fun b u e _ _ => by rw [upd_ne (ne_of_none e h)]; exact e, fun _ _ _ n _ => n⟩
theorem tabs_upd {T : List (Addr × Str)} {p : Addr} {o : HO} (t : LamX.Tabs T H) (h : H p = none) : LamX.Tabs T (upd H p o) :=
  t.ext fun b u e => by rw [upd_ne (ne_of_none e h)]; exact e
theorem StoR.new (S : StoR G H η) {p : Addr} {o : HO} (h : H p = none) : StoR G (upd H p o) η :=
  ⟨fun a u e => (S.ob a u e).frm (Frm.new h) (upd_ne (by rintro rfl; rw [S.nn h] at e; cases e)), tabs_upd S.tb h, fun a z => by
    obtain ⟨⟨o, e, ho⟩, n⟩ := S.hz a z
    exact ⟨⟨o, by rw [upd_ne (ne_of_none e h)]; exact e, ho⟩, n⟩⟩
/-- .. that it tells -/
theorem Frm.newS {p : Addr} {o : HO} {u : Ob} (h : H p = none) : Frm η H ((p, u) :: η) (upd H p o) :=
  ⟨fun b u e _ _ => by rw [upd_ne (ne_of_none e h)]; exact e, fun b _ e n _ => by rw [get_cons, if_neg (ne_of_none e h)]; exact n⟩
theorem StoR.newS (S : StoR G H η) {p : Addr} {o : HO} {u : Ob} (h : H p = none) (r : ObR G (upd H p o) ((p, u) :: η) p u) : StoR G (upd H p o) ((p, u) :: η) :=
  ⟨fun a w e => by
    rw [get_cons] at e
    by_cases ha : a = p
    · subst ha
      rw [if_pos rfl] at e
      cases e
      exact r
    · rw [if_neg ha] at e
      exact (S.ob a w e).frm (Frm.newS h) (upd_ne ha), tabs_upd S.tb h, fun a z => by
    obtain ⟨⟨o, e, ho⟩, n⟩ := S.hz a z
    have ne := ne_of_none e h
    exact ⟨⟨o, by rw [upd_ne ne]; exact e, ho⟩, by rw [get_cons, if_neg ne]; exact n⟩⟩
/-- a told object is changed -/
theorem Frm.put {a : Addr} {o : HO} {u w : Ob} (e : get η a = some w) : Frm η H (put η a u) (upd H a o) :=
  ⟨fun b x hb n _ => by rw [upd_ne (by rintro rfl; rw [e] at n; cases n)]; exact hb, fun b x hb n _ => by
    rw [get_put, if_neg (by rintro rfl; rw [e] at n; cases n)]; exact n⟩
theorem tabs_put {T : List (Addr × Str)} {a : Addr} {o u : HO} (t : LamX.Tabs T H) (h : H a = some u) (n1 : Mut (some u)) (n2 : ∀ c q, u ≠ LamX.CodeO c q) : LamX.Tabs T (upd H a o) := fun p hp => by
  obtain ⟨ps, h1, h2, h3⟩ := t p hp
  have ne : ∀ {b x}, H b = some x → x ≠ u → b ≠ a := fun {b x} hb hx z => by subst z; rw [h] at hb; exact hx (Option.some.inj hb).symm
  refine ⟨ps, by rw [upd_ne (ne h1 (by rintro rfl; exact n1))]; exact h1, h2, fun pos cv hc => ?_⟩
  obtain ⟨c, e1, e2⟩ := h3 pos cv hc
  exact ⟨c, e1, by rw [upd_ne (ne e2 fun z => n2 _ _ z.symm)]; exact e2⟩
theorem ObR.noCode {a : Addr} {o : Ob} (h : ObR G H η a o) {u : HO} (e : H a = some u) (c : Addr) (q : Str) : u ≠ LamX.CodeO c q := by
  unfold LamX.CodeO
  cases o with
  | lst ts => obtain ⟨vs, e', _⟩ := h; rw [e'] at e; cases e; intro z; cases z
  | dict ks vs => obtain ⟨kvs, e', _⟩ := h; rw [e'] at e; cases e; intro z; cases z
  | ins c fs => obtain ⟨C, dx, gs, _, e', _⟩ := h; rw [e'] at e; cases e; intro z; cases z
theorem StoR.put (S : StoR G H η) {a : Addr} {o : HO} {u w : Ob} (e : get η a = some w) (r : ObR G (upd H a o) (put η a u) a u) : StoR G (upd H a o) (put η a u) := by
  obtain ⟨x, hx, _, mx⟩ := (S.ob a w e).there
  refine ⟨fun b v eb => ?_, tabs_put S.tb hx mx ((S.ob a w e).noCode hx), fun b z => by
    obtain ⟨⟨o, eb, ho⟩, n⟩ := S.hz b z
    have ne : b ≠ a := by rintro rfl; rw [e] at n; cases n
    exact ⟨⟨o, by rw [upd_ne ne]; exact eb, ho⟩, by rw [get_put, if_neg ne]; exact n⟩⟩
  rw [get_put] at eb
  by_cases hb : b = a
  · subst hb
    rw [if_pos rfl, e] at eb
    cases eb
    exact r
  · rw [if_neg hb] at eb
    exact (S.ob b v eb).frm (Frm.put e) (upd_ne hb)
/-- less is told -/
theorem Sub.frm (s : Sub η' η) : Frm η H η' H := ⟨fun _ _ h _ _ => h, fun b _ _ n _ => by
  cases e : get η' b with
  | none => rfl
  | some o => rw [s b o e] at n; cases n⟩
theorem StoR.sub (S : StoR G H η) (s : Sub η' η) : StoR G H η' := ⟨fun a o e => (S.ob a o (s a o e)).frm s.frm rfl, S.tb, fun a z => ⟨(S.hz a z).1, by
  cases e : get η' a with
  | none => rfl
  | some o => have q := s a o e; rw [(S.hz a z).2] at q; cases q⟩⟩
theorem Sub.refl : Sub η η := fun _ _ h => h
theorem Sub.cons {p : Addr} {o : Ob} (h : get η p = none) : Sub η ((p, o) :: η) := fun a u e => by
  rw [get_cons, if_neg (by rintro rfl; rw [h] at e; cases e)]; exact e
theorem Sub.del {p : Addr} : Sub (del η p) η := fun a u e => by
  rw [get_del] at e
  split at e
  · cases e
  · exact e
end
end TL

/-! the small language and its meaning -/
namespace TL
open PySem PySem.Spec PyProof.Rows L2

inductive Bop | add | sub | mul | fdiv | mod | pow
  deriving DecidableEq
inductive Cop | eq | ne | lt | le | gt | ge | isN | notN | inn | nin
  deriving DecidableEq
inductive Ty | int | bool | str | tuple | list | dict
  deriving DecidableEq
inductive Agg | all | any | sum | tuple | list | listM | max | min
  deriving DecidableEq
/-- built-ins of plain values -/
inductive Blt | len | abs | int | max2 | min2 | dict | setLen | rev
  deriving DecidableEq
/-- methods -/
inductive Mt | get2 | append | index | join | sw | indexT
  deriving DecidableEq
inductive Tg
  | name (i : Nat)
  | two (i j : Nat)
mutual
inductive E
  | var (i : Nat)
  | cst (t : T)
  | gcst (i : Nat) (t : T)
  | tup (es : Es) | lst (es : Es) | lstV (es : Es)
  | bin (o : Bop) (a b : E) | neg (a : E)
  | cat (a b : E) | catV (a b : E)
  | lc (own : List Nat) (tg : Tg) (src : It) (c : C) (elt : E) | lcM (own : List Nat) (tg : Tg) (src : It) (c : C) (elt : E)
  | cmp (o : Cop) (a b : E) | chain (o1 o2 : Cop) (a b c : E)
  | and (a b : E) | or (a b : E) | not (a : E)
  | ite (c : C) (a b : E)
  | idx (a i : E)
  | slc (a : E) (lo hi : Op) | slcM (a : E) (lo hi : Op)
  | isinst (a : E) (t : Ty)
  | call (f : Nat) (es : Es)
  | callK (f : Nat) (es : Es) (kw : Es) (perm : List Nat)
  | agg (g : Agg) (a : E)
  | blt (b : Blt) (es : Es)
  | mth (m : Mt) (o : E) (es : Es)
  | lenSet (own : List Nat) (tg : Tg) (src : It) (elt : E)
  | hof (f : Nat) (e : E) (ret : Str)
  | exc
  | frz (i : Nat)
  | weak (e : E)
  | gix (i : Nat) (ks : List Str) (vs : List T) (e : E)
  | gin (neg : Bool) (i : Nat) (ks : List Str) (e : E)
  | dsel (ks : List Str) (vs : List T) (e : E)
inductive Es
  | nil
  | cons (e : E) (es : Es)
inductive C
  | and (a b : C) | or (a b : C) | not (a : C) | val (e : E) | tt
  | cmp (o : Cop) (a b : E) | chain (o1 o2 : Cop) (a b c : E)
inductive It
  | seq (e : E)
  | chars (e : E)
  | range (a : E) | range2 (a b : E)
  | zip (a b : E)
  | enum (a : E)
inductive Op
  | no
  | some (e : E)
end
mutual
inductive S
  | expr (e : E) | ret (e : E) | retN
  | set (i : Nat) (e : E)
  | par (i j : Nat) (a b : E)
  | unp (tg : Tg) (e : E)
  | setIdx (a i e : E)
  | iff (c : C) (a b : Ss)
  | for (tg : Tg) (it : It) (b : Ss)
  | while (c : C) (b : Ss)
  | brk | cont | pass
  | raise (c : Nat) (e : E)
  | tryE (k : Nat) (e : E) (c : Nat) (b : Ss)
  | weak
inductive Ss
  | nil
  | cons (s : S) (r : Ss)
end

structure Env where
  v : List (Option T)
  x : Option T
abbrev KE := T → Sto → Prop
abbrev KX := Exc → Sto → Prop
abbrev KL := List T → Sto → Prop
/-- a text -/
def strV : T → Option Str
  | .str x => some x
  | _ => none
/-- its signs -/
def charsL (x : Str) : List T := x.cps.toList.map fun c => .str ⟨#[c]⟩
def nth : List (Option T) → Nat → Option T
  | [], _ => none
  | a :: _, 0 => a
  | _ :: r, n + 1 => nth r n
def setv : List (Option T) → Nat → T → List (Option T)
  | [], _, _ => []
  | _ :: r, 0, t => some t :: r
  | a :: r, n + 1, t => a :: setv r n t
def setvs : List (Option T) → List Nat → List (Option T)
  | v, [] => v
  | v, i :: r => setvs (v.set i none) r
def Env.put (ρ : Env) (i : Nat) (t : T) : Env := ⟨setv ρ.v i t, ρ.x⟩

/-! ### data -/
mutual
/-- no address, no dict within -/
def dat : T → Bool
  | .non => true | .bl _ => true | .int _ => true | .str _ => true
  | .tup xs => dats xs
  | .cl xs => dats xs
  | .dct _ _ => false
  | .ref _ => false
def dats : List T → Bool
  | [] => true
  | x :: xs => dat x && dats xs
end
mutual
def dep : T → Nat
  | .non => 0 | .bl _ => 0 | .int _ => 0 | .str _ => 0 | .dct _ _ => 0 | .ref _ => 0
  | .tup xs => deps xs + 1
  | .cl xs => deps xs + 1
def deps : List T → Nat
  | [] => 0
  | x :: xs => max (dep x) (deps xs)
end
mutual
/-- == of data -/
def eqv : T → T → Bool
  | .non, .non => true
  | .bl a, .bl b => a == b
  | .bl a, .int j => (if a then 1 else 0) == j
  | .int i, .bl b => i == (if b then 1 else 0)
  | .int i, .int j => i == j
  | .str x, .str y => x == y
  | .tup xs, .tup ys => eqvs xs ys
  | .cl xs, .cl ys => eqvs xs ys
  | _, _ => false
def eqvs : List T → List T → Bool
  | [], [] => true
  | x :: xs, y :: ys => eqv x y && eqvs xs ys
  | [], _ :: _ => false
  | _ :: _, [] => false
end
mutual
/-- two that can be compared, place by place -/
def alk : T → T → Bool
  | .non, .non => true
  | .bl _, .bl _ => true
  | .int _, .int _ => true
  | .str _, .str _ => true
  | .tup xs, .tup ys => alks xs ys
  | .cl xs, .cl ys => alks xs ys
  | _, _ => false
def alks : List T → List T → Bool
  | x :: xs, y :: ys => alk x y && alks xs ys
  | [], _ => true
  | _ :: _, [] => true
end
mutual
/-- < of two that can be compared -/
def ltV : T → T → Bool
  | .bl a, .bl b => !a && b
  | .int i, .int j => decide (i < j)
  | .str x, .str y => decide (x.cps.toList < y.cps.toList)
  | .tup xs, .tup ys => ltVs xs ys
  | .cl xs, .cl ys => ltVs xs ys
  | _, _ => false
def ltVs : List T → List T → Bool
  | [], [] => false
  | [], _ :: _ => true
  | _ :: _, [] => false
  | x :: xs, y :: ys => if eqv x y = true then ltVs xs ys else ltV x y
end
/-- what a table with written texts as keys gives -/
def lookS (z : Str) : List Str → List T → Option T
  | k :: ks, v :: vs => if k = z then some v else lookS z ks vs
  | _, _ => none
/-- a list of the store as a value -/
def deref (η : Sto) : T → T
  | .ref a => match get η a with
    | some (.lst xs) => .cl xs
    | _ => .ref a
  | t => t
def eqOk (u w : T) : Bool := dat u && dat w && decide (min (dep u) (dep w) ≤ 64)
def seqOf (η : Sto) : T → Option (List T)
  | .tup xs => some xs
  | .cl xs => some xs
  | .ref a => match get η a with
    | some (.lst xs) => some xs
    | _ => none
  | _ => none
/-- a list, no tuple -/
def lstOf (η : Sto) : T → Option (List T)
  | .cl xs => some xs
  | .ref a => match get η a with
    | some (.lst xs) => some xs
    | _ => none
  | _ => none
def srcOf : T → Option Addr
  | .ref a => some a
  | _ => none
def tru (η : Sto) : T → Option Bool
  | .non => some false
  | .bl b => some b
  | .int i => some (i != 0)
  | .str s => some ((s.length : Int) != 0)
  | .tup xs => some (!xs.isEmpty)
  | .cl xs => some (!xs.isEmpty)
  | .dct ks _ => some (!ks.isEmpty)
  | .ref a => match get η a with
    | some (.lst xs) => some (!xs.isEmpty)
    | some (.dict ks _) => some (!ks.isEmpty)
    | _ => none
def isT (η : Sto) : Ty → T → Option Bool
  | .int, .int _ => some true
  | .int, .bl _ => some true
  | .int, .ref _ => none
  | .int, _ => some false
  | .bool, .bl _ => some true
  | .bool, .ref _ => none
  | .bool, _ => some false
  | .str, .str _ => some true
  | .str, .ref _ => none
  | .str, _ => some false
  | .tuple, .tup _ => some true
  | .tuple, .ref _ => none
  | .tuple, _ => some false
  | .list, .cl _ => some true
  | .list, .ref _ => none
  | .list, _ => some false
  | .dict, .dct _ _ => some true
  | .dict, .ref _ => none
  | .dict, _ => some false
def lenT (η : Sto) : T → Option Nat
  | .str s => some s.length
  | .dct ks _ => some ks.length
  | t => (seqOf η t).map List.length
def intsOf : List T → Option (List Int)
  | [] => some []
  | .int i :: r => (intsOf r).map (i :: ·)
  | _ :: _ => none
def blsOf : List T → Option (List Bool)
  | [] => some []
  | .bl i :: r => (blsOf r).map (i :: ·)
  | _ :: _ => none
def cutT (xs : List T) (lo hi : Option Int) : List T := (xs.drop (HT.sIx xs.length 0 lo)).take (HT.sIx xs.length xs.length hi - HT.sIx xs.length 0 lo)
/-- some value of the list is equal -/
def inT (u : T) : List T → Bool
  | [] => false
  | x :: xs => eqv x u || inT u xs
def inOk (u : T) (xs : List T) : Bool := dat u && dats xs && decide (min (deps xs) (dep u) ≤ 64)

/-- an operator: what it asks, what it gives -/
def bopG (o : Bop) (u w : T) : Prop :=
  match o, u, w with
  | .add, .str x, .str y => x.length + y.length ≤ sizeLine
  | .add, .tup xs, .tup ys => xs.length + ys.length ≤ sizeLine
  | .mul, .int i, .int j => i.natAbs.log2 + j.natAbs.log2 < 1000000
  | .fdiv, .int _, .int j => j ≠ 0 ∧ j.natAbs.log2 < 9000
  | .mod, .int _, .int j => j ≠ 0
  | .pow, .int i, .int j => 0 ≤ j ∧ j ≤ 1000000 ∧ i.natAbs < 2 ^ 64
  | _, _, _ => True
def bopV (o : Bop) (u w : T) : Option T :=
  match o, u, w with
  | .add, .int i, .int j => some (.int (i + j))
  | .add, .str x, .str y => some (.str (x ++ y))
  | .add, .tup xs, .tup ys => some (.tup (xs ++ ys))
  | .sub, .int i, .int j => some (.int (i - j))
  | .mul, .int i, .int j => some (.int (i * j))
  | .fdiv, .int i, .int j => some (.int (i.fdiv j))
  | .mod, .int i, .int j => some (.int (i.fmod j))
  | .pow, .int i, .int j => some (.int (i ^ j.toNat))
  | _, _, _ => none
def isNon : T → Bool
  | .non => true
  | _ => false
def inStr (x y : Str) : Bool := !(Builtin.Str.occurrences y x 0 y.length 1).isEmpty
def copG (o : Cop) (u w : T) (η : Sto) : Bool :=
  match o with
  | .eq => eqOk (deref η u) (deref η w)
  | .ne => eqOk (deref η u) (deref η w)
  | .inn => match u, w with
    | .str _, .str _ => true
    | u, w => match seqOf η w with
      | some xs => inOk u xs
      | none => false
  | .nin => match u, w with
    | .str _, .str _ => true
    | u, w => match seqOf η w with
      | some xs => inOk u xs
      | none => false
  | .lt => match u, w with
    | .tup _, .tup _ => dat u && dat w && alk u w && decide (min (dep u) (dep w) ≤ 64)
    | _, _ => true
  | _ => true
def copV (o : Cop) (u w : T) (η : Sto) : Option Bool :=
  match o with
  | .eq => some (eqv (deref η u) (deref η w))
  | .ne => some (!eqv (deref η u) (deref η w))
  | .isN => match w, u with
    | .non, u => some (isNon u)
    | .bl b, .bl a => some (decide (a = b))
    | _, _ => none
  | .notN => match w, u with
    | .non, u => some (!isNon u)
    | .bl b, .bl a => some (!decide (a = b))
    | _, _ => none
  | .lt => match u, w with
    | .int i, .int j => some (decide (i < j))
    | .str x, .str y => some (decide (x.cps.toList < y.cps.toList))
    | .tup xs, .tup ys => some (ltVs xs ys)
    | _, _ => none
  | .le => match u, w with
    | .int i, .int j => some (decide (i ≤ j))
    | _, _ => none
  | .gt => match u, w with
    | .int i, .int j => some (decide (j < i))
    | _, _ => none
  | .ge => match u, w with
    | .int i, .int j => some (decide (j ≤ i))
    | _, _ => none
  | .inn => match u, w with
    | .str x, .str y => some (inStr x y)
    | u, w => (seqOf η w).map (inT u)
  | .nin => match u, w with
    | .str x, .str y => some (!inStr x y)
    | u, w => (seqOf η w).map fun xs => !inT u xs

/-! what follows the parts of an expression -/
def optF {α : Type} (o : Option α) (K : α → Prop) : Prop := match o with
  | some t => K t
  | none => False
theorem optF_some {α : Type} {K : α → Prop} {t : α} : optF (some t) K = K t := rfl
theorem optF_none {α : Type} {K : α → Prop} : optF none K = False := rfl
theorem optF_congr {α : Type} {o o' : Option α} {K : α → Prop} (h : o = o') : optF o K = optF o' K := by rw [h]
def ifB (k : Bool) (A B : Prop) : Prop := match k with
  | true => A
  | false => B
theorem ifB_congr {k k' : Bool} {A B : Prop} (h : k = k') : ifB k A B = ifB k' A B := by rw [h]
/-! the same with what follows hidden from the simplifier -/
class Kn (α : Type) where
  run : α → Prop
def optQ {α : Type} (o : Option α) [k : Kn α] : Prop := match o with
  | some t => k.run t
  | none => False
theorem optF_I {α : Type} {o : Option α} {K : α → Prop} : optF o K = @optQ α o ⟨K⟩ := by cases o <;> rfl
theorem optQ_some {α : Type} {K : α → Prop} {t : α} : @optQ α (some t) ⟨K⟩ = K t := id rfl
theorem optQ_none {α : Type} {K : α → Prop} : @optQ α none ⟨K⟩ = False := id rfl
class Kb where
  a : Prop
  b : Prop
def ifQ (k : Bool) [q : Kb] : Prop := match k with
  | true => q.a
  | false => q.b
theorem ifB_I {k : Bool} {A B : Prop} : ifB k A B = @ifQ k ⟨A, B⟩ := by cases k <;> rfl
theorem ifQ_true {A B : Prop} : @ifQ true ⟨A, B⟩ = A := id rfl
theorem ifQ_false {A B : Prop} : @ifQ false ⟨A, B⟩ = B := id rfl
theorem ifQ_dec {p A B : Prop} [Decidable p] : @ifQ (decide p) ⟨A, B⟩ = (if p then A else B) := by
  by_cases h : p <;> simp [ifQ, h]
theorem ifB_true {A B : Prop} : ifB true A B = A := rfl
theorem ifB_false {A B : Prop} : ifB false A B = B := rfl
def bop (o : Bop) (u w : T) (η : Sto) (K : KE) : Prop := bopG o u w ∧ optF (bopV o u w) fun t => K t η
def cop (o : Cop) (u w : T) (η : Sto) (K : Bool → Prop) : Prop := copG o u w η = true ∧ optF (copV o u w η) K
/-! ### loops -/
def stays (src : Option Addr) (all : List T) (η : Sto) : Prop := match src with
  | none => True
  | some a => get η a = some (.lst all)
/-- a comprehension's turns: f gives none or one item -/
def wcomp (st : Sto → Prop) (f : T → Sto → KL → Prop) : List T → List T → Sto → KL → Prop
  | [], acc, η, K => st η ∧ K acc η
  | x :: xs, acc, η, K => st η ∧ f x η fun r η' => wcomp st f xs (acc ++ r) η' K
def bindTg : Tg → T → List (Option T) → Option (List (Option T))
  | .name i, t, v => some (setv v i t)
  | .two i j, .tup [t, u], v => some (setv (setv v i t) j u)
  | _, _, _ => none
/-- what is wanted behind a statement -/
structure Dn where
  nx : Env → Sto → Prop
  rt : KE
  bk : Env → Sto → Prop
  ct : Env → Sto → Prop
  X : KX
def wfor (st : Sto → Prop) (tg : Tg) (body : Dn → Env → Sto → Prop) (D : Dn) : List T → Env → Sto → Prop
  | [], ρ, η => st η ∧ D.nx ρ η
  | x :: xs, ρ, η => st η ∧ optF (bindTg tg x ρ.v) fun v => body ⟨fun ρ' η' => wfor st tg body D xs ρ' η', D.rt, D.nx, fun ρ' η' => wfor st tg body D xs ρ' η', D.X⟩ ⟨v, ρ.x⟩ η
def wwhile (test : Env → Sto → (Bool → Sto → Prop) → Prop) (body : Dn → Env → Sto → Prop) (D : Dn) : Nat → Env → Sto → Prop
  | 0, _, _ => False
  | n + 1, ρ, η => test ρ η fun b η' => ifB b (body ⟨fun ρ' η' => wwhile test body D n ρ' η', D.rt, D.nx, fun ρ' η' => wwhile test body D n ρ' η', D.X⟩ ρ η') (D.nx ρ η')
def rangeL (lo : Int) (n : Nat) : List T := (List.range n).map fun (k : Nat) => T.int (lo + k)
def zipL : List T → List T → List T
  | x :: xs, y :: ys => .tup [x, y] :: zipL xs ys
  | _, _ => []
def enumL (k : Nat) : List T → List T
  | [] => []
  | x :: xs => .tup [.int k, x] :: enumL (k + 1) xs
/-- one more of a set -/
def addD (acc : List T) (u : T) : List T := if inT u acc then acc else acc ++ [u]
/-- without those that came before -/
def dedup (xs : List T) : List T := xs.foldl addD []
/-- what may be a key -/
def keyT : T → Bool
  | .int _ => true
  | .str _ => true
  | _ => false
def maxL : List Int → Option Int
  | [] => none
  | n :: ns => some (ns.foldl max n)
def minL : List Int → Option Int
  | [] => none
  | n :: ns => some (ns.foldl min n)
def aggV (g : Agg) (ts : List T) : Option T :=
  match g with
  | .all => (blsOf ts).map fun bs => .bl (bs.all id)
  | .any => (blsOf ts).map fun bs => .bl (bs.any id)
  | .sum => (intsOf ts).map fun ns => .int ns.sum
  | .tuple => some (.tup ts)
  | .list => some (.cl ts)
  | .listM => none
  | .max => ((intsOf ts).bind maxL).map .int
  | .min => ((intsOf ts).bind minL).map .int
def aggS (g : Agg) (η : Sto) (u : T) : Option (List T) :=
  match g with
  | .tuple => seqOf η u
  | .list => seqOf η u
  | .listM => seqOf η u
  | _ => lstOf η u
def aggF (g : Agg) (ts : List T) (η : Sto) (K : KE) : Prop :=
  match g with
  | .listM => ∀ p, get η p = none → K (.ref p) ((p, .lst ts) :: η)
  | g => optF (aggV g ts) fun t => K t η
/-- a pair of a key and a value, laid into a dict -/
def dputT (k v : T) (ks vs : List T) : List T × List T :=
  if (ks.any fun c => eqv c k) = true then (ks, List.zipWith (fun c w => if eqv c k = true then v else w) ks vs) else (ks ++ [k], vs ++ [v])
/-- a later one wins -/
def dictOf : List T → List T → List T → Option (List T × List T)
  | [], ks, vs => some (ks, vs)
  | .tup [k, v] :: r, ks, vs => if keyT k then dictOf r (dputT k v ks vs).1 (dputT k v ks vs).2 else none
  | _ :: _, _, _ => none
def dgetT (k : T) : List T → List T → Option T
  | c :: ks, w :: vs => if eqv c k then some w else dgetT k ks vs
  | _, _ => none
def bltV (b : Blt) (ts : List T) (η : Sto) : Option T :=
  match b, ts with
  | .len, [t] => (lenT η t).map fun (n : Nat) => .int n
  | .abs, [.int i] => some (.int (if i < 0 then -i else i))
  | .int, [.int i] => some (.int i)
  | .int, [.bl b] => some (.int (if b then 1 else 0))
  | .max2, [.int i, .int j] => some (.int (if j > i then j else i))
  | .min2, [.int i, .int j] => some (.int (if j < i then j else i))
  | .dict, [t] => ((seqOf η t).bind fun ps => dictOf ps [] []).map fun q => .dct q.1 q.2
  | .rev, [.tup xs] => some (.tup xs.reverse)
  | .setLen, [t] => (seqOf η t).bind fun ts => if ts.all keyT = true ∧ ts.length ≤ 1000 then some (.int (dedup ts).length) else none
  | _, _ => none
/-- the first place of an equal value -/
def ixOf (u : T) : List T → Option Nat
  | [] => none
  | x :: xs => if eqv x u then some 0 else (ixOf u xs).map (· + 1)
/-- texts -/
def strsL : List T → Option (List Str)
  | [] => some []
  | .str x :: r => (strsL r).map (x :: ·)
  | _ :: _ => none
/-- the receiver is of the type -/
def mthT (m : Mt) (o : T) (η : Sto) : Bool :=
  match m, o with
  | .append, .ref a => match get η a with
    | some (.lst _) => true
    | _ => false
  | .get2, .dct _ _ => true
  | .index, .tup _ => true
  | .index, .cl _ => true
  | .join, .str _ => true
  | .sw, .str _ => true
  | .indexT, .tup _ => true
  | _, _ => false
def mthG (m : Mt) (o : T) (ts : List T) (η : Sto) : Prop :=
  match m, o, ts with
  | .get2, .dct _ _, [k, _] => keyT k = true
  | .append, .ref a, _ => match get η a with
    | some (.lst xs) => xs.length < sizeLine
    | _ => True
  | .index, t, [u] => match seqOf η t with
    | some xs => inOk u xs = true
    | none => True
  | .join, .str a, [t] => match (seqOf η t).bind strsL with
    | some ys => (ys.map (·.length)).sum + ys.length * a.length ≤ 16777216 ∧ (Txt.join a ys).length ≤ sizeLine
    | none => True
  | _, _, _ => True
def mthV (m : Mt) (o : T) (ts : List T) (η : Sto) : Option (T × Sto) :=
  match m, o, ts with
  | .get2, .dct ks vs, [k, d] => some ((dgetT k ks vs).getD d, η)
  | .append, .ref a, [t] => match get η a with
    | some (.lst xs) => some (.non, TL.put η a (.lst (xs ++ [t])))
    | _ => none
  | .index, t, [u] => ((seqOf η t).bind (ixOf u)).map fun (k : Nat) => (.int k, η)
  | .join, .str a, [t] => ((seqOf η t).bind strsL).map fun ys => (.str (Txt.join a ys), η)
  | .sw, .str a, [.str b] => some (.bl (Txt.startswith a b), η)
  | .indexT, .tup xs, [.str z] => (strsL xs).bind fun _ => (ixOf (.str z) xs).map fun (k : Nat) => (.int k, η)
  | _, _, _ => none
def negV : T → Option T
  | .int i => some (.int (-i))
  | _ => none
def idxV (η : Sto) (u w : T) : Option T := match u, w with
  | .str s, .int k => (atI s.cps.toList k).map fun c => .str ⟨#[c]⟩
  | u, w => match seqOf η u, w with
    | some xs, .int k => atI xs k
    | _, _ => none
def slcV (u : T) (i j : Option Int) (η : Sto) : Option T := match u with
  | .tup xs => some (.tup (cutT xs i j))
  | .str s => some (.str (cutS s i j))
  | u => (seqOf η u).map fun xs => .cl (cutT xs i j)
def slcMV (u : T) (i j : Option Int) (η : Sto) : Option (List T) := match u with
  | .tup _ => none
  | u => (seqOf η u).map fun xs => cutT xs i j
def frzV (t : Option T) (η : Sto) : Option (List T × Addr) := match t with
  | some (.ref a) => match get η a with
    | some (.lst xs) => some (xs, a)
    | _ => none
  | _ => none
def small (n : Int) : Prop := -(2 ^ 62) ≤ n ∧ n ≤ 16777216
def intV : T → Option Int
  | .int i => some i
  | _ => none
/-- what zip, enumerate walk: nobody changes it meanwhile -/
def stillV (η : Sto) : T → Option (List T)
  | .tup xs => some xs
  | .cl xs => some xs
  | _ => none
def setV (u w : T) (η : Sto) (t : T) : Option Sto := match u, w with
  | .ref p, .int k => match get η p with
    | some (.lst xs) => (ixN xs.length k).map fun j => TL.put η p (.lst (xs.set j t))
    | _ => none
  | _, _ => none

mutual
def wE (Φ : Nat → List T → Sto → KX → KE → Prop) : E → Env → Sto → KX → KE → Prop
  | .var i, ρ, η, _, K => optF (nth ρ.v i) fun t => K t η
  | .cst t, _, η, _, K => K t η
  | .gcst _ t, _, η, _, K => K t η
  | .tup es, ρ, η, X, K => wEs Φ es ρ η X fun ts η' => K (.tup ts) η'
  | .lst es, ρ, η, X, K => wEs Φ es ρ η X fun ts η' => ∀ p, get η' p = none → K (.ref p) ((p, .lst ts) :: η')
  | .lstV es, ρ, η, X, K => wEs Φ es ρ η X fun ts η' => K (.cl ts) η'
  | .bin o a b, ρ, η, X, K => wE Φ a ρ η X fun u η1 => wE Φ b ρ η1 X fun w η2 => bop o u w η2 K
  | .neg a, ρ, η, X, K => wE Φ a ρ η X fun u η1 => optF (negV u) fun t => K t η1
  | .cat a b, ρ, η, X, K => wE Φ a ρ η X fun u η1 => wE Φ b ρ η1 X fun w η2 => optF (lstOf η2 u) fun xs => optF (lstOf η2 w) fun ys => xs.length + ys.length ≤ sizeLine ∧ ∀ p, get η2 p = none → K (.ref p) ((p, .lst (xs ++ ys)) :: η2)
  | .catV a b, ρ, η, X, K => wE Φ a ρ η X fun u η1 => wE Φ b ρ η1 X fun w η2 => optF (lstOf η2 u) fun xs => optF (lstOf η2 w) fun ys => xs.length + ys.length ≤ sizeLine ∧ K (.cl (xs ++ ys)) η2
  | .cmp o a b, ρ, η, X, K => wE Φ a ρ η X fun u η1 => wE Φ b ρ η1 X fun w η2 => cop o u w η2 fun k => K (.bl k) η2
  | .chain o1 o2 a b c, ρ, η, X, K => wE Φ a ρ η X fun u η1 => wE Φ b ρ η1 X fun w η2 => cop o1 u w η2 fun k => ifB k (wE Φ c ρ η2 X fun z η3 => cop o2 w z η3 fun k2 => K (.bl k2) η3) (K (.bl false) η2)
  | .and a b, ρ, η, X, K => wE Φ a ρ η X fun u η1 => optF (tru η1 u) fun k => ifB k (wE Φ b ρ η1 X K) (K u η1)
  | .or a b, ρ, η, X, K => wE Φ a ρ η X fun u η1 => optF (tru η1 u) fun k => ifB k (K u η1) (wE Φ b ρ η1 X K)
  | .not a, ρ, η, X, K => wE Φ a ρ η X fun u η1 => optF (tru η1 u) fun k => K (.bl (!k)) η1
  | .ite c a b, ρ, η, X, K => wC Φ c ρ η X fun k η1 => ifB k (wE Φ a ρ η1 X K) (wE Φ b ρ η1 X K)
  | .idx a i, ρ, η, X, K => wE Φ a ρ η X fun u η1 => wE Φ i ρ η1 X fun w η2 => optF (idxV η2 u w) fun t => K t η2
  | .slc a lo hi, ρ, η, X, K => wE Φ a ρ η X fun u η1 => wO Φ lo ρ η1 X fun i η2 => wO Φ hi ρ η2 X fun j η3 => optF (slcV u i j η3) fun t => K t η3
  | .slcM a lo hi, ρ, η, X, K => wE Φ a ρ η X fun u η1 => wO Φ lo ρ η1 X fun i η2 => wO Φ hi ρ η2 X fun j η3 => optF (slcMV u i j η3) fun ts => ∀ p, get η3 p = none → K (.ref p) ((p, .lst ts) :: η3)
  | .isinst a t, ρ, η, X, K => wE Φ a ρ η X fun u η1 => optF (isT η1 t u) fun b => K (.bl b) η1
  | .call f es, ρ, η, X, K => wEs Φ es ρ η X fun ts η' => Φ f ts η' X K
  | .callK f es kw perm, ρ, η, X, K => wEs Φ es ρ η X fun ts η1 => wEs Φ kw ρ η1 X fun us η2 => Φ f (perm.map fun i => (ts ++ us).getD i .non) η2 X K
  | .lc own tg src c elt, ρ, η, X, K => wI Φ src ρ η X fun ts sr η1 =>
      wcomp (stays sr ts) (fun x η' Kr => optF (bindTg tg x (setvs ρ.v own)) fun v => wC Φ c ⟨v, ρ.x⟩ η' (fun _ _ => False) fun k η2 => ifB k (wE Φ elt ⟨v, ρ.x⟩ η2 (fun _ _ => False) fun u η3 => Kr [u] η3) (Kr [] η2)) ts [] η1 fun us η' => K (.cl us) η'
  | .lcM own tg src c elt, ρ, η, X, K => wI Φ src ρ η X fun ts sr η1 =>
      wcomp (stays sr ts) (fun x η' Kr => optF (bindTg tg x (setvs ρ.v own)) fun v => wC Φ c ⟨v, ρ.x⟩ η' (fun _ _ => False) fun k η2 => ifB k (wE Φ elt ⟨v, ρ.x⟩ η2 (fun _ _ => False) fun u η3 => Kr [u] η3) (Kr [] η2)) ts [] η1 fun us η' => ∀ p, get η' p = none → K (.ref p) ((p, .lst us) :: η')
  | .agg g a, ρ, η, X, K => wE Φ a ρ η X fun u η1 => optF (aggS g η1 u) fun ts => aggF g ts η1 K
  | .blt b es, ρ, η, X, K => wEs Φ es ρ η X fun ts η' => optF (bltV b ts η') fun t => K t η'
  | .mth m o es, ρ, η, X, K => wE Φ o ρ η X fun u η1 => mthT m u η1 = true ∧ wEs Φ es ρ η1 X fun ts η2 => mthG m u ts η2 ∧ optF (mthV m u ts η2) fun q => K q.1 q.2
  | .lenSet own tg src elt, ρ, η, X, K => wI Φ src ρ η X fun ts sr η1 => ts.length ≤ 1000 ∧
      wcomp (stays sr ts) (fun x η' Kr => optF (bindTg tg x (setvs ρ.v own)) fun v => wE Φ elt ⟨v, ρ.x⟩ η' (fun _ _ => False) fun u η3 => keyT u = true ∧ Kr [u] η3) ts [] η1 fun us η' => K (.int (dedup us).length) η'
  | .hof f e ret, ρ, η, X, K => wE Φ e ρ η (fun x η' => x.cls = f ∧ K x.arg η') fun _ η' => K (.str ret) η'
  | .exc, ρ, η, _, K => optF ρ.x fun t => K t η
  | .frz i, ρ, η, _, K => optF (frzV (nth ρ.v i) η) fun q => K (.cl q.1) (del η q.2)
  | .weak e, ρ, η, X, K => wE Φ e ρ η X fun u η' => ∃ η'', Sub η'' η' ∧ K u η''
  | .gix _ ks vs e, ρ, η, X, K => wE Φ e ρ η X fun u η1 => optF (strV u) fun z => optF (lookS z ks vs) fun t => K t η1
  | .gin neg _ ks e, ρ, η, X, K => wE Φ e ρ η X fun u η1 => optF (strV u) fun z => K (.bl (neg != ks.contains z)) η1
  | .dsel ks vs e, ρ, η, X, K => wE Φ e ρ η X fun u η1 => optF (strV u) fun z => optF (lookS z ks vs) fun t => K t η1
def wEs (Φ : Nat → List T → Sto → KX → KE → Prop) : Es → Env → Sto → KX → KL → Prop
  | .nil, _, η, _, K => K [] η
  | .cons e es, ρ, η, X, K => wE Φ e ρ η X fun t η1 => wEs Φ es ρ η1 X fun ts η2 => K (t :: ts) η2
def wC (Φ : Nat → List T → Sto → KX → KE → Prop) : C → Env → Sto → KX → (Bool → Sto → Prop) → Prop
  | .and a b, ρ, η, X, K => wC Φ a ρ η X fun k η1 => ifB k (wC Φ b ρ η1 X K) (K false η1)
  | .or a b, ρ, η, X, K => wC Φ a ρ η X fun k η1 => ifB k (K true η1) (wC Φ b ρ η1 X K)
  | .not a, ρ, η, X, K => wC Φ a ρ η X fun k η1 => K (!k) η1
  | .val e, ρ, η, X, K => wE Φ e ρ η X fun u η1 => optF (tru η1 u) fun k => K k η1
  | .tt, _, η, _, K => K true η
  | .cmp o a b, ρ, η, X, K => wE Φ a ρ η X fun u η1 => wE Φ b ρ η1 X fun w η2 => cop o u w η2 fun k => K k η2
  | .chain o1 o2 a b c, ρ, η, X, K => wE Φ a ρ η X fun u η1 => wE Φ b ρ η1 X fun w η2 => cop o1 u w η2 fun k => ifB k (wE Φ c ρ η2 X fun z η3 => cop o2 w z η3 fun k2 => K k2 η3) (K false η2)
def wI (Φ : Nat → List T → Sto → KX → KE → Prop) : It → Env → Sto → KX → (List T → Option Addr → Sto → Prop) → Prop
  | .seq e, ρ, η, X, K => wE Φ e ρ η X fun u η1 => optF (seqOf η1 u) fun ts => K ts (srcOf u) η1
  | .chars e, ρ, η, X, K => wE Φ e ρ η X fun u η1 => optF (strV u) fun x => K (charsL x) none η1
  | .range a, ρ, η, X, K => wE Φ a ρ η X fun u η1 => optF (intV u) fun n => small n ∧ K (rangeL 0 n.toNat) none η1
  | .range2 a b, ρ, η, X, K => wE Φ a ρ η X fun u η1 => wE Φ b ρ η1 X fun w η2 => optF (intV u) fun m => optF (intV w) fun n => small m ∧ small n ∧ n - m ≤ 16777216 ∧ K (rangeL m (n - m).toNat) none η2
  | .zip a b, ρ, η, X, K => wE Φ a ρ η X fun u η1 => wE Φ b ρ η1 X fun w η2 => optF (stillV η2 u) fun xs => optF (stillV η2 w) fun ys => K (zipL xs ys) none η2
  | .enum a, ρ, η, X, K => wE Φ a ρ η X fun u η1 => optF (stillV η1 u) fun xs => K (enumL 0 xs) none η1
def wO (Φ : Nat → List T → Sto → KX → KE → Prop) : Op → Env → Sto → KX → (Option Int → Sto → Prop) → Prop
  | .no, _, η, _, K => K none η
  | .some e, ρ, η, X, K => wE Φ e ρ η X fun u η1 => optF (intV u) fun i => K (some i) η1
end
mutual
def wS (Φ : Nat → List T → Sto → KX → KE → Prop) : S → Dn → Env → Sto → Prop
  | .expr e, D, ρ, η => wE Φ e ρ η D.X fun _ η' => D.nx ρ η'
  | .ret e, D, ρ, η => wE Φ e ρ η D.X D.rt
  | .retN, D, ρ, η => D.rt .non η
  | .set i e, D, ρ, η => wE Φ e ρ η D.X fun t η' => D.nx (ρ.put i t) η'
  | .par i j a b, D, ρ, η => wE Φ a ρ η D.X fun t η1 => wE Φ b ρ η1 D.X fun u η2 => D.nx ((ρ.put i t).put j u) η2
  | .unp tg e, D, ρ, η => wE Φ e ρ η D.X fun t η' => optF (bindTg tg t ρ.v) fun v => D.nx ⟨v, ρ.x⟩ η'
  | .setIdx a i e, D, ρ, η => wE Φ e ρ η D.X fun t η1 => wE Φ a ρ η1 D.X fun u η2 => wE Φ i ρ η2 D.X fun w η3 => optF (setV u w η3 t) fun η4 => D.nx ρ η4
  | .iff c a b, D, ρ, η => wC Φ c ρ η D.X fun k η1 => ifB k (wSs Φ a D ρ η1) (wSs Φ b D ρ η1)
  | .for tg it b, D, ρ, η => wI Φ it ρ η D.X fun ts sr η1 => wfor (stays sr ts) tg (fun D' ρ' η' => wSs Φ b D' ρ' η') D ts ρ η1
  | .while c b, D, ρ, η => ∃ n, wwhile (fun ρ' η' K => wC Φ c ρ' η' D.X K) (fun D' ρ' η' => wSs Φ b D' ρ' η') D n ρ η
  | .brk, D, ρ, η => D.bk ρ η
  | .cont, D, ρ, η => D.ct ρ η
  | .pass, D, ρ, η => D.nx ρ η
  | .raise c e, D, ρ, η => wE Φ e ρ η D.X fun u η' => D.X ⟨c, u⟩ η'
  | .tryE k e c b, D, ρ, η => wE Φ e ρ η (fun x η' => if x.cls = c then wSs Φ b D ⟨ρ.v, some x.arg⟩ η' else D.X x η') fun t η' => match k with
    | 0 => D.nx ρ η'
    | 1 => D.rt t η'
    | i + 2 => D.nx (ρ.put i t) η'
  | .weak, D, ρ, η => ∃ η', Sub η' η ∧ D.nx ρ η'
def wSs (Φ : Nat → List T → Sto → KX → KE → Prop) : Ss → Dn → Env → Sto → Prop
  | .nil, D, ρ, η => D.nx ρ η
  | .cons s r, D, ρ, η => wS Φ s ⟨fun ρ' η' => wSs Φ r D ρ' η', D.rt, D.bk, D.ct, D.X⟩ ρ η
end
/-- a def: how many parameters, how many names, its body -/
structure Fd where
  np : Nat
  nl : Nat
  body : Ss
/-- the calls of n levels -/
def wcall (F : List Fd) : Nat → Nat → List T → Sto → KX → KE → Prop
  | 0, _, _, _, _, _ => False
  | n + 1, f, ts, η, X, K => match F[f]? with
    | some d => ts.length = d.np ∧ wSs (wcall F n) d.body ⟨fun _ η' => K .non η', K, fun _ _ => False, fun _ _ => False, X⟩ ⟨ts.map some ++ List.replicate (d.nl - d.np) none, none⟩ η
    | none => False
end TL

/-! evaluation by rewriting, the head first -/
namespace TL
open PySem PySem.Spec PyProof.Rows L2
section
variable {Φ : Nat → List T → Sto → KX → KE → Prop} {ρ : Env} {η : Sto} {X : KX} {D : Dn}
theorem r_wE_var {i : Nat} {K : KE} : wE Φ (.var i) ρ η X K = optF (nth ρ.v i) fun t => K t η := rfl
theorem r_wE_cst {t : T} {K : KE} : wE Φ (.cst t) ρ η X K = K t η := rfl
theorem r_wE_gcst {x0 : Nat} {t : T} {K : KE} : wE Φ (.gcst x0 t) ρ η X K = K t η := rfl
theorem r_wE_tup {es : Es} {K : KE} : wE Φ (.tup es) ρ η X K = wEs Φ es ρ η X fun ts η' => K (.tup ts) η' := rfl
theorem r_wE_lst {es : Es} {K : KE} : wE Φ (.lst es) ρ η X K = wEs Φ es ρ η X fun ts η' => ∀ p, get η' p = none → K (.ref p) ((p, .lst ts) :: η') := rfl
theorem r_wE_lstV {es : Es} {K : KE} : wE Φ (.lstV es) ρ η X K = wEs Φ es ρ η X fun ts η' => K (.cl ts) η' := rfl
theorem r_wE_bin {o : Bop} {a : E} {b : E} {K : KE} : wE Φ (.bin o a b) ρ η X K = wE Φ a ρ η X fun u η1 => wE Φ b ρ η1 X fun w η2 => bop o u w η2 K := rfl
theorem r_wE_neg {a : E} {K : KE} : wE Φ (.neg a) ρ η X K = wE Φ a ρ η X fun u η1 => optF (negV u) fun t => K t η1 := rfl
theorem r_wE_cat {a : E} {b : E} {K : KE} : wE Φ (.cat a b) ρ η X K = wE Φ a ρ η X fun u η1 => wE Φ b ρ η1 X fun w η2 => optF (lstOf η2 u) fun xs => optF (lstOf η2 w) fun ys => xs.length + ys.length ≤ sizeLine ∧ ∀ p, get η2 p = none → K (.ref p) ((p, .lst (xs ++ ys)) :: η2) := rfl
theorem r_wE_catV {a : E} {b : E} {K : KE} : wE Φ (.catV a b) ρ η X K = wE Φ a ρ η X fun u η1 => wE Φ b ρ η1 X fun w η2 => optF (lstOf η2 u) fun xs => optF (lstOf η2 w) fun ys => xs.length + ys.length ≤ sizeLine ∧ K (.cl (xs ++ ys)) η2 := rfl
theorem r_wE_cmp {o : Cop} {a : E} {b : E} {K : KE} : wE Φ (.cmp o a b) ρ η X K = wE Φ a ρ η X fun u η1 => wE Φ b ρ η1 X fun w η2 => cop o u w η2 fun k => K (.bl k) η2 := rfl
theorem r_wE_chain {o1 : Cop} {o2 : Cop} {a : E} {b : E} {c : E} {K : KE} : wE Φ (.chain o1 o2 a b c) ρ η X K = wE Φ a ρ η X fun u η1 => wE Φ b ρ η1 X fun w η2 => cop o1 u w η2 fun k => ifB k (wE Φ c ρ η2 X fun z η3 => cop o2 w z η3 fun k2 => K (.bl k2) η3) (K (.bl false) η2) := rfl
theorem r_wE_and {a : E} {b : E} {K : KE} : wE Φ (.and a b) ρ η X K = wE Φ a ρ η X fun u η1 => optF (tru η1 u) fun k => ifB k (wE Φ b ρ η1 X K) (K u η1) := rfl
theorem r_wE_or {a : E} {b : E} {K : KE} : wE Φ (.or a b) ρ η X K = wE Φ a ρ η X fun u η1 => optF (tru η1 u) fun k => ifB k (K u η1) (wE Φ b ρ η1 X K) := rfl
theorem r_wE_not {a : E} {K : KE} : wE Φ (.not a) ρ η X K = wE Φ a ρ η X fun u η1 => optF (tru η1 u) fun k => K (.bl (!k)) η1 := rfl
theorem r_wE_ite {c : C} {a : E} {b : E} {K : KE} : wE Φ (.ite c a b) ρ η X K = wC Φ c ρ η X fun k η1 => ifB k (wE Φ a ρ η1 X K) (wE Φ b ρ η1 X K) := rfl
theorem r_wE_idx {a : E} {i : E} {K : KE} : wE Φ (.idx a i) ρ η X K = wE Φ a ρ η X fun u η1 => wE Φ i ρ η1 X fun w η2 => optF (idxV η2 u w) fun t => K t η2 := rfl
theorem r_wE_slc {a : E} {lo : Op} {hi : Op} {K : KE} : wE Φ (.slc a lo hi) ρ η X K = wE Φ a ρ η X fun u η1 => wO Φ lo ρ η1 X fun i η2 => wO Φ hi ρ η2 X fun j η3 => optF (slcV u i j η3) fun t => K t η3 := rfl
theorem r_wE_slcM {a : E} {lo : Op} {hi : Op} {K : KE} : wE Φ (.slcM a lo hi) ρ η X K = wE Φ a ρ η X fun u η1 => wO Φ lo ρ η1 X fun i η2 => wO Φ hi ρ η2 X fun j η3 => optF (slcMV u i j η3) fun ts => ∀ p, get η3 p = none → K (.ref p) ((p, .lst ts) :: η3) := rfl
theorem r_wE_isinst {a : E} {t : Ty} {K : KE} : wE Φ (.isinst a t) ρ η X K = wE Φ a ρ η X fun u η1 => optF (isT η1 t u) fun b => K (.bl b) η1 := rfl
theorem r_wE_call {f : Nat} {es : Es} {K : KE} : wE Φ (.call f es) ρ η X K = wEs Φ es ρ η X fun ts η' => Φ f ts η' X K := rfl
theorem r_wE_callK {f : Nat} {es : Es} {kw : Es} {perm : List Nat} {K : KE} : wE Φ (.callK f es kw perm) ρ η X K = wEs Φ es ρ η X fun ts η1 => wEs Φ kw ρ η1 X fun us η2 => Φ f (perm.map fun i => (ts ++ us).getD i .non) η2 X K := rfl
theorem r_wE_lc {own : List Nat} {tg : Tg} {src : It} {c : C} {elt : E} {K : KE} : wE Φ (.lc own tg src c elt) ρ η X K = wI Φ src ρ η X fun ts sr η1 =>
          wcomp (stays sr ts) (fun x η' Kr => optF (bindTg tg x (setvs ρ.v own)) fun v => wC Φ c ⟨v, ρ.x⟩ η' (fun _ _ => False) fun k η2 => ifB k (wE Φ elt ⟨v, ρ.x⟩ η2 (fun _ _ => False) fun u η3 => Kr [u] η3) (Kr [] η2)) ts [] η1 fun us η' => K (.cl us) η' := rfl
theorem r_wE_lcM {own : List Nat} {tg : Tg} {src : It} {c : C} {elt : E} {K : KE} : wE Φ (.lcM own tg src c elt) ρ η X K = wI Φ src ρ η X fun ts sr η1 =>
          wcomp (stays sr ts) (fun x η' Kr => optF (bindTg tg x (setvs ρ.v own)) fun v => wC Φ c ⟨v, ρ.x⟩ η' (fun _ _ => False) fun k η2 => ifB k (wE Φ elt ⟨v, ρ.x⟩ η2 (fun _ _ => False) fun u η3 => Kr [u] η3) (Kr [] η2)) ts [] η1 fun us η' => ∀ p, get η' p = none → K (.ref p) ((p, .lst us) :: η') := rfl
theorem r_wE_agg {g : Agg} {a : E} {K : KE} : wE Φ (.agg g a) ρ η X K = wE Φ a ρ η X fun u η1 => optF (aggS g η1 u) fun ts => aggF g ts η1 K := rfl
theorem r_wE_blt {b : Blt} {es : Es} {K : KE} : wE Φ (.blt b es) ρ η X K = wEs Φ es ρ η X fun ts η' => optF (bltV b ts η') fun t => K t η' := rfl
theorem r_wE_mth {m : Mt} {o : E} {es : Es} {K : KE} : wE Φ (.mth m o es) ρ η X K = wE Φ o ρ η X fun u η1 => mthT m u η1 = true ∧ wEs Φ es ρ η1 X fun ts η2 => mthG m u ts η2 ∧ optF (mthV m u ts η2) fun q => K q.1 q.2 := rfl
theorem r_wE_lenSet {own : List Nat} {tg : Tg} {src : It} {elt : E} {K : KE} : wE Φ (.lenSet own tg src elt) ρ η X K = wI Φ src ρ η X fun ts sr η1 => ts.length ≤ 1000 ∧
          wcomp (stays sr ts) (fun x η' Kr => optF (bindTg tg x (setvs ρ.v own)) fun v => wE Φ elt ⟨v, ρ.x⟩ η' (fun _ _ => False) fun u η3 => keyT u = true ∧ Kr [u] η3) ts [] η1 fun us η' => K (.int (dedup us).length) η' := rfl
theorem r_wE_hof {f : Nat} {e : E} {ret : Str} {K : KE} : wE Φ (.hof f e ret) ρ η X K = wE Φ e ρ η (fun x η' => x.cls = f ∧ K x.arg η') fun _ η' => K (.str ret) η' := rfl
theorem r_wE_exc  {K : KE} : wE Φ (.exc ) ρ η X K = optF ρ.x fun t => K t η := rfl
theorem r_wE_frz {i : Nat} {K : KE} : wE Φ (.frz i) ρ η X K = optF (frzV (nth ρ.v i) η) fun q => K (.cl q.1) (del η q.2) := rfl
theorem r_wE_weak {e : E} {K : KE} : wE Φ (.weak e) ρ η X K = wE Φ e ρ η X fun u η' => ∃ η'', Sub η'' η' ∧ K u η'' := rfl
theorem r_wE_gix {x0 : Nat} {ks : List Str} {vs : List T} {e : E} {K : KE} : wE Φ (.gix x0 ks vs e) ρ η X K = wE Φ e ρ η X fun u η1 => optF (strV u) fun z => optF (lookS z ks vs) fun t => K t η1 := rfl
theorem r_wE_gin {neg : Bool} {x1 : Nat} {ks : List Str} {e : E} {K : KE} : wE Φ (.gin neg x1 ks e) ρ η X K = wE Φ e ρ η X fun u η1 => optF (strV u) fun z => K (.bl (neg != ks.contains z)) η1 := rfl
theorem r_wE_dsel {ks : List Str} {vs : List T} {e : E} {K : KE} : wE Φ (.dsel ks vs e) ρ η X K = wE Φ e ρ η X fun u η1 => optF (strV u) fun z => optF (lookS z ks vs) fun t => K t η1 := rfl
theorem r_wEs_nil  {K : KL} : wEs Φ (.nil ) ρ η X K = K [] η := rfl
theorem r_wEs_cons {e : E} {es : Es} {K : KL} : wEs Φ (.cons e es) ρ η X K = wE Φ e ρ η X fun t η1 => wEs Φ es ρ η1 X fun ts η2 => K (t :: ts) η2 := rfl
theorem r_wC_and {a : C} {b : C} {K : Bool → Sto → Prop} : wC Φ (.and a b) ρ η X K = wC Φ a ρ η X fun k η1 => ifB k (wC Φ b ρ η1 X K) (K false η1) := rfl
theorem r_wC_or {a : C} {b : C} {K : Bool → Sto → Prop} : wC Φ (.or a b) ρ η X K = wC Φ a ρ η X fun k η1 => ifB k (K true η1) (wC Φ b ρ η1 X K) := rfl
theorem r_wC_not {a : C} {K : Bool → Sto → Prop} : wC Φ (.not a) ρ η X K = wC Φ a ρ η X fun k η1 => K (!k) η1 := rfl
theorem r_wC_val {e : E} {K : Bool → Sto → Prop} : wC Φ (.val e) ρ η X K = wE Φ e ρ η X fun u η1 => optF (tru η1 u) fun k => K k η1 := rfl
theorem r_wC_tt  {K : Bool → Sto → Prop} : wC Φ (.tt ) ρ η X K = K true η := rfl
theorem r_wC_cmp {o : Cop} {a : E} {b : E} {K : Bool → Sto → Prop} : wC Φ (.cmp o a b) ρ η X K = wE Φ a ρ η X fun u η1 => wE Φ b ρ η1 X fun w η2 => cop o u w η2 fun k => K k η2 := rfl
theorem r_wC_chain {o1 : Cop} {o2 : Cop} {a : E} {b : E} {c : E} {K : Bool → Sto → Prop} : wC Φ (.chain o1 o2 a b c) ρ η X K = wE Φ a ρ η X fun u η1 => wE Φ b ρ η1 X fun w η2 => cop o1 u w η2 fun k => ifB k (wE Φ c ρ η2 X fun z η3 => cop o2 w z η3 fun k2 => K k2 η3) (K false η2) := rfl
theorem r_wI_seq {e : E} {K : List T → Option Addr → Sto → Prop} : wI Φ (.seq e) ρ η X K = wE Φ e ρ η X fun u η1 => optF (seqOf η1 u) fun ts => K ts (srcOf u) η1 := rfl
theorem r_wI_chars {e : E} {K : List T → Option Addr → Sto → Prop} : wI Φ (.chars e) ρ η X K = wE Φ e ρ η X fun u η1 => optF (strV u) fun x => K (charsL x) none η1 := rfl
theorem r_wI_range {a : E} {K : List T → Option Addr → Sto → Prop} : wI Φ (.range a) ρ η X K = wE Φ a ρ η X fun u η1 => optF (intV u) fun n => small n ∧ K (rangeL 0 n.toNat) none η1 := rfl
theorem r_wI_range2 {a : E} {b : E} {K : List T → Option Addr → Sto → Prop} : wI Φ (.range2 a b) ρ η X K = wE Φ a ρ η X fun u η1 => wE Φ b ρ η1 X fun w η2 => optF (intV u) fun m => optF (intV w) fun n => small m ∧ small n ∧ n - m ≤ 16777216 ∧ K (rangeL m (n - m).toNat) none η2 := rfl
theorem r_wI_zip {a : E} {b : E} {K : List T → Option Addr → Sto → Prop} : wI Φ (.zip a b) ρ η X K = wE Φ a ρ η X fun u η1 => wE Φ b ρ η1 X fun w η2 => optF (stillV η2 u) fun xs => optF (stillV η2 w) fun ys => K (zipL xs ys) none η2 := rfl
theorem r_wI_enum {a : E} {K : List T → Option Addr → Sto → Prop} : wI Φ (.enum a) ρ η X K = wE Φ a ρ η X fun u η1 => optF (stillV η1 u) fun xs => K (enumL 0 xs) none η1 := rfl
theorem r_wO_no  {K : Option Int → Sto → Prop} : wO Φ (.no ) ρ η X K = K none η := rfl
theorem r_wO_some {e : E} {K : Option Int → Sto → Prop} : wO Φ (.some e) ρ η X K = wE Φ e ρ η X fun u η1 => optF (intV u) fun i => K (some i) η1 := rfl
theorem r_wS_expr {e : E} : wS Φ (.expr e) D ρ η = wE Φ e ρ η D.X fun _ η' => D.nx ρ η' := rfl
theorem r_wS_ret {e : E} : wS Φ (.ret e) D ρ η = wE Φ e ρ η D.X D.rt := rfl
theorem r_wS_retN  : wS Φ (.retN ) D ρ η = D.rt .non η := rfl
theorem r_wS_set {i : Nat} {e : E} : wS Φ (.set i e) D ρ η = wE Φ e ρ η D.X fun t η' => D.nx (ρ.put i t) η' := rfl
theorem r_wS_par {i : Nat} {j : Nat} {a : E} {b : E} : wS Φ (.par i j a b) D ρ η = wE Φ a ρ η D.X fun t η1 => wE Φ b ρ η1 D.X fun u η2 => D.nx ((ρ.put i t).put j u) η2 := rfl
theorem r_wS_unp {tg : Tg} {e : E} : wS Φ (.unp tg e) D ρ η = wE Φ e ρ η D.X fun t η' => optF (bindTg tg t ρ.v) fun v => D.nx ⟨v, ρ.x⟩ η' := rfl
theorem r_wS_setIdx {a : E} {i : E} {e : E} : wS Φ (.setIdx a i e) D ρ η = wE Φ e ρ η D.X fun t η1 => wE Φ a ρ η1 D.X fun u η2 => wE Φ i ρ η2 D.X fun w η3 => optF (setV u w η3 t) fun η4 => D.nx ρ η4 := rfl
theorem r_wS_iff {c : C} {a : Ss} {b : Ss} : wS Φ (.iff c a b) D ρ η = wC Φ c ρ η D.X fun k η1 => ifB k (wSs Φ a D ρ η1) (wSs Φ b D ρ η1) := rfl
theorem r_wS_for {tg : Tg} {it : It} {b : Ss} : wS Φ (.for tg it b) D ρ η = wI Φ it ρ η D.X fun ts sr η1 => wfor (stays sr ts) tg (fun D' ρ' η' => wSs Φ b D' ρ' η') D ts ρ η1 := rfl
theorem r_wS_while {c : C} {b : Ss} : wS Φ (.while c b) D ρ η = ∃ n, wwhile (fun ρ' η' K => wC Φ c ρ' η' D.X K) (fun D' ρ' η' => wSs Φ b D' ρ' η') D n ρ η := rfl
theorem r_wS_brk  : wS Φ (.brk ) D ρ η = D.bk ρ η := rfl
theorem r_wS_cont  : wS Φ (.cont ) D ρ η = D.ct ρ η := rfl
theorem r_wS_pass  : wS Φ (.pass ) D ρ η = D.nx ρ η := rfl
theorem r_wS_raise {c : Nat} {e : E} : wS Φ (.raise c e) D ρ η = wE Φ e ρ η D.X fun u η' => D.X ⟨c, u⟩ η' := rfl
theorem r_wS_tryE {k : Nat} {e : E} {c : Nat} {b : Ss} : wS Φ (.tryE k e c b) D ρ η = wE Φ e ρ η (fun x η' => if x.cls = c then wSs Φ b D ⟨ρ.v, some x.arg⟩ η' else D.X x η') fun t η' => match k with
        | 0 => D.nx ρ η'
        | 1 => D.rt t η'
        | i + 2 => D.nx (ρ.put i t) η' := rfl
theorem r_wS_weak  : wS Φ (.weak ) D ρ η = ∃ η', Sub η' η ∧ D.nx ρ η' := rfl
theorem r_wSs_nil  : wSs Φ (.nil ) D ρ η = D.nx ρ η := rfl
theorem r_wSs_cons {s : S} {r : Ss} : wSs Φ (.cons s r) D ρ η = wS Φ s ⟨fun ρ' η' => wSs Φ r D ρ' η', D.rt, D.bk, D.ct, D.X⟩ ρ η := rfl
end
section
variable {η : Sto} {K : KE}
theorem f_bop {o : Bop} {u w : T} : bop o u w η K = (bopG o u w ∧ optF (bopV o u w) fun t => K t η) := id rfl
theorem f_cop {o : Cop} {u w : T} {K : Bool → Prop} : cop o u w η K = (copG o u w η = true ∧ optF (copV o u w η) K) := id rfl
theorem f_agg {g : Agg} {ts : List T} (h : g ≠ .listM) : aggF g ts η K = optF (aggV g ts) fun t => K t η := by cases g <;> first | rfl | exact absurd rfl h
theorem f_aggM {ts : List T} : aggF .listM ts η K = ∀ p, get η p = none → K (.ref p) ((p, .lst ts) :: η) := id rfl
theorem v_addI {i j : Int} : bopV .add (.int i) (.int j) = some (.int (i + j)) := id rfl
theorem v_subI {i j : Int} : bopV .sub (.int i) (.int j) = some (.int (i - j)) := id rfl
theorem v_mulI {i j : Int} : bopV .mul (.int i) (.int j) = some (.int (i * j)) := id rfl
theorem v_fdivI {i j : Int} : bopV .fdiv (.int i) (.int j) = some (.int (i.fdiv j)) := id rfl
theorem v_modI {i j : Int} : bopV .mod (.int i) (.int j) = some (.int (i.fmod j)) := id rfl
theorem v_powI {i j : Int} : bopV .pow (.int i) (.int j) = some (.int (i ^ j.toNat)) := id rfl
theorem g_addI {i j : Int} : bopG .add (.int i) (.int j) = True := id rfl
theorem g_sub {u w : T} : bopG .sub u w = True := by cases u <;> cases w <;> rfl
theorem g_mulI {i j : Int} : bopG .mul (.int i) (.int j) = (i.natAbs.log2 + j.natAbs.log2 < 1000000) := id rfl
theorem g_fdivI {i j : Int} : bopG .fdiv (.int i) (.int j) = (j ≠ 0 ∧ j.natAbs.log2 < 9000) := id rfl
theorem g_modI {i j : Int} : bopG .mod (.int i) (.int j) = (j ≠ 0) := id rfl
theorem g_powI {i j : Int} : bopG .pow (.int i) (.int j) = (0 ≤ j ∧ j ≤ 1000000 ∧ i.natAbs < 2 ^ 64) := id rfl
theorem c_gtI {i j : Int} : copV .gt (.int i) (.int j) η = some (decide (j < i)) := id rfl
theorem c_ltI {i j : Int} : copV .lt (.int i) (.int j) η = some (decide (i < j)) := id rfl
theorem c_leI {i j : Int} : copV .le (.int i) (.int j) η = some (decide (i ≤ j)) := id rfl
theorem c_geI {i j : Int} : copV .ge (.int i) (.int j) η = some (decide (j ≤ i)) := id rfl
theorem c_eq {u w : T} : copV .eq u w η = some (eqv (deref η u) (deref η w)) := id rfl
theorem c_ne {u w : T} : copV .ne u w η = some (!eqv (deref η u) (deref η w)) := id rfl
theorem c_isN {u : T} : copV .isN u .non η = some (isNon u) := by cases u <;> rfl
theorem c_notN {u : T} : copV .notN u .non η = some (!isNon u) := by cases u <;> rfl
theorem c_inS {x y : Str} : copV .inn (.str x) (.str y) η = some (inStr x y) := id rfl
theorem c_ninS {x y : Str} : copV .nin (.str x) (.str y) η = some (!inStr x y) := id rfl
theorem cg_gt {u w : T} : copG .gt u w η = true := id rfl
theorem cg_lt {i j : Int} : copG .lt (.int i) (.int j) η = true := id rfl
theorem cg_ltS {x y : Str} : copG .lt (.str x) (.str y) η = true := id rfl
theorem cg_ltT {xs ys : List T} : copG .lt (.tup xs) (.tup ys) η = (dat (.tup xs) && dat (.tup ys) && alk (.tup xs) (.tup ys) && decide (min (dep (.tup xs)) (dep (.tup ys)) ≤ 64)) := id rfl
theorem c_ltT {xs ys : List T} : copV .lt (.tup xs) (.tup ys) η = some (ltVs xs ys) := id rfl
theorem cg_le {u w : T} : copG .le u w η = true := id rfl
theorem cg_ge {u w : T} : copG .ge u w η = true := id rfl
theorem cg_isN {u w : T} : copG .isN u w η = true := id rfl
theorem cg_notN {u w : T} : copG .notN u w η = true := id rfl
theorem cg_eq {u w : T} : copG .eq u w η = eqOk (deref η u) (deref η w) := id rfl
theorem cg_ne {u w : T} : copG .ne u w η = eqOk (deref η u) (deref η w) := id rfl
theorem cg_inS {x y : Str} : copG .inn (.str x) (.str y) η = true := id rfl
theorem cg_ninS {x y : Str} : copG .nin (.str x) (.str y) η = true := id rfl
theorem b_intI {i : Int} : bltV .int [.int i] η = some (.int i) := id rfl
theorem b_intB {b : Bool} : bltV .int [.bl b] η = some (.int (if b then 1 else 0)) := id rfl
theorem b_abs {i : Int} : bltV .abs [.int i] η = some (.int (if i < 0 then -i else i)) := id rfl
theorem b_len {t : T} : bltV .len [t] η = (lenT η t).map fun (n : Nat) => .int n := id rfl
theorem b_max2 {i j : Int} : bltV .max2 [.int i, .int j] η = some (.int (if j > i then j else i)) := id rfl
theorem b_min2 {i j : Int} : bltV .min2 [.int i, .int j] η = some (.int (if j < i then j else i)) := id rfl
theorem l_str {s : Str} : lenT η (.str s) = some s.length := id rfl
theorem l_tup {xs : List T} : lenT η (.tup xs) = some xs.length := id rfl
theorem l_cl {xs : List T} : lenT η (.cl xs) = some xs.length := id rfl
def lstAt (η : Sto) (a : Addr) : Option (List T) := match get η a with
  | some (.lst xs) => some xs
  | _ => none
theorem seq_ref {a : Addr} : seqOf η (.ref a) = lstAt η a := id rfl
theorem l_ref {a : Addr} : lenT η (.ref a) = (lstAt η a).map List.length := id rfl
theorem i_tup {xs : List T} {k : Int} : idxV η (.tup xs) (.int k) = atI xs k := id rfl
theorem i_cl {xs : List T} {k : Int} : idxV η (.cl xs) (.int k) = atI xs k := id rfl
theorem i_ref {a : Addr} {k : Int} : idxV η (.ref a) (.int k) = (lstAt η a).bind fun xs => atI xs k := by
  show (match seqOf η (.ref a), T.int k with
    | some xs, .int k => atI xs k
    | _, _ => none) = _
  rw [seq_ref]
  cases lstAt η a <;> rfl
theorem i_str {s : Str} {k : Int} : idxV η (.str s) (.int k) = (atI s.cps.toList k).map fun c => .str ⟨#[c]⟩ := id rfl
theorem s_str {s : Str} {i j : Option Int} : slcV (.str s) i j η = some (.str (cutS s i j)) := id rfl
theorem c_ltS {x y : Str} : copV .lt (.str x) (.str y) η = some (decide (x.cps.toList < y.cps.toList)) := id rfl
theorem c_isB {a b : Bool} : copV .isN (.bl a) (.bl b) η = some (decide (a = b)) := id rfl
theorem c_notB {a b : Bool} : copV .notN (.bl a) (.bl b) η = some (!decide (a = b)) := id rfl
theorem f_set {p : Addr} {k : Int} {t : T} : setV (.ref p) (.int k) η t = (lstAt η p).bind fun xs => (ixN xs.length k).map fun j => put η p (.lst (xs.set j t)) := by
  simp only [setV, lstAt]
  cases get η p with
  | none => rfl
  | some o => cases o <;> rfl
theorem t_non : tru η .non = some false := id rfl
theorem t_bl {b : Bool} : tru η (.bl b) = some b := id rfl
theorem t_int {i : Int} : tru η (.int i) = some (i != 0) := id rfl
theorem t_tup {xs : List T} : tru η (.tup xs) = some (!xs.isEmpty) := id rfl
theorem t_cl {xs : List T} : tru η (.cl xs) = some (!xs.isEmpty) := id rfl
theorem seq_tup {xs : List T} : seqOf η (.tup xs) = some xs := id rfl
theorem seq_cl {xs : List T} : seqOf η (.cl xs) = some xs := id rfl
theorem d_ref {a : Addr} {xs : List T} (h : get η a = some (.lst xs)) : deref η (.ref a) = .cl xs := by simp only [deref, h]
theorem get_cons' {a b : Addr} {o : Ob} : get ((b, o) :: η) a = if a = b then some o else get η a := id rfl
theorem d_non : deref η .non = .non := id rfl
theorem d_bl {b : Bool} : deref η (.bl b) = .bl b := id rfl
theorem d_int {i : Int} : deref η (.int i) = .int i := id rfl
theorem d_str {s : Str} : deref η (.str s) = .str s := id rfl
theorem d_tup {xs : List T} : deref η (.tup xs) = .tup xs := id rfl
theorem d_cl {xs : List T} : deref η (.cl xs) = .cl xs := id rfl
theorem get_put_same {a : Addr} {u : Ob} : get (put η a u) a = (get η a).map fun _ => u := by rw [get_put, if_pos rfl]
theorem get_put_ne {a b : Addr} {u : Ob} (h : ¬ b = a) : get (put η a u) b = get η b := by rw [get_put, if_neg h]
theorem put_put {a : Addr} {u w : Ob} : put (put η a u) a w = put η a w := by
  induction η with
  | nil => rfl
  | cons p r ih =>
    obtain ⟨b, o⟩ := p
    by_cases h : a = b
    · simp [put, h]
    · simp [put, h, ih]
theorem ifB_dec {p A B : Prop} [Decidable p] : ifB (decide p) A B = (if p then A else B) := by
  by_cases h : p <;> simp [ifB, h]
theorem ifB_ite {k : Bool} {A B : Prop} : ifB k A B = (if k = true then A else B) := by cases k <;> simp [ifB]
end
theorem optF_m {α : Type} {o : Option α} {K : α → Prop} : optF o K = (match o with
  | some t => K t
  | none => False) := id rfl
theorem ifB_m {k : Bool} {A B : Prop} : ifB k A B = (match k with
  | true => A
  | false => B) := id rfl
theorem ifm_dec {p A B : Prop} [Decidable p] : (match decide p with
  | true => A
  | false => B) = (if p then A else B) := by
  by_cases h : p <;> simp [h]
end TL

/-! the meaning of the small language as a reading of the hand layer -/
namespace TL
open PySem PySem.Spec PyProof.Rows L2

structure EnvR (G : Glob) (H : Hp) (η : Sto) (σ : L2.St) (ρ : Env) : Prop where
  len : σ.length = ρ.v.length
  val : ∀ i t, nth ρ.v i = some t → ∃ v, σ[i]? = some (some v) ∧ ValR G H η t v
def ExR (G : Glob) (H : Hp) (η : Sto) (e : Exc) (cls : Value) (d : Option Addr) : Prop :=
  ∃ C f dx v, G.xs[e.cls]? = some (C, f) ∧ cls = .ref C ∧ d = some dx ∧ H dx = some (.xd [(f, v)]) ∧ ValR G H η e.arg v
/-- what is wanted of exceptions, of values -/
def HX (G : Glob) (W : WX) (σ : L2.St) (H : Hp) (η : Sto) (X : KX) : Prop :=
  ∀ e η' cls d H', ExR G H' η' e cls d → StoR G H' η' → Frm η H η' H' → X e η' → W cls d σ H'
def HQ (G : Glob) (Q : VK) (H : Hp) (η : Sto) (K : KE) : Prop :=
  ∀ t v η' H', ValR G H' η' t v → StoR G H' η' → Frm η H η' H' → K t η' → Q v H'
def HB (G : Glob) (Q : Bool → Hp → Prop) (H : Hp) (η : Sto) (K : Bool → Sto → Prop) : Prop :=
  ∀ b η' H', StoR G H' η' → Frm η H η' H' → K b η' → Q b H'
def HL (G : Glob) (n : Nat) (Q : List V → Hp → Prop) (H : Hp) (η : Sto) (K : KL) : Prop :=
  ∀ ts vs η' H', ts.length = n → ValsR G H' η' ts vs → StoR G H' η' → Frm η H η' H' → K ts η' → Q vs H'
section
variable {G : Glob} {W : WX} {σ : L2.St} {H H1 : Hp} {η η1 : Sto} {X : KX}
theorem EnvR.frm {ρ : Env} (f : Frm η H η1 H1) (h : EnvR G H η σ ρ) : EnvR G H1 η1 σ ρ :=
  ⟨h.len, fun i t e => let ⟨v, a, b⟩ := h.val i t e; ⟨v, a, b.frm f⟩⟩
theorem HX.frm (f : Frm η H η1 H1) (h : HX G W σ H η X) : HX G W σ H1 η1 X := fun e η' cls d H' a b c q => h e η' cls d H' a b (f.trans c) q
theorem HQ.frm {Q : VK} {K : KE} (f : Frm η H η1 H1) (h : HQ G Q H η K) : HQ G Q H1 η1 K := fun t v η' H' a b c q => h t v η' H' a b (f.trans c) q
theorem HB.frm {Q : Bool → Hp → Prop} {K : Bool → Sto → Prop} (f : Frm η H η1 H1) (h : HB G Q H η K) : HB G Q H1 η1 K := fun t η' H' b c q => h t η' H' b (f.trans c) q
theorem HL.frm {n : Nat} {Q : List V → Hp → Prop} {K : KL} (f : Frm η H η1 H1) (h : HL G n Q H η K) : HL G n Q H1 η1 K := fun ts vs η' H' l a b c q => h ts vs η' H' l a b (f.trans c) q
theorem HQ.here {Q : VK} {K : KE} (h : HQ G Q H η K) (S : StoR G H η) {t : T} {v : V} (r : ValR G H η t v) (k : K t η) : Q v H := h t v η H r S .refl k
end

abbrev TE' := Env → Sto → KX → KE → Prop
abbrev TC' := Env → Sto → KX → (Bool → Sto → Prop) → Prop
abbrev TL' := Env → Sto → KX → KL → Prop
def liftE (G : Glob) (W : WX) (t : TE') : TE := fun σ H Q => ∃ ρ η X K, EnvR G H η σ ρ ∧ StoR G H η ∧ t ρ η X K ∧ HX G W σ H η X ∧ HQ G Q H η K
def liftC (G : Glob) (W : WX) (t : TC') : TT := fun σ H Q => ∃ ρ η X K, EnvR G H η σ ρ ∧ StoR G H η ∧ t ρ η X K ∧ HX G W σ H η X ∧ HB G Q H η K
def liftL (G : Glob) (W : WX) (n : Nat) (t : TL') : TA := fun σ H Q => ∃ ρ η X K, EnvR G H η σ ρ ∧ StoR G H η ∧ t ρ η X K ∧ HX G W σ H η X ∧ HL G n Q H η K

theorem _root_.L2.PE.imp {X : Cx} {e : Expr} {t u : TE} (h : PE X e t) (i : ∀ σ H Q, u σ H Q → t σ H Q) : PE X e u := ⟨fun pins s σ H Q I q => h.run pins s σ H Q I (i σ H Q q)⟩
theorem _root_.L2.PT.imp {X : Cx} {e : Expr} {t u : TT} (h : PT X e t) (i : ∀ σ H Q, u σ H Q → t σ H Q) : PT X e u := ⟨fun pins s σ H Q I q => h.run pins s σ H Q I (i σ H Q q)⟩
theorem _root_.L2.PW.imp {X : Cx} {e : Expr} {t u : TT} (h : PW X e t) (i : ∀ σ H Q, u σ H Q → t σ H Q) : PW X e u := ⟨fun wh pins s σ H Q I q => h.run wh pins s σ H Q I (i σ H Q q)⟩
theorem _root_.L2.PA.imp {X : Cx} {e : List Expr} {t u : TA} (h : PA X e t) (i : ∀ σ H Q, u σ H Q → t σ H Q) : PA X e u := ⟨fun p pins s σ H Q I q => h.run p pins s σ H Q I (i σ H Q q)⟩

/-! ### two parts, one part, many parts -/
section
variable {G : Glob} {W : WX} {σ : L2.St} {H : Hp} {Q : VK}
theorem lift2 {ta tb : TE'} {R : V → V → Hp → Prop} {ρ : Env} {η : Sto} {X : KX} {K' : T → T → Sto → Prop} (hρ : EnvR G H η σ ρ) (hS : StoR G H η) (ht : ta ρ η X fun u η1 => tb ρ η1 X fun w η2 => K' u w η2) (hX : HX G W σ H η X)
    (hR : ∀ u w x y η2 H2, ValR G H2 η2 u x → ValR G H2 η2 w y → StoR G H2 η2 → Frm η H η2 H2 → K' u w η2 → R x y H2) : liftE G W ta σ H fun x H1 => liftE G W tb σ H1 fun y H2 => R x y H2 :=
  ⟨ρ, η, X, _, hρ, hS, ht, hX, fun u x η1 H1 rx S1 f1 k1 => ⟨ρ, η1, X, _, hρ.frm f1, S1, k1, hX.frm f1, fun w y η2 H2 ry S2 f2 k2 => hR u w x y η2 H2 (rx.frm f2) ry S2 (f1.trans f2) k2⟩⟩
theorem lift1 {ta : TE'} {R : V → Hp → Prop} {ρ : Env} {η : Sto} {X : KX} {K' : T → Sto → Prop} (hρ : EnvR G H η σ ρ) (hS : StoR G H η) (ht : ta ρ η X K') (hX : HX G W σ H η X)
    (hR : ∀ u x η2 H2, ValR G H2 η2 u x → StoR G H2 η2 → Frm η H η2 H2 → K' u η2 → R x H2) : liftE G W ta σ H R :=
  ⟨ρ, η, X, _, hρ, hS, ht, hX, fun u x η1 H1 rx S1 f1 k1 => hR u x η1 H1 rx S1 f1 k1⟩
theorem liftN {ta : TL'} {n : Nat} {R : List V → Hp → Prop} {ρ : Env} {η : Sto} {X : KX} {K' : List T → Sto → Prop} (hρ : EnvR G H η σ ρ) (hS : StoR G H η) (ht : ta ρ η X K') (hX : HX G W σ H η X)
    (hR : ∀ u x η2 H2, u.length = n → ValsR G H2 η2 u x → StoR G H2 η2 → Frm η H η2 H2 → K' u η2 → R x H2) : liftL G W n ta σ H R :=
  ⟨ρ, η, X, _, hρ, hS, ht, hX, fun u x η1 H1 l rx S1 f1 k1 => hR u x η1 H1 l rx S1 f1 k1⟩
end
/-- an operation by values keeps step with one by trees -/
def Sim2 (G : Glob) (r : R2) (f : T → T → Sto → KE → Prop) : Prop :=
  ∀ u w x y η H Q K, ValR G H η u x → ValR G H η w y → StoR G H η → f u w η K → HQ G Q H η K → r x y H Q
def Sim1 (G : Glob) (r : V → Hp → VK → Prop) (f : T → Sto → KE → Prop) : Prop :=
  ∀ u x η H Q K, ValR G H η u x → StoR G H η → f u η K → HQ G Q H η K → r x H Q
def SimN (G : Glob) (r : List V → Hp → VK → Prop) (n : Nat) (f : List T → Sto → KE → Prop) : Prop :=
  ∀ us xs η H Q K, us.length = n → ValsR G H η us xs → StoR G H η → f us η K → HQ G Q H η K → r xs H Q
section
variable {G : Glob} {W : WX} {X : Cx} {a b : Expr} {ta tb : TE'} {pos : Pos}
theorem op2 {r : R2} {f : T → T → Sto → KE → Prop} (s : Sim2 G r f) {σ : L2.St} {H : Hp} {Q : VK} (h : liftE G W (fun ρ η X K => ta ρ η X fun u η1 => tb ρ η1 X fun w η2 => f u w η2 K) σ H Q) : tOp r (liftE G W ta) (liftE G W tb) σ H Q := by
  obtain ⟨ρ, η, X, K, hρ, hS, ht, hX, hQ⟩ := h
  exact lift2 hρ hS ht hX fun u w x y η2 H2 rx ry S2 f2 k => s u w x y η2 H2 Q K rx ry S2 k (hQ.frm f2)
theorem q_bin {op : Operator} {r : R2} {f : T → T → Sto → KE → Prop} (ho : OpR X (binaryOp op) r) (s : Sim2 G r f) (ha : PE X a (liftE G W ta)) (hb : PE X b (liftE G W tb)) :
    PE X (.BinOp a op b pos) (liftE G W fun ρ η X K => ta ρ η X fun u η1 => tb ρ η1 X fun w η2 => f u w η2 K) := (pe_op ho ha hb).imp fun _ _ _ h => op2 s h
theorem q_cmp {op : CmpOp} {r : R2} {f : T → T → Sto → KE → Prop} (ho : OpR X (compareOp op) r) (s : Sim2 G r f) (ha : PE X a (liftE G W ta)) (hb : PE X b (liftE G W tb)) (hm : behindInMarks op b = false) :
    PE X (.Compare a [op] [b] pos) (liftE G W fun ρ η X K => ta ρ η X fun u η1 => tb ρ η1 X fun w η2 => f u w η2 K) := (pe_cmpR ho ha hb hm).imp fun _ _ _ h => op2 s h
end
/-! ### operators -/
/-- t + u, the new tuple's object known -/
def rCatF (K : PySem.W.Frag) : R2 := fun x y H Q => ∃ a b xs ys, x = .ref a ∧ y = .ref b ∧ SqT K H a xs ∧ SqT K H b ys ∧ xs.length + ys.length ≤ sizeLine ∧
  (xs = [] → Q (.ref b) H) ∧ (xs ≠ [] → ys = [] → Q (.ref a) H) ∧ (xs ≠ [] → ys ≠ [] → ∀ p o, H p = none → o.dict = none → Q (.ref p) (upd H p (.frz o (.tup (xs ++ ys)))))
theorem frz_tup {P : Program} {w : World} {H : Hp} {h : Heap} {vs : List V} {us : List Value} (hz : vs.length ≤ sizeLine) (r : Vals vs us) : ObjOk P w H (h.push { cls := .type "tuple", data := .seq us.toArray }) h.objs.size (.frz { cls := .type "tuple", data := .seq us.toArray } (.tup vs)) :=
  ⟨Heap.get?_push_size _ rfl, hz, us, r, IsTup.new _ _⟩
/-- a new tuple is laid -/
theorem _root_.L2.Inv.tupF {X : Cx} {pins : List (Addr × Obj)} {σ : L2.St} {H : Hp} {s : Shared} {vs : List V} {us : List Value} {Q : VK} (I : Inv X pins σ H s) (t : Nat) (hz : vs.length ≤ sizeLine) (r : Vals vs us) (q : ∀ p o, H p = none → o.dict = none → Q (.ref p) (upd H p (.frz o (.tup vs)))) :
    EP X pins σ Q (.ref s.heap.objs.size) { s with heap := s.heap.push { cls := .type "tuple", data := .seq us.toArray }, toks := t } :=
  ⟨.ref s.heap.objs.size, _, I.laid (t' := t) (fun b u e => Heap.get?_push_of_some _ e) (Nat.le_refl _) (frz_tup hz r), rfl, q _ _ (I.hok.fresh (Nat.le_refl _)) rfl⟩
theorem nil_iff' {vs : List V} {us : List Value} (r : Vals vs us) : us.toArray.size = 0 ↔ vs = [] := by cases r <;> simp
theorem op_catF {X : Cx} : OpR X (binaryOp .Add) (rCatF X.K) := by
  intro pins s σ H x y v u Q I rx ry h
  obtain ⟨a, b, xs, ys, rfl, rfl, ha, hb, hz, q0, q1, q2⟩ := h
  cases rx; cases ry
  obtain ⟨us, r1, p1, _⟩ := I.tuple ha
  obtain ⟨ws, r2, p2, _⟩ := I.tuple hb
  by_cases hx : xs = []
  · subst hx
    cases r1
    exact cat_tup0 p1 p2 ⟨.ref b, H, I, rfl, q0 rfl⟩
  · have e1 : us ≠ [] := fun z => hx (by subst z; cases r1; rfl)
    refine HT.cat_tup p1 p2 e1 (fun z => ⟨.ref a, H, I, rfl, q1 hx (by subst z; cases r2; rfl)⟩) (fun z => ?_) (by rw [← r1.length, ← r2.length]; exact hz)
    exact I.tupF s.toks (by rw [List.length_append]; exact hz) (r1.append r2) (q2 hx fun w => z (by subst w; cases r2; rfl))
/-- t[i:j], the new tuple's object known -/
def rSlF (K : PySem.W.Frag) : V → Option Int → Option Int → Hp → VK → Prop := fun x lo hi H Q => ∃ a xs, x = .ref a ∧ SqT K H a xs ∧
  (HT.sIx xs.length 0 lo = 0 ∧ HT.sIx xs.length xs.length hi = xs.length → Q (.ref a) H) ∧ (¬ (HT.sIx xs.length 0 lo = 0 ∧ HT.sIx xs.length xs.length hi = xs.length) → ∀ p o, H p = none → o.dict = none → Q (.ref p) (upd H p (.frz o (.tup (cutV xs lo hi)))))
theorem sl_tupF {X : Cx} : SlR X (rSlF X.K) := by
  intro pins s σ H x v vl vu lo hi sl Q I rx hs pl pu h
  obtain ⟨a, xs, rfl, hx, q1, q2⟩ := h
  cases rx
  obtain ⟨us, r, ht, hz⟩ := I.tuple hx
  have hn : us.toArray.size = xs.length := by rw [List.size_toArray]; exact r.length.symm
  refine ⟨"tuple", _, PyProof.Rows.slot_tuple_getitem.lookup, ht.typeIs, ?_⟩
  by_cases hw : HT.sIx xs.length 0 lo = 0 ∧ HT.sIx xs.length xs.length hi = xs.length
  · exact getItem_tuple_whole ht hs pl pu (by rw [hn]; exact hw) ⟨.ref a, H, I, rfl, q1 hw⟩
  · refine HT.getItem_tuple_cut ht hs pl pu (by rw [hn]; exact hw) ?_ (by rw [hn]; exact hz)
    rw [hn]
    exact I.tupF s.toks (Nat.le_trans (cutV_length xs lo hi) hz) ((r.drop (HT.sIx xs.length 0 lo)).take (HT.sIx xs.length xs.length hi - HT.sIx xs.length 0 lo)) (q2 hw)
/-- (a, b, ..), the new tuple's object known -/
def tTupF (t : TA) : TE := fun σ H Q => t σ H fun vs H1 => vs.length ≤ sizeLine ∧ ∀ p o, H1 p = none → o.dict = none → Q (.ref p) (upd H1 p (.frz o (.tup vs)))
theorem pe_tupF {X : Cx} {es : List Expr} {t : TA} {x1} {pos : Pos} (h : PA X es t) : PE X (.Tuple es x1 pos) (tTupF t) := ⟨fun pins s σ H Q I hq =>
  wpAny_Tuple_spliced (thn (h.run pos pins s σ H _ I hq) fun us s1 ⟨vs, H1, I1, r, z, q⟩ => ⟨by rw [← r.length]; exact z, I1.tupF s1.toks z r q⟩)⟩
/-- tuple(x), the new tuple's object known -/
def kTupF (K : PySem.W.Frag) : List V → Hp → VK → Prop := fun xs H Q => ∃ p vs, xs = [.ref p] ∧ ((SqL K H p vs ∧ ∀ q o, H q = none → o.dict = none → Q (.ref q) (upd H q (.frz o (.tup vs)))) ∨ (SqT K H p vs ∧ Q (.ref p) H))
theorem cr_tupF {X : Cx} : CallR X (.type "tuple") (kTupF X.K) := by
  intro pins s σ H xs us Q I r h
  obtain ⟨p, vs, rfl, h⟩ := h
  obtain ⟨u, rfl, ru⟩ := vals1 r
  cases ru
  rcases h with ⟨hs, q⟩ | ⟨hs, q⟩
  · obtain ⟨us, rv, pl, hz⟩ := I.list hs
    refine call_tuple_list pl.isList (fun h' hk => ?_) (by rw [List.size_toArray, ← rv.length]; exact hz)
    have I1 : Inv X pins σ H { s with heap := h' } := I.kept (t' := s.toks) hk
    exact I1.tupF s.toks hz rv q
  · obtain ⟨us, rv, pl, hz⟩ := I.tuple hs
    exact call_tuple_tup pl ⟨.ref p, H, I, rfl, q⟩
theorem OpR.false {X : Cx} {f : Value → Value → Sem Value} : OpR X f (fun _ _ _ _ => False) := fun _ _ _ _ _ _ _ _ _ _ _ _ h => h.elim
section
variable {G : Glob}
def rAddAll (K : PySem.W.Frag) : R2 := fun x y H Q => (∃ i j, x = .int i ∧ y = .int j ∧ Q (.int (i + j)) H) ∨ (∃ i j, x = .str i ∧ y = .str j ∧ i.length + j.length ≤ sizeLine ∧ Q (.str (i ++ j)) H) ∨ rCatF K x y H Q
theorem op_addAll {X : Cx} : OpR X (binaryOp .Add) (rAddAll X.K) := op_add.or (op_add_str.or op_catF)
theorem len_app (x y : Str) : (x ++ y).length = x.length + y.length := by
  show (x.cps ++ y.cps).size = x.cps.size + y.cps.size
  exact Array.size_append
theorem valR_newTup {H : Hp} {η : Sto} {p : Addr} {o : Obj} {ts : List T} {vs : List V} (h : H p = none) (d : o.dict = none) (S : StoR G H η) (r : ValsR G H η ts vs) : ValR G (upd H p (.frz o (.tup vs))) η (.tup ts) (.ref p) :=
  .tup (.inl ⟨⟨o, upd_same, d⟩, S.nz h⟩) (r.frm (Frm.new h))
theorem valR_newLst {H : Hp} {η : Sto} {p : Addr} {ts : List T} {vs : List V} (h : H p = none) (S : StoR G H η) (r : ValsR G H η ts vs) : ValR G (upd H p (.lst vs)) η (.cl ts) (.ref p) :=
  .cl (.inl ⟨.inl upd_same, S.nz h⟩) (r.frm (Frm.new h))
theorem HQ.newTup {Q : VK} {H : Hp} {η : Sto} {K : KE} (hQ : HQ G Q H η K) (S : StoR G H η) {ts : List T} {vs : List V} (r : ValsR G H η ts vs) (k : K (.tup ts) η) : ∀ p o, H p = none → o.dict = none → Q (.ref p) (upd H p (.frz o (.tup vs))) := fun p o hp d =>
  hQ _ _ η _ (valR_newTup hp d S r) (S.new hp) (Frm.new hp) k
theorem HQ.newCl {Q : VK} {H : Hp} {η : Sto} {K : KE} (hQ : HQ G Q H η K) (S : StoR G H η) {ts : List T} {vs : List V} (r : ValsR G H η ts vs) (k : K (.cl ts) η) : ∀ p, H p = none → Q (.ref p) (upd H p (.lst vs)) := fun p hp =>
  hQ _ _ η _ (valR_newLst hp S r) (S.new hp) (Frm.new hp) k
theorem HQ.newLst {Q : VK} {H : Hp} {η : Sto} {K : KE} (hQ : HQ G Q H η K) (S : StoR G H η) {ts : List T} {vs : List V} (r : ValsR G H η ts vs) (k : ∀ p, get η p = none → K (.ref p) ((p, .lst ts) :: η)) : ∀ p, H p = none → Q (.ref p) (upd H p (.lst vs)) := fun p hp =>
  hQ _ _ ((p, .lst ts) :: η) _ (.ref p) (S.newS hp ⟨vs, upd_same, r.frm (Frm.newS hp)⟩) (Frm.newS hp) (k p (S.nn hp))
/-- a binary operator: its guard, its value -/
abbrev bopR (o : Bop) : T → T → Sto → KE → Prop := fun u w η K => bop o u w η K
theorem sim_add : Sim2 G (rAddAll G.K) (bopR .add) := by
  intro u w x y η H Q K rx ry S ⟨g, h⟩ hQ
  cases rx <;> cases ry <;> first
    | exact h.elim
    | exact .inl ⟨_, _, rfl, rfl, hQ.here S (.int _) h⟩
    | (rename_i l1 _ l2
       exact .inr (.inl ⟨_, _, rfl, rfl, g, hQ.here S (.str _ (by rw [len_app]; exact g)) h⟩))
    | (rename_i a vs ts h1 r1 b ws us h2 r2
       refine .inr (.inr ⟨a, b, vs, ws, rfl, rfl, h1.sq, h2.sq, by rw [← r1.length, ← r2.length]; exact g, fun e => ?_, fun _ e => ?_, fun _ _ => hQ.newTup S (r1.append r2) h⟩)
       · subst e; cases r1; exact hQ.here S (.tup h2 r2) h
       · subst e; cases r2; exact hQ.here S (.tup h1 r1) (by have h : K (.tup (_ ++ [])) η := h; rw [List.append_nil] at h; exact h))
theorem op_mulB {X : Cx} : OpR X (binaryOp .Mult) (rI (fun i j => i.natAbs.log2 + j.natAbs.log2 < 1000000) fun i j => .int (i * j)) := op_mulW
theorem op_fdivB {X : Cx} : OpR X (binaryOp .FloorDiv) (rI (fun _ j => j ≠ 0 ∧ j.natAbs.log2 < 9000) fun i j => .int (i.fdiv j)) := opI fun _ _ _ _ _ _ _ hc q => floordiv_int hc.1 q (.inl (PyProof.noPylong_of_log2 hc.2))
theorem sim_int {o : Bop} {C : Int → Int → Prop} {g : Int → Int → Int} (hv : ∀ u w t, bopV o u w = some t → ∃ i j, u = .int i ∧ w = .int j ∧ t = .int (g i j)) (hg : ∀ i j, bopG o (.int i) (.int j) → C i j) :
    Sim2 G (rI C fun i j => .int (g i j)) (bopR o) := by
  intro u w x y η H Q K rx ry S ⟨g', h⟩ hQ
  unfold optF at h
  split at h
  · rename_i t e
    obtain ⟨i, j, rfl, rfl, rfl⟩ := hv _ _ _ e
    cases rx; cases ry
    exact ⟨i, j, rfl, rfl, hg i j g', hQ.here S (.int _) h⟩
  · exact h.elim
theorem sim_sub : Sim2 G (rI0 fun i j => .int (i - j)) (bopR .sub) := by
  intro u w x y η H Q K rx ry S ⟨g, h⟩ hQ
  cases rx <;> cases ry <;> first
    | exact h.elim
    | exact ⟨_, _, rfl, rfl, hQ.here S (.int _) h⟩
theorem sim_mul : Sim2 G (rI (fun i j => i.natAbs.log2 + j.natAbs.log2 < 1000000) fun i j => .int (i * j)) (bopR .mul) := sim_int (fun u w t e => by cases u <;> cases w <;> first | (cases e; exact ⟨_, _, rfl, rfl, rfl⟩) | cases e) fun _ _ h => h
theorem sim_fdiv : Sim2 G (rI (fun _ j => j ≠ 0 ∧ j.natAbs.log2 < 9000) fun i j => .int (i.fdiv j)) (bopR .fdiv) := sim_int (fun u w t e => by cases u <;> cases w <;> first | (cases e; exact ⟨_, _, rfl, rfl, rfl⟩) | cases e) fun _ _ h => h
theorem sim_mod : Sim2 G (rI (fun _ j => j ≠ 0) fun i j => .int (i.fmod j)) (bopR .mod) := sim_int (fun u w t e => by cases u <;> cases w <;> first | (cases e; exact ⟨_, _, rfl, rfl, rfl⟩) | cases e) fun _ _ h => h
theorem sim_pow : Sim2 G (rI CPow fun i j => .int (i ^ j.toNat)) (bopR .pow) := sim_int (fun u w t e => by cases u <;> cases w <;> first | (cases e; exact ⟨_, _, rfl, rfl, rfl⟩) | cases e) fun _ _ h => h
end
end TL

/-! comparisons -/
namespace TL
open PySem PySem.Spec PyProof.Rows L2
mutual
def enc : T → PyData
  | .non => .none
  | .bl b => .bool b
  | .int i => .int i
  | .str s => .str s
  | .tup xs => .tuple (encs xs)
  | .cl xs => .list (encs xs)
  | .dct _ _ => .none
  | .ref _ => .none
def encs : List T → List PyData
  | [] => []
  | x :: xs => enc x :: encs xs
end
mutual
theorem enc_dp {G : Glob} {H : Hp} {η : Sto} : ∀ {t : T} {v : V}, dat t = true → ValR G H η t v → Dp G.K H v (enc t)
  | _, _, _, .non => .non
  | _, _, _, .bl b => .bl b
  | _, _, _, .int i => .int i
  | _, _, _, .str s _ => .str s
  | _, _, h, .tup a r => .tup a.sq (encs_dp h r)
  | _, _, h, .cl a r => .lst a.sq (encs_dp h r)
  | .ref _, _, h, _ => by cases h
  | .dct _ _, _, h, _ => by cases h
theorem encs_dp {G : Glob} {H : Hp} {η : Sto} : ∀ {ts : List T} {vs : List V}, dats ts = true → ValsR G H η ts vs → DpAll G.K H vs (encs ts)
  | _, _, _, .nil => .nil
  | _, _, h, .cons r s => by
    have h : (dat _ && dats _) = true := h
    rw [Bool.and_eq_true] at h
    exact .cons (enc_dp h.1 r) (encs_dp h.2 s)
end
mutual
theorem enc_plain : ∀ {t : T}, dat t = true → (enc t).plain = true
  | .non, _ => rfl
  | .bl _, _ => rfl
  | .int _, _ => rfl
  | .str _, _ => rfl
  | .tup xs, h => encs_plain (ts := xs) h
  | .cl xs, h => encs_plain (ts := xs) h
  | .dct _ _, h => by cases h
  | .ref _, h => by cases h
theorem encs_plain : ∀ {ts : List T}, dats ts = true → PyData.plainAll (encs ts) = true
  | [], _ => rfl
  | t :: ts, h => by
    have h : (dat t && dats ts) = true := h
    rw [Bool.and_eq_true] at h
    show (PyData.plain (enc t) && PyData.plainAll (encs ts)) = true
    rw [enc_plain h.1, encs_plain h.2]; rfl
end
mutual
theorem enc_depth : ∀ {t : T}, dat t = true → (enc t).depth = dep t
  | .non, _ => rfl
  | .bl _, _ => rfl
  | .int _, _ => rfl
  | .str _, _ => rfl
  | .tup xs, h => congrArg (· + 1) (encs_depth (ts := xs) h)
  | .cl xs, h => congrArg (· + 1) (encs_depth (ts := xs) h)
  | .dct _ _, h => by cases h
  | .ref _, h => by cases h
theorem encs_depth : ∀ {ts : List T}, dats ts = true → PyData.depthAll (encs ts) = deps ts
  | [], _ => rfl
  | t :: ts, h => by
    have h : (dat t && dats ts) = true := h
    rw [Bool.and_eq_true] at h
    show max (PyData.depth (enc t)) (PyData.depthAll (encs ts)) = max (dep t) (deps ts)
    rw [enc_depth h.1, encs_depth h.2]
end
mutual
theorem enc_eqv : ∀ {t u : T}, dat t = true → dat u = true → PyData.eqv (enc t) (enc u) = eqv t u
  | .dct _ _, _, h, _ => by cases h
  | .ref _, _, h, _ => by cases h
  | .non, u, _, h => by cases u <;> first | rfl | cases h
  | .bl _, u, _, h => by cases u <;> first | rfl | cases h
  | .int _, u, _, h => by cases u <;> first | rfl | cases h
  | .str _, u, _, h => by cases u <;> first | rfl | cases h
  | .tup xs, u, g, h => by
    cases u <;> first
      | rfl
      | cases h
      | exact encs_eqv (ts := xs) g h
  | .cl xs, u, g, h => by
    cases u <;> first
      | rfl
      | cases h
      | exact encs_eqv (ts := xs) g h
theorem encs_eqv : ∀ {ts us : List T}, dats ts = true → dats us = true → PyData.eqvAll (encs ts) (encs us) = eqvs ts us
  | [], [], _, _ => rfl
  | [], _ :: _, _, _ => rfl
  | _ :: _, [], _, _ => rfl
  | t :: ts, u :: us, h, g => by
    have h : (dat t && dats ts) = true := h
    have g : (dat u && dats us) = true := g
    rw [Bool.and_eq_true] at h g
    show (PyData.eqv (enc t) (enc u) && PyData.eqvAll (encs ts) (encs us)) = (eqv t u && eqvs ts us)
    rw [enc_eqv h.1 g.1, encs_eqv h.2 g.2]
end
mutual
theorem enc_alk : ∀ {t u : T}, dat t = true → dat u = true → PySem.W.alike (enc t) (enc u) = alk t u
  | .dct _ _, _, h, _ => by cases h
  | .ref _, _, h, _ => by cases h
  | .non, u, _, h => by cases u <;> first | rfl | cases h
  | .bl _, u, _, h => by cases u <;> first | rfl | cases h
  | .int _, u, _, h => by cases u <;> first | rfl | cases h
  | .str _, u, _, h => by cases u <;> first | rfl | cases h
  | .tup xs, u, g, h => by
    cases u <;> first
      | rfl
      | cases h
      | exact encs_alk (ts := xs) g h
  | .cl xs, u, g, h => by
    cases u <;> first
      | rfl
      | cases h
      | exact encs_alk (ts := xs) g h
theorem encs_alk : ∀ {ts us : List T}, dats ts = true → dats us = true → PySem.W.alikeAll (encs ts) (encs us) = alks ts us
  | [], [], _, _ => rfl
  | [], _ :: _, _, _ => rfl
  | _ :: _, [], _, _ => rfl
  | t :: ts, u :: us, h, g => by
    have h : (dat t && dats ts) = true := h
    have g : (dat u && dats us) = true := g
    rw [Bool.and_eq_true] at h g
    show (PySem.W.alike (enc t) (enc u) && PySem.W.alikeAll (encs ts) (encs us)) = (alk t u && alks ts us)
    rw [enc_alk h.1 g.1, encs_alk h.2 g.2]
end
mutual
theorem enc_lt : ∀ {t u : T}, dat t = true → dat u = true → alk t u = true → PySem.W.dataLt (enc t) (enc u) = ltV t u
  | .dct _ _, _, h, _, _ => by cases h
  | .ref _, _, h, _, _ => by cases h
  | .non, u, _, h, a => by cases u <;> first | exact PyProof.Rows.lex_irrefl _ | cases a
  | .bl x, u, _, h, a => by
    cases u <;> first
      | exact Bool.noConfusion a
      | (rename_i y
         refine (PySem.W.dataLt_bool x y).trans ?_
         cases x <;> cases y <;> rfl)
  | .int _, u, _, h, a => by cases u <;> first | exact PySem.W.dataLt_int _ _ | cases a
  | .str _, u, _, h, a => by cases u <;> first | exact PySem.W.dataLt_str _ _ | cases a
  | .tup xs, u, g, h, a => by
    cases u <;> first
      | cases a
      | exact (PySem.W.dataLt_tuple _ _).trans (encs_lt (ts := xs) g h a)
  | .cl xs, u, g, h, a => by
    cases u <;> first
      | cases a
      | exact (PySem.W.dataLt_list _ _).trans (encs_lt (ts := xs) g h a)
theorem encs_lt : ∀ {ts us : List T}, dats ts = true → dats us = true → alks ts us = true → PyProof.Rows.lexLt PyProof.Rows.itemOrd (PySem.W.keyToksAll (encs ts)) (PySem.W.keyToksAll (encs us)) = ltVs ts us
  | [], [], _, _, _ => PyProof.Rows.lex_irrefl _
  | [], _ :: _, _, _, _ => by
    show PyProof.Rows.lexLt PyProof.Rows.itemOrd [Sum.inl 0] (Sum.inl 1 :: (_ ++ _)) = true
    rw [PyProof.Rows.lex_cons]
    rfl
  | _ :: _, [], _, _, _ => by
    show PyProof.Rows.lexLt PyProof.Rows.itemOrd (Sum.inl 1 :: (_ ++ _)) [Sum.inl 0] = false
    rw [PyProof.Rows.lex_cons]
    rfl
  | t :: ts, u :: us, h, g, a => by
    have h : (dat t && dats ts) = true := h
    have g : (dat u && dats us) = true := g
    have a : (alk t u && alks ts us) = true := a
    rw [Bool.and_eq_true] at h g a
    show PyProof.Rows.lexLt PyProof.Rows.itemOrd (PySem.W.keyToksAll (enc t :: encs ts)) (PySem.W.keyToksAll (enc u :: encs us)) = if eqv t u = true then ltVs ts us else ltV t u
    rw [PySem.W.dataLt_cons (by rw [enc_alk h.1 g.1]; exact a.1), enc_eqv h.1 g.1, encs_lt h.2 g.2 a.2, enc_lt h.1 g.1 a.1]
end
theorem encs_any {u : T} : ∀ {ts : List T}, dat u = true → dats ts = true → ((encs ts).any fun y => PyData.eqv y (enc u)) = inT u ts
  | [], _, _ => rfl
  | t :: ts, g, h => by
    have h : (dat t && dats ts) = true := h
    rw [Bool.and_eq_true] at h
    show (PyData.eqv (enc t) (enc u) || (encs ts).any fun y => PyData.eqv y (enc u)) = (eqv t u || inT u ts)
    rw [enc_eqv h.1 g, encs_any g h.2]
/-! ### by values -/
def rEqP (K : PySem.W.Frag) (neg : Bool) : R2 := fun x y H Q => ∃ d e, Dp K H x d ∧ Dp K H y e ∧ d.plain = true ∧ e.plain = true ∧ min d.depth e.depth ≤ 64 ∧ Q (.bl (if neg then !PyData.eqv d e else PyData.eqv d e)) H
theorem op_eqP {X : Cx} (hu : X.A.units + 64 < cLine) : OpR X (compareOp .Eq) (rEqP X.K false) := by
  intro pins s σ H x y v u Q I rx ry h
  obtain ⟨d, e, hd, he, sd, se, hm, q⟩ := h
  obtain ⟨as, r1⟩ := Dp.reads I d x v hd rx
  obtain ⟨bs, r2⟩ := Dp.reads I e y u he ry
  exact SeqAt.eq_plain r1 r2 sd se (by omega) ⟨.bl _, H, I, rfl, q⟩
theorem op_neP {X : Cx} (hu : X.A.units + 64 < cLine) : OpR X (compareOp .NotEq) (rEqP X.K true) := by
  intro pins s σ H x y v u Q I rx ry h
  obtain ⟨d, e, hd, he, sd, se, hm, q⟩ := h
  obtain ⟨as, r1⟩ := Dp.reads I d x v hd rx
  obtain ⟨bs, r2⟩ := Dp.reads I e y u he ry
  exact SeqAt.ne_plain r1 r2 sd se (by omega) ⟨.bl _, H, I, rfl, q⟩
def rInP (K : PySem.W.Frag) (neg : Bool) : R2 := fun x y H Q => ∃ d ds, Dp K H x d ∧ (Dp K H y (.list ds) ∨ Dp K H y (.tuple ds)) ∧ d.plain = true ∧ PyData.plainAll ds = true ∧ min (PyData.depthAll ds) d.depth ≤ 64 ∧
  Q (.bl (if neg then !(ds.any fun z => PyData.eqv z d) else ds.any fun z => PyData.eqv z d)) H
theorem op_inP {X : Cx} (hu : X.A.units + 65 < cLine) : OpR X (compareOp .In) (rInP X.K false) := by
  intro pins s σ H x y v u Q I rx ry h
  obtain ⟨d, ds, hd, he, sd, se, hm, q⟩ := h
  obtain ⟨as, r1⟩ := Dp.reads I d x v hd rx
  rcases he with he | he
  · obtain ⟨bs, r2⟩ := Dp.reads I _ y u he ry
    exact SeqAt.in_list_data r2 r1 se sd (by omega) ⟨.bl _, H, I, rfl, q⟩
  · obtain ⟨bs, r2⟩ := Dp.reads I _ y u he ry
    exact SeqAt.in_tuple_data r2 r1 se sd (by omega) ⟨.bl _, H, I, rfl, q⟩
theorem op_ninP {X : Cx} (hu : X.A.units + 65 < cLine) : OpR X (compareOp .NotIn) (rInP X.K true) := by
  intro pins s σ H x y v u Q I rx ry h
  obtain ⟨d, ds, hd, he, sd, se, hm, q⟩ := h
  obtain ⟨as, r1⟩ := Dp.reads I d x v hd rx
  rcases he with he | he
  · obtain ⟨bs, r2⟩ := Dp.reads I _ y u he ry
    exact SeqAt.notIn_list_data r2 r1 se sd (by omega) ⟨.bl _, H, I, rfl, q⟩
  · obtain ⟨bs, r2⟩ := Dp.reads I _ y u he ry
    exact SeqAt.notIn_tuple_data r2 r1 se sd (by omega) ⟨.bl _, H, I, rfl, q⟩
section
variable {G : Glob}
abbrev copR (o : Cop) : T → T → Sto → KE → Prop := fun u w η K => cop o u w η fun k => K (.bl k) η
theorem deref_dp {H : Hp} {η : Sto} {t : T} {v : V} (S : StoR G H η) (d : dat (deref η t) = true) (r : ValR G H η t v) : Dp G.K H v (enc (deref η t)) := by
  cases t with
  | ref a =>
    cases r
    unfold deref at d ⊢
    simp only at d ⊢
    cases e : get η a with
    | none => rw [e] at d; cases d
    | some o =>
      rw [e] at d
      cases o with
      | lst ts =>
        obtain ⟨vs, h, rs⟩ := S.ob a _ e
        exact .lst (SqL.of h) (encs_dp d rs)
      | _ => cases d
  | _ => exact enc_dp d r
theorem sim_eq : Sim2 G (rEqP G.K false) (copR .eq) := by
  intro u w x y η H Q K rx ry S ⟨g, h⟩ hQ
  have g : (dat (deref η u) && dat (deref η w) && decide (min (dep (deref η u)) (dep (deref η w)) ≤ 64)) = true := g
  rw [Bool.and_eq_true, Bool.and_eq_true, decide_eq_true_eq] at g
  obtain ⟨⟨g1, g2⟩, g3⟩ := g
  refine ⟨_, _, deref_dp S g1 rx, deref_dp S g2 ry, enc_plain g1, enc_plain g2, by rw [enc_depth g1, enc_depth g2]; exact g3, ?_⟩
  rw [enc_eqv g1 g2]
  exact hQ.here S (.bl _) h
theorem sim_ne : Sim2 G (rEqP G.K true) (copR .ne) := by
  intro u w x y η H Q K rx ry S ⟨g, h⟩ hQ
  have g : (dat (deref η u) && dat (deref η w) && decide (min (dep (deref η u)) (dep (deref η w)) ≤ 64)) = true := g
  rw [Bool.and_eq_true, Bool.and_eq_true, decide_eq_true_eq] at g
  obtain ⟨⟨g1, g2⟩, g3⟩ := g
  refine ⟨_, _, deref_dp S g1 rx, deref_dp S g2 ry, enc_plain g1, enc_plain g2, by rw [enc_depth g1, enc_depth g2]; exact g3, ?_⟩
  rw [enc_eqv g1 g2]
  exact hQ.here S (.bl _) h
theorem optF_inv {α : Type} {o : Option α} {K : α → Prop} (h : optF o K) : ∃ t, o = some t ∧ K t := by
  cases o with
  | none => exact h.elim
  | some t => exact ⟨t, rfl, h⟩
theorem sim_ord {o : Cop} {g : Int → Int → Bool} (hv : ∀ u w η k, copV o u w η = some k → ∃ i j, u = .int i ∧ w = .int j ∧ k = g i j) : Sim2 G (rI0 fun i j => .bl (g i j)) (copR o) := by
  intro u w x y η H Q K rx ry S ⟨_, h⟩ hQ
  obtain ⟨k, e, q⟩ := optF_inv h
  obtain ⟨i, j, rfl, rfl, rfl⟩ := hv _ _ _ _ e
  cases rx; cases ry
  exact ⟨i, j, rfl, rfl, hQ.here S (.bl _) q⟩
/-- data that can be compared -/
def rLtD (K : PySem.W.Frag) : R2 := fun x y H Q => ∃ d e, Dp K H x d ∧ Dp K H y e ∧ PySem.W.alike d e = true ∧ d ≠ .none ∧ min d.depth e.depth ≤ 64 ∧ Q (.bl (PySem.W.dataLt d e)) H
theorem op_ltD {X : Cx} (hu : X.A.units + 64 < cLine) : OpR X (compareOp .Lt) (rLtD X.K) := by
  intro pins s σ H x y v u Q I rx ry h
  obtain ⟨d, e, hd, he, al, nn, hm, q⟩ := h
  obtain ⟨as, r1⟩ := Dp.reads I d x v hd rx
  obtain ⟨bs, r2⟩ := Dp.reads I e y u he ry
  exact PySem.W.lt_data r1 r2 al nn (by omega) ⟨.bl _, H, I, rfl, q⟩
def rLtA (K : PySem.W.Frag) : R2 := fun x y H Q => (rI0 fun i j => .bl (decide (i < j))) x y H Q ∨ (∃ i j, x = V.str i ∧ y = V.str j ∧ Q (.bl (decide (i.cps.toList < j.cps.toList))) H) ∨ rLtD K x y H Q
theorem op_ltA {X : Cx} (hu : X.A.units + 64 < cLine) : OpR X (compareOp .Lt) (rLtA X.K) := op_lt.or (op_lt_str.or (op_ltD hu))
theorem sim_lt : Sim2 G (rLtA G.K) (copR .lt) := by
  intro u w x y η H Q K rx ry S ⟨g, h⟩ hQ
  obtain ⟨k, e, q⟩ := optF_inv h
  have key : ∀ {t z : T}, ValR G H η t x → ValR G H η z y → (dat t && dat z && alk t z && decide (min (dep t) (dep z) ≤ 64)) = true → t ≠ .non → K (.bl (ltV t z)) η → rLtA G.K x y H Q := fun {t z} rx ry g nn q => by
    simp only [Bool.and_eq_true, decide_eq_true_eq] at g
    obtain ⟨⟨⟨g1, g2⟩, g3⟩, g4⟩ := g
    refine .inr (.inr ⟨_, _, enc_dp g1 rx, enc_dp g2 ry, by rw [enc_alk g1 g2]; exact g3, fun z => nn (by cases t <;> first | rfl | exact Bool.noConfusion g1 | (cases z; done)), by rw [enc_depth g1, enc_depth g2]; exact g4, ?_⟩)
    rw [enc_lt g1 g2 g3]
    exact hQ.here S (.bl _) q
  cases u with
  | int i => cases rx; cases ry <;> first | (cases e; exact .inl ⟨_, _, rfl, rfl, hQ.here S (.bl _) q⟩) | cases e
  | str s => cases rx; cases ry <;> first | (cases e; exact .inr (.inl ⟨_, _, rfl, rfl, hQ.here S (.bl _) q⟩)) | cases e
  | tup xs =>
    cases w with
    | tup ys =>
      cases e
      exact key rx ry g (fun z => by cases z) q
    | _ => cases e
  | _ => cases e
theorem sim_le : Sim2 G (rI0 fun i j => .bl (decide (i ≤ j))) (copR .le) := sim_ord fun u w η k e => by cases u <;> cases w <;> first | (cases e; exact ⟨_, _, rfl, rfl, rfl⟩) | cases e
theorem sim_gt : Sim2 G (rI0 fun i j => .bl (decide (j < i))) (copR .gt) := sim_ord fun u w η k e => by cases u <;> cases w <;> first | (cases e; exact ⟨_, _, rfl, rfl, rfl⟩) | cases e
theorem sim_ge : Sim2 G (rI0 fun i j => .bl (decide (j ≤ i))) (copR .ge) := sim_ord fun u w η k e => by cases u <;> cases w <;> first | (cases e; exact ⟨_, _, rfl, rfl, rfl⟩) | cases e
theorem isNon_V {H : Hp} {η : Sto} {u : T} {x : V} (r : ValR G H η u x) : decide (x = .non) = isNon u := by
  cases r <;> simp [isNon]
def rIsA : R2 := fun x y H Q => (y = .non ∧ Q (.bl (decide (x = .non))) H) ∨ rIsB x y H Q
def rNotA : R2 := fun x y H Q => (y = .non ∧ Q (.bl (!decide (x = .non))) H) ∨ rNotB x y H Q
theorem op_isA {X : Cx} : OpR X (compareOp .Is) rIsA := op_isN.or op_isBl
theorem op_notA {X : Cx} : OpR X (compareOp .IsNot) rNotA := op_notN.or op_notBl
theorem sim_isN : Sim2 G rIsA (copR .isN) := by
  intro u w x y η H Q K rx ry S ⟨_, h⟩ hQ
  obtain ⟨k, e, q⟩ := optF_inv h
  cases ry with
  | non =>
    have e : some (isNon u) = some k := by cases u <;> exact e
    cases e
    exact .inl ⟨rfl, by rw [isNon_V rx]; exact hQ.here S (.bl _) q⟩
  | bl b =>
    cases rx <;> first
      | (cases e; done)
      | (cases e
         exact .inr ⟨_, _, rfl, rfl, hQ.here S (.bl _) q⟩)
  | _ => cases u <;> cases e
theorem sim_notN : Sim2 G rNotA (copR .notN) := by
  intro u w x y η H Q K rx ry S ⟨_, h⟩ hQ
  obtain ⟨k, e, q⟩ := optF_inv h
  cases ry with
  | non =>
    have e : some (!isNon u) = some k := by cases u <;> exact e
    cases e
    exact .inl ⟨rfl, by rw [isNon_V rx]; exact hQ.here S (.bl _) q⟩
  | bl b =>
    cases rx <;> first
      | (cases e; done)
      | (cases e
         exact .inr ⟨_, _, rfl, rfl, hQ.here S (.bl _) q⟩)
  | _ => cases u <;> cases e
/-- a list or tuple that is read -/
theorem seq_val {H : Hp} {η : Sto} {t : T} {v : V} {xs : List T} (S : StoR G H η) (e : seqOf η t = some xs) (r : ValR G H η t v) : ∃ a vs, v = .ref a ∧ (SqL G.K H a vs ∨ SqT G.K H a vs) ∧ ValsR G H η xs vs := by
  cases r <;> first
    | (rename_i a vs ts h rs
       cases e
       first
         | exact ⟨_, _, rfl, .inr h.sq, rs⟩
         | exact ⟨_, _, rfl, .inl h.sq, rs⟩)
    | (rename_i a
       unfold seqOf at e
       simp only at e
       cases g : get η a with
       | none => rw [g] at e; cases e
       | some o =>
         rw [g] at e
         cases o with
         | lst ts =>
           cases e
           obtain ⟨vs, h, rs⟩ := S.ob a _ g
           exact ⟨a, vs, rfl, .inl (SqL.of h), rs⟩
         | _ => cases e)
    | cases e
theorem sim_inS {o : Cop} (neg : Bool) (ho : o = .inn ∧ neg = false ∨ o = .nin ∧ neg = true) :
    Sim2 G (fun x y H Q => (∃ i j, x = .str i ∧ y = .str j ∧ Q (.bl (if neg then !inStr i j else inStr i j)) H) ∨ rInP G.K neg x y H Q) (copR o) := by
  intro u w x y η H Q K rx ry S ⟨g, h⟩ hQ
  obtain ⟨k, e, q⟩ := optF_inv h
  have key : ∀ xs, seqOf η w = some xs → inOk u xs = true → k = (if neg then !inT u xs else inT u xs) → rInP G.K neg x y H Q := fun xs es ok hk => by
    unfold inOk at ok
    rw [Bool.and_eq_true, Bool.and_eq_true, decide_eq_true_eq] at ok
    obtain ⟨⟨g1, g2⟩, g3⟩ := ok
    obtain ⟨a, vs, rfl, hs, rs⟩ := seq_val S es ry
    refine ⟨enc u, encs xs, enc_dp g1 rx, hs.imp (fun z => .lst z (encs_dp g2 rs)) fun z => .tup z (encs_dp g2 rs), enc_plain g1, encs_plain g2, by rw [enc_depth g1, encs_depth g2]; exact g3, ?_⟩
    rw [encs_any g1 g2, ← hk]
    exact hQ.here S (.bl _) q
  have two : ∀ xs, seqOf η w = some xs → (∀ z, w ≠ .str z) → rInP G.K neg x y H Q := fun xs es ns => by
    rcases ho with ⟨rfl, rfl⟩ | ⟨rfl, rfl⟩
    · have g' : inOk u xs = true := by
        cases w <;> first
          | exact absurd rfl (ns _)
          | (cases u <;> (simp only [copG, es] at g; exact g))
      have e' : some (inT u xs) = some k := by
        cases w <;> first
          | exact absurd rfl (ns _)
          | (cases u <;> (simp only [copV, es] at e; exact e))
      cases e'
      exact key xs es g' rfl
    · have g' : inOk u xs = true := by
        cases w <;> first
          | exact absurd rfl (ns _)
          | (cases u <;> (simp only [copG, es] at g; exact g))
      have e' : some (!inT u xs) = some k := by
        cases w <;> first
          | exact absurd rfl (ns _)
          | (cases u <;> (simp only [copV, es] at e; exact e))
      cases e'
      exact key xs es g' rfl
  cases hs : seqOf η w with
  | some xs =>
    exact .inr (two xs hs fun z ez => by subst ez; cases hs)
  | none =>
    refine .inl ?_
    cases w <;> cases u <;> first
      | (rcases ho with ⟨rfl, rfl⟩ | ⟨rfl, rfl⟩ <;> (simp only [copV, hs] at e; cases e; done))
      | (cases rx; cases ry
         refine ⟨_, _, rfl, rfl, ?_⟩
         rcases ho with ⟨rfl, rfl⟩ | ⟨rfl, rfl⟩ <;> (cases e; exact hQ.here S (.bl _) q))
theorem op_inAll {X : Cx} (hu : X.A.units + 65 < cLine) : OpR X (compareOp .In) (fun x y H Q => (∃ i j, x = .str i ∧ y = .str j ∧ Q (.bl (if false then !inStr i j else inStr i j)) H) ∨ rInP X.K false x y H Q) := op_in_str.or (op_inP hu)
theorem op_ninAll {X : Cx} (hu : X.A.units + 65 < cLine) : OpR X (compareOp .NotIn) (fun x y H Q => (∃ i j, x = .str i ∧ y = .str j ∧ Q (.bl (if true then !inStr i j else inStr i j)) H) ∨ rInP X.K true x y H Q) := L2.op_notIn_str.or (op_ninP hu)
end
end TL

/-! further operations by values -/
namespace TL
open PySem PySem.Spec PyProof.Rows L2
section
variable {G : Glob} {H : Hp} {η : Sto}
theorem ValsR.isEmpty {ts : List T} {vs : List V} (r : ValsR G H η ts vs) : ts.isEmpty = vs.isEmpty := by cases r <;> rfl
theorem KeysR.isEmpty {ts : List T} {ks : List Key} (r : KeysR ts ks) : ts.isEmpty = ks.isEmpty := by cases r <;> rfl
theorem isEmpty_map {α β : Type} (f : α → β) (l : List α) : (l.map f).isEmpty = l.isEmpty := by cases l <;> rfl
theorem tru_val {t : T} {v : V} {k : Bool} (S : StoR G H η) (e : tru η t = some k) (r : ValR G H η t v) : TruV G.K v H k := by
  cases r <;> first
    | (cases e; rfl)
    | (rename_i l
       cases e
       exact ⟨l, rfl⟩)
    | (rename_i a vs ts h rs
       cases e
       first
         | exact .inr (.inl ⟨vs, h.sq, by rw [rs.isEmpty]⟩)
         | exact .inl ⟨vs, h.sq, by rw [rs.isEmpty]⟩)
    | (rename_i h n kr rs
       cases e
       exact .inr (.inr ⟨_, h, by rw [kr.isEmpty, isEmpty_map]⟩))
    | (rename_i a
       unfold tru at e
       simp only at e
       cases g : get η a with
       | none => rw [g] at e; cases e
       | some o =>
         rw [g] at e
         cases o with
         | lst ts =>
           cases e
           obtain ⟨vs, h, rs⟩ := S.ob a _ g
           exact .inl ⟨vs, SqL.of h, by rw [rs.isEmpty]⟩
         | dict ks vs =>
           cases e
           obtain ⟨kvs, h, kr, rs⟩ := S.ob a _ g
           exact .inr (.inr ⟨kvs, h, by rw [kr.isEmpty, isEmpty_map]⟩)
         | _ => cases e)
def tyName : Ty → String
  | .int => "int" | .bool => "bool" | .str => "str" | .tuple => "tuple" | .list => "list" | .dict => "dict"
theorem isT_val {t : T} {v : V} {ty : Ty} {k : Bool} (e : isT η ty t = some k) (r : ValR G H η t v) : ∃ u, TyX G.K H v u ∧ PySem.W.kitOne G.K u (.type (tyName ty)) = some k := by
  cases r with
  | non => exact ⟨_, .base .non, by cases ty <;> (cases e; exact kit_ty (by decide +kernel))⟩
  | bl b => exact ⟨_, .base (.bl b), by cases ty <;> (cases e; exact kit_ty (by decide +kernel))⟩
  | int i => exact ⟨_, .base (.int i), by cases ty <;> (cases e; exact kit_ty (by decide +kernel))⟩
  | str s l => exact ⟨_, .base (.str s), by cases ty <;> (cases e; exact kit_ty (by decide +kernel))⟩
  | ref a => cases ty <;> cases e
  | tup h rs =>
    refine ⟨.type "tuple", ?_, by cases ty <;> (cases e; exact kit_ty (by decide +kernel))⟩
    rcases h with ⟨⟨o, h, _⟩, _⟩ | ⟨o, its, n, hk, hc, _⟩
    · exact .fTuple h
    · exact .kTuple hk hc
  | cl h rs =>
    refine ⟨.type "list", ?_, by cases ty <;> (cases e; exact kit_ty (by decide +kernel))⟩
    rcases h with ⟨h | ⟨o, h⟩, _⟩ | ⟨o, its, n, hk, hc, _⟩
    · exact .base (.lst h)
    · exact .base (.frz h)
    · exact .kList hk hc
  | dct h n kr rs => exact ⟨.type "dict", .base (.dK h), by cases ty <;> (cases e; exact kit_ty (by decide +kernel))⟩

/-- a list or tuple that is read, and where it stands in the store -/
structure SeqR (G : Glob) (H : Hp) (η : Sto) (ts : List T) (src : Option Addr) (v : V) : Prop where
  ex : ∃ a vs, v = .ref a ∧ ValsR G H η ts vs ∧ ((src = none ∧ StL G H η a vs) ∨ (src = none ∧ StT G H η a vs) ∨ (src = some a ∧ H a = some (.lst vs) ∧ TL.get η a = some (.lst ts)))
theorem SeqR.sq {ts : List T} {src : Option Addr} {v : V} (h : SeqR G H η ts src v) : ∃ a vs, v = .ref a ∧ ValsR G H η ts vs ∧ (SqL G.K H a vs ∨ SqT G.K H a vs) := by
  obtain ⟨a, vs, e, r, h | h | h⟩ := h.ex
  · exact ⟨a, vs, e, r, .inl h.2.sq⟩
  · exact ⟨a, vs, e, r, .inr h.2.sq⟩
  · exact ⟨a, vs, e, r, .inl (SqL.of h.2.1)⟩
theorem seqR_of {t : T} {v : V} {xs : List T} (S : StoR G H η) (e : seqOf η t = some xs) (r : ValR G H η t v) : SeqR G H η xs (srcOf t) v := by
  cases r <;> first
    | (rename_i a vs ts h rs
       cases e
       first
         | exact ⟨_, _, rfl, rs, .inr (.inl ⟨rfl, h⟩)⟩
         | exact ⟨_, _, rfl, rs, .inl ⟨rfl, h⟩⟩)
    | (rename_i a
       unfold seqOf at e
       simp only at e
       cases g : get η a with
       | none => rw [g] at e; cases e
       | some o =>
         rw [g] at e
         cases o with
         | lst ts =>
           cases e
           obtain ⟨vs, h, rs⟩ := S.ob a _ g
           exact ⟨a, vs, rfl, rs, .inr (.inr ⟨rfl, h, g⟩)⟩
         | _ => cases e)
    | cases e
end
abbrev TI' := Env → Sto → KX → (List T → Option Addr → Sto → Prop) → Prop
def HV (G : Glob) (Q : VK) (H : Hp) (η : Sto) (K : List T → Option Addr → Sto → Prop) : Prop :=
  ∀ ts src v η' H', SeqR G H' η' ts src v → StoR G H' η' → Frm η H η' H' → K ts src η' → Q v H'
def liftV (G : Glob) (W : WX) (t : TI') : TE := fun σ H Q => ∃ ρ η X K, EnvR G H η σ ρ ∧ StoR G H η ∧ t ρ η X K ∧ HX G W σ H η X ∧ HV G Q H η K

/-! ### rules -/
section
variable {G : Glob} {W : WX} {X : Cx} {a b c : Expr} {ta tb tc : TE'} {pos : Pos} {es : List Expr} {n : Nat} {tl : TL'}
theorem q_tup {x1} (hn : n ≤ 1000) (h : PA X es (liftL G W n tl)) : PE X (.Tuple es x1 pos) (liftE G W fun ρ η X K => tl ρ η X fun ts η' => K (.tup ts) η') := (pe_tupF h).imp fun σ H Q ⟨ρ, η, X, K, hρ, hS, ht, hX, hQ⟩ =>
  liftN hρ hS ht hX fun ts vs η2 H2 l r S2 f2 k => ⟨by rw [← r.length, l, sizeLine_eq]; omega, (hQ.frm f2).newTup S2 r k⟩
theorem q_lst (hn : n ≤ 1000) (h : PA X es (liftL G W n tl)) : PE X (.List es pos) (liftE G W fun ρ η X K => tl ρ η X fun ts η' => ∀ p, get η' p = none → K (.ref p) ((p, .lst ts) :: η')) := (pe_lst h).imp fun σ H Q ⟨ρ, η, X, K, hρ, hS, ht, hX, hQ⟩ =>
  liftN hρ hS ht hX fun ts vs η2 H2 l r S2 f2 k => ⟨by rw [← r.length, l, sizeLine_eq]; omega, (hQ.frm f2).newLst S2 r k⟩
theorem q_lstV (hn : n ≤ 1000) (h : PA X es (liftL G W n tl)) : PE X (.List es pos) (liftE G W fun ρ η X K => tl ρ η X fun ts η' => K (.cl ts) η') := (pe_lst h).imp fun σ H Q ⟨ρ, η, X, K, hρ, hS, ht, hX, hQ⟩ =>
  liftN hρ hS ht hX fun ts vs η2 H2 l r S2 f2 k => ⟨by rw [← r.length, l, sizeLine_eq]; omega, (hQ.frm f2).newCl S2 r k⟩
theorem q_nil : PA X [] (liftL G W 0 fun _ η _ K => K [] η) := pa_nil.imp fun σ H Q ⟨ρ, η, X, K, hρ, hS, ht, hX, hQ⟩ => hQ [] [] η H rfl .nil hS .refl ht
theorem q_cons (ha : PE X a (liftE G W ta)) (h : PA X es (liftL G W n tl)) (hs : starEach (a :: es) X.env = (false, eval a X.env) :: starEach es X.env) :
    PA X (a :: es) (liftL G W (n + 1) fun ρ η X K => ta ρ η X fun t η1 => tl ρ η1 X fun ts η2 => K (t :: ts) η2) := (pa_cons ha h hs).imp fun σ H Q ⟨ρ, η, X, K, hρ, hS, ht, hX, hQ⟩ =>
  lift1 hρ hS ht hX fun u x η1 H1 rx S1 f1 k1 => liftN (hρ.frm f1) S1 k1 (hX.frm f1) fun ts vs η2 H2 l r S2 f2 k2 => hQ (u :: ts) (x :: vs) η2 H2 (congrArg (· + 1) l) (.cons (rx.frm f2) r) S2 (f1.trans f2) k2
theorem q_neg (ha : PE X a (liftE G W ta)) : PE X (.UnaryOp .USub a pos) (liftE G W fun ρ η X K => ta ρ η X fun u η1 => optF (negV u) fun t => K t η1) := (pe_un un_neg ha).imp fun σ H Q ⟨ρ, η, X, K, hρ, hS, ht, hX, hQ⟩ =>
  lift1 hρ hS ht hX fun u x η1 H1 rx S1 f1 k1 => by
    obtain ⟨t, e, q⟩ := optF_inv k1
    cases rx <;> cases e
    exact ⟨_, rfl, (hQ.frm f1).here S1 (.int _) q⟩
theorem q_not (ha : PE X a (liftE G W ta)) (hK : X.K = G.K) : PE X (.UnaryOp .Not a pos) (liftE G W fun ρ η X K => ta ρ η X fun u η1 => optF (tru η1 u) fun k => K (.bl (!k)) η1) := (pe_notT ha).imp fun σ H Q ⟨ρ, η, Y, K, hρ, hS, ht, hX, hQ⟩ =>
  lift1 hρ hS ht hX fun u x η1 H1 rx S1 f1 k1 => by
    obtain ⟨k, e, q⟩ := optF_inv k1
    exact ⟨k, by rw [hK]; exact tru_val S1 e rx, (hQ.frm f1).here S1 (.bl _) q⟩
theorem ifB_if {k : Bool} {A B : Prop} (h : ifB k A B) : if k = true then A else B := by cases k <;> simpa [ifB] using h
theorem ifB_split {k : Bool} {A B A' B' : Prop} (h : ifB k A B) (f : A → A') (g : B → B') : if k = true then A' else B' := by
  cases k with
  | true => rw [if_pos rfl]; exact f h
  | false => rw [if_neg Bool.false_ne_true]; exact g h
theorem q_and {rest : List Expr} (ha : PE X a (liftE G W ta)) (hb : PE X (.BoolOp .And (b :: rest) pos) (liftE G W tb)) (hK : X.K = G.K) :
    PE X (.BoolOp .And (a :: b :: rest) pos) (liftE G W fun ρ η X K => ta ρ η X fun u η1 => optF (tru η1 u) fun k => ifB k (tb ρ η1 X K) (K u η1)) := (pe_andT ha hb).imp fun σ H Q ⟨ρ, η, Y, K, hρ, hS, ht, hX, hQ⟩ =>
  lift1 hρ hS ht hX fun u x η1 H1 rx S1 f1 k1 => by
    obtain ⟨k, e, q⟩ := optF_inv k1
    exact ⟨k, by rw [hK]; exact tru_val S1 e rx, ifB_split q (fun q => ⟨ρ, η1, Y, K, hρ.frm f1, S1, q, hX.frm f1, hQ.frm f1⟩) fun q => (hQ.frm f1).here S1 rx q⟩
theorem q_or {rest : List Expr} (ha : PE X a (liftE G W ta)) (hb : PE X (.BoolOp .Or (b :: rest) pos) (liftE G W tb)) (hK : X.K = G.K) :
    PE X (.BoolOp .Or (a :: b :: rest) pos) (liftE G W fun ρ η X K => ta ρ η X fun u η1 => optF (tru η1 u) fun k => ifB k (K u η1) (tb ρ η1 X K)) := (pe_orT ha hb).imp fun σ H Q ⟨ρ, η, Y, K, hρ, hS, ht, hX, hQ⟩ =>
  lift1 hρ hS ht hX fun u x η1 H1 rx S1 f1 k1 => by
    obtain ⟨k, e, q⟩ := optF_inv k1
    exact ⟨k, by rw [hK]; exact tru_val S1 e rx, ifB_split q (fun q => (hQ.frm f1).here S1 rx q) fun q => ⟨ρ, η1, Y, K, hρ.frm f1, S1, q, hX.frm f1, hQ.frm f1⟩⟩
/-! tests -/
theorem c_val (ha : PE X a (liftE G W ta)) (hK : X.K = G.K) (he : ∀ whole, isTrue a X.env whole = (do let v ← whole; standAt a.pos; holding [v] (truthy v))) :
    PT X a (liftC G W fun ρ η X K => ta ρ η X fun u η1 => optF (tru η1 u) fun k => K k η1) := (pt_truth ha he).imp fun σ H Q ⟨ρ, η, Y, K, hρ, hS, ht, hX, hB⟩ =>
  lift1 hρ hS ht hX fun u x η1 H1 rx S1 f1 k1 => by
    obtain ⟨k, e, q⟩ := optF_inv k1
    exact ⟨k, by rw [hK]; exact tru_val S1 e rx, hB k η1 H1 S1 f1 q⟩
/-- a comparison as a test -/
theorem c_cmp {op : CmpOp} {r : R2} {g : T → T → Sto → Option Bool} {ok : T → T → Sto → Prop} (ho : OpR X (compareOp op) r) (s : Sim2 G r fun u w η K => ok u w η ∧ optF (g u w η) fun k => K (.bl k) η) (ha : PE X a (liftE G W ta)) (hb : PE X b (liftE G W tb)) (hm : behindInMarks op b = false) :
    PT X (.Compare a [op] [b] pos) (liftC G W fun ρ η X K => ta ρ η X fun u η1 => tb ρ η1 X fun w η2 => ok u w η2 ∧ optF (g u w η2) fun k => optF (tru η2 (.bl k)) fun k => K k η2) := (pt_cmpR ho ha hb hm).imp fun σ H Q ⟨ρ, η, Y, K, hρ, hS, ht, hX, hB⟩ =>
  lift2 hρ hS ht hX fun u w x y η2 H2 rx ry S2 f2 ⟨o1, kk⟩ => s u w x y η2 H2 _ (fun t η3 => ∃ k, t = .bl k ∧ η3 = η2 ∧ K k η2) rx ry S2 ⟨o1, by
    obtain ⟨k, e, q⟩ := optF_inv kk
    rw [e]
    exact ⟨k, rfl, rfl, q⟩⟩ fun t v η3 H3 rv S3 f3 ⟨k, et, eη, q⟩ => by
    subst et
    subst eη
    cases rv
    exact ⟨k, rfl, hB _ _ H3 S3 (f2.trans f3) q⟩
variable {cA cB : TC'} {rest : List Expr}
theorem c_not (ha : PT X a (liftC G W cA)) : PT X (.UnaryOp .Not a pos) (liftC G W fun ρ η X K => cA ρ η X fun k η1 => K (!k) η1) := (pt_not ha).imp fun σ H Q ⟨ρ, η, Y, K, hρ, hS, ht, hX, hB⟩ =>
  ⟨ρ, η, Y, _, hρ, hS, ht, hX, fun k η1 H1 S1 f1 q => hB _ η1 H1 S1 f1 q⟩
theorem c_and (ha : PT X a (liftC G W cA)) (hb : PW X (.BoolOp .And (b :: rest) pos) (liftC G W cB)) : PW X (.BoolOp .And (a :: b :: rest) pos) (liftC G W fun ρ η X K => cA ρ η X fun k η1 => ifB k (cB ρ η1 X K) (K false η1)) := (pw_and ha hb).imp fun σ H Q ⟨ρ, η, Y, K, hρ, hS, ht, hX, hB⟩ =>
  ⟨ρ, η, Y, _, hρ, hS, ht, hX, fun k η1 H1 S1 f1 q => ifB_split q (fun q => ⟨ρ, η1, Y, K, hρ.frm f1, S1, q, hX.frm f1, hB.frm f1⟩) fun q => hB _ η1 H1 S1 f1 q⟩
theorem c_or (ha : PT X a (liftC G W cA)) (hb : PW X (.BoolOp .Or (b :: rest) pos) (liftC G W cB)) : PW X (.BoolOp .Or (a :: b :: rest) pos) (liftC G W fun ρ η X K => cA ρ η X fun k η1 => ifB k (K true η1) (cB ρ η1 X K)) := (pw_or ha hb).imp fun σ H Q ⟨ρ, η, Y, K, hρ, hS, ht, hX, hB⟩ =>
  ⟨ρ, η, Y, _, hρ, hS, ht, hX, fun k η1 H1 S1 f1 q => ifB_split q (fun q => hB _ η1 H1 S1 f1 q) fun q => ⟨ρ, η1, Y, K, hρ.frm f1, S1, q, hX.frm f1, hB.frm f1⟩⟩
theorem q_ite (hc : PT X c (liftC G W cA)) (ha : PE X a (liftE G W ta)) (hb : PE X b (liftE G W tb)) : PE X (.IfExp c a b pos) (liftE G W fun ρ η X K => cA ρ η X fun k η1 => ifB k (ta ρ η1 X K) (tb ρ η1 X K)) := (pe_ifExp hc ha hb).imp fun σ H Q ⟨ρ, η, Y, K, hρ, hS, ht, hX, hQ⟩ =>
  ⟨ρ, η, Y, _, hρ, hS, ht, hX, fun k η1 H1 S1 f1 q => ifB_split q (fun q => ⟨ρ, η1, Y, K, hρ.frm f1, S1, q, hX.frm f1, hQ.frm f1⟩) fun q => ⟨ρ, η1, Y, K, hρ.frm f1, S1, q, hX.frm f1, hQ.frm f1⟩⟩
/-- a < b < c -/
theorem chain_imp {r r' : R2} {g g' : T → T → Sto → Option Bool} {ok ok' : T → T → Sto → Prop} (s : Sim2 G r fun u w η K => ok u w η ∧ optF (g u w η) fun k => K (.bl k) η) (s' : Sim2 G r' fun u w η K => ok' u w η ∧ optF (g' u w η) fun k => K (.bl k) η)
    {σ : L2.St} {H : Hp} {Q : VK} {ρ : Env} {η : Sto} {Y : KX} {K : KE} (hρ : EnvR G H η σ ρ) (hS : StoR G H η)
    (ht : ta ρ η Y fun u η1 => tb ρ η1 Y fun w η2 => ok u w η2 ∧ optF (g u w η2) fun k => ifB k (tc ρ η2 Y fun z η3 => ok' w z η3 ∧ optF (g' w z η3) fun k2 => K (.bl k2) η3) (K (.bl false) η2)) (hX : HX G W σ H η Y) (hQ : HQ G Q H η K) :
    tChain r r' (liftE G W ta) (liftE G W tb) (liftE G W tc) σ H Q :=
  lift2 hρ hS ht hX fun u w x y η2 H2 rx ry S2 f2 ⟨o1, kk⟩ => s u w x y η2 H2 _ (fun t η3 => ∃ k, t = .bl k ∧ η3 = η2 ∧ ifB k (tc ρ η2 Y fun z η3 => ok' w z η3 ∧ optF (g' w z η3) fun k2 => K (.bl k2) η3) (K (.bl false) η2)) rx ry S2 ⟨o1, by
      obtain ⟨k, e, q⟩ := optF_inv kk
      rw [e]
      exact ⟨k, rfl, rfl, q⟩⟩ fun t v η3 H3 rv S3 f3 ⟨k, et, eη, q⟩ => by
      subst et
      subst eη
      cases rv
      refine ⟨k, rfl, ifB_split q (fun q => ?_) fun q => (hQ.frm (f2.trans f3)).here S3 (.bl _) q⟩
      exact lift1 (hρ.frm (f2.trans f3)) S3 q (hX.frm (f2.trans f3)) fun z zv η4 H4 rz S4 f4 k4 => s' w z y zv η4 H4 Q K ((ry.frm f3).frm f4) rz S4 k4 (hQ.frm ((f2.trans f3).trans f4))
theorem q_chain {op op' : CmpOp} {r r' : R2} {g g' : T → T → Sto → Option Bool} {ok ok' : T → T → Sto → Prop} (ho : OpR X (compareOp op) r) (ho' : OpR X (compareOp op') r') (s : Sim2 G r fun u w η K => ok u w η ∧ optF (g u w η) fun k => K (.bl k) η) (s' : Sim2 G r' fun u w η K => ok' u w η ∧ optF (g' u w η) fun k => K (.bl k) η)
    (ha : PE X a (liftE G W ta)) (hb : PE X b (liftE G W tb)) (hc : PE X c (liftE G W tc)) (hm : lastMarks [op, op'] [b, c] = false) :
    PE X (.Compare a [op, op'] [b, c] pos) (liftE G W fun ρ η X K => ta ρ η X fun u η1 => tb ρ η1 X fun w η2 => ok u w η2 ∧ optF (g u w η2) fun k => ifB k (tc ρ η2 X fun z η3 => ok' w z η3 ∧ optF (g' w z η3) fun k2 => K (.bl k2) η3) (K (.bl false) η2)) :=
  (pe_chain ho ho' ha hb hc hm).imp fun σ H Q ⟨ρ, η, Y, K, hρ, hS, ht, hX, hQ⟩ => chain_imp s s' hρ hS ht hX hQ
theorem c_chain {op op' : CmpOp} {r r' : R2} {g g' : T → T → Sto → Option Bool} {ok ok' : T → T → Sto → Prop} (ho : OpR X (compareOp op) r) (ho' : OpR X (compareOp op') r') (s : Sim2 G r fun u w η K => ok u w η ∧ optF (g u w η) fun k => K (.bl k) η) (s' : Sim2 G r' fun u w η K => ok' u w η ∧ optF (g' u w η) fun k => K (.bl k) η)
    (ha : PE X a (liftE G W ta)) (hb : PE X b (liftE G W tb)) (hc : PE X c (liftE G W tc)) (hm : lastMarks [op, op'] [b, c] = false) :
    PT X (.Compare a [op, op'] [b, c] pos) (liftC G W fun ρ η X K => ta ρ η X fun u η1 => tb ρ η1 X fun w η2 => ok u w η2 ∧ optF (g u w η2) fun k => ifB k (tc ρ η2 X fun z η3 => ok' w z η3 ∧ optF (g' w z η3) fun k2 => optF (tru η3 (.bl k2)) fun k3 => K k3 η3) (optF (tru η2 (.bl false)) fun k3 => K k3 η2)) :=
  (pt_chain ho ho' ha hb hc hm).imp fun σ H Q ⟨ρ, η, Y, K, hρ, hS, ht, hX, hB⟩ =>
    chain_imp (Q := fun x H' => ∃ k, x = .bl k ∧ Q k H') (K := fun t η' => ∃ k, t = .bl k ∧ K k η') s s' hρ hS (by
      have e : (fun u η1 => tb ρ η1 Y fun w η2 => ok u w η2 ∧ optF (g u w η2) fun k => ifB k (tc ρ η2 Y fun z η3 => ok' w z η3 ∧ optF (g' w z η3) fun k2 => optF (tru η3 (.bl k2)) fun k3 => K k3 η3) (optF (tru η2 (.bl false)) fun k3 => K k3 η2)) =
        (fun u η1 => tb ρ η1 Y fun w η2 => ok u w η2 ∧ optF (g u w η2) fun k => ifB k (tc ρ η2 Y fun z η3 => ok' w z η3 ∧ optF (g' w z η3) fun k2 => (∃ k, T.bl k2 = .bl k ∧ K k η3)) (∃ k, T.bl false = .bl k ∧ K k η2)) := by
        have h : ∀ (b : Bool) (η : Sto), (optF (tru η (.bl b)) fun k3 => K k3 η) = (∃ k, T.bl b = .bl k ∧ K k η) := fun b η => by
          show K b η = _
          simp
        simp only [h]
      dsimp only at ht
      rw [e] at ht
      exact ht) hX fun t v η' H' r S f ⟨k, et, q⟩ => by
        subst et
        cases r
        exact ⟨k, rfl, hB _ _ _ S f q⟩
end
end TL

/-! subscripts, slices, calls, built-ins -/
namespace TL
open PySem PySem.Spec PyProof.Rows L2
section
variable {G : Glob} {H : Hp} {η : Sto}
theorem ValsR.at {ts : List T} {vs : List V} {k : Int} {t : T} (r : ValsR G H η ts vs) (e : atI ts k = some t) : ∃ v, atI vs k = some v ∧ ValR G H η t v := by
  unfold atI at e ⊢
  rw [← r.length]
  cases g : ixN ts.length k with
  | none => rw [g] at e; cases e
  | some j => rw [g] at e; exact r.get e
theorem ValsR.cut {ts : List T} {vs : List V} {lo hi : Option Int} (r : ValsR G H η ts vs) : ValsR G H η (cutT ts lo hi) (cutV vs lo hi) := by
  unfold cutT cutV
  rw [← r.length]
  exact (r.drop _).take _
def rIxLT (K : PySem.W.Frag) : R2 := fun x y H Q => (rIxL K x y H Q ∨ rIxT K x y H Q) ∨ rIxS x y H Q
theorem ix_lt {X : Cx} : IxR X (rIxLT X.K) := (ix_list.or ix_tup).or ix_str
theorem sim_idx : Sim2 G (rIxLT G.K) fun u w η K => optF (idxV η u w) fun t => K t η := by
  intro u w x y η H Q K rx ry S h hQ
  obtain ⟨t, e, q⟩ := optF_inv h
  have seqc : ∀ xs k, seqOf η u = some xs → w = .int k → atI xs k = some t → rIxLT G.K x y H Q := fun xs k hs hw e0 => by
    subst hw
    obtain ⟨a, vs, rfl, hq, rs⟩ := seq_val S hs rx
    cases ry
    obtain ⟨v, e2, rv⟩ := rs.at e0
    rcases hq with hq | hq
    · exact .inl (.inl ⟨a, vs, k, v, rfl, rfl, hq, e2, hQ.here S rv q⟩)
    · exact .inl (.inr ⟨a, vs, k, v, rfl, rfl, hq, e2, hQ.here S rv q⟩)
  cases rx with
  | str s l =>
    cases ry <;> first
      | (cases e; done)
      | (rename_i k
         have e : (atI s.cps.toList k).map (fun c => T.str ⟨#[c]⟩) = some t := e
         cases g : atI s.cps.toList k with
         | none => rw [g] at e; cases e
         | some c =>
           rw [g] at e
           cases e
           exact .inr ⟨s, k, c, rfl, rfl, l, g, hQ.here S (.str _ (by show 1 ≤ sizeLine; rw [sizeLine_eq]; omega)) q⟩)
  | _ =>
    unfold idxV at e
    simp only at e
    split at e
    · rename_i xs k hs
      exact seqc xs k (by assumption) rfl e
    · cases e
/-- a list, no tuple -/
theorem seq_list {t : T} {v : V} {xs : List T} (S : StoR G H η) (n : ∀ ys, t ≠ .tup ys) (e : seqOf η t = some xs) (r : ValR G H η t v) : ∃ a vs, v = .ref a ∧ SqL G.K H a vs ∧ ValsR G H η xs vs := by
  cases r with
  | tup h rs => exact absurd rfl (n _)
  | cl h rs => cases e; exact ⟨_, _, rfl, h.sq, rs⟩
  | ref a =>
    unfold seqOf at e
    simp only at e
    cases g : get η a with
    | none => rw [g] at e; cases e
    | some o =>
      rw [g] at e
      cases o with
      | lst ts =>
        cases e
        obtain ⟨vs, h, rs⟩ := S.ob a _ g
        exact ⟨a, vs, rfl, SqL.of h, rs⟩
      | _ => cases e
  | _ => cases e
def rSlAll (K : PySem.W.Frag) : V → Option Int → Option Int → Hp → VK → Prop := fun x i j H Q => (rSlF K x i j H Q ∨ rSlL K x i j H Q) ∨ rSlS x i j H Q
theorem sl_all {X : Cx} : SlR X (rSlAll X.K) := (sl_tupF.or sl_list).or sl_str
theorem cut_whole {xs : List T} {i j : Option Int} (h : HT.sIx xs.length 0 i = 0 ∧ HT.sIx xs.length xs.length j = xs.length) : cutT xs i j = xs := by
  unfold cutT
  rw [h.1, h.2, List.drop_zero, Nat.sub_zero, List.take_length]
theorem sim_slc {u : T} {x : V} {i j : Option Int} {Q : VK} {K : KE} (rx : ValR G H η u x) (S : StoR G H η) (h : optF (slcV u i j η) fun t => K t η) (hQ : HQ G Q H η K) : rSlAll G.K x i j H Q := by
  obtain ⟨t, e, q⟩ := optF_inv h
  by_cases hu : ∃ xs, u = .tup xs
  · obtain ⟨xs, rfl⟩ := hu
    cases e
    cases rx with
    | @tup a vs _ hq rs =>
      refine .inl (.inl ⟨a, vs, rfl, hq.sq, fun hw => ?_, fun _ => hQ.newTup S rs.cut q⟩)
      rw [← rs.length] at hw
      rw [cut_whole hw] at q
      exact hQ.here S (.tup hq rs) q
  · by_cases hs : ∃ z, u = .str z
    · obtain ⟨z, rfl⟩ := hs
      cases e
      cases rx with
      | str _ l =>
        refine .inr ⟨z, rfl, l, hQ.here S (.str _ ?_) q⟩
        have : (cutS z i j).length ≤ z.length := by
          show (((z.cps.toList.drop (HT.sIx z.length 0 i)).take (HT.sIx z.length z.length j - HT.sIx z.length 0 i)).toArray).size ≤ z.cps.size
          simp only [List.size_toArray, List.length_take, List.length_drop, Array.length_toList]
          omega
        omega
    have e2 : ∃ xs, seqOf η u = some xs ∧ t = .cl (cutT xs i j) := by
      cases u <;> first
        | exact absurd ⟨_, rfl⟩ hu
        | exact absurd ⟨_, rfl⟩ hs
        | (unfold slcV at e
           simp only [Option.map_eq_some_iff] at e
           obtain ⟨xs, e1, e2⟩ := e
           exact ⟨xs, e1, e2.symm⟩)
    obtain ⟨xs, e1, rfl⟩ := e2
    obtain ⟨a, vs, rfl, hL, rs⟩ := seq_list S (fun ys z => hu ⟨ys, z⟩) e1 rx
    exact .inl (.inr ⟨a, vs, rfl, hL, hQ.newCl S rs.cut q⟩)
theorem sim_slcM {u : T} {x : V} {i j : Option Int} {Q : VK} {K : KE} (rx : ValR G H η u x) (S : StoR G H η) (h : optF (slcMV u i j η) fun ts => ∀ p, get η p = none → K (.ref p) ((p, .lst ts) :: η)) (hQ : HQ G Q H η K) : rSlAll G.K x i j H Q := by
  obtain ⟨ts, e, q⟩ := optF_inv h
  have hu : ∀ xs, u ≠ .tup xs := fun xs z => by subst z; cases e
  have e2 : ∃ xs, seqOf η u = some xs ∧ ts = cutT xs i j := by
    cases u <;> first
      | exact absurd rfl (hu _)
      | (unfold slcMV at e
         simp only [Option.map_eq_some_iff] at e
         obtain ⟨xs, e1, e2⟩ := e
         exact ⟨xs, e1, e2.symm⟩)
  obtain ⟨xs, e1, rfl⟩ := e2
  obtain ⟨a, vs, rfl, hL, rs⟩ := seq_list S hu e1 rx
  exact .inl (.inr ⟨a, vs, rfl, hL, hQ.newLst S rs.cut q⟩)
end
/-! a slice's parts -/
abbrev TO' := Env → Sto → KX → (Option Int → Sto → Prop) → Prop
def HO' (G : Glob) (Q : Option Int → Hp → Prop) (H : Hp) (η : Sto) (K : Option Int → Sto → Prop) : Prop := ∀ b η' H', StoR G H' η' → Frm η H η' H' → K b η' → Q b H'
theorem HO'.frm {G : Glob} {H H1 : Hp} {η η1 : Sto} {Q : Option Int → Hp → Prop} {K : Option Int → Sto → Prop} (f : Frm η H η1 H1) (h : HO' G Q H η K) : HO' G Q H1 η1 K := fun t η' H' b c q => h t η' H' b (f.trans c) q
def liftO (G : Glob) (W : WX) (t : TO') : L2.TO := fun σ H Q => ∃ ρ η X K, EnvR G H η σ ρ ∧ StoR G H η ∧ t ρ η X K ∧ HX G W σ H η X ∧ HO' G Q H η K
theorem _root_.L2.PO.imp {X : Cx} {e : Option Expr} {t u : L2.TO} (h : PO X e t) (i : ∀ σ H Q, u σ H Q → t σ H Q) : PO X e u := ⟨fun pins s σ H Q I q => h.run pins s σ H Q I (i σ H Q q)⟩
section
variable {G : Glob} {W : WX} {X : Cx} {a b c : Expr} {ta tb tc : TE'} {pos : Pos} {es : List Expr} {n : Nat} {tl : TL'} {tO tO2 : TO'} {lo hi : Option Expr} {p2 : Pos}
theorem o_none : PO X none (liftO G W fun _ η _ K => K none η) := po_none.imp fun σ H Q ⟨ρ, η, Y, K, hρ, hS, ht, hX, hQ⟩ => hQ none η H hS .refl ht
theorem o_some (ha : PE X a (liftE G W ta)) : PO X (some a) (liftO G W fun ρ η X K => ta ρ η X fun u η1 => optF (intV u) fun i => K (some i) η1) := (po_some ha).imp fun σ H Q ⟨ρ, η, Y, K, hρ, hS, ht, hX, hQ⟩ =>
  lift1 hρ hS ht hX fun u x η1 H1 rx S1 f1 k1 => by
    obtain ⟨t, e, q⟩ := optF_inv k1
    cases rx <;> cases e
    exact ⟨_, rfl, hQ _ η1 H1 S1 f1 q⟩
theorem q_idx (ha : PE X a (liftE G W ta)) (hb : PE X b (liftE G W tb)) (hK : X.K = G.K) (hs : PlainIx b) : PE X (.Subscript a b pos) (liftE G W fun ρ η X K => ta ρ η X fun u η1 => tb ρ η1 X fun w η2 => optF (idxV η2 u w) fun t => K t η2) := by
  have h : IxR X (rIxLT G.K) := by rw [← hK]; exact ix_lt
  exact (pe_ix h ha hb hs).imp fun _ _ _ h => op2 (f := fun u w η K => optF (idxV η u w) fun t => K t η) sim_idx h
theorem q_slc (ha : PE X a (liftE G W ta)) (hl : PO X lo (liftO G W tO)) (hh : PO X hi (liftO G W tO2)) (hK : X.K = G.K) :
    PE X (.Subscript a (.Slice lo hi none p2) pos) (liftE G W fun ρ η X K => ta ρ η X fun u η1 => tO ρ η1 X fun i η2 => tO2 ρ η2 X fun j η3 => optF (slcV u i j η3) fun t => K t η3) := by
  have h : SlR X (rSlAll G.K) := by rw [← hK]; exact sl_all
  exact (pe_slice h ha hl hh).imp fun σ H Q ⟨ρ, η, Y, K, hρ, hS, ht, hX, hQ⟩ => lift1 hρ hS ht hX fun u x η1 H1 rx S1 f1 k1 =>
    ⟨ρ, η1, Y, _, hρ.frm f1, S1, k1, hX.frm f1, fun i η2 H2 S2 f2 k2 => ⟨ρ, η2, Y, _, (hρ.frm f1).frm f2, S2, k2, (hX.frm f1).frm f2, fun j η3 H3 S3 f3 k3 => sim_slc ((rx.frm f2).frm f3) S3 k3 (((hQ.frm f1).frm f2).frm f3)⟩⟩
theorem q_slcM (ha : PE X a (liftE G W ta)) (hl : PO X lo (liftO G W tO)) (hh : PO X hi (liftO G W tO2)) (hK : X.K = G.K) :
    PE X (.Subscript a (.Slice lo hi none p2) pos) (liftE G W fun ρ η X K => ta ρ η X fun u η1 => tO ρ η1 X fun i η2 => tO2 ρ η2 X fun j η3 => optF (slcMV u i j η3) fun ts => ∀ p, get η3 p = none → K (.ref p) ((p, .lst ts) :: η3)) := by
  have h : SlR X (rSlAll G.K) := by rw [← hK]; exact sl_all
  exact (pe_slice h ha hl hh).imp fun σ H Q ⟨ρ, η, Y, K, hρ, hS, ht, hX, hQ⟩ => lift1 hρ hS ht hX fun u x η1 H1 rx S1 f1 k1 =>
    ⟨ρ, η1, Y, _, hρ.frm f1, S1, k1, hX.frm f1, fun i η2 H2 S2 f2 k2 => ⟨ρ, η2, Y, _, (hρ.frm f1).frm f2, S2, k2, (hX.frm f1).frm f2, fun j η3 H3 S3 f3 k3 => sim_slcM ((rx.frm f2).frm f3) S3 k3 (((hQ.frm f1).frm f2).frm f3)⟩⟩
/-! names -/
theorem q_var {i : Nat} {x : Str} {p : Pos} (hN : X.N[i]? = some x) (hv : Vis X.env.scope x) (hd : (x == ("__debug__" : Str)) = false) (hcd : (x == ("__classdict__" : Str)) = false) : PE X (.Name x p) (liftE G W fun ρ η _ K => optF (nth ρ.v i) fun t => K t η) :=
  (pe_var hN hv hd hcd).imp fun σ H Q ⟨ρ, η, Y, K, hρ, hS, ht, hX, hQ⟩ => by
    obtain ⟨t, e, q⟩ := optF_inv ht
    obtain ⟨v, e2, r⟩ := hρ.val i t e
    exact ⟨v, e2, hQ.here hS r q⟩
theorem q_non {j} : PE X (.Constant .none j pos) (liftE G W fun _ η _ K => K .non η) := pe_non.imp fun σ H Q ⟨ρ, η, Y, K, hρ, hS, ht, hX, hQ⟩ => hQ.here hS .non ht
theorem q_bl {v j} : PE X (.Constant (.bool v) j pos) (liftE G W fun _ η _ K => K (.bl v) η) := pe_bl.imp fun σ H Q ⟨ρ, η, Y, K, hρ, hS, ht, hX, hQ⟩ => hQ.here hS (.bl _) ht
theorem q_int {v j} : PE X (.Constant (.int v) j pos) (liftE G W fun _ η _ K => K (.int v) η) := pe_int.imp fun σ H Q ⟨ρ, η, Y, K, hρ, hS, ht, hX, hQ⟩ => hQ.here hS (.int _) ht
theorem q_str {v : Str} {j} (h : v.length ≤ sizeLine) : PE X (.Constant (.str v) j pos) (liftE G W fun _ η _ K => K (.str v) η) := pe_str.imp fun σ H Q ⟨ρ, η, Y, K, hρ, hS, ht, hX, hQ⟩ => hQ.here hS (.str _ h) ht
/-- a constant of the module -/
def KValR (G : Glob) (t : T) (v : V) : Prop := ∀ H η, ValR G H η t v
theorem q_glob {x : Str} {t : T} {v : V} {u : Value} {p : Pos} (hg : Gl X x) (hm : X.mg x = some u) (r : RelV v u) (k : KValR G t v) (hd : (x == ("__debug__" : Str)) = false) : PE X (.Name x p) (liftE G W fun _ η _ K => K t η) :=
  (pe_glob hg hm r hd).imp fun σ H Q ⟨ρ, η, Y, K, hρ, hS, ht, hX, hQ⟩ => hQ.here hS (k H η) ht
/-! isinstance -/
theorem q_isinst {ty : Ty} {p p1 : Pos} (hg : Gl X "isinstance") (hm : X.mg "isinstance" = none) (hg2 : Gl X (Str.ofString (tyName ty))) (hm2 : X.mg (Str.ofString (tyName ty)) = none) (ha : PE X a (liftE G W ta)) (hK : X.K = G.K)
    (hs : starEach (a :: [.Name (Str.ofString (tyName ty)) p1]) X.env = (false, eval a X.env) :: starEach [.Name (Str.ofString (tyName ty)) p1] X.env) :
    PE X (.Call (.Name "isinstance" p) [a, .Name (Str.ofString (tyName ty)) p1] [] pos) (liftE G W fun ρ η X K => ta ρ η X fun u η1 => optF (isT η1 ty u) fun b => K (.bl b) η1) := by
  have hn : PE X (.Name (Str.ofString (tyName ty)) p1) (tC (.ty (tyName ty))) := by
    cases ty <;> exact pe_bltn hg2 hm2 (by decide +kernel) rfl (by decide) (by decide)
  refine (pe_callB call_isi hg hm (by decide +kernel) (pa_cons ha (pa_cons hn pa_nil (by cases ty <;> rfl)) hs) (by decide) (by decide) hs (by cases ty <;> rfl)).imp fun σ H Q ⟨ρ, η, Y, K, hρ, hS, ht, hX, hQ⟩ => ?_
  refine lift1 hρ hS ht hX fun u x η1 H1 rx S1 f1 k1 => ?_
  obtain ⟨b, e, q⟩ := optF_inv k1
  obtain ⟨t, h1, h2⟩ := isT_val e rx
  exact ⟨x, .ty (tyName ty), t, .type (tyName ty), b, rfl, .ty _, by rw [hK]; exact h1, by rw [hK]; exact h2, (hQ.frm f1).here S1 (.bl _) q⟩
end
end TL

/-! calls of the program's own defs; built-ins; lists by value -/
namespace TL
open PySem PySem.Spec PyProof.Rows L2
/-- what a def promises -/
def prom (G : Glob) (np : Nat) (Φ : List T → Sto → KX → KE → Prop) : Sp := fun vs H Q E => ∃ ts η X K, ts.length = np ∧ ValsR G H η ts vs ∧ StoR G H η ∧ Φ ts η X K ∧
  (∀ e η' cls d H', ExR G H' η' e cls d → StoR G H' η' → Frm η H η' H' → X e η' → E cls d H') ∧ HQ G Q H η K
theorem prom_len {G : Glob} {np : Nat} {Φ : List T → Sto → KX → KE → Prop} {vs : List V} {H : Hp} {Q : VK} {E : XK} (h : prom G np Φ vs H Q E) : vs.length = np := by
  obtain ⟨ts, η, X, K, l, r, _⟩ := h
  rw [← r.length, l]
/-- a def of the program stands where it should, and keeps the promise of its level -/
structure FnK (G : Glob) (n : Nat) (Φ : List T → Sto → KX → KE → Prop) (nm : Str) (ps : List Str) (f : Addr) (fd : FuncData) : Prop where
  ok : ∀ Z, FnOk G.P G.w G.K G.mg G.base (L2.CX G.P G.w) n f fd ps (prom { G with Z := Z } ps.length Φ)
  mg : G.mg nm = some (.ref f)
  kp : PySem.W.keepIn G.K (.ref f) = true
  bd : Binds G.K fd ps []
/-- the context is the law's -/
structure XG (G : Glob) (n : Nat) (W : WX) (X : Cx) : Prop where
  P : X.prog = G.P
  w : X.w = G.w
  K : X.K = G.K
  mg : X.mg = G.mg
  base : X.base = G.base
  calm : X.calm = true
  room : Room n X.A
  tk : Takes X W
section
variable {G : Glob} {W : WX} {X : Cx} {a b c : Expr} {ta tb tc : TE'} {pos : Pos} {es : List Expr} {n m : Nat} {tl tl2 : TL'}
theorem q_call {Φ : List T → Sto → KX → KE → Prop} {nm : Str} {ps : List Str} {f : Addr} {fd : FuncData} {p : Pos} (o : XG G n W X) (F : FnK G m Φ nm ps f fd) (hmn : m ≤ n) (hg : Gl X nm) (ha : PA X (a :: es) (liftL G W ps.length tl)) (hdb : (nm == ("__debug__" : Str)) = false)
    (he : starEach (a :: es) X.env = (false, eval a X.env) :: starEach es X.env) (hpl : (backTo pos (starEach es X.env)).any (·.1) = false) :
    PE X (.Call (.Name nm p) (a :: es) [] pos) (liftE G W fun ρ η X K => tl ρ η X fun ts η' => Φ ts η' X K) := by
  have F1 : FnOk X.prog X.w X.K X.mg X.base (L2.CX X.prog X.w) m f fd ps (prom G ps.length Φ) := by rw [o.P, o.w, o.K, o.mg, o.base]; exact F.ok G.Z
  refine (pe_callSD (E := fun σ => WE W σ) (dvs := []) (ds := []) F1 (o.room.mono hmn) hg (by rw [o.mg]; exact F.mg) (by rw [o.K]; exact F.kp) (by rw [o.K]; exact F.bd) .nil (fun σ => passAt o.tk σ) ha hdb he hpl).imp fun σ H Q ⟨ρ, η, Y, K, hρ, hS, ht, hX, hQ⟩ => ?_
  refine liftN hρ hS ht hX fun ts vs η2 H2 l r S2 f2 k => ?_
  rw [List.append_nil]
  exact ⟨ts, η2, Y, K, l, r, S2, k, fun e η' cls d H' a b c q => hX.frm f2 e η' cls d H' a b c q, hQ.frm f2⟩
/-- a list that is read -/
theorem lst_val {H : Hp} {η : Sto} {t : T} {v : V} {xs : List T} (S : StoR G H η) (e : lstOf η t = some xs) (r : ValR G H η t v) : ∃ a vs, v = .ref a ∧ SqL G.K H a vs ∧ ValsR G H η xs vs := by
  cases r with
  | cl h rs => cases e; exact ⟨_, _, rfl, h.sq, rs⟩
  | ref a =>
    unfold lstOf at e
    simp only at e
    cases g : get η a with
    | none => rw [g] at e; cases e
    | some o =>
      rw [g] at e
      cases o with
      | lst ts =>
        cases e
        obtain ⟨vs, h, rs⟩ := S.ob a _ g
        exact ⟨a, vs, rfl, SqL.of h, rs⟩
      | _ => cases e
  | _ => cases e
/-! list + list -/
def rCatQ (K : PySem.W.Frag) : R2 := fun x y H Q => ∃ l b xs zs, x = .ref l ∧ y = .ref b ∧ SqL K H l xs ∧ SqL K H b zs ∧ xs.length + zs.length ≤ sizeLine ∧ ∀ p, H p = none → Q (.ref p) (upd H p (.lst (xs ++ zs)))
theorem op_catQ : OpR X (binaryOp .Add) (rCatQ X.K) := by
  intro pins s σ H x y v u Q I rx ry h
  obtain ⟨l, b, xs, zs, rfl, rfl, hl, hb, hz, q⟩ := h
  cases rx
  cases ry
  obtain ⟨its, r, p1, _⟩ := I.list hl
  obtain ⟨its2, r2, p2, _⟩ := I.list hb
  obtain ⟨⟨cls, dd, data, sl⟩, n, ho, hc, _, hd⟩ := p1
  obtain ⟨⟨cls2, dd2, data2, sl2⟩, n2, ho2, hc2, _, hd2⟩ := p2
  simp only at hc hd hc2 hd2
  subst hc hd hc2 hd2
  have l1 := r.length
  have l2 := r2.length
  have hsz : its.toArray.size + its2.toArray.size ≤ sizeLine := by simp; omega
  refine concat_meets ⟨_, ho, rfl⟩ ⟨_, ho2, rfl⟩ noFill_list_add seq_list_add PySem.F.slot_list_add PySem.F.entry_list_add (PySem.F.args_list_add_2 _ _) (list_addW l b its.toArray its2.toArray n n2 dd dd2 sl sl2 hsz) ⟨ho, ho2, ?_⟩
  have ea : its.toArray ++ its2.toArray = (its ++ its2).toArray := by simp
  rw [ea]
  exact ⟨.ref _, _, I.lnew (t' := s.toks) (r.append r2) (by rw [List.length_append]; omega), rfl, q _ I.fresh⟩
/-! all, any, sum, tuple, list -/
theorem blsOf_V {H : Hp} {η : Sto} : ∀ {ts : List T} {vs : List V} {bs : List Bool}, blsOf ts = some bs → ValsR G H η ts vs → vs = bs.map V.bl
  | [], _, _, e, r => by cases r; cases e; rfl
  | t :: ts, _, bs, e, r => by
    cases r with
    | cons h r =>
      cases t <;> first
        | (unfold blsOf at e
           simp only [Option.map_eq_some_iff] at e
           obtain ⟨bs', e1, rfl⟩ := e
           cases h
           rw [List.map_cons, blsOf_V e1 r])
        | cases e
theorem intsOf_V {H : Hp} {η : Sto} : ∀ {ts : List T} {vs : List V} {bs : List Int}, intsOf ts = some bs → ValsR G H η ts vs → vs = bs.map V.int
  | [], _, _, e, r => by cases r; cases e; rfl
  | t :: ts, _, bs, e, r => by
    cases r with
    | cons h r =>
      cases t <;> first
        | (unfold intsOf at e
           simp only [Option.map_eq_some_iff] at e
           obtain ⟨bs', e1, rfl⟩ := e
           cases h
           rw [List.map_cons, intsOf_V e1 r])
        | cases e
def aggName : Agg → Str
  | .all => "all" | .any => "any" | .sum => "sum" | .tuple => "tuple" | .list => "list" | .listM => "list" | .max => "max" | .min => "min"
theorem one_star (X : Cx) (h : starEach [a] X.env = (false, eval a X.env) :: starEach [] X.env) {r : List V → Hp → VK → Prop} {id : String} {x : Str} {p : Pos} {t : TE} (hc : CallR X (.builtin id) r) (hg : Gl X x) (hm : X.mg x = none) (hv : bootBuiltins x = some (.builtin id)) (ha : PE X a t)
    (hn : x ≠ "__name__") (hdb : (x == ("__debug__" : Str)) = false) : PE X (.Call (.Name x p) [a] [] pos) (tCB r (tCons t tNil)) :=
  pe_callB hc hg hm hv (pa_cons ha pa_nil h) hn hdb h (by rfl)
theorem q_all {p : Pos} (o : XG G n W X) (hg : Gl X "all") (hm : X.mg "all" = none) (ha : PE X a (liftE G W ta)) (hs : starEach [a] X.env = (false, eval a X.env) :: starEach [] X.env) :
    PE X (.Call (.Name "all" p) [a] [] pos) (liftE G W fun ρ η X K => ta ρ η X fun u η1 => optF (aggS .all η1 u) fun ts => aggF .all ts η1 K) :=
  (one_star X hs (cr_all o.calm) hg hm (by decide +kernel) ha (by decide) (by decide)).imp fun σ H Q ⟨ρ, η, Y, K, hρ, hS, ht, hX, hQ⟩ => lift1 hρ hS ht hX fun u x η2 H2 r S2 f2 k => by
    obtain ⟨ts, e0, k⟩ := optF_inv k
    obtain ⟨t, e, q⟩ := optF_inv (show optF (aggV .all ts) (fun t => K t η2) from k)
    obtain ⟨bs, e1, rfl⟩ := Option.map_eq_some_iff.mp e
    obtain ⟨a, vs, rfl, h1, rs⟩ := lst_val S2 (show lstOf η2 u = some ts from e0) r
    rw [blsOf_V e1 rs] at h1
    exact ⟨a, bs, rfl, by rw [o.K]; exact h1, (hQ.frm f2).here S2 (.bl _) q⟩
theorem q_any {p : Pos} (o : XG G n W X) (hg : Gl X "any") (hm : X.mg "any" = none) (ha : PE X a (liftE G W ta)) (hs : starEach [a] X.env = (false, eval a X.env) :: starEach [] X.env) :
    PE X (.Call (.Name "any" p) [a] [] pos) (liftE G W fun ρ η X K => ta ρ η X fun u η1 => optF (aggS .any η1 u) fun ts => aggF .any ts η1 K) :=
  (one_star X hs (cr_any o.calm) hg hm (by decide +kernel) ha (by decide) (by decide)).imp fun σ H Q ⟨ρ, η, Y, K, hρ, hS, ht, hX, hQ⟩ => lift1 hρ hS ht hX fun u x η2 H2 r S2 f2 k => by
    obtain ⟨ts, e0, k⟩ := optF_inv k
    obtain ⟨t, e, q⟩ := optF_inv (show optF (aggV .any ts) (fun t => K t η2) from k)
    obtain ⟨bs, e1, rfl⟩ := Option.map_eq_some_iff.mp e
    obtain ⟨a, vs, rfl, h1, rs⟩ := lst_val S2 (show lstOf η2 u = some ts from e0) r
    rw [blsOf_V e1 rs] at h1
    exact ⟨a, bs, rfl, by rw [o.K]; exact h1, (hQ.frm f2).here S2 (.bl _) q⟩
theorem q_sum {p : Pos} (o : XG G n W X) (hg : Gl X "sum") (hm : X.mg "sum" = none) (ha : PE X a (liftE G W ta)) (hs : starEach [a] X.env = (false, eval a X.env) :: starEach [] X.env) :
    PE X (.Call (.Name "sum" p) [a] [] pos) (liftE G W fun ρ η X K => ta ρ η X fun u η1 => optF (aggS .sum η1 u) fun ts => aggF .sum ts η1 K) :=
  (one_star X hs (cr_sum o.calm) hg hm (by decide +kernel) ha (by decide) (by decide)).imp fun σ H Q ⟨ρ, η, Y, K, hρ, hS, ht, hX, hQ⟩ => lift1 hρ hS ht hX fun u x η2 H2 r S2 f2 k => by
    obtain ⟨ts, e0, k⟩ := optF_inv k
    obtain ⟨t, e, q⟩ := optF_inv (show optF (aggV .sum ts) (fun t => K t η2) from k)
    obtain ⟨bs, e1, rfl⟩ := Option.map_eq_some_iff.mp e
    obtain ⟨a, vs, rfl, h1, rs⟩ := lst_val S2 (show lstOf η2 u = some ts from e0) r
    rw [intsOf_V e1 rs] at h1
    exact ⟨a, bs, rfl, by rw [o.K]; exact h1, (hQ.frm f2).here S2 (.int _) q⟩
theorem q_tuple {p : Pos} (o : XG G n W X) (hg : Gl X "tuple") (hm : X.mg "tuple" = none) (ha : PE X a (liftE G W ta)) (hs : starEach [a] X.env = (false, eval a X.env) :: starEach [] X.env) :
    PE X (.Call (.Name "tuple" p) [a] [] pos) (liftE G W fun ρ η X K => ta ρ η X fun u η1 => optF (aggS .tuple η1 u) fun ts => aggF .tuple ts η1 K) :=
  (pe_callTy cr_tupF hg hm (by decide +kernel) (pa_cons ha pa_nil hs) (by decide) (by decide) hs (by rfl)).imp fun σ H Q ⟨ρ, η, Y, K, hρ, hS, ht, hX, hQ⟩ => lift1 hρ hS ht hX fun u x η2 H2 rx S2 f2 k => by
    obtain ⟨ts, e0, k⟩ := optF_inv k
    have k : K (.tup ts) η2 := k
    rw [o.K]
    obtain ⟨a, vs, rfl, rs, h | h | h⟩ := (seqR_of S2 (show seqOf η2 u = some ts from e0) rx).ex
    · exact ⟨a, vs, rfl, .inl ⟨h.2.sq, (hQ.frm f2).newTup S2 rs k⟩⟩
    · exact ⟨a, vs, rfl, .inr ⟨h.2.sq, (hQ.frm f2).here S2 (.tup h.2 rs) k⟩⟩
    · exact ⟨a, vs, rfl, .inl ⟨SqL.of h.2.1, (hQ.frm f2).newTup S2 rs k⟩⟩
theorem q_list {p : Pos} (o : XG G n W X) (hg : Gl X "list") (hm : X.mg "list" = none) (ha : PE X a (liftE G W ta)) (hs : starEach [a] X.env = (false, eval a X.env) :: starEach [] X.env) :
    PE X (.Call (.Name "list" p) [a] [] pos) (liftE G W fun ρ η X K => ta ρ η X fun u η1 => optF (aggS .list η1 u) fun ts => aggF .list ts η1 K) :=
  (pe_callTy call_list_of hg hm (by decide +kernel) (pa_cons ha pa_nil hs) (by decide) (by decide) hs (by rfl)).imp fun σ H Q ⟨ρ, η, Y, K, hρ, hS, ht, hX, hQ⟩ => lift1 hρ hS ht hX fun u x η2 H2 rx S2 f2 k => by
    obtain ⟨ts, e0, k⟩ := optF_inv k
    have k : K (.cl ts) η2 := k
    obtain ⟨a, vs, rfl, rs, h⟩ := (seqR_of S2 (show seqOf η2 u = some ts from e0) rx).sq
    exact ⟨a, vs, rfl, by rw [o.K]; exact h, (hQ.frm f2).newCl S2 rs k⟩
theorem q_listM {p : Pos} (o : XG G n W X) (hg : Gl X "list") (hm : X.mg "list" = none) (ha : PE X a (liftE G W ta)) (hs : starEach [a] X.env = (false, eval a X.env) :: starEach [] X.env) :
    PE X (.Call (.Name "list" p) [a] [] pos) (liftE G W fun ρ η X K => ta ρ η X fun u η1 => optF (aggS .listM η1 u) fun ts => aggF .listM ts η1 K) :=
  (pe_callTy call_list_of hg hm (by decide +kernel) (pa_cons ha pa_nil hs) (by decide) (by decide) hs (by rfl)).imp fun σ H Q ⟨ρ, η, Y, K, hρ, hS, ht, hX, hQ⟩ => lift1 hρ hS ht hX fun u x η2 H2 rx S2 f2 k => by
    obtain ⟨ts, e0, k⟩ := optF_inv k
    have k : ∀ p, get η2 p = none → K (.ref p) ((p, .lst ts) :: η2) := k
    obtain ⟨a, vs, rfl, rs, h⟩ := (seqR_of S2 (show seqOf η2 u = some ts from e0) rx).sq
    exact ⟨a, vs, rfl, by rw [o.K]; exact h, (hQ.frm f2).newLst S2 rs k⟩
/-! built-ins of values -/
theorem lenT_V {H : Hp} {η : Sto} {t : T} {v : V} {k : Nat} (S : StoR G H η) (e : lenT η t = some k) (r : ValR G H η t v) :
    (∃ z, v = .str z ∧ z.length ≤ sizeLine ∧ k = z.length) ∨ (∃ p ys, v = .ref p ∧ (SqL G.K H p ys ∨ SqT G.K H p ys) ∧ k = ys.length) ∨ ∃ p kvs, v = .ref p ∧ H p = some (.dK kvs) ∧ k = kvs.length := by
  by_cases hs : ∃ xs, seqOf η t = some xs
  · obtain ⟨xs, hs⟩ := hs
    obtain ⟨a, vs, rfl, hq, rs⟩ := seq_val S hs r
    refine .inr (.inl ⟨a, vs, rfl, hq, ?_⟩)
    rw [← rs.length]
    cases t <;> first
      | (cases hs; done)
      | (cases hs
         cases e
         rfl)
      | (have e : (seqOf η (.ref _)).map List.length = some k := e
         rw [hs] at e
         cases e
         rfl)
  · cases r with
    | str s l => cases e; exact .inl ⟨s, rfl, l, rfl⟩
    | dct h n kr rs =>
      cases e
      refine .inr (.inr ⟨_, _, rfl, h, ?_⟩)
      rw [kr.length, List.length_map]
    | tup h rs => exact absurd ⟨_, rfl⟩ hs
    | cl h rs => exact absurd ⟨_, rfl⟩ hs
    | ref a =>
      have e : (seqOf η (.ref a)).map List.length = some k := e
      cases g : seqOf η (.ref a) with
      | none => rw [g] at e; cases e
      | some xs => exact absurd ⟨_, g⟩ hs
    | _ => cases e
theorem callR_or {f : Value} {r r' : List V → Hp → VK → Prop} (h : CallR X f r) (h' : CallR X f r') : CallR X f fun xs H Q => r xs H Q ∨ r' xs H Q := fun pins s σ H xs us Q I rv q => q.elim (h pins s σ H xs us Q I rv) (h' pins s σ H xs us Q I rv)
theorem call_lenAll : CallR X (.builtin "len") (fun xs H Q => (∃ z, xs = [.str z] ∧ z.length ≤ sizeLine ∧ Q (.int z.length) H) ∨ (∃ p ys, xs = [.ref p] ∧ (SqL X.K H p ys ∨ SqT X.K H p ys) ∧ Q (.int ys.length) H) ∨ ∃ x m, xs = [x] ∧ LenV X.K x H m ∧ Q (.int m) H) :=
  callR_or call_len_str (callR_or call_len_seq call_len)
theorem q_len {p : Pos} (o : XG G n W X) (hg : Gl X "len") (hm : X.mg "len" = none) (ha : PE X a (liftE G W ta)) (hs : starEach [a] X.env = (false, eval a X.env) :: starEach [] X.env) :
    PE X (.Call (.Name "len" p) [a] [] pos) (liftE G W fun ρ η X K => ta ρ η X fun t η1 => optF (bltV .len [t] η1) fun t => K t η1) :=
  (one_star X hs (callR_or call_lenD call_lenAll) hg hm (by decide +kernel) ha (by decide) (by decide)).imp fun σ H Q ⟨ρ, η, Y, K, hρ, hS, ht, hX, hQ⟩ => lift1 hρ hS ht hX fun t x η2 H2 r S2 f2 k => by
    obtain ⟨u, e, q⟩ := optF_inv k
    obtain ⟨m, e1, rfl⟩ := Option.map_eq_some_iff.mp e
    have q' := (hQ.frm f2).here S2 (.int _) q
    rcases lenT_V S2 e1 r with ⟨z, rfl, h, rfl⟩ | ⟨p, ys, rfl, h, rfl⟩ | ⟨p, kvs, rfl, h, rfl⟩
    · exact .inr (.inl ⟨z, rfl, h, q'⟩)
    · exact .inr (.inr (.inl ⟨p, ys, rfl, by rw [o.K]; exact h, q'⟩))
    · exact .inl ⟨p, kvs, rfl, h, q'⟩
theorem q_abs {p : Pos} (hg : Gl X "abs") (hm : X.mg "abs" = none) (ha : PE X a (liftE G W ta)) (hs : starEach [a] X.env = (false, eval a X.env) :: starEach [] X.env) :
    PE X (.Call (.Name "abs" p) [a] [] pos) (liftE G W fun ρ η X K => ta ρ η X fun t η1 => optF (bltV .abs [t] η1) fun t => K t η1) :=
  (one_star X hs call_abs hg hm (by decide +kernel) ha (by decide) (by decide)).imp fun σ H Q ⟨ρ, η, Y, K, hρ, hS, ht, hX, hQ⟩ => lift1 hρ hS ht hX fun t x η2 H2 r S2 f2 k => by
    obtain ⟨u, e, q⟩ := optF_inv k
    cases r <;> cases e
    exact ⟨_, rfl, (hQ.frm f2).here S2 (.int _) q⟩
theorem q_int1 {p : Pos} (hg : Gl X "int") (hm : X.mg "int" = none) (ha : PE X a (liftE G W ta)) (hs : starEach [a] X.env = (false, eval a X.env) :: starEach [] X.env) :
    PE X (.Call (.Name "int" p) [a] [] pos) (liftE G W fun ρ η X K => ta ρ η X fun t η1 => optF (bltV .int [t] η1) fun t => K t η1) :=
  (pe_callTy call_int1 hg hm (by decide +kernel) (pa_cons ha pa_nil hs) (by decide) (by decide) hs (by rfl)).imp fun σ H Q ⟨ρ, η, Y, K, hρ, hS, ht, hX, hQ⟩ => lift1 hρ hS ht hX fun t x η2 H2 r S2 f2 k => by
    obtain ⟨u, e, q⟩ := optF_inv k
    cases r <;> cases e
    · exact .inr ⟨_, rfl, (hQ.frm f2).here S2 (.int _) q⟩
    · exact .inl ⟨_, rfl, (hQ.frm f2).here S2 (.int _) q⟩
theorem q_two {id : String} {nm : Str} {bt : Blt} {r : List V → Hp → VK → Prop} {p : Pos} (hc : CallR X (.builtin id) r) (hg : Gl X nm) (hm : X.mg nm = none) (hv : bootBuiltins nm = some (.builtin id)) (ha : PE X a (liftE G W ta)) (hb : PE X b (liftE G W tb)) (hs : starEach [a, b] X.env = (false, eval a X.env) :: starEach [b] X.env) (hs2 : starEach [b] X.env = (false, eval b X.env) :: starEach [] X.env)
    (hn : nm ≠ "__name__") (hdb : (nm == ("__debug__" : Str)) = false) (hr : ∀ t u x y η H Q K, ValR G H η t x → ValR G H η u y → StoR G H η → (optF (bltV bt [t, u] η) fun t => K t η) → HQ G Q H η K → r [x, y] H Q) :
    PE X (.Call (.Name nm p) [a, b] [] pos) (liftE G W fun ρ η X K => ta ρ η X fun t η1 => tb ρ η1 X fun u η2 => optF (bltV bt [t, u] η2) fun t => K t η2) :=
  (pe_callB hc hg hm hv (pa_cons ha (pa_cons hb pa_nil hs2) hs) hn hdb hs (by rw [hs2]; rfl)).imp fun σ H Q ⟨ρ, η, Y, K, hρ, hS, ht, hX, hQ⟩ => lift2 hρ hS ht hX fun t u x y η2 H2 rx ry S2 f2 k =>
    hr t u x y η2 H2 Q K rx ry S2 k (hQ.frm f2)
theorem q_max2 {p : Pos} (o : XG G n W X) (hg : Gl X "max") (hm : X.mg "max" = none) (ha : PE X a (liftE G W ta)) (hb : PE X b (liftE G W tb)) (hs : starEach [a, b] X.env = (false, eval a X.env) :: starEach [b] X.env) (hs2 : starEach [b] X.env = (false, eval b X.env) :: starEach [] X.env) :
    PE X (.Call (.Name "max" p) [a, b] [] pos) (liftE G W fun ρ η X K => ta ρ η X fun t η1 => tb ρ η1 X fun u η2 => optF (bltV .max2 [t, u] η2) fun t => K t η2) :=
  q_two (call_max2 o.calm) hg hm (by decide +kernel) ha hb hs hs2 (by decide) (by decide) fun t u x y η H Q K rx ry S k hQ => by
    obtain ⟨w, e, q⟩ := optF_inv k
    cases rx <;> cases ry <;> cases e
    exact ⟨_, _, rfl, hQ.here S (.int _) q⟩
theorem q_min2 {p : Pos} (o : XG G n W X) (hg : Gl X "min") (hm : X.mg "min" = none) (ha : PE X a (liftE G W ta)) (hb : PE X b (liftE G W tb)) (hs : starEach [a, b] X.env = (false, eval a X.env) :: starEach [b] X.env) (hs2 : starEach [b] X.env = (false, eval b X.env) :: starEach [] X.env) :
    PE X (.Call (.Name "min" p) [a, b] [] pos) (liftE G W fun ρ η X K => ta ρ η X fun t η1 => tb ρ η1 X fun u η2 => optF (bltV .min2 [t, u] η2) fun t => K t η2) :=
  q_two (call_min2 o.calm) hg hm (by decide +kernel) ha hb hs hs2 (by decide) (by decide) fun t u x y η H Q K rx ry S k hQ => by
    obtain ⟨w, e, q⟩ := optF_inv k
    cases rx <;> cases ry <;> cases e
    exact ⟨_, _, rfl, hQ.here S (.int _) q⟩
/-! xs.append(e) -/
theorem starFew {e : Expr} (X : Cx) (p2 : Pos) (hs : starEach [e] X.env = (false, eval e X.env) :: starEach [] X.env) :
    ((backTo p2 (starEach [e] X.env)).all (fun x => !x.1) && (backToKw p2 (keywordEach [] X.env)).all (fun x => x.1.isSome) && decide ([e].length + ([] : List Keyword).length + (if ([] : List Keyword).isEmpty then 0 else 1) < 30)) = true := by
  rw [hs]; rfl
theorem q_append {p1 p2 : Pos} (o : XG G n W X) (ha : PE X a (liftE G W ta)) (hb : PE X b (liftE G W tb)) (hs : starEach [b] X.env = (false, eval b X.env) :: starEach [] X.env) (hbase : attributeBase a "append" X.env (eval a X.env) = eval a X.env) (hline : (p1.endLine == p2.line) = true) :
    PE X (.Call (.Attribute a "append" p1) [b] [] p2) (liftE G W fun ρ η X K => ta ρ η X fun u η1 => mthT .append u η1 = true ∧ tb ρ η1 X fun t η2 => mthG .append u [t] η2 ∧ optF (mthV .append u [t] η2) fun q => K q.1 q.2) :=
  (pe_bm PySem.F.plainAttrs_list PySem.F.slot_list_append PySem.F.type_list_append mt_append ha (pa_cons hb pa_nil hs) hbase (starFew X p2 hs) hline hs (by rfl)).imp fun σ H Q ⟨ρ, η, Y, K, hρ, hS, ht, hX, hQ⟩ => lift1 hρ hS ht hX fun u x η1 H1 rx S1 f1 ⟨hT, k1⟩ => by
    cases rx with
    | ref l =>
      have hT' : ∃ ts, get η1 l = some (.lst ts) := by
        unfold mthT at hT
        simp only at hT
        cases g : get η1 l with
        | none => rw [g] at hT; cases hT
        | some ob =>
          rw [g] at hT
          cases ob with
          | lst ts => exact ⟨ts, rfl⟩
          | _ => cases hT
      obtain ⟨ts, g⟩ := hT'
      obtain ⟨vs, h1, rs⟩ := S1.ob l _ g
      refine ⟨.inl ⟨rfl, vs, SqL.of h1⟩, lift1 (hρ.frm f1) S1 k1 (hX.frm f1) fun t y η2 H2 ry S2 f2 ⟨hg, k2⟩ => ?_⟩
      obtain ⟨q, e, k2⟩ := optF_inv k2
      unfold mthV at e
      unfold mthG at hg
      simp only at e hg
      cases g2 : get η2 l with
      | none => rw [g2] at e; cases e
      | some ob =>
        rw [g2] at e hg
        cases ob with
        | lst xs =>
          cases e
          obtain ⟨ws, h2, rw2⟩ := S2.ob l _ g2
          refine ⟨l, ws, y, rfl, rfl, h2, by rw [← rw2.length]; exact hg, ?_⟩
          exact (hQ.frm (f1.trans f2)) .non .non _ _ .non (S2.put (u := .lst (xs ++ [t])) g2 ⟨_, upd_same, (rw2.append (.cons ry .nil)).frm (Frm.put g2)⟩) (Frm.put g2) k2
        | _ => cases e
    | _ => cases hT
/-! xs + ys -/
theorem q_cat {x y : Expr} (o : XG G n W X) (ha : PE X x (liftE G W ta)) (hb : PE X y (liftE G W tb)) :
    PE X (.BinOp x .Add y pos) (liftE G W fun ρ η X K => ta ρ η X fun u η1 => tb ρ η1 X fun w η2 => optF (lstOf η2 u) fun xs => optF (lstOf η2 w) fun ys => xs.length + ys.length ≤ sizeLine ∧ ∀ p, get η2 p = none → K (.ref p) ((p, .lst (xs ++ ys)) :: η2)) :=
  (pe_op op_catQ ha hb).imp fun σ H Q ⟨ρ, η, Y, K, hρ, hS, ht, hX, hQ⟩ => lift2 hρ hS ht hX fun u w x y η2 H2 rx ry S2 f2 k => by
    obtain ⟨xs, e1, k⟩ := optF_inv k
    obtain ⟨ys, e2, hl, k2⟩ := optF_inv k
    obtain ⟨a, vs, rfl, h1, rs⟩ := lst_val S2 e1 rx
    obtain ⟨b, ws, rfl, h2, rs2⟩ := lst_val S2 e2 ry
    exact ⟨a, b, vs, ws, rfl, rfl, by rw [o.K]; exact h1, by rw [o.K]; exact h2, by rw [← rs.length, ← rs2.length]; exact hl, (hQ.frm f2).newLst S2 (rs.append rs2) k2⟩
theorem q_catV {x y : Expr} (o : XG G n W X) (ha : PE X x (liftE G W ta)) (hb : PE X y (liftE G W tb)) :
    PE X (.BinOp x .Add y pos) (liftE G W fun ρ η X K => ta ρ η X fun u η1 => tb ρ η1 X fun w η2 => optF (lstOf η2 u) fun xs => optF (lstOf η2 w) fun ys => xs.length + ys.length ≤ sizeLine ∧ K (.cl (xs ++ ys)) η2) :=
  (pe_op op_catQ ha hb).imp fun σ H Q ⟨ρ, η, Y, K, hρ, hS, ht, hX, hQ⟩ => lift2 hρ hS ht hX fun u w x y η2 H2 rx ry S2 f2 k => by
    obtain ⟨xs, e1, k⟩ := optF_inv k
    obtain ⟨ys, e2, hl, k2⟩ := optF_inv k
    obtain ⟨a, vs, rfl, h1, rs⟩ := lst_val S2 e1 rx
    obtain ⟨b, ws, rfl, h2, rs2⟩ := lst_val S2 e2 ry
    exact ⟨a, b, vs, ws, rfl, rfl, by rw [o.K]; exact h1, by rw [o.K]; exact h2, by rw [← rs.length, ← rs2.length]; exact hl, (hQ.frm f2).newCl S2 (rs.append rs2) k2⟩
end
end TL

/-! what is walked; comprehensions; loops -/
namespace TL
open PySem PySem.Spec PyProof.Rows L2
/-! ### another set of hidden lists -/
abbrev Glob.hid (G : Glob) (Z : Addr → Prop) : Glob := { G with Z := Z }
section
variable {G : Glob} {Z : Addr → Prop} {H H' : Hp} {η η' : Sto}
/-- what the values of H lean on stands in H' too, and is not hidden there -/
def Mv (G : Glob) (Z : Addr → Prop) (H H' : Hp) (η η' : Sto) : Prop := ∀ a o, H a = some o → get η a = none → ¬ G.Z a → H' a = some o ∧ get η' a = none ∧ ¬ Z a
theorem Rd.mv (c : Mv G Z H H' η η') {a : Addr} {u : HO} (h : Rd H a u) (e : get η a = none ∧ ¬ G.Z a) : Rd H' a u ∧ get η' a = none ∧ ¬ (G.hid Z).Z a := by
  rcases h with h | ⟨o, h⟩
  · exact ⟨.inl (c a _ h e.1 e.2).1, (c a _ h e.1 e.2).2⟩
  · exact ⟨.inr ⟨o, (c a _ h e.1 e.2).1⟩, (c a _ h e.1 e.2).2⟩
theorem FzT.mv (c : Mv G Z H H' η η') {a : Addr} {vs : List V} (h : FzT H a vs) (e : get η a = none ∧ ¬ G.Z a) : FzT H' a vs ∧ get η' a = none ∧ ¬ (G.hid Z).Z a := by
  obtain ⟨o, h, d⟩ := h
  exact ⟨⟨o, (c a _ h e.1 e.2).1, d⟩, (c a _ h e.1 e.2).2⟩
mutual
theorem ValR.mv (c : Mv G Z H H' η η') {t : T} {v : V} (h : ValR G H η t v) : ValR (G.hid Z) H' η' t v := by
  cases h with
  | non => exact .non
  | bl b => exact .bl b
  | int i => exact .int i
  | str s l => exact .str s l
  | ref a => exact .ref a
  | tup h r => exact .tup (h.imp (fun h => FzT.mv c h.1 h.2) id) (ValsR.mv c r)
  | cl h r => exact .cl (h.imp (fun h => Rd.mv c h.1 h.2) id) (ValsR.mv c r)
  | dct h e k r => exact .dct (c _ _ h e.1 e.2).1 (c _ _ h e.1 e.2).2 k (ValsR.mv c r)
theorem ValsR.mv (c : Mv G Z H H' η η') {ts : List T} {vs : List V} (h : ValsR G H η ts vs) : ValsR (G.hid Z) H' η' ts vs := by
  cases h with
  | nil => exact .nil
  | cons h r => exact .cons (ValR.mv c h) (ValsR.mv c r)
end
theorem FldsR.mv (c : Mv G Z H H' η η') : ∀ {fs : List (Str × T)} {gs : List (Str × V)}, FldsR G H η fs gs → FldsR (G.hid Z) H' η' fs gs
  | [], [], _ => trivial
  | (_, _) :: _, (_, _) :: _, ⟨h1, h2, h3⟩ => ⟨h1, h2.mv c, FldsR.mv c h3⟩
  | [], _ :: _, h => h.elim
  | _ :: _, [], h => h.elim
theorem ObR.mv (c : Mv G Z H H' η η') {a : Addr} {o : Ob} (e : H' a = H a) (h : ObR G H η a o) : ObR (G.hid Z) H' η' a o := by
  cases o with
  | lst ts => obtain ⟨vs, q, r⟩ := h; exact ⟨vs, e.trans q, r.mv c⟩
  | dict ks vs => obtain ⟨kvs, q, k, r⟩ := h; exact ⟨kvs, e.trans q, k, r.mv c⟩
  | ins k fs => obtain ⟨C, dx, gs, hc, q, r⟩ := h; exact ⟨C, dx, gs, hc, e.trans q, r.mv c⟩
theorem StoR.mv (S : StoR G H η) (c : Mv G Z H H' η η) (e : ∀ a o, TL.get η a = some o → H' a = H a) (t : LamX.Tabs G.Tb H') (z : ∀ a, Z a → (∃ o, H' a = some o ∧ HidO o) ∧ TL.get η a = none) : StoR (G.hid Z) H' η :=
  ⟨fun a o g => (S.ob a o g).mv c (e a o g), t, z⟩
theorem EnvR.mv {σ : L2.St} {ρ : Env} (c : Mv G Z H H' η η') (h : EnvR G H η σ ρ) : EnvR (G.hid Z) H' η' σ ρ :=
  ⟨h.len, fun i t e => let ⟨v, a, b⟩ := h.val i t e; ⟨v, a, b.mv c⟩⟩
/-- G with D hidden -/
def hidD (G : Glob) (D : Addr) : Addr → Prop := fun a => G.Z a ∨ a = D
variable {D : Addr}
theorem mv_in (h : H D = none) {o : HO} : Mv G (hidD G D) H (upd H D o) η η := fun a u e m n => ⟨by rw [upd_ne (ne_of_none e h)]; exact e, m, fun z => z.elim n (ne_of_none e h)⟩
theorem mv_grow {o : HO} : Mv (G.hid (hidD G D)) (hidD G D) H (upd H D o) η η := fun a u e m n => ⟨by rw [upd_ne fun z => n (.inr z)]; exact e, m, n⟩
theorem mv_out : Mv (G.hid (hidD G D)) G.Z H H η η := fun a u e m n => ⟨e, m, fun z => n (.inl z)⟩
/-- .. told by the store -/
theorem mv_tell {o : Ob} : Mv (G.hid (hidD G D)) G.Z H H η ((D, o) :: η) := fun a u e m n => ⟨e, by rw [get_cons, if_neg fun z => n (.inr z)]; exact m, fun z => n (.inl z)⟩
theorem StoR.hide (S : StoR G H η) (h : H D = none) {o : HO} (ho : HidO o) : StoR (G.hid (hidD G D)) (upd H D o) η :=
  S.mv (mv_in h) (fun a o g => upd_ne (by rintro rfl; rw [S.nn h] at g; cases g)) (tabs_upd S.tb h) fun a z => by
    rcases z with z | rfl
    · obtain ⟨⟨u, e, hu⟩, n⟩ := S.hz a z
      exact ⟨⟨u, by rw [upd_ne (ne_of_none e h)]; exact e, hu⟩, n⟩
    · exact ⟨⟨o, upd_same, ho⟩, S.nn h⟩
theorem StoR.grow (S : StoR (G.hid (hidD G D)) H η) {o u : HO} (h : H D = some u) (hu : HidO u) (ho : HidO o) : StoR (G.hid (hidD G D)) (upd H D o) η :=
  S.mv mv_grow (fun a o g => upd_ne (by rintro rfl; rw [(S.hz a (.inr rfl)).2] at g; cases g)) (tabs_put S.tb h hu.mu hu.nc) fun a z => by
    refine ⟨?_, (S.hz a z).2⟩
    by_cases ha : a = D
    · subst ha; exact ⟨o, upd_same, ho⟩
    · rw [upd_ne ha]; exact (S.hz a z).1
theorem StoR.show' (S : StoR (G.hid (hidD G D)) H η) : StoR G H η :=
  ⟨fun a o g => (S.ob a o g).mv (G := G.hid (hidD G D)) (Z := G.Z) mv_out rfl, S.tb, fun a z => S.hz a (.inl z)⟩
theorem StoR.tell (S : StoR (G.hid (hidD G D)) H η) (nz : ¬ G.Z D) {vs : List V} {ts : List T} (h : H D = some (.lst vs)) (r : ValsR (G.hid (hidD G D)) H η ts vs) : StoR G H ((D, .lst ts) :: η) := by
  refine ⟨fun a o g => ?_, S.tb, fun a z => ⟨(S.hz a (.inl z)).1, ?_⟩⟩
  · rw [get_cons] at g
    by_cases ha : a = D
    · subst ha
      rw [if_pos rfl] at g
      cases g
      exact ⟨vs, h, r.mv (G := G.hid (hidD G a)) (Z := G.Z) mv_tell⟩
    · rw [if_neg ha] at g
      exact (S.ob a o g).mv (G := G.hid (hidD G D)) (Z := G.Z) mv_tell rfl
  · rw [get_cons, if_neg (by rintro rfl; exact nz z)]
    exact (S.hz a (.inl z)).2
theorem Frm.updD {H0 : Hp} {η0 : Sto} (f : Frm η0 H0 η H) (h : H0 D = none) {o : HO} : Frm η0 H0 η (upd H D o) :=
  ⟨fun b u e n t => by rw [upd_ne (ne_of_none e h)]; exact f.hp b u e n t, f.st⟩
theorem Frm.tell {H0 : Hp} {η0 : Sto} (f : Frm η0 H0 η H) (h : H0 D = none) {o : Ob} : Frm η0 H0 ((D, o) :: η) H :=
  ⟨f.hp, fun b u e n t => by rw [get_cons, if_neg (ne_of_none e h)]; exact f.st b u e n t⟩
end
/-! ### what is walked -/
/-- the turns of J: the items ts, while the list of the store (if it is one) stays -/
structure Wk (G : Glob) (J : L2.It) (ts : List T) (src : Option Addr) (H0 : Hp) (η0 : Sto) : Prop where
  go : ∀ Z, (∀ a, Z a → G.Z a ∨ H0 a = none) → ∀ i H η, i < ts.length → StoR (G.hid Z) H η → Frm η0 H0 η H → stays src ts η → J.go i H
  yld : ∀ Z, (∀ a, Z a → G.Z a ∨ H0 a = none) → ∀ i H η x H', StoR (G.hid Z) H η → Frm η0 H0 η H → stays src ts η → J.yld i H x H' → i < ts.length → ∃ t, ts[i]? = some t ∧ ValR (G.hid Z) H' η t x ∧ StoR (G.hid Z) H' η ∧ Frm η H η H'
  stop : ∀ Z, (∀ a, Z a → G.Z a ∨ H0 a = none) → ∀ H η, StoR (G.hid Z) H η → Frm η0 H0 η H → stays src ts η → J.stop ts.length H
theorem mv_Z {G : Glob} {Z : Addr → Prop} {H : Hp} {η : Sto} (h : ∀ a, Z a → G.Z a ∨ H a = none) : Mv G Z H H η η := fun a o e m n => ⟨e, m, fun z => (h a z).elim n fun q => by rw [e] at q; cases q⟩
section
variable {G : Glob} {H0 : Hp} {η0 : Sto}
theorem getE {ts : List T} {vs : List V} {G : Glob} {H : Hp} {η : Sto} (r : ValsR G H η ts vs) {i : Nat} {x : V} (e : vs[i]? = some x) : ∃ t, ts[i]? = some t ∧ ValR G H η t x := by
  have hi : i < ts.length := by
    rw [r.length]
    exact (List.getElem?_eq_some_iff.mp e).1
  obtain ⟨v, e2, r2⟩ := r.get (List.getElem?_eq_getElem hi)
  rw [e] at e2
  cases e2
  exact ⟨_, List.getElem?_eq_getElem hi, r2⟩
/-- a list -/
theorem wk_list {a : Addr} {vs : List V} {ts : List T} {src : Option Addr} (r : ValsR G H0 η0 ts vs) (h : (src = none ∧ StL G H0 η0 a vs) ∨ (src = some a ∧ H0 a = some (.lst vs) ∧ TL.get η0 a = some (.lst ts))) : Wk G (Itl G.K a) ts src H0 η0 := by
  have key : ∀ Z, (∀ a, Z a → G.Z a ∨ H0 a = none) → ∀ H η, StoR (G.hid Z) H η → Frm η0 H0 η H → stays src ts η → ∃ ws, SqL G.K H a ws ∧ ValsR (G.hid Z) H η ts ws := fun Z hZ H η S f st => by
    rcases h with ⟨rfl, h⟩ | ⟨rfl, h1, h2⟩
    · have h' : StL (G.hid Z) H0 η0 a vs := h.imp (fun h => Rd.mv (mv_Z hZ) h.1 h.2) id
      exact ⟨vs, (h'.frm f).sq, (r.mv (mv_Z hZ)).frm f⟩
    · obtain ⟨ws, e, rs⟩ := S.ob a _ st
      exact ⟨ws, SqL.of e, rs⟩
  refine ⟨fun Z hZ i H η hi S f st => ?_, fun Z hZ i H η x H' S f st y hi => ?_, fun Z hZ H η S f st => ?_⟩
  · obtain ⟨ws, hq, rs⟩ := key Z hZ H η S f st
    obtain ⟨v, e, _⟩ := rs.get (List.getElem?_eq_getElem hi)
    exact ⟨ws, v, hq, e⟩
  · obtain ⟨ws, hq, rs⟩ := key Z hZ H η S f st
    obtain ⟨rfl, y⟩ := y
    obtain ⟨t, e, q⟩ := getE rs (y ws hq)
    exact ⟨t, e, q, S, .refl⟩
  · obtain ⟨ws, hq, rs⟩ := key Z hZ H η S f st
    exact ⟨ws, hq, Nat.le_of_eq rs.length.symm⟩
theorem wk_tup {a : Addr} {vs : List V} {ts : List T} (r : ValsR G H0 η0 ts vs) (h : StT G H0 η0 a vs) : Wk G (Itt G.K a) ts none H0 η0 := by
  have key : ∀ Z, (∀ a, Z a → G.Z a ∨ H0 a = none) → ∀ H η, StoR (G.hid Z) H η → Frm η0 H0 η H → ∃ ws, SqT G.K H a ws ∧ ValsR (G.hid Z) H η ts ws := fun Z hZ H η S f => by
    have h' : StT (G.hid Z) H0 η0 a vs := h.imp (fun h => FzT.mv (mv_Z hZ) h.1 h.2) id
    exact ⟨vs, (h'.frm f).sq, (r.mv (mv_Z hZ)).frm f⟩
  refine ⟨fun Z hZ i H η hi S f st => ?_, fun Z hZ i H η x H' S f st y hi => ?_, fun Z hZ H η S f st => ?_⟩
  · obtain ⟨ws, hq, rs⟩ := key Z hZ H η S f
    obtain ⟨v, e, _⟩ := rs.get (List.getElem?_eq_getElem hi)
    exact ⟨ws, v, hq, e⟩
  · obtain ⟨ws, hq, rs⟩ := key Z hZ H η S f
    obtain ⟨rfl, y⟩ := y
    obtain ⟨t, e, q⟩ := getE rs (y ws hq)
    exact ⟨t, e, q, S, .refl⟩
  · obtain ⟨ws, hq, rs⟩ := key Z hZ H η S f
    exact ⟨ws, hq, Nat.le_of_eq rs.length.symm⟩
theorem rangeL_length {lo : Int} {n : Nat} : (rangeL lo n).length = n := by unfold rangeL; rw [List.length_map, List.length_range]
theorem wk_range {lo : Int} {n : Nat} : Wk G (Itr lo n) (rangeL lo n) none H0 η0 := by
  refine ⟨fun Z hZ i H η hi S f st => by rw [rangeL_length] at hi; exact hi, fun Z hZ i H η x H' S f st y hi => ?_, fun Z hZ H η S f st => by rw [rangeL_length]; exact Nat.le_refl _⟩
  obtain ⟨rfl, rfl⟩ := y
  rw [rangeL_length] at hi
  exact ⟨.int (lo + i), by unfold rangeL; rw [List.getElem?_map, List.getElem?_range hi]; rfl, .int _, S, .refl⟩
theorem wk_chars {x : Str} : Wk G (Its x) (charsL x) none H0 η0 := by
  have hl : (charsL x).length = x.cps.size := by unfold charsL; simp
  refine ⟨fun Z hZ i H η hi S f st => by rw [hl] at hi; exact hi, fun Z hZ i H η v H' S f st y hi => ?_, fun Z hZ H η S f st => by rw [hl]; exact Nat.le_refl _⟩
  obtain ⟨rfl, c, e, rfl⟩ := y
  refine ⟨.str ⟨#[c]⟩, ?_, .str _ (by show 1 ≤ sizeLine; rw [sizeLine_eq]; omega), S, .refl⟩
  unfold charsL
  rw [List.getElem?_map, Array.getElem?_toList, e]
  rfl
end
def HI (G : Glob) (R : L2.It → Hp → Prop) (H : Hp) (η : Sto) (K : List T → Option Addr → Sto → Prop) : Prop :=
  ∀ ts src J η' H', Wk G J ts src H' η' → ts.length ≤ sizeLine → StoR G H' η' → Frm η H η' H' → K ts src η' → R J H'
theorem HI.frm {G : Glob} {H H1 : Hp} {η η1 : Sto} {Q : L2.It → Hp → Prop} {K : List T → Option Addr → Sto → Prop} (f : Frm η H η1 H1) (h : HI G Q H η K) : HI G Q H1 η1 K := fun ts src J η' H' a l b c q => h ts src J η' H' a l b (f.trans c) q
def liftI (G : Glob) (W : WX) (t : TI') : TI := fun σ H R => ∃ ρ η X K, EnvR G H η σ ρ ∧ StoR G H η ∧ t ρ η X K ∧ HX G W σ H η X ∧ HI G R H η K
section
variable {G : Glob} {W : WX} {X : Cx} {tg a b c : Expr} {ta tb tc : TE'} {pos : Pos} {es : List Expr} {n m : Nat} {tl tl2 : TL'}
theorem i_seq (hK : X.K = G.K) (ha : PE X a (liftE G W ta)) : PI X tg a (liftI G W fun ρ η X K => ta ρ η X fun u η1 => optF (seqOf η1 u) fun ts => K ts (srcOf u) η1) := by
  refine ⟨fun pins s σ H R I ⟨ρ, η, Y, K, hρ, hS, ht, hX, hI⟩ => ?_⟩
  refine thn (ha.run pins s σ H (fun x H1 => ∃ ts src η1, SeqR G H1 η1 ts src x ∧ StoR G H1 η1 ∧ Frm η H η1 H1 ∧ K ts src η1) I (lift1 hρ hS ht hX fun u x η1 H1 rx S1 f1 k1 => ?_)) fun v s1 ⟨x, H1, I1, r1, ts, src, η1, sq, S1, f1, k1⟩ => ?_
  · obtain ⟨ts, e, q⟩ := optF_inv k1
    exact ⟨ts, _, η1, seqR_of S1 e rx, S1, f1, q⟩
  obtain ⟨p, vs, rfl, rs, h⟩ := sq.ex
  cases r1
  have fin : ∀ b ∈ [s1.heap.objs.size], FpOk X pins H1 b := fun b hb => by
    have e : b = s1.heap.objs.size := by simpa using hb
    subst e
    exact I1.fpOk (Nat.le_refl _) (I1.hok.fresh (Nat.le_refl _))
  have lst : SqL G.K H1 p vs → Wk G (Itl G.K p) ts src H1 η1 → wpAny (model X.prog X.w) X.A (pyIter (.ref p)) (PIE X pins σ tg R) X.xe s1 := fun hq wk => by
    rw [← hK] at hq wk
    obtain ⟨its, rv, pl, hz⟩ := I1.list hq
    refine wpAny_pyIter_list pl.isList ?_
    exact ⟨s1.heap.objs.size, [s1.heap.objs.size], _, _, H1, rfl, I1.kept (t' := s1.toks) fun b o e => Heap.get?_push_of_some _ e, turn_list p _, ⟨_, Heap.get?_push_size _ rfl, rfl, rfl⟩, fin, hI ts src _ η1 H1 wk (by rw [rs.length]; exact hz) S1 f1 k1⟩
  rcases h with ⟨e, h⟩ | ⟨e, h⟩ | ⟨e, h1, h2⟩
  · exact lst h.sq (wk_list rs (.inl ⟨e, h⟩))
  · subst e
    have hq := h.sq
    have wk := wk_tup rs h
    rw [← hK] at hq wk
    obtain ⟨its, rv, pl, hz⟩ := I1.tuple hq
    refine wpAny_pyIter_tuple (show s1.heap.IsTuple p its.toArray from pl) ?_
    exact ⟨s1.heap.objs.size, [s1.heap.objs.size], _, _, H1, rfl, I1.kept (t' := s1.toks) fun b o e => Heap.get?_push_of_some _ e, turn_tuple p _, ⟨_, Heap.get?_push_size _ rfl, rfl, rfl⟩, fin, hI ts none _ η1 H1 wk (by rw [rs.length]; exact hz) S1 f1 k1⟩
  · exact lst (SqL.of h1) (wk_list rs (.inr ⟨e, h1, h2⟩))
theorem _root_.L2.PI.imp {X : Cx} {tg e : Expr} {t u : TI} (h : PI X tg e t) (i : ∀ σ H R, u σ H R → t σ H R) : PI X tg e u := ⟨fun pins s σ H Q I q => h.run pins s σ H Q I (i σ H Q q)⟩
theorem i_chars (ha : PE X a (liftE G W ta)) : PI X tg a (liftI G W fun ρ η X K => ta ρ η X fun u η1 => optF (strV u) fun x => K (charsL x) none η1) :=
  (pi_str ha).imp fun σ H R ⟨ρ, η, Y, K, hρ, hS, ht, hX, hI⟩ => lift1 hρ hS ht hX fun u x η1 H1 rx S1 f1 k1 => by
    obtain ⟨z, e, q⟩ := optF_inv k1
    cases rx with
    | str s l =>
      cases e
      exact ⟨_, rfl, hI _ none _ η1 H1 wk_chars (by unfold charsL; rw [List.length_map, Array.length_toList]; exact l) S1 f1 q⟩
    | _ => cases e
theorem i_range {p : Pos} (hg : Gl X "range") (hm : X.mg "range" = none) (ha : PE X a (liftE G W ta)) (hs : starEach [a] X.env = (false, eval a X.env) :: starEach [] X.env) :
    PI X tg (.Call (.Name "range" p) [a] [] pos) (liftI G W fun ρ η X K => ta ρ η X fun u η1 => optF (intV u) fun n => small n ∧ K (rangeL 0 n.toNat) none η1) :=
  (pi_range1 hg hm (pa_cons ha pa_nil hs) hs).imp fun σ H R ⟨ρ, η, Y, K, hρ, hS, ht, hX, hI⟩ => lift1 hρ hS ht hX fun u x η1 H1 rx S1 f1 k1 => by
    obtain ⟨z, e, ⟨q1, q2⟩, q⟩ := optF_inv k1
    cases rx <;> cases e
    exact ⟨_, rfl, q1, by omega, hI _ none _ η1 H1 wk_range (by rw [rangeL_length, sizeLine_eq]; omega) S1 f1 q⟩
theorem i_range2 {p : Pos} (hg : Gl X "range") (hm : X.mg "range" = none) (ha : PE X a (liftE G W ta)) (hb : PE X b (liftE G W tb)) (hs : starEach [a, b] X.env = (false, eval a X.env) :: starEach [b] X.env) (hs2 : starEach [b] X.env = (false, eval b X.env) :: starEach [] X.env) :
    PI X tg (.Call (.Name "range" p) [a, b] [] pos) (liftI G W fun ρ η X K => ta ρ η X fun u η1 => tb ρ η1 X fun w η2 => optF (intV u) fun m => optF (intV w) fun n => small m ∧ small n ∧ n - m ≤ 16777216 ∧ K (rangeL m (n - m).toNat) none η2) :=
  (pi_range2 hg hm (pa_cons ha (pa_cons hb pa_nil hs2) hs) (by rw [hs, hs2]; rfl) (by rw [hs2]; rfl)).imp fun σ H R ⟨ρ, η, Y, K, hρ, hS, ht, hX, hI⟩ => lift2 hρ hS ht hX fun u w x y η1 H1 rx ry S1 f1 k1 => by
    obtain ⟨m, e, k1⟩ := optF_inv k1
    obtain ⟨z, e2, ⟨q1, q2⟩, ⟨q3, q4⟩, q5, q⟩ := optF_inv k1
    cases rx <;> cases e
    cases ry <;> cases e2
    exact ⟨_, _, rfl, ⟨q1, by omega, q3, by omega⟩, hI _ none _ η1 H1 wk_range (by rw [rangeL_length, sizeLine_eq]; omega) S1 f1 q⟩
end
/-! ### targets -/
def gT (K : PySem.W.Frag) : Tg → TG
  | .name i => gName i
  | .two i j => gTup K 2 (gCons (gName i) (gCons (gName j) gNil))
def tgIx : Tg → List Nat
  | .name i => [i]
  | .two i j => [i, j]
theorem nth_setv {i j : Nat} {t : T} : ∀ {l : List (Option T)} {u : T}, nth (setv l i t) j = some u → (j = i ∧ u = t ∧ i < l.length) ∨ (j ≠ i ∧ nth l j = some u) := by
  intro l
  induction l generalizing i j with
  | nil => intro u h; cases h
  | cons a r ih =>
    intro u h
    cases i with
    | zero =>
      cases j with
      | zero => cases h; exact .inl ⟨rfl, rfl, by simp⟩
      | succ j => exact .inr ⟨by simp, h⟩
    | succ i =>
      cases j with
      | zero => exact .inr ⟨by simp, h⟩
      | succ j =>
        rcases ih (i := i) (j := j) h with ⟨rfl, e, l⟩ | ⟨n, e⟩
        · exact .inl ⟨rfl, e, by simpa using l⟩
        · exact .inr ⟨by simpa using n, e⟩
theorem setv_length {t : T} : ∀ {l : List (Option T)} {i : Nat}, (setv l i t).length = l.length
  | [], _ => rfl
  | _ :: _, 0 => rfl
  | _ :: r, i + 1 => congrArg (· + 1) (setv_length (l := r) (i := i))
theorem nth_get {l : List (Option T)} {i : Nat} {t : T} : nth l i = some t ↔ l[i]? = some (some t) := by
  induction l generalizing i with
  | nil => simp [nth]
  | cons a r ih =>
    cases i with
    | zero => simp [nth]
    | succ i => simpa [nth] using ih
section
variable {G : Glob} {H : Hp} {η : Sto} {σ : L2.St} {ρ : Env}
theorem EnvR.set (h : EnvR G H η σ ρ) {t : T} {v : V} (r : ValR G H η t v) {i : Nat} {x : Option T} : EnvR G H η (σ.set i (some v)) ⟨setv ρ.v i t, x⟩ := by
  refine ⟨by show (σ.set i _).length = (setv ρ.v i t).length; rw [List.length_set, setv_length]; exact h.len, fun j u e => ?_⟩
  rcases nth_setv e with ⟨rfl, rfl, hl⟩ | ⟨hn, e⟩
  · exact ⟨v, by rw [List.getElem?_set_self (by rw [h.len]; exact hl)], r⟩
  · obtain ⟨w, e2, r2⟩ := h.val j u e
    exact ⟨w, by rw [List.getElem?_set_ne hn.symm]; exact e2, r2⟩
theorem EnvR.x' (h : EnvR G H η σ ρ) {x : Option T} : EnvR G H η σ ⟨ρ.v, x⟩ := ⟨h.len, h.val⟩
theorem setvs_length : ∀ {own : List Nat} {l : List (Option T)}, (setvs l own).length = l.length
  | [], _ => rfl
  | i :: r, l => by show (setvs (l.set i none) r).length = _; rw [setvs_length, List.length_set]
theorem nth_setvs : ∀ {own : List Nat} {l : List (Option T)} {j : Nat} {t : T}, nth (setvs l own) j = some t → j ∉ own ∧ nth l j = some t
  | [], _, _, _, h => ⟨by simp, h⟩
  | i :: r, l, j, t, h => by
    obtain ⟨h1, h2⟩ := nth_setvs (own := r) (l := l.set i none) h
    rw [nth_get] at h2 ⊢
    by_cases hij : i = j
    · subst hij
      rw [List.getElem?_set_self'] at h2
      cases e : l[i]? <;> rw [e] at h2 <;> simp at h2
    · rw [List.getElem?_set_ne hij] at h2
      exact ⟨by simp only [List.mem_cons, not_or]; exact ⟨fun z => hij z.symm, h1⟩, h2⟩
theorem wipe_out' {i : Nat} : ∀ {vs : List Nat} {σ : L2.St}, i ∉ vs → (wipe σ vs)[i]? = σ[i]?
  | [], _, _ => rfl
  | v :: vs, σ, h => by
    simp only [List.mem_cons, not_or] at h
    show ((wipe σ vs).set v none)[i]? = _
    rw [List.getElem?_set_ne (fun z => h.1 z.symm)]
    exact wipe_out' h.2
theorem EnvR.wipe (h : EnvR G H η σ ρ) {own : List Nat} {x : Option T} : EnvR G H η (wipe σ own) ⟨setvs ρ.v own, x⟩ := by
  refine ⟨by rw [wipe_length]; show σ.length = (setvs ρ.v own).length; rw [setvs_length]; exact h.len, fun i t e => ?_⟩
  obtain ⟨h1, h2⟩ := nth_setvs e
  obtain ⟨v, e2, r⟩ := h.val i t h2
  exact ⟨v, by rw [wipe_out' h1]; exact e2, r⟩
theorem wipe_get {vs : List Nat} : ∀ {σ : L2.St} {i : Nat}, i ∈ vs → i < σ.length → (L2.wipe σ vs)[i]? = some none := by
  induction vs with
  | nil => intro σ i h; cases h
  | cons v vs ih =>
    intro σ i h hl
    show ((L2.wipe σ vs).set v none)[i]? = _
    by_cases e : v = i
    · subst e
      rw [List.getElem?_set_self (by rw [wipe_length]; exact hl)]
    · rw [List.getElem?_set_ne e]
      exact ih (by simpa [Ne.symm e] using h) hl
theorem wipe_ext {vs : List Nat} {σ σ' : L2.St} (hl : σ'.length = σ.length) (h : ∀ i, i ∉ vs → σ'[i]? = σ[i]?) : L2.wipe σ' vs = L2.wipe σ vs := by
  refine List.ext_getElem? fun i => ?_
  by_cases hi : i ∈ vs
  · by_cases hlt : i < σ.length
    · rw [wipe_get hi hlt, wipe_get hi (by rw [hl]; exact hlt)]
    · rw [List.getElem?_eq_none (by rw [wipe_length]; omega), List.getElem?_eq_none (by rw [wipe_length]; omega)]
  · rw [wipe_out' hi, wipe_out' hi]; exact h i hi
theorem wipe_wipe {vs : List Nat} {σ : L2.St} : L2.wipe (L2.wipe σ vs) vs = L2.wipe σ vs := wipe_ext (wipe_length _ _) fun i hi => wipe_out' hi
theorem wipe_set {vs : List Nat} {σ : L2.St} {i : Nat} {v : V} (h : i ∈ vs) : L2.wipe (σ.set i (some v)) vs = L2.wipe σ vs := wipe_ext (List.length_set ..) fun j hj => List.getElem?_set_ne (by rintro rfl; exact hj h)
/-- a target takes its value -/
theorem gT_ok {tg : Tg} {t : T} {v : V} {w : List (Option T)} {x : Option T} {Q : L2.St → Hp → Prop} (hρ : EnvR G H η σ ρ) (r : ValR G H η t v) (e : bindTg tg t ρ.v = some w)
    (h : ∀ σ', EnvR G H η σ' ⟨w, x⟩ → (∀ vs, (∀ i ∈ tgIx tg, i ∈ vs) → L2.wipe σ' vs = L2.wipe σ vs) → Q σ' H) : gT G.K tg v σ H Q := by
  cases tg with
  | name i =>
    cases e
    exact h _ (hρ.set r) fun vs hv => wipe_set (hv i List.mem_cons_self)
  | two i j =>
    cases r with
    | tup a rs =>
      rename_i p vs ts
      match ts, rs, e with
      | [t1, t2], rs, e =>
        cases e
        obtain ⟨v1, v2, rfl, r1, r2⟩ := rs.two
        refine ⟨p, [v1, v2], rfl, a.sq, rfl, v1, [v2], rfl, v2, [], rfl, rfl, ?_⟩
        exact h _ ((hρ.set (x := x) r1).set r2) fun vs hv => (wipe_set (hv j (List.mem_cons_of_mem _ List.mem_cons_self))).trans (wipe_set (hv i List.mem_cons_self))
      | [], rs, e => cases e
      | [_], rs, e => cases e
      | _ :: _ :: _ :: _, rs, e => cases e
    | _ => cases e
end
end TL

/-! comprehensions -/
namespace TL
open PySem PySem.Spec PyProof.Rows L2
abbrev noX : KX := fun _ _ => False
abbrev noW : WX := fun _ _ _ _ => False
/-- one turn of a comprehension -/
abbrev lcF (own : List Nat) (tg : Tg) (tc : TC') (te : TE') (ρ : Env) : T → Sto → KL → Prop := fun x η' Kr => optF (bindTg tg x (setvs ρ.v own)) fun v => tc ⟨v, ρ.x⟩ η' noX fun k η2 => ifB k (te ⟨v, ρ.x⟩ η2 noX fun u η3 => Kr [u] η3) (Kr [] η2)
theorem HX.no {G : Glob} {W : WX} {σ : L2.St} {H : Hp} {η : Sto} : HX G W σ H η noX := fun _ _ _ _ _ _ _ _ q => q.elim
theorem tLc_of {G : Glob} {W : WX} {tg : Tg} {own : List Nat} {wi : TI'} {tc : TC'} {te : TE'} {σ : L2.St} {H : Hp} {Q : VK} (hv : ∀ i ∈ tgIx tg, i ∈ own)
    {ρ : Env} {η : Sto} {Y : KX} {K : List T → Sto → Prop} (hρ : EnvR G H η σ ρ) (hS : StoR G H η) (ht : wi ρ η Y fun ts sr η1 => wcomp (stays sr ts) (lcF own tg tc te ρ) ts [] η1 K) (hX : HX G W σ H η Y)
    (hV : ∀ ts D vs η' H' η1 H1, Frm η H η1 H1 → H1 D = none → Frm η1 H1 η' H' → H' D = some (.lst vs) → (get η' D = none ∧ ¬ G.Z D) → ValsR (G.hid (hidD G D)) H' η' ts vs → StoR (G.hid (hidD G D)) H' η' → K ts η' → Q (.ref D) H') :
    tLc (liftI G W wi) (gT G.K tg) (fun σ H Q => ∃ Z, liftC (G.hid Z) noW tc σ H Q) (fun σ H Q => ∃ Z, liftE (G.hid Z) noW te σ H Q) own σ H Q := by
  refine ⟨ρ, η, Y, _, hρ, hS, ht, hX, fun ts src J η1 H1 wk hl S1 f1 k1 D hD => ?_⟩
  have hZ : ∀ a, hidD G D a → G.Z a ∨ H1 a = none := fun a z => z.imp id fun e => by rw [e]; exact hD
  have nD := S1.nz hD
  refine ⟨fun i m H' => i ≤ ts.length ∧ m = ts.length - i ∧ ∃ η' acc us, H' D = some (.lst acc) ∧ acc.length ≤ i ∧ StoR (G.hid (hidD G D)) H' η' ∧ Frm η1 H1 η' H' ∧ ValsR (G.hid (hidD G D)) H' η' us acc ∧ wcomp (stays src ts) (lcF own tg tc te ρ) (ts.drop i) us η' K,
    ⟨ts.length, Nat.zero_le _, rfl, η1, [], [], upd_same, Nat.le_refl _, S1.hide hD hid_lst, Frm.new hD, .nil, k1⟩, ?_⟩
  rintro i m H' ⟨hi, rfl, η', acc, us, hDa, ha, S', f', rs, hw⟩
  by_cases hlt : i < ts.length
  · rw [List.drop_eq_getElem_cons hlt] at hw
    obtain ⟨st, hw⟩ := hw
    refine .inr ⟨wk.go _ hZ i H' η' hlt S' f' st, fun H'' => ∃ m', m' < ts.length - i ∧ (i + 1 ≤ ts.length ∧ m' = ts.length - (i + 1) ∧ ∃ η' acc us, H'' D = some (.lst acc) ∧ acc.length ≤ i + 1 ∧ StoR (G.hid (hidD G D)) H'' η' ∧ Frm η1 H1 η' H'' ∧ ValsR (G.hid (hidD G D)) H'' η' us acc ∧ wcomp (stays src ts) (lcF own tg tc te ρ) (ts.drop (i + 1)) us η' K), fun _ h => h, fun x H2 y => ?_⟩
    obtain ⟨t, et, rx, S2, f2⟩ := wk.yld _ hZ i H' η' x H2 S' f' st y hlt
    rw [List.getElem?_eq_getElem hlt] at et
    cases et
    obtain ⟨v, ev, hw⟩ := optF_inv hw
    have f12 := f'.trans f2
    have fin : ∀ {η3 : Sto} {H3 : Hp} {us3 : List T} {acc3 : List V}, StoR (G.hid (hidD G D)) H3 η3 → Frm η' H2 η3 H3 → H3 D = some (.lst acc3) → acc3.length ≤ i + 1 → ValsR (G.hid (hidD G D)) H3 η3 us3 acc3 → Frm η1 H1 η3 H3 → wcomp (stays src ts) (lcF own tg tc te ρ) (ts.drop (i + 1)) us3 η3 K →
        ∃ m', m' < ts.length - i ∧ (i + 1 ≤ ts.length ∧ m' = ts.length - (i + 1) ∧ ∃ η' acc us, H3 D = some (.lst acc) ∧ acc.length ≤ i + 1 ∧ StoR (G.hid (hidD G D)) H3 η' ∧ Frm η1 H1 η' H3 ∧ ValsR (G.hid (hidD G D)) H3 η' us acc ∧ wcomp (stays src ts) (lcF own tg tc te ρ) (ts.drop (i + 1)) us η' K) :=
      fun {η3 H3 us3 acc3} S3 f3 hd hal rs3 fr k3 => ⟨ts.length - (i + 1), by omega, hlt, rfl, η3, acc3, us3, hd, hal, S3, fr, rs3, k3⟩
    have keepD : ∀ {η3 : Sto} {H3 : Hp}, Frm η' H' η3 H3 → H3 D = some (.lst acc) := fun f => f.hp D _ hDa (S'.hz D (.inr rfl)).2 (fun _ z => by cases z)
    have envs : EnvR (G.hid (hidD G D)) H2 η' (L2.wipe σ own) ⟨setvs ρ.v own, ρ.x⟩ := by
      have e1 : EnvR G H1 η1 (L2.wipe σ own) ⟨setvs ρ.v own, ρ.x⟩ := (hρ.frm f1).wipe
      have e2 : EnvR (G.hid (hidD G D)) H1 η1 (L2.wipe σ own) ⟨setvs ρ.v own, ρ.x⟩ := e1.mv (mv_Z hZ)
      exact e2.frm f12
    refine gT_ok (G := G.hid (hidD G D)) (x := ρ.x) envs rx ev fun σ2 hρ2 hwp => ⟨(hwp own hv).trans wipe_wipe, hidD G D, ⟨v, ρ.x⟩, η', noX, _, hρ2, S2, hw, .no, fun k η3 H3 S3 f3 k3 => ?_⟩
    cases k with
    | true =>
      rw [if_pos rfl]
      have k3 : te ⟨v, ρ.x⟩ η3 noX fun u η3 => wcomp (stays src ts) (lcF own tg tc te ρ) (ts.drop (i + 1)) (us ++ [u]) η3 K := k3
      refine ⟨hidD G D, ⟨v, ρ.x⟩, η3, noX, _, hρ2.frm f3, S3, k3, .no, fun u y η4 H4 ry S4 f4 k4 => ⟨acc, keepD ((f2.trans f3).trans f4), by omega, ?_⟩⟩
      have hd := keepD ((f2.trans f3).trans f4)
      have S5 := S4.grow (o := .lst (acc ++ [y])) hd hid_lst hid_lst
      have fD : Frm η1 H1 η4 (upd H4 D (.lst (acc ++ [y]))) := ((f12.trans f3).trans f4).updD hD
      refine ⟨ts.length - (i + 1), by omega, hlt, rfl, η4, acc ++ [y], us ++ [u], upd_same, by rw [List.length_append]; exact Nat.succ_le_succ ha, S5, fD, ?_, k4⟩
      exact ((rs.frm ((f2.trans f3).trans f4)).append (.cons ry .nil)).mv (G := G.hid (hidD G D)) mv_grow
    | false =>
      have k3 : wcomp (stays src ts) (lcF own tg tc te ρ) (ts.drop (i + 1)) (us ++ []) η3 K := k3
      rw [List.append_nil] at k3
      exact fin S3 f3 (keepD (f2.trans f3)) (by omega) (rs.frm (f2.trans f3)) (f12.trans f3) k3
  · have e : i = ts.length := by omega
    subst e
    rw [List.drop_length] at hw
    obtain ⟨st, hw⟩ := hw
    refine .inl ⟨wk.stop _ hZ H' η' S' f' st, ?_⟩
    exact hV us D acc η' H' η1 H1 f1 hD f' hDa ⟨(S'.hz D (.inr rfl)).2, nD.2⟩ rs S' hw
section
variable {G : Glob} {W : WX} {X : Cx} {elt tgE iter : Expr} {ifs : List Expr} {scope : Scope} {own : List (Str × Nat)} {pos : Pos} {tg : Tg} {wi : TI'} {tc : TC'} {te : TE'}
/-- what the parts of a comprehension keep -/
structure LcOk (G : Glob) (W : WX) (X : Cx) (elt tgE iter : Expr) (ifs : List Expr) (scope : Scope) (own : List (Str × Nat)) (tg : Tg) (wi : TI') (tc : TC') (te : TE') : Prop where
  hc : X.calm = true
  hN : X.N.Nodup
  hi : PI X tgE iter (liftI G W wi)
  ok : BlkOk X.N X.env.scope scope own
  hg : ∀ (s : Shared) (H : Hp) (C : Addr) (cl : List (Str × Addr)) (fp : List Addr), PG (X.blk s H scope (compEnvC scope cl C X.env) fp) tgE (gT G.K tg)
  ht : ∀ Z (s : Shared) (H : Hp) (C : Addr) (cl : List (Str × Addr)) (fp : List Addr), PTs (X.blk s H scope (compEnvC scope cl C X.env) fp) ifs (liftC (G.hid Z) noW tc)
  he : ∀ Z (s : Shared) (H : Hp) (C : Addr) (cl : List (Str × Addr)) (fp : List Addr), PE (X.blk s H scope (compEnvC scope cl C X.env) fp) elt (liftE (G.hid Z) noW te)
  hs : ∀ x, foldedSetIterable iter X.env x = pure x
  hv : ∀ i ∈ tgIx tg, i ∈ own.map (·.2)
theorem pe_any {X : Cx} {e : Expr} {α : Type} {t : α → TE} (h : ∀ a, PE X e (t a)) : PE X e fun σ H Q => ∃ a, t a σ H Q := ⟨fun pins s σ H Q I ⟨a, q⟩ => (h a).run pins s σ H Q I q⟩
theorem pts_any {X : Cx} {e : List Expr} {α : Type} {t : α → TT} (h : ∀ a, PTs X e (t a)) : PTs X e fun σ H Q => ∃ a, t a σ H Q := ⟨fun pins s σ H Q I ⟨a, q⟩ => (h a).run pins s σ H Q I q⟩
theorem q_lc0 (o : LcOk G W X elt tgE iter ifs scope own tg wi tc te) : PE X (.ListComp elt [⟨tgE, iter, ifs, 0⟩] scope pos) (tLc (liftI G W wi) (gT G.K tg) (fun σ H Q => ∃ Z, liftC (G.hid Z) noW tc σ H Q) (fun σ H Q => ∃ Z, liftE (G.hid Z) noW te σ H Q) (own.map (·.2))) :=
  pe_lc o.hc o.hN o.hi o.ok o.hg (fun s H C cl fp => pts_any fun Z => o.ht Z s H C cl fp) (fun s H C cl fp => pe_any fun Z => o.he Z s H C cl fp) o.hs
abbrev wLc (own : List Nat) (tg : Tg) (wi : TI') (tc : TC') (te : TE') : TE' := fun ρ η X K => wi ρ η X fun ts sr η1 => wcomp (stays sr ts) (lcF own tg tc te ρ) ts [] η1 fun us η' => K (.cl us) η'
abbrev wLcM (own : List Nat) (tg : Tg) (wi : TI') (tc : TC') (te : TE') : TE' := fun ρ η X K => wi ρ η X fun ts sr η1 => wcomp (stays sr ts) (lcF own tg tc te ρ) ts [] η1 fun us η' => ∀ p, get η' p = none → K (.ref p) ((p, .lst us) :: η')
theorem lc_imp {own : List Nat} (hv : ∀ i ∈ tgIx tg, i ∈ own) {σ : L2.St} {H : Hp} {Q : VK} (h : liftE G W (wLc own tg wi tc te) σ H Q) : tLc (liftI G W wi) (gT G.K tg) (fun σ H Q => ∃ Z, liftC (G.hid Z) noW tc σ H Q) (fun σ H Q => ∃ Z, liftE (G.hid Z) noW te σ H Q) own σ H Q := by
  obtain ⟨ρ, η, Y, K, hρ, hS, ht, hX, hQ⟩ := h
  exact tLc_of hv hρ hS ht hX fun ts D vs η' H' η1 H1 f1 h1 f2 hD n rs S k => hQ (.cl ts) (.ref D) η' H' (.cl (.inl ⟨.inl hD, n⟩) (rs.mv (G := G.hid (hidD G D)) (Z := G.Z) mv_out)) S.show' (f1.trans f2) k
theorem lcM_imp {own : List Nat} (hv : ∀ i ∈ tgIx tg, i ∈ own) {σ : L2.St} {H : Hp} {Q : VK} (h : liftE G W (wLcM own tg wi tc te) σ H Q) : tLc (liftI G W wi) (gT G.K tg) (fun σ H Q => ∃ Z, liftC (G.hid Z) noW tc σ H Q) (fun σ H Q => ∃ Z, liftE (G.hid Z) noW te σ H Q) own σ H Q := by
  obtain ⟨ρ, η, Y, K, hρ, hS, ht, hX, hQ⟩ := h
  exact tLc_of hv hρ hS ht hX fun ts D vs η' H' η1 H1 f1 h1 f2 hD n rs S k => hQ (.ref D) (.ref D) ((D, .lst ts) :: η') H' (.ref D) (S.tell n.2 hD rs) (f1.trans (f2.tell h1)) (k D n.1)

/-- a comprehension as a value; as a list that may change -/
theorem q_lc (o : LcOk G W X elt tgE iter ifs scope own tg wi tc te) : PE X (.ListComp elt [⟨tgE, iter, ifs, 0⟩] scope pos) (liftE G W (wLc (own.map (·.2)) tg wi tc te)) := (q_lc0 o).imp fun σ H Q h => lc_imp o.hv h
theorem q_lcM (o : LcOk G W X elt tgE iter ifs scope own tg wi tc te) : PE X (.ListComp elt [⟨tgE, iter, ifs, 0⟩] scope pos) (liftE G W (wLcM (own.map (·.2)) tg wi tc te)) := (q_lc0 o).imp fun σ H Q h => lcM_imp o.hv h
end
end TL

/-! statements -/
namespace TL
open PySem PySem.Spec PyProof.Rows L2
abbrev TS' := Dn → Env → Sto → Prop
structure HD (G : Glob) (D : Ends) (H : Hp) (η : Sto) (d : Dn) : Prop where
  nx : ∀ σ' ρ' η' H', EnvR G H' η' σ' ρ' → StoR G H' η' → Frm η H η' H' → d.nx ρ' η' → D.nx σ' H'
  rt : HQ G D.rt H η d.rt
  bk : ∀ σ' ρ' η' H', EnvR G H' η' σ' ρ' → StoR G H' η' → Frm η H η' H' → d.bk ρ' η' → D.bk σ' H'
  ct : ∀ σ' ρ' η' H', EnvR G H' η' σ' ρ' → StoR G H' η' → Frm η H η' H' → d.ct ρ' η' → D.ct σ' H'
theorem HD.frm {G : Glob} {D : Ends} {H H1 : Hp} {η η1 : Sto} {d : Dn} (f : Frm η H η1 H1) (h : HD G D H η d) : HD G D H1 η1 d :=
  ⟨fun σ' ρ' η' H' a b c q => h.nx σ' ρ' η' H' a b (f.trans c) q, h.rt.frm f, fun σ' ρ' η' H' a b c q => h.bk σ' ρ' η' H' a b (f.trans c) q, fun σ' ρ' η' H' a b c q => h.ct σ' ρ' η' H' a b (f.trans c) q⟩
abbrev HXs (G : Glob) (W : WX) (H : Hp) (η : Sto) (Y : KX) : Prop := ∀ σ, HX G W σ H η Y
theorem HXs.frm {G : Glob} {W : WX} {H H1 : Hp} {η η1 : Sto} {Y : KX} (f : Frm η H η1 H1) (h : HXs G W H η Y) : HXs G W H1 η1 Y := fun σ => (h σ).frm f
def liftS (G : Glob) (W : WX) (t : TS') : TS := fun D σ H => ∃ ρ η d, EnvR G H η σ ρ ∧ StoR G H η ∧ t d ρ η ∧ HXs G W H η d.X ∧ HD G D H η d
theorem _root_.L2.PS.imp {X : Cx} {e : Stmt} {t u : TS} (h : PS X e t) (i : ∀ D σ H, u D σ H → t D σ H) : PS X e u := ⟨fun pins s σ H D I q => h.run pins s σ H D I (i D σ H q)⟩
theorem _root_.L2.PSs.imp {X : Cx} {e : List Stmt} {t u : TS} (h : PSs X e t) (i : ∀ D σ H, u D σ H → t D σ H) : PSs X e u := ⟨fun pins s σ H D I q => h.run pins s σ H D I (i D σ H q)⟩
section
variable {G : Glob} {W : WX} {X : Cx} {e a b c : Expr} {ta tb tc : TE'} {cA : TC'} {pos : Pos} {ss rest : List Stmt} {s : Stmt} {t u : TS'}
theorem s_nil : PSs X [] (liftS G W fun D ρ η => D.nx ρ η) := pss_nil.imp fun D σ H ⟨ρ, η, d, hρ, hS, ht, hX, hD⟩ => hD.nx σ ρ η H hρ hS .refl ht
theorem s_cons (h1 : PS X s (liftS G W t)) (h2 : PSs X rest (liftS G W u)) : PSs X (s :: rest) (liftS G W fun D ρ η => t ⟨fun ρ' η' => u D ρ' η', D.rt, D.bk, D.ct, D.X⟩ ρ η) :=
  (pss_cons h1 h2).imp fun D σ H ⟨ρ, η, d, hρ, hS, ht, hX, hD⟩ => ⟨ρ, η, _, hρ, hS, ht, hX, fun σ' ρ' η' H' a b f q => ⟨ρ', η', d, a, b, q, HXs.frm f hX, hD.frm f⟩, hD.rt, hD.bk, hD.ct⟩
theorem s_weak {ss : List Stmt} (h : PSs X ss (liftS G W u)) : PSs X ss (liftS G W fun D ρ η => ∃ η', Sub η' η ∧ u D ρ η') :=
  h.imp fun D σ H ⟨ρ, η, d, hρ, hS, ⟨η', hs, ht⟩, hX, hD⟩ => ⟨ρ, η', d, hρ.frm hs.frm, hS.sub hs, ht, HXs.frm hs.frm hX, hD.frm hs.frm⟩
theorem s_pass : PS X (.Pass pos) (liftS G W fun D ρ η => D.nx ρ η) := ps_pass.imp fun D σ H ⟨ρ, η, d, hρ, hS, ht, hX, hD⟩ => hD.nx σ ρ η H hρ hS .refl ht
theorem s_brk : PS X (.Break pos) (liftS G W fun D ρ η => D.bk ρ η) := ps_break.imp fun D σ H ⟨ρ, η, d, hρ, hS, ht, hX, hD⟩ => hD.bk σ ρ η H hρ hS .refl ht
theorem s_cont : PS X (.Continue pos) (liftS G W fun D ρ η => D.ct ρ η) := ps_continue.imp fun D σ H ⟨ρ, η, d, hρ, hS, ht, hX, hD⟩ => hD.ct σ ρ η H hρ hS .refl ht
theorem s_retN : PS X (.Return none pos) (liftS G W fun D ρ η => D.rt .non η) := ps_retN.imp fun D σ H ⟨ρ, η, d, hρ, hS, ht, hX, hD⟩ => hD.rt.here hS .non ht
theorem s_ret (ha : PE X e (liftE G W ta)) : PS X (.Return (some e) pos) (liftS G W fun D ρ η => ta ρ η D.X D.rt) := (ps_ret ha).imp fun D σ H ⟨ρ, η, d, hρ, hS, ht, hX, hD⟩ => ⟨ρ, η, _, _, hρ, hS, ht, hX σ, hD.rt⟩
theorem s_expr (ha : PE X e (liftE G W ta)) (hs : swapsWith e none pos.line X.env = pure false) : PS X (.Expr e pos) (liftS G W fun D ρ η => ta ρ η D.X fun _ η' => D.nx ρ η') := (ps_expr ha hs).imp fun D σ H ⟨ρ, η, d, hρ, hS, ht, hX, hD⟩ =>
  ⟨ρ, η, _, _, hρ, hS, ht, hX σ, fun t v η' H' r S f k => hD.nx σ ρ η' H' (hρ.frm f) S f k⟩
theorem s_set {i : Nat} {x : Str} {p : Pos} (hN : X.N.Nodup) (hi : X.N[i]? = some x) (hx : Loc X.env.scope x) (ha : PE X e (liftE G W ta)) (hs : swapsWith e (some (.Name x p)) pos.line X.env = pure false) (hf : X.fn x = true ∨ X.env.scope.names.lookup x = some .local) :
    PS X (.Assign [.Name x p] e pos) (liftS G W fun D ρ η => ta ρ η D.X fun t η' => D.nx (ρ.put i t) η') := (ps_set hN hi hx ha hs hf).imp fun D σ H ⟨ρ, η, d, hρ, hS, ht, hX, hD⟩ =>
  ⟨ρ, η, _, _, hρ, hS, ht, hX σ, fun t v η' H' r S f k => hD.nx _ _ η' H' ((hρ.frm f).set r) S f k⟩
/-- name = [..] -/
theorem set_lc {i : Nat} {D : Ends} {σ : L2.St} {H : Hp} {w : TE'} (h : liftS G W (fun D ρ η => w ρ η D.X fun t η' => D.nx (ρ.put i t) η') D σ H) : liftE G W w σ H (fun x H1 => gName i x σ H1 D.nx) := by
  obtain ⟨ρ, η, d, hρ, hS, ht, hX, hD⟩ := h
  exact ⟨ρ, η, _, _, hρ, hS, ht, hX σ, fun t v η' H' r S f k => hD.nx _ _ η' H' ((hρ.frm f).set r) S f k⟩
section
variable {elt tgE iter : Expr} {ifs : List Expr} {scope : Scope} {own : List (Str × Nat)} {tg : Tg} {wi : TI'} {tc' : TC'} {te : TE'}
theorem s_setLc {i : Nat} {y : Str} {py spos : Pos} (o : LcOk G W X elt tgE iter ifs scope own tg wi tc' te) (hy : X.N[i]? = some y) (hyl : X.env.scope.names.lookup y = some .local) (hsw : swapsWith (.ListComp elt [⟨tgE, iter, ifs, 0⟩] scope pos) (some (.Name y py)) spos.line X.env = pure true) :
    PS X (.Assign [.Name y py] (.ListComp elt [⟨tgE, iter, ifs, 0⟩] scope pos) spos) (liftS G W fun D ρ η => wLc (own.map (·.2)) tg wi tc' te ρ η D.X fun t η' => D.nx (ρ.put i t) η') :=
  (ps_setLc o.hc o.hN hy hyl hsw o.hi o.ok o.hg (fun s H C cl fp => pts_any fun Z => o.ht Z s H C cl fp) (fun s H C cl fp => pe_any fun Z => o.he Z s H C cl fp) o.hs).imp fun D σ H h => lc_imp o.hv (set_lc h)
theorem s_setLcM {i : Nat} {y : Str} {py spos : Pos} (o : LcOk G W X elt tgE iter ifs scope own tg wi tc' te) (hy : X.N[i]? = some y) (hyl : X.env.scope.names.lookup y = some .local) (hsw : swapsWith (.ListComp elt [⟨tgE, iter, ifs, 0⟩] scope pos) (some (.Name y py)) spos.line X.env = pure true) :
    PS X (.Assign [.Name y py] (.ListComp elt [⟨tgE, iter, ifs, 0⟩] scope pos) spos) (liftS G W fun D ρ η => wLcM (own.map (·.2)) tg wi tc' te ρ η D.X fun t η' => D.nx (ρ.put i t) η') :=
  (ps_setLc o.hc o.hN hy hyl hsw o.hi o.ok o.hg (fun s H C cl fp => pts_any fun Z => o.ht Z s H C cl fp) (fun s H C cl fp => pe_any fun Z => o.he Z s H C cl fp) o.hs).imp fun D σ H h => lcM_imp o.hv (set_lc h)
end
theorem s_unp {tg : Tg} {tgE : Expr} (hg : PG X tgE (gT G.K tg)) (ha : PE X e (liftE G W ta)) (hs : swapsWithSole [tgE] e pos.line X.env = pure false) (hw : swappedStores [tgE] e X.env = pure none) (h1 : (assignEach [tgE] X.env).map (·.2) = [assign tgE X.env]) :
    PS X (.Assign [tgE] e pos) (liftS G W fun D ρ η => ta ρ η D.X fun t η' => optF (bindTg tg t ρ.v) fun v => D.nx ⟨v, ρ.x⟩ η') := (ps_asg ha hg hs hw h1).imp fun D σ H ⟨ρ, η, d, hρ, hS, ht, hX, hD⟩ =>
  ⟨ρ, η, _, _, hρ, hS, ht, hX σ, fun t v η' H' r S f k => by
    obtain ⟨w, ew, q⟩ := optF_inv k
    exact gT_ok (hρ.frm f) r ew fun σ' hσ _ => hD.nx σ' _ η' H' hσ S f q⟩
theorem s_par {i j : Nat} {x y : Str} {px py pt : Pos} {kt k2 pt2} (hc : X.calm = true) (hN : X.N.Nodup) (hi : X.N[i]? = some x) (hj : X.N[j]? = some y) (hij : i ≠ j) (hx : X.env.scope.names.lookup x = some .local) (hy : X.env.scope.names.lookup y = some .local)
    (hp : PS X (.Assign [.Tuple [.Name x px, .Name y py] kt pt] (.Tuple [a, b] k2 pt2) pos) (tPar i j (tCons (liftE G W ta) (tCons (liftE G W tb) tNil)))) :
    PS X (.Assign [.Tuple [.Name x px, .Name y py] kt pt] (.Tuple [a, b] k2 pt2) pos) (liftS G W fun D ρ η => ta ρ η D.X fun t η1 => tb ρ η1 D.X fun u η2 => D.nx ((ρ.put i t).put j u) η2) := hp.imp fun D σ H ⟨ρ, η, d, hρ, hS, ht, hX, hD⟩ =>
  lift2 (K' := fun t u η2 => d.nx ((ρ.put i t).put j u) η2) hρ hS ht (hX σ) fun t u x y η2 H2 rx ry S2 f2 k => ⟨x, y, rfl, hD.nx _ _ η2 H2 (((hρ.frm f2).set (x := ρ.x) rx).set ry) S2 f2 k⟩
theorem s_setIdx {o i : Expr} {to ti : TE'} {tpos : Pos} (ha : PE X e (liftE G W ta)) (ho : PE X o (liftE G W to)) (hi : PE X i (liftE G W ti)) (hns : ∀ v, assign (.Subscript o i tpos) X.env v = (do
      let ov ← holding [v] (eval o X.env)
      let iv ← holding [v, ov] (eval i X.env)
      standAt tpos
      holding [v, ov, iv] (setItem ov iv v)
      release [v, ov, iv] [])) (hs : swapsWithSole [.Subscript o i tpos] e pos.line X.env = pure false) (hw : swappedStores [.Subscript o i tpos] e X.env = pure none) :
    PS X (.Assign [.Subscript o i tpos] e pos) (liftS G W fun D ρ η => ta ρ η D.X fun t η1 => to ρ η1 D.X fun u η2 => ti ρ η2 D.X fun w η3 => optF (setV u w η3 t) fun η4 => D.nx ρ η4) := (ps_asg ha (pg_sub ho hi set_list hns) hs hw rfl).imp fun D σ H ⟨ρ, η, d, hρ, hS, ht, hX, hD⟩ =>
  lift1 hρ hS ht (hX σ) fun t x η1 H1 rx S1 f1 k1 => lift2 (K' := fun u w η3 => optF (setV u w η3 t) fun η4 => d.nx ρ η4) (hρ.frm f1) S1 k1 ((hX σ).frm f1) fun u w y z η3 H3 ry rz S3 f3 k3 => by
    obtain ⟨η4, e4, q⟩ := optF_inv k3
    cases ry <;> first
      | (cases e4; done)
      | (rename_i p
         cases rz <;> first
           | (cases e4; done)
           | (rename_i k
              unfold setV at e4
              simp only at e4
              cases g : get η3 p with
              | none => rw [g] at e4; cases e4
              | some ob =>
                rw [g] at e4
                cases ob with
                | lst xs =>
                  simp only [Option.map_eq_some_iff] at e4
                  obtain ⟨j, ej, rfl⟩ := e4
                  obtain ⟨vs, hv, rs⟩ := S3.ob p _ g
                  have fp : Frm η3 H3 (TL.put η3 p (.lst (xs.set j t))) (upd H3 p (.lst (vs.set j x))) := Frm.put g
                  refine ⟨p, vs, k, j, rfl, rfl, hv, by rw [← rs.length]; exact ej, ?_⟩
                  exact hD.nx σ ρ _ _ (((hρ.frm f1).frm f3).frm fp) (S3.put g ⟨_, upd_same, (ValsR.set (rx.frm f3) j rs).frm fp⟩) ((f1.trans f3).trans fp) q
                | _ => cases e4))
theorem s_if {p q : List Stmt} (hc : PT X c (liftC G W cA)) (h1 : PSs X p (liftS G W t)) (h2 : PSs X q (liftS G W u)) : PS X (.If c p q pos) (liftS G W fun D ρ η => cA ρ η D.X fun k η1 => ifB k (t D ρ η1) (u D ρ η1)) := (ps_if hc h1 h2).imp fun D σ H ⟨ρ, η, d, hρ, hS, ht, hX, hD⟩ =>
  ⟨ρ, η, _, _, hρ, hS, ht, hX σ, fun k η1 H1 S1 f1 q => ifB_split q (fun q => ⟨ρ, η1, d, hρ.frm f1, S1, q, HXs.frm f1 hX, hD.frm f1⟩) fun q => ⟨ρ, η1, d, hρ.frm f1, S1, q, HXs.frm f1 hX, hD.frm f1⟩⟩
theorem s_for {tg : Tg} {tgE iter : Expr} {body : List Stmt} {wi : TI'} (hp : PassesOwn (model X.prog X.w) X.A X.env X.xe) (hc : X.calm = true) (hi : PI X tgE iter (liftI G W wi)) (hg : PG X tgE (gT G.K tg)) (hb : PSs X body (liftS G W t)) (hs : ∀ x, foldedSetIterable iter X.env x = pure x) :
    PS X (.For tgE iter body [] pos) (liftS G W fun D ρ η => wi ρ η D.X fun ts sr η1 => wfor (stays sr ts) tg t D ts ρ η1) := (ps_for hp hc hi hg hb hs).imp fun D σ H ⟨ρ, η, d, hρ, hS, ht, hX, hD⟩ => by
  refine ⟨ρ, η, _, _, hρ, hS, ht, hX σ, fun ts src J η1 H1 wk hl S1 f1 k1 => ?_⟩
  have hZ : ∀ a, G.Z a → G.Z a ∨ H1 a = none := fun a z => .inl z
  refine ⟨fun i m σ' H' => i ≤ ts.length ∧ m = ts.length - i ∧ ∃ ρ' η', EnvR G H' η' σ' ρ' ∧ StoR G H' η' ∧ Frm η1 H1 η' H' ∧ wfor (stays src ts) tg t d (ts.drop i) ρ' η', ⟨_, Nat.zero_le _, rfl, ρ, η1, hρ.frm f1, S1, .refl, k1⟩, ?_⟩
  rintro i m σ' H' ⟨hi, rfl, ρ', η', hρ', S', f', hw⟩
  by_cases hlt : i < ts.length
  · rw [List.drop_eq_getElem_cons hlt] at hw
    obtain ⟨st, hw⟩ := hw
    refine .inr ⟨wk.go _ hZ i H' η' hlt S' f' st, fun σ'' H'' => ∃ m', m' < ts.length - i ∧ (i + 1 ≤ ts.length ∧ m' = ts.length - (i + 1) ∧ ∃ ρ' η', EnvR G H'' η' σ'' ρ' ∧ StoR G H'' η' ∧ Frm η1 H1 η' H'' ∧ wfor (stays src ts) tg t d (ts.drop (i + 1)) ρ' η'), fun _ _ h => h, fun x H2 y => ?_⟩
    obtain ⟨t', et, rx, S2, f2⟩ := wk.yld _ hZ i H' η' x H2 S' f' st y hlt
    rw [List.getElem?_eq_getElem hlt] at et
    cases et
    obtain ⟨v, ev, hw⟩ := optF_inv hw
    have f12 := f'.trans f2
    have nxt : ∀ σ3 ρ3 η3 H3, EnvR G H3 η3 σ3 ρ3 → StoR G H3 η3 → Frm η' H2 η3 H3 → wfor (stays src ts) tg t d (ts.drop (i + 1)) ρ3 η3 → ∃ m', m' < ts.length - i ∧ (i + 1 ≤ ts.length ∧ m' = ts.length - (i + 1) ∧ ∃ ρ' η', EnvR G H3 η' σ3 ρ' ∧ StoR G H3 η' ∧ Frm η1 H1 η' H3 ∧ wfor (stays src ts) tg t d (ts.drop (i + 1)) ρ' η') :=
      fun σ3 ρ3 η3 H3 hρ3 S3 f3 k3 => ⟨ts.length - (i + 1), by omega, hlt, rfl, ρ3, η3, hρ3, S3, f12.trans f3, k3⟩
    refine gT_ok (x := ρ'.x) (hρ'.frm f2) rx ev fun σ2 hρ2 _ => ⟨⟨v, ρ'.x⟩, η', _, hρ2, S2, hw, HXs.frm (f1.trans f12) hX, ?_⟩
    exact ⟨nxt, hD.rt.frm (f1.trans f12), fun σ3 ρ3 η3 H3 hρ3 S3 f3 k3 => hD.nx σ3 ρ3 η3 H3 hρ3 S3 ((f1.trans f12).trans f3) k3, nxt⟩
  · have e : i = ts.length := by omega
    subst e
    rw [List.drop_length] at hw
    obtain ⟨st, hw⟩ := hw
    exact .inl ⟨wk.stop _ hZ H' η' S' f' st, hD.nx σ' ρ' η' H' hρ' S' (f1.trans f') hw⟩
theorem s_while {body : List Stmt} (hp : PassesOwn (model X.prog X.w) X.A X.env X.xe) (hc : PT X c (liftC G W cA)) (hb : PSs X body (liftS G W t)) :
    PS X (.While c body [] pos) (liftS G W fun D ρ η => ∃ n, wwhile (fun ρ' η' K => cA ρ' η' D.X K) t D n ρ η) := (ps_while hp hc hb).imp fun D σ H ⟨ρ, η, d, hρ, hS, ⟨n, ht⟩, hX, hD⟩ => by
  refine ⟨fun m σ' H' => ∃ ρ' η', EnvR G H' η' σ' ρ' ∧ StoR G H' η' ∧ Frm η H η' H' ∧ wwhile (fun ρ' η' K => cA ρ' η' d.X K) t d m ρ' η', ⟨n, ρ, η, hρ, hS, .refl, ht⟩, ?_⟩
  rintro m σ' H' ⟨ρ', η', hρ', S', f', hw⟩
  cases m with
  | zero => exact hw.elim
  | succ m =>
    refine ⟨ρ', η', d.X, _, hρ', S', hw, (hX σ').frm f', fun k η1 H1 S1 f1 q => ifB_split q (fun q => ?_) fun q => hD.nx σ' ρ' η1 H1 (hρ'.frm f1) S1 (f'.trans f1) q⟩
    have f2 := f'.trans f1
    have nxt : ∀ σ3 ρ3 η3 H3, EnvR G H3 η3 σ3 ρ3 → StoR G H3 η3 → Frm η1 H1 η3 H3 → wwhile (fun ρ' η' K => cA ρ' η' d.X K) t d m ρ3 η3 → ∃ m', m' < m + 1 ∧ ∃ ρ' η', EnvR G H3 η' σ3 ρ' ∧ StoR G H3 η' ∧ Frm η H η' H3 ∧ wwhile (fun ρ' η' K => cA ρ' η' d.X K) t d m' ρ' η' :=
      fun σ3 ρ3 η3 H3 hρ3 S3 f3 k3 => ⟨m, Nat.lt_succ_self _, ρ3, η3, hρ3, S3, f2.trans f3, k3⟩
    refine ⟨fun σ'' H'' => ∃ m', m' < m + 1 ∧ ∃ ρ' η', EnvR G H'' η' σ'' ρ' ∧ StoR G H'' η' ∧ Frm η H η' H'' ∧ wwhile (fun ρ' η' K => cA ρ' η' d.X K) t d m' ρ' η', fun _ _ h => h, ρ', η1, _, hρ'.frm f1, S1, q, HXs.frm f2 hX, ?_⟩
    exact ⟨nxt, hD.rt.frm f2, fun σ3 ρ3 η3 H3 hρ3 S3 f3 k3 => hD.nx σ3 ρ3 η3 H3 hρ3 S3 (f2.trans f3) k3, nxt⟩
/-- a list of the store that nobody changes any more -/
theorem q_frz {i : Nat} {x : Str} {p : Pos} (hN : X.N[i]? = some x) (hv : Vis X.env.scope x) (hd : (x == ("__debug__" : Str)) = false) (hcd : (x == ("__classdict__" : Str)) = false) : PE X (.Name x p) (liftE G W fun ρ η _ K => optF (frzV (nth ρ.v i) η) fun q => K (.cl q.1) (TL.del η q.2)) :=
  (pe_var hN hv hd hcd).imp fun σ H Q ⟨ρ, η, Y, K, hρ, hS, ht, hX, hQ⟩ => by
    obtain ⟨⟨xs, a⟩, e, q⟩ := optF_inv ht
    have e' : nth ρ.v i = some (.ref a) ∧ get η a = some (.lst xs) := by
      cases hn : nth ρ.v i with
      | none => rw [hn] at e; cases e
      | some t =>
        rw [hn] at e
        cases t with
        | ref b =>
          unfold frzV at e
          simp only at e
          cases g : get η b with
          | none => rw [g] at e; cases e
          | some o =>
            rw [g] at e
            cases o with
            | lst ys => cases e; exact ⟨rfl, g⟩
            | _ => cases e
        | _ => cases e
    obtain ⟨e1, g⟩ := e'
    obtain ⟨v, e2, r⟩ := hρ.val i _ e1
    cases r
    obtain ⟨vs, hv, rs⟩ := hS.ob a _ g
    have f : Frm η H (TL.del η a) H := Sub.del.frm
    refine ⟨.ref a, e2, hQ (.cl xs) (.ref a) (TL.del η a) H (.cl (.inl ⟨.inl hv, ?_, fun z => ?_⟩) (rs.frm f)) (hS.sub Sub.del) f q⟩
    · rw [get_del, if_pos rfl]
    · rw [(hS.hz a z).2] at g; cases g
theorem q_weak (ha : PE X a (liftE G W ta)) : PE X a (liftE G W fun ρ η X K => ta ρ η X fun u η' => ∃ η'', Sub η'' η' ∧ K u η'') := ha.imp fun σ H Q ⟨ρ, η, Y, K, hρ, hS, ht, hX, hQ⟩ =>
  lift1 hρ hS ht hX fun u x η1 H1 rx S1 f1 ⟨η2, hs, k⟩ => hQ u x η2 H1 (rx.frm hs.frm) (S1.sub hs) (f1.trans hs.frm) k
end
end TL

set_option maxHeartbeats 2000000
/-! an exception whose __init__ says super().__init__(f), self.f = f -/
namespace TL
open PySem PySem.Spec PyProof.Rows L2
open PySem.W in
abbrev exCx (P : Program) (w : World) (K : PySem.W.Frag) (mg : Str → Option Value) (base : Heap) (N : List Str) (qual : Str) (scope : Scope) (f : Addr) (cd : Value) (cc : Addr) (A : Around) (outer : List PySem.Env) (s : Shared) (H : Hp) : Cx where
  prog := P
  w := w
  K := K
  mg := mg
  base := base
  A := A.deeper (ksEnv qual scope s.heap.objs.size f cd cc)
  N := N
  s_0 := s
  H_0 := H
  env := ksEnv qual scope s.heap.objs.size f cd cc
  outer := outer
  stack := ksEnv qual scope s.heap.objs.size f cd cc :: outer
  ex := []
  calm := true
  fn := fun _ => false
  pn := []
  xe := fun _ _ => False
/-- what such an __init__ promises -/
def spExn (C : Addr) (fld : Str) : Sp := fun vs H Q _ => ∃ e y, vs = [.ref e, y] ∧ H e = some (exo e C none) ∧ ∀ dx, H dx = none → dx ≠ e → Q .non (upd (upd H dx (exd dx [(fld, y)])) e (exo e C (some dx)))
section
variable {P : Program} {w : World} {K : PySem.W.Frag} {mg : Str → Option Value} {base : Heap} {CX : CXT} {k : Nat} {name qual : Str} {params : Arguments} {scope : Scope} {dV kV doc pm ct oc : Value} {an od : Option Addr} {osl : Array (Option Value)}
  {C fI cc cda : Addr} {fld : Str} {ccl cl : Value} {cdd cld : Option Addr} {vs : Array Value} {ccs csl : Array (Option Value)} {file : Str} {tf : Tok} {ar : Arg} {p0 p1 p2 p3 p4 p5 p6 p7 p8 p9 : Pos}
abbrev exBody (fld : Str) (p0 p1 p2 p3 p4 p5 p6 p7 p8 p9 : Pos) : List Stmt := [.Expr (.Call (.Attribute (.Call (.Name "super" p0) [] [] p1) "__init__" p2) [.Name fld p3] [] p4) p5, .Assign [.Attribute (.Name "self" p6) fld p7] (.Name fld p8) p9]
/-- what the scope of such an __init__ says -/
structure ExScope (scope : Scope) (fld : Str) : Prop where
  kind : scope.kind = .function
  co : scope.isCoroutine = false
  gen : scope.isGenerator = false
  sup : scope.names.lookup ("super" : Str) = some .globalImplicit
  cls : scope.names.lookup ("__class__" : Str) = some .free
  slf : scope.names.lookup ("self" : Str) = some .local
  fl : scope.names.lookup fld = some .local
  nocell : ∀ x ∈ scope.names, x.2 ≠ .cell
  free : ∀ x ∈ scope.names, x.2 = .free → x.1 = "__class__"
  ne : fld ≠ "self"
  nd : (fld == ("__debug__" : Str)) = false
  nc : (fld == ("__classdict__" : Str)) = false
theorem exn_inv (S : ExScope scope fld) {A : Around} {outer : List PySem.Env} {s : Shared} {H : Hp} (hd : A.handled = none) (e0 : Env0 P w K mg base A outer s H) (hcell : K.lookup cc = some ⟨cl, cld, .cell (some (.ref C)), csl⟩) {e : Addr} {y : V} {u : Value} (ry : RelV y u)
    {h1 : Heap} {tk : Nat} (hn : h1.Ns s.heap.objs.size fun x => ([("self", .ref e), (fld, u)] : List (Str × Value)).reverse.lookup x) (hk : ∀ b o, s.heap.get? b = some o → h1.get? b = some o) :
    Inv (exCx P w K mg base ["self", fld] qual scope fI (.ref cda) cc A outer s H) [] [some (.ref e), some y] H { s with heap := h1, toks := tk } := by
  have hcc : base.get? cc = some ⟨cl, cld, .cell (some (.ref C)), csl⟩ := e0.mod.kin _ _ hcell
  have lkc : ∀ x c, ([("__class__", cc)] : List (Str × Addr)).lookup x = some c → x = "__class__" ∧ c = cc := fun x c h => by
    rw [List.lookup_cons] at h
    split at h
    · rename_i hb
      exact ⟨by simpa using hb, (Option.some.inj h).symm⟩
    · cases h
  have noA : ∀ b : Addr, b ∉ ([] : List Addr) := fun b z => by simp at z
  refine ⟨⟨e0.mod, S.kind, rfl, rfl, Nat.le_refl _, fun y z c h1 h2 => ?_, fun y hy => ?_, fun y c z _ => absurd z (by simp), fun _ => hd, Around.frames_deeper e0.frames, .inr ⟨rfl, rfl⟩, fun b z => absurd z (noA b), e0.bs, e0.bsz, fun b _ _ => noA b, fun b z => absurd z (noA b), e0.funs, e0.frf⟩,
    rfl, e0.bare, Un.kept hk, ⟨_, hn, fun i x v h1 h2 h3 => ?_⟩, fun y c h => ?_, e0.hok.fresh (Nat.le_refl _), fun y c h => ?_, fun p hp => absurd (show p ∈ ([] : List (Addr × Obj)) from hp) (by simp), e0.hok.kept hk, rfl⟩
  · exact (lkc _ _ h1).1.trans (lkc _ _ h2).1.symm
  · have hy : scope.names.lookup y = some .cell ∨ scope.names.lookup y = some .free := hy
    rcases hy with hy | hy
    · exact absurd rfl (S.nocell _ (PySem.mem_of_lookup hy))
    · have := S.free _ (PySem.mem_of_lookup hy) rfl
      subst this
      exact ⟨cc, rfl⟩
  · match i, h1, h2 with
    | 0, h1, h2 =>
      cases h1
      cases h2
      refine ⟨.ref e, rfl, .inl ⟨S.slf, ?_⟩⟩
      show ([(fld, u), ("self", .ref e)] : List (Str × Value)).lookup ("self" : Str) = _
      rw [List.lookup_cons]
      have : (("self" : Str) == fld) = false := by simpa using S.ne.symm
      rw [this]
      rfl
    | 1, h1, h2 =>
      cases h1
      cases h2
      refine ⟨u, ry, .inl ⟨S.fl, ?_⟩⟩
      show ([(fld, u), ("self", .ref e)] : List (Str × Value)).lookup fld = _
      rw [List.lookup_cons]
      simp
    | i + 2, h1, h2 => simp at h1
  · obtain ⟨_, rfl⟩ := lkc _ _ h
    exact ⟨_, _, hk _ _ (e0.bs _ _ hcc).1, rfl⟩
  · obtain ⟨_, rfl⟩ := lkc _ _ h
    exact (e0.bs _ _ hcc).2
/-- super().__init__(..) of a ValueError, run -/
theorem exn_super {X : Cx} {pins : List (Addr × Obj)} {σ : L2.St} {H : Hp} {s : Shared} {e u : Addr} {rest : List Value} {A : Around} {E : Value → Shared → Prop} {Q : Value → Shared → Prop} (T : OexC X.K C) (I : Inv X pins σ H s) (he : H e = some (exo e C none)) (hu : s.heap.get? u = some (PySem.W.kxs_mw "ValueError.__init__" e)) (hl : rest.length ≤ sizeLine)
    (h : ∀ s', Inv X pins σ H s' → Q .none s') : wpAny (model X.prog X.w) A (call (.ref u) rest) Q E s := by
  obtain ⟨nm, q, N, bs, bm, sn, sub, ab, col, dd, k0, k1, k2, k3, k5, hC, hbm⟩ := T.cls
  obtain ⟨t1, ho⟩ := exo_at I.hok he
  obtain ⟨hp, g, dr, t, os⟩ := s
  refine wpAny_call (codeAny_of_tree ?_)
  show wpAny _ A.in1 (callAny (.ref u) { pos := rest, kw := [] }) _ _ _
  simp only [callAny]
  refine wpAny_bind (wpAny_load hu ?_)
  have hmw : (Value.type "method-wrapper" == Value.type "method" || Value.type "method-wrapper" == Value.type "builtin_function_or_method" || Value.type "method-wrapper" == Value.type "method-wrapper") = true := by decide
  simp only [PySem.W.kxs_mw, hmw, if_true]
  refine PySem.W.KFB.if_so (by decide) ?_
  refine wpAny_bind (PySem.W.check_bound_init F.excBase_ValueError.toExcCallFacts (I.kIn _ _ hC) ho rfl (wpAny_bind (wpAny_pure (wpAny_pure ?_))))
  refine ⟨plainId_quiet F.excBase_ValueError.init.plain _, codeAny_builtin F.excBase_ValueError.initEntry ?_⟩
  refine PySem.W.exc_init_tree (cls := .ref C) (t0 := t1) (dv := none) (c2 := .none) (c3 := .none) (b4 := .bool false) ho hl fun h' kp hx ht => ?_
  have J := I.write (t' := t) (x := e) (e := e) (o := exo e C none) (by rw [he]; exact True.intro) (.inl rfl) kp ⟨_, hx⟩ (exo_ok hx)
  have eu : upd H e (exo e C none) = H := funext fun b => by
    by_cases hb : b = e
    · subst hb; rw [upd_same, he]
    · rw [upd_ne hb]
  rw [eu] at J
  exact h _ J
theorem exCallEq {env : PySem.Env} (hline : (p2.endLine == p4.line) = true) : eval (.Call (.Attribute (.Call (.Name "super" p0) [] [] p1) "__init__" p2) [.Name fld p3] [] p4) env = (do
      let ov ← attributeBase (.Call (.Name "super" p0) [] [] p1) "__init__" env (eval (.Call (.Name "super" p0) [] [] p1) env)
      standAt p2.atName
      let (f, first) ← holding [ov] (getMethod ov "__init__" (do return (← importBound (.Call (.Name "super" p0) [] [] p1) env).getD true))
      callWith p4 f first (backTo p4 (starEach [.Name fld p3] env)) []) := by
  have e : methodCallPos true (.Call (.Name "super" p0) [] [] p1) env p2 p4 = pure p4 := by
    unfold methodCallPos
    rw [hline]
    rfl
  have e2 : ∀ ov, methodCall (.Call (.Name "super" p0) [] [] p1) "__init__" p2 p4 env ov 1 (backTo p4 (starEach [.Name fld p3] env)) [] = (do
      let (f, first) ← holding [ov] (getMethod ov "__init__" (do return (← importBound (.Call (.Name "super" p0) [] [] p1) env).getD true))
      callWith p4 f first (backTo p4 (starEach [.Name fld p3] env)) []) := fun ov => by
    show (holding [ov] (getMethod ov "__init__" _) >>= fun q => methodCallPos true (.Call (.Name "super" p0) [] [] p1) env p2 p4 >>= fun cp => callWith cp q.1 q.2 _ _) = _
    rw [e]
    rfl
  show (attributeBase _ _ _ _ >>= fun ov => standAt p2.atName >>= fun _ => methodCall (.Call (.Name "super" p0) [] [] p1) "__init__" p2 p4 env ov 1 (backTo p4 (starEach [.Name fld p3] env)) []) = _
  simp only [e2]
open PySem.W in
theorem exn_ok (lk : K.lookup fI = some ⟨oc, od, .func (ksFn name qual params (exBody fld p0 p1 p2 p3 p4 p5 p6 p7 p8 p9) scope dV kV doc pm an (.ref cda) ct cc), osl⟩) (hcd : codeIn K (.ref cda) qual = true)
    (hcode : K.lookup cda = some ⟨ccl, cdd, .fields vs, ccs⟩) (hvs : vs[2]? = some (.str file tf)) (hfile : ((P.main.file : Str) == file) = true) (hcell : K.lookup cc = some ⟨cl, cld, .cell (some (.ref C)), csl⟩)
    (hp : (params.posonlyargs ++ params.args).head? = some ar) (har : ar.arg = "self") (T : OexC K C) (hsi : ks_superIn K C C "__init__" = some (some (.builtin "ValueError.__init__"))) (hVE : subIn K (.ref C) (.type "ValueError") = some true) (hself : mroIn K C (.ref C) = some true)
    (hth : nsIn K cStatics "thirdparty.any" = some none) (hsup : mg "super" = none) (S : ExScope scope fld) (hfl : findIn K (.ref C) fld = some none) (htop : (P.main.scope.names.lookup ("super" : Str)).isSome = false) (hline : (p2.endLine == p4.line) = true) :
    FnOk P w K mg base CX (k + 1) fI (ksFn name qual params (exBody fld p0 p1 p2 p3 p4 p5 p6 p7 p8 p9) scope dV kV doc pm an (.ref cda) ct cc) ["self", fld] (spExn C fld) := by
  refine ⟨fun vs H Q E ⟨e, y, hv, _⟩ => by rw [hv]; rfl, fun A outer s H args us ws Q E hr e0 hb r hsp => ?_⟩
  obtain ⟨e, y, rfl, he, hq⟩ := hsp
  cases r with
  | cons r1 rr =>
  cases rr with
  | cons ry rr =>
  cases rr
  cases r1
  rename_i u
  have KX : K.In s.heap := e0.mod.kin.keeps fun b o q => (e0.bs b o q).1
  have lim : s.heap.NoLimit := e0.mod.nolimit.keeps fun b o q => (e0.bs b o q).1
  refine ks_codeAny_call_defAt hr.depth (KX _ _ lk) rfl lim (codeRec_of KX hcd) rfl hb S.nocell (fun x hx => ?_) (fun h1 hn hk => ?_) S.co S.gen S.kind
  · have hx : x ∈ ([("self", Value.ref e), (fld, u)] : List (Str × Value)) := hx
    rcases List.mem_cons.mp hx with rfl | hx
    · exact S.slf
    · obtain rfl := List.mem_singleton.mp hx
      exact S.fl
  have I1 : Inv (exCx P w K mg base ["self", fld] qual scope fI (.ref cda) cc A outer s H) [] [some (.ref e), some y] H { s with heap := h1, toks := s.toks + 2 } := exn_inv S hr.hd e0 hcell ry hn hk
  have KX1 : K.In h1 := KX.keeps hk
  obtain ⟨cdC, hcC⟩ : ∃ cdC, clsIn K C = some cdC := by
    cases z : clsIn K C with
    | none => unfold mroIn at hself; rw [z] at hself; cases hself
    | some cd => exact ⟨cd, rfl⟩
  obtain ⟨oD, hD1, hD2⟩ : ∃ oD, h1.get? C = some oD ∧ oD.data = .cls cdC := by
    unfold clsIn at hcC
    split at hcC
    · rename_i c d cd' sl ho
      cases hcC
      exact ⟨_, KX1 _ _ ho, rfl⟩
    · cases hcC
  obtain ⟨t1, ho⟩ := exo_at I1.hok he
  have ho : h1.get? e = _ := ho
  have II : InstAt h1 e _ C none := ⟨ho, rfl, rfl, trivial⟩
  have hec : e ≠ C := ks_ne KX1 II hcC
  have I0 := I1
  obtain ⟨mb, hb1, hb2⟩ := I0.mod.blt
  generalize hXX : exCx P w K mg base ["self", fld] qual scope fI (.ref cda) cc A outer s H = XX at I1
  have xP : XX.prog = P := by rw [← hXX]
  have xw : XX.w = w := by rw [← hXX]
  have xK : XX.K = K := by rw [← hXX]
  have xA : XX.A = A.deeper (ksEnv qual scope s.heap.objs.size fI (.ref cda) cc) := by rw [← hXX]
  have xe : XX.env = ksEnv qual scope s.heap.objs.size fI (.ref cda) cc := by rw [← hXX]
  have xN : XX.N = ([("self" : Str), fld] : List Str) := by rw [← hXX]
  have pf : PE XX (.Name fld p3) (tVar 1) := pe_var (by rw [xN]; rfl) (by rw [xe]; exact .inl S.fl) S.nd S.nc
  have pf8 : PE XX (.Name fld p8) (tVar 1) := pe_var (by rw [xN]; rfl) (by rw [xe]; exact .inl S.fl) S.nd S.nc
  have ps6 : PE XX (.Name "self" p6) (tVar 0) := pe_var (by rw [xN]; rfl) (by rw [xe]; exact .inl S.slf) (by decide) (by decide)
  -- the second statement
  have two : ∀ s2, Inv XX [] [some (.ref e), some y] H s2 → wpAny (model P w) (A.deeper (ksEnv qual scope s.heap.objs.size fI (.ref cda) cc)) (execs [.Assign [.Attribute (.Name "self" p6) fld p7] (.Name fld p8) p9] (ksEnv qual scope s.heap.objs.size fI (.ref cda) cc))
      (fun f s' => CR CX outer P w H s Q E (.ok (.ret (match f with | .ret v => v | _ => .none))) s') (fun _ _ => False) s2 := fun s2 I2 => by
    have ps : PSs XX [.Assign [.Attribute (.Name "self" p6) fld p7] (.Name fld p8) p9] (tOst XX.K fld (tVar 0) (tVar 1)) := pss_one (ps_ost ps6 pf8 rfl)
    have rn := ps.run [] s2 _ H { nx := fun _ H' => Q .non H', rt := Q } I2 ⟨y, rfl, .ref e, rfl, e, C, rfl, by rw [xK]; exact T, by rw [xK]; exact hfl, .inl ⟨he, fun dx hx hne => hq dx hx hne⟩⟩
    rw [xP, xw, xA, xe] at rn
    refine wpAny_mono rn (fun f s' hs => ?_) fun x s' z => by rw [← hXX] at z; exact z
    cases f with
    | next =>
      obtain ⟨σ', H', J, q⟩ := hs
      have hb' := J.base
      have ho' := J.hok
      have hs' := J.os
      rw [← hXX] at hb' ho' hs'
      exact ⟨.non, H', hs', J.bare, hb', ho', rfl, q⟩
    | ret v =>
      obtain ⟨x, σ', H', J, rx, q⟩ := hs
      have hb' := J.base
      have ho' := J.hok
      have hs' := J.os
      rw [← hXX] at hb' ho' hs'
      exact ⟨x, H', hs', J.bare, hb', ho', rx, q⟩
    | brk => obtain ⟨_, _, _, q⟩ := hs; exact q.elim
    | cont => obtain ⟨_, _, _, q⟩ := hs; exact q.elim
  have quiet : interactive (ksEnv qual scope s.heap.objs.size fI (.ref cda) cc) = false := by simp [interactive, S.kind]
  change _root_.PySem.wpAt (model P w) (A.deeper (ksEnv qual scope s.heap.objs.size fI (.ref cda) cc)) (.func (exBody fld p0 p1 p2 p3 p4 p5 p6 p7 p8 p9) (ksEnv qual scope s.heap.objs.size fI (.ref cda) cc)) (execs (exBody fld p0 p1 p2 p3 p4 p5 p6 p7 p8 p9) (ksEnv qual scope s.heap.objs.size fI (.ref cda) cc)) _ _ _
  refine ks_wpAt_execs_cons (ks_wpAt_Expr_any (ks_wpAt_MethodCall (ks_wpAt_super_base S.sup S.cls (by decide) rfl (KX1 _ _ lk) rfl hp rfl (KX1 _ _ hcode) rfl hvs hfile htop ?_) (exCallEq hline)) quiet rfl)
  rw [har]
  refine ks_loadName_global S.kind S.sup (Calls.loadGlobal_builtin (env := ksEnv qual scope s.heap.objs.size fI (.ref cda) cc) (I0.mod.glob.keeps I0.bk) hsup (hb1.keeps I0.bk) ((hb2 _ (by decide)).trans (by decide +kernel)) ⟨rfl, ?_⟩)
  refine wpAny_loadName_free S.kind S.cls rfl ⟨_, KX1 _ _ hcell, rfl⟩ ?_
  obtain ⟨mL, hL, hlk⟩ := id I1.loc
  have hvis : Vis XX.env.scope ("self" : Str) := by rw [xe]; exact .inl S.slf
  obtain ⟨u0, ru0, hu0⟩ := hlk 0 "self" (.ref e) (by rw [xN]; rfl) rfl hvis
  obtain rfl : u0 = Value.ref e := ru0
  have hmv : mL "self" = some (.ref e) := by
    rcases hu0 with ⟨_, q⟩ | ⟨q, _⟩
    · exact q
    · have q' : scope.names.lookup ("self" : Str) = some .cell ∨ scope.names.lookup ("self" : Str) = some .free := by rw [xe] at q; exact q
      rw [S.slf] at q'
      rcases q' with z | z <;> cases z
  have hLn : h1.Ns s.heap.objs.size mL := by rw [xe] at hL; exact hL
  refine wpAny_loadName_local S.kind S.slf hLn hmv ?_
  refine ks_wpAny_isType_cls hD1 hD2 ⟨rfl, ?_⟩
  refine ks_wpAny_call_super hD1 hD2 ho rfl (fun c z => by cases z) (looks_mroIn KX1 hself) (fun h2 hso kp => ?_)
  have I2 : Inv XX [] [some (.ref e), some y] H { s with heap := h2, toks := s.toks + 2 } := I1.kept (t' := s.toks + 2) kp
  have KX2 : K.In h2 := KX1.keeps kp
  have II2 : InstAt h2 e _ C none := ⟨kp _ _ ho, rfl, rfl, trivial⟩
  have hI : Looks (model P w) h2 (isInstance (.ref e) (.type "ValueError")) true := (II2.type).andThen (looks_subIn KX2 hVE)
  unfold ks_superIn at hsi
  rw [hcC] at hsi
  refine kxs_getMethod kxs_ValueError hso (looks_opaque KX2 hth) (l₀ := cdC.mro) (fun A Q E s k q => wpAny_bind ((looks_clsIn KX2 hcC) A _ E s k (wpAny_pure q))) rfl KX2 hsi hI hec (by decide) ?_
  have kq : ∀ b o, h2.get? b = some o → (h2.push (kxs_mw "ValueError.__init__" e)).get? b = some o := fun b o z => Heap.get?_push_of_some _ z
  have hmw : (h2.push (kxs_mw "ValueError.__init__" e)).get? h2.objs.size = some (kxs_mw "ValueError.__init__" e) := Heap.get?_push_size _ rfl
  have I3 : Inv XX [(h2.objs.size, kxs_mw "ValueError.__init__" e)] [some (.ref e), some y] H { s with heap := h2.push (kxs_mw "ValueError.__init__" e), toks := s.toks + 2 + 1 } := (I2.kept (t' := s.toks + 2 + 1) kq).pins_of fun p hp => by
    have ep : p = (h2.objs.size, kxs_mw "ValueError.__init__" e) := by simpa using (show p ∈ ([(h2.objs.size, kxs_mw "ValueError.__init__" e)] : List (Addr × Obj)) from hp)
    subst ep
    exact ⟨hmw, I2.hok.fresh (Nat.le_refl _), Nat.ne_of_gt I2.lt, I2.nofs (Nat.le_refl _), fun v z => by cases z⟩
  refine kxs_callWith (i := "ValueError.__init__") (x := e) rfl ?_
  have arg := (pa_cons pf pa_nil (by rfl)).run p4 _ _ _ H (fun vs H' => vs = [y] ∧ H' = H) I3 ⟨y, rfl, rfl, rfl⟩
  rw [xP, xw, xA, xe] at arg
  refine Calls.evalArgs_plain (wpAny_mono arg (fun us s4 ⟨vs4, H4, I4, r4, ev, eH⟩ => ?_) fun x s' z => by rw [← hXX] at z; exact z.elim)
  subst ev
  rw [eH] at I4
  obtain ⟨uz, rfl, rz⟩ := vals1 r4
  have hmw4 : s4.heap.get? h2.objs.size = some (kxs_mw "ValueError.__init__" e) := (I4.pin (h2.objs.size, kxs_mw "ValueError.__init__" e) (by simp)).1
  have I4 := I4.pins_of (pins' := []) fun p hp => I4.pin p (List.mem_append_left _ (by simpa using hp))
  refine ⟨hmw4, ?_⟩
  have go := exn_super (A := A.deeper (ksEnv qual scope s.heap.objs.size fI (.ref cda) cc)) (E := fun _ _ => False) (Q := fun v s' => v = .none ∧ Inv XX [] [some (.ref e), some y] H s') (C := C) (rest := [uz]) (by rw [xK]; exact T) I4 he hmw4 (by show 1 ≤ sizeLine; rw [sizeLine_eq]; omega) fun s' J => ⟨rfl, J⟩
  rw [xP, xw] at go
  refine wpAny_mono go (fun v s' ⟨_, J⟩ => ?_) fun _ _ z => z.elim
  show _root_.PySem.wpAt _ _ _ _ _ _ _
  refine wpAt_of_wpAny (wpAny_mono (two s' J) (fun _ _ z => z) fun _ _ z => z.elim)
end
end TL

set_option maxHeartbeats 2000000
/-! raise; a lambda handed to a def that catches -/
namespace TL
open PySem PySem.Spec PyProof.Rows L2
section
variable {G : Glob} {W : WX} {X : Cx} {a b c : Expr} {ta tb tc : TE'} {pos : Pos} {es : List Expr} {n m : Nat}
/-- what is known of an exception class with such an __init__ -/
structure ExnC (G : Glob) (i : Nat) (C : Addr) (fld : Str) : Prop where
  xs : G.xs[i]? = some (C, fld)
  T : OexC G.K C
  init : ∃ fI fd, PySem.W.findIn G.K (.ref C) "__init__" = some (some (.ref fI)) ∧ PySem.W.typeIn G.K (.ref fI) = some (.type "function") ∧ FnOk G.P G.w G.K G.mg G.base (L2.CX G.P G.w) 1 fI fd ["self", fld] (spExn C fld) ∧ Binds G.K fd ["self", fld] []
theorem s_raise {i : Nat} {x : Str} {C : Addr} {fld : Str} {p : Pos} (o : XG G n W X) (hn : 2 ≤ n) (F : ExnC G i C fld) (hg : Gl X x) (hm : X.mg x = some (.ref C)) (ha : PE X a (liftE G W ta)) (hdb : (x == ("__debug__" : Str)) = false) (hs : starEach [a] X.env = (false, eval a X.env) :: starEach [] X.env) :
    PS X (.Raise (some (.Call (.Name x p) [a] [] pos)) none pos2) (liftS G W fun D ρ η => ta ρ η D.X fun u η' => D.X ⟨i, u⟩ η') := by
  obtain ⟨fI, fd, f1, f2, f3, f4⟩ := F.init
  have f3' : FnOk X.prog X.w X.K X.mg X.base (L2.CX X.prog X.w) 1 fI fd ["self", fld] (spExn C fld) := by rw [o.P, o.w, o.K, o.mg, o.base]; exact f3
  have mk := pmk_oex (X := X) (ds := []) (dvs := []) (p := p) (pos := pos) (by rw [o.K]; exact F.T) (by rw [o.K]; exact f1) (by rw [o.K]; exact f2) f3' (o.room.mono hn) (by rw [o.K]; exact f4) .nil (passes_call o.tk fun _ _ _ _ h => h.elim) hg hm (pa_cons ha pa_nil hs) hdb hs (by rfl)
  refine (ps_raise o.calm o.tk mk).imp fun D σ H ⟨ρ, η, d, hρ, hS, ht, hX, hD⟩ => ?_
  refine lift1 hρ hS ht (hX σ) fun u v η1 H1 rv S1 fr k1 => ⟨by show 1 ≤ 1000; omega, fun e he => ⟨e, v, rfl, upd_same, fun dx hdx hne => ⟨rfl, dx, [(fld, v)], upd_same, ?_, ?_, ?_⟩⟩⟩
  · rw [upd_ne hne, upd_same]
  · rwa [upd_ne hne] at hdx
  · have hdx : H1 dx = none := by rwa [upd_ne hne] at hdx
    have eH : upd (L2.del (upd (upd (upd H1 e (exo e C none)) dx (exd dx [(fld, v)])) e (exo e C (some dx))) e) dx (.xd [(fld, v)]) = upd H1 dx (.xd [(fld, v)]) := funext fun z => by
      by_cases h1 : z = dx
      · subst h1; rw [upd_same, upd_same]
      · rw [upd_ne h1, upd_ne h1]
        by_cases h2 : z = e
        · subst h2; rw [del_same, he]
        · rw [del_ne h2, upd_ne h2, upd_ne h1, upd_ne h2]
    rw [eH]
    exact hX σ ⟨i, u⟩ η1 (.ref C) (some dx) _ ⟨C, fld, dx, v, F.xs, rfl, rfl, upd_same, rv.frm (Frm.new hdx)⟩ (S1.new hdx) (fr.trans (Frm.new hdx)) k1
/-! a def: try: call() except C as e: return e.f / return '' -/
theorem Takes.len {X : Cx} {W : WX} (t : Takes X W) : Takes X fun cls d σ H => σ.length = X.N.length → W cls d σ H := fun u s' ⟨a, B, sI, pins, σ, H, cls, d, e, I, nb, up, sky, na, os, ag, w⟩ => t u s' ⟨a, B, sI, pins, σ, H, cls, d, e, I, nb, up, sky, na, os, ag, w I.len⟩
open LamX in
def TTref (CS : Addr) (fld : Str) (ret : Str) : (XK → Hp → VK → Prop) → Hp → VK → Prop := fun tl H Q => tl (fun cls d H' => cls = .ref CS ∧ ∃ dd fs v, d = some dd ∧ H' dd = some (.xd fs) ∧ fs.lookup fld = some v ∧ Q v H') H fun _ H' => Q (.str ret) H'
open LamX in
theorem ref_gives {Ng : List Str} {x call e exn q fld ret : Str} {sg : Scope} {g CS : Addr} {cdg : Value} {j : Nat} {p1 p2 p3 p4 p5 p6 p7 p8 p9 p10 p11 : Pos} (T : XfC X.K CS) (hno : PySem.W.findIn X.K (.ref CS) fld = some none) (hex : PySem.W.exmOne X.K (.ref CS) (.ref CS) = some true)
    (hge : sg.names.lookup exn = some .globalImplicit) (hme : X.mg exn = some (.ref CS)) (hde : (exn == ("__debug__" : Str)) = false) (hN : Ng = [call, e]) (hnd : Ng.Nodup) (hle : sg.names.lookup e = some .local) (hd1 : (e == ("__debug__" : Str)) = false) (hd2 : (e == ("__classdict__" : Str)) = false) :
    GivesTo X Ng x sg g cdg [.Try [.Expr (.Call (.Name call p1) [] [] p2) p3] [.ExceptHandler (some (.Name exn p4)) (some e) [.Return (some (.Attribute (.Name e p5) fld p6)) p7] p8] [] [] p9, .Return (some (.Constant (.str ret) j p10)) p11] call q (TTref CS fld ret) := by
  intro f c' s H Q tl act hc h
  generalize hY : (cxOf C8.CX0 X.prog X.w X.K X.mg X.base Ng x sg g cdg X.A X.stack s H C8.E0) = Y at act ⊢
  have yN : Y.N = Ng := by rw [← hY]; rfl
  have yK : Y.K = X.K := by rw [← hY]; rfl
  have ymg : Y.mg = X.mg := by rw [← hY]; rfl
  have ysc : Y.env.scope = sg := by rw [← hY]; rfl
  have yst : Y.stack = Y.env :: Y.outer := by rw [← hY]; rfl
  have yfr : Y.env.frame = some Y.env.locals := by rw [← hY]; rfl
  have hgl : Gl Y.nox exn := by show Y.env.scope.names.lookup exn = _; rw [ysc]; exact hge
  refine ⟨_, pss_cons (ps_try_as (X := Y.nox) (c := .ref CS) (i := 1) (n := e) (tb := fun W D σ H => ∃ Ech : XK, (∀ cls d σ' H', Ech cls d H' → σ'.length = Ng.length → W cls d σ' H') ∧ σ[0]? = some (some (.ref f)) ∧ H c' = some (CodeO c' q) ∧ tl Ech H fun _ H' => D.nx σ H')
    (ts := fun a cls d => tRet (tXf a cls d CS fld (tVar 1))) yst yfr (by show Y.N.Nodup; rw [yN]; exact hnd) (by show Y.N[1]? = _; rw [yN, hN]; rfl) (by show Y.env.scope.names.lookup e = _; rw [ysc]; exact hle) ⟨hgl, hde, .inl (by show Y.mg exn = _; rw [ymg]; exact hme)⟩ L2.takes0 (fun W pn xe tk _ => ?_) fun a oe cls d pn hz hf => ?_) (pss_one (ps_ret pe_str)), ?_⟩
  · refine ⟨fun pins s' σ H' D I h' => ?_⟩
    obtain ⟨Ech, hW, h1, h2, h3⟩ := h'
    have hp := act (fun cls d σ H => σ.length = (Y.tr pn xe).N.length → W cls d σ H) pn xe Ech p1 p2 (Takes.len tk) (fun cls d σ' H' z hl => hW cls d σ' H' z (by have hl : σ'.length = Y.N.length := hl; rw [hl, yN]))
    have hq := pss_one (ps_expr (pos := p3) hp rfl)
    exact hq.run pins s' σ H' D I ⟨h1, h2, h3⟩
  · refine pss_one (ps_ret (pe_xf (X := Y.nox) (by show XfC Y.K CS; rw [yK]; exact T) (by show PySem.W.findIn Y.K _ _ = _; rw [yK]; exact hno) hz hf (pe_var (by show Y.N[1]? = _; rw [yN, hN]; rfl) (.inl (by show Y.env.scope.names.lookup e = _; rw [ysc]; exact hle)) hd1 hd2) rfl))
  · have hst : (L2.start Ng [V.ref f])[0]? = some (some (V.ref f)) := rfl
    refine ⟨_, fun cls d σ' H' ⟨ec, dd, fs, v, e1, e2, e3, q⟩ hl => ⟨true, by rw [ec]; show PySem.W.exmOne Y.K _ _ = _; rw [yK]; exact hex, fun _ a ha => ?_, fun z => by cases z⟩, hst, hc, h⟩
    have hl : 1 < σ'.length := by rw [hl, hN]; exact Nat.lt_succ_self 1
    exact ⟨.ref a, by rw [List.getElem?_set_self hl], rfl, ec, dd, fs, v, e1, e2, e3, q⟩
/-- the def that catches, as it stands -/
structure HofC (G : Glob) (nm : Str) (ci : Nat) (ret : Str) (g : Addr) (Ng : List Str) (call : Str) (sg : Scope) (cdv : Value) (bg : List Stmt) : Prop where
  ex : ∃ (pg : Arguments) (dV kV doc pm ct oc : Value) (an od : Option Addr) (osl : Array (Option Value)), G.K.lookup g = some ⟨oc, od, .func (PySem.W.fnOf nm nm pg bg sg dV kV doc pm an cdv ct), osl⟩ ∧ L2.Binds G.K (PySem.W.fnOf nm nm pg bg sg dV kV doc pm an cdv ct) [call] []
  cd : PySem.W.codeIn G.K cdv nm = true
  kp : PySem.W.keepIn G.K (.ref g) = true
  mg : G.mg nm = some (.ref g)
  sc : FnScope Ng [call] sg
  n0 : Ng[0]? = some call
  vis : Vis sg call
  gives : ∃ C fld, G.xs[ci]? = some (C, fld) ∧ ∀ (X : Cx) (q : Str), X.K = G.K → X.mg = G.mg → LamX.GivesTo X Ng nm sg g cdv bg call q (TTref C fld ret)
  d1 : (nm == ("__debug__" : Str)) = false
  d2 : (call == ("__debug__" : Str)) = false
  d3 : (call == ("__classdict__" : Str)) = false
open LamX in
theorem q_hof {nm : Str} {ci : Nat} {ret : Str} {g cA PA' : Addr} {Ng : List Str} {call : Str} {sg : Scope} {cdv : Value} {bg : List Stmt} {params : Arguments} {body : Expr} {scope : Scope} {p lpos : Pos} {te : TE'} {k : Nat} (o : XG G n W X) (hn : k + 2 ≤ n) (F : HofC G nm ci ret g Ng call sg cdv bg)
    (hg : Gl X nm) (hlen : ret.length ≤ sizeLine) (TB : TabB X.base X.mg cA PA') (hcode : X.env.code = .ref cA) (hmT : (PA', X.env.qual ++ "<lambda>") ∈ G.Tb) (hu : ∀ p ∈ G.Tb, p.1 = PA' → p.2 = X.env.qual ++ "<lambda>") (L : LamS X.env.scope scope) (hdef : defaultsOf params X.env = ([], []))
    (hbind : ∀ (q : Str) (cl : List (Str × Addr)) (pm cv ctv : Value), bindArgs (PySem.W.kla_fn "<lambda>" q params body scope cl pm cv ctv) ⟨[], []⟩ = pure [])
    (hbody : ∀ (A : Around) (outer : List PySem.Env) (s : Shared) (H : Hp) (E : XK) (f c' : Addr), Room k (A.deeper (lamEnv X scope s.heap.objs.size f c')) → PE (lamCx X A outer s H E scope f c') body (liftE G (fun cls d _ H' => E cls d H') te)) :
    PE X (.Call (.Name nm p) [.Lambda params body scope lpos] [] pos) (liftE G W fun ρ η X K => te ρ η (fun e η' => e.cls = ci ∧ K e.arg η') fun _ η' => K (.str ret) η') := by
  obtain ⟨pg, dV, kV, doc, pm, ct, oc, an, od, osl, lk, hb⟩ := F.ex
  obtain ⟨C, fld, hxs, hG⟩ := F.gives
  refine (pe_lamcall (X := X) (T := G.Tb) (TT := TTref C fld ret) (Ng := Ng) (t := fun E => liftE G (fun cls d _ H' => E cls d H') te) hg (by rw [o.mg]; exact F.mg) (by rw [o.K]; exact F.kp) (by rw [o.K]; exact lk) (by rw [o.K]; exact F.cd) (by rw [o.K]; exact hb) F.sc F.n0 F.vis
    (hG X _ o.K o.mg) TB hcode hmT hu (o.room.mono hn) L hdef hbind hbody F.d1 F.d2 F.d3).imp fun σ H Q ⟨ρ, η, Y, K, hρ, hS, ht, hX, hQ⟩ => ⟨hS.tb, fun H1 eN T1 => ?_⟩
  have f : Frm η H η H1 := ⟨fun b u e _ t => eN b u e t, fun _ _ _ n _ => n⟩
  have S1 : StoR G H1 η := ⟨fun a u e => by
    obtain ⟨v, hv, nt, _⟩ := (hS.ob a u e).there
    exact (hS.ob a u e).frm f (by rw [eN a v hv nt, hv]), T1, fun a z => by
    obtain ⟨⟨u, e, hu⟩, nn⟩ := hS.hz a z
    exact ⟨⟨u, eN a _ e hu.nt, hu⟩, nn⟩⟩
  refine ⟨ρ, η, _, _, hρ.frm f, S1, ht, fun e η' cls d H' hr S' f' ⟨hc, k⟩ => ?_, fun t v η' H' r S' f' k => hQ (.str ret) (.str ret) η' H' (.str _ hlen) S' (f.trans f') k⟩
  obtain ⟨C', f'', dx, v, h1, h2, h3, h4, h5⟩ := hr
  rw [hc, hxs] at h1
  cases h1
  exact ⟨h2, dx, _, v, h3, h4, by simp, hQ e.arg v η' H' h5 S' (f.trans f') k⟩
end
end TL

set_option maxHeartbeats 1000000
/-! dicts by value; calls with keywords -/
namespace TL
open PySem PySem.Spec PyProof.Rows L2
section
variable {G : Glob} {H : Hp} {η : Sto}
theorem keyR_of {t : T} {v : V} (h : keyT t = true) (r : ValR G H η t v) : ∃ k, keyR t k ∧ v = kV k := by
  cases r with
  | int i => exact ⟨.inl i, rfl, rfl⟩
  | str s l => exact ⟨.inr s, rfl, rfl⟩
  | _ => cases h
theorem beq_eq_decide' {α : Type} [BEq α] [LawfulBEq α] [DecidableEq α] (a b : α) : (a == b) = decide (a = b) := by
  by_cases h : a = b <;> simp [h]
theorem keyR_eqv {t u : T} {a b : Key} (h : keyR t a) (g : keyR u b) : eqv t u = decide (a = b) := by
  cases t <;> cases a <;> first
    | (cases h; done)
    | (cases u <;> cases b <;> first
        | (cases g; done)
        | (cases h; cases g; first | exact (beq_eq_decide' _ _).trans (by simp) | simp [eqv]))
theorem dget_val {k : T} {key : Key} (hk : keyR k key) : ∀ {kvs : List (Key × V)} {ks vs : List T}, KeysR ks (kvs.map (·.1)) → ValsR G H η vs (kvs.map (·.2)) → (dgetT k ks vs = none ∧ valV kvs key = none) ∨ ∃ t v, dgetT k ks vs = some t ∧ valV kvs key = some v ∧ ValR G H η t v
  | [], _, _, hks, hvs => by
    cases hks; cases hvs
    exact .inl ⟨rfl, rfl⟩
  | p :: kvs, _, _, hks, hvs => by
    cases hks with
    | @cons c cs _ _ h1 h2 =>
    cases hvs with
    | @cons w ws _ _ r1 r2 =>
    have e := keyR_eqv h1 hk
    unfold dgetT valV
    rw [e, List.find?_cons]
    by_cases q : p.1 = key
    · rw [decide_eq_true q]
      exact .inr ⟨w, p.2, by simp, by simp, r1⟩
    · rw [decide_eq_false q]
      have ih := dget_val hk h2 r2
      simpa [valV] using ih
theorem zip_map {k : T} {key : Key} {v : T} {y : V} (hk : keyR k key) (rv : ValR G H η v y) : ∀ {kvs : List (Key × V)} {ks vs : List T}, KeysR ks (kvs.map (·.1)) → ValsR G H η vs (kvs.map (·.2)) →
    KeysR ks ((kvs.map fun kv => if kv.1 = key then (kv.1, y) else kv).map (·.1)) ∧ ValsR G H η (List.zipWith (fun c w => if eqv c k = true then v else w) ks vs) ((kvs.map fun kv => if kv.1 = key then (kv.1, y) else kv).map (·.2)) ∧ (ks.any fun c => eqv c k) = kvs.any fun kv => decide (kv.1 = key)
  | [], _, _, hks, hvs => by
    cases hks; cases hvs
    exact ⟨.nil, .nil, rfl⟩
  | p :: kvs, _, _, hks, hvs => by
    cases hks with
    | @cons c cs _ _ h1 h2 =>
    cases hvs with
    | @cons w ws _ _ r1 r2 =>
    obtain ⟨a1, a2, a3⟩ := zip_map hk rv h2 r2
    have e := keyR_eqv h1 hk
    simp only [List.map_cons, List.zipWith_cons_cons, List.any_cons, e, a3, and_true]
    by_cases q : p.1 = key
    · simp only [q, if_true, decide_true, and_true]
      have h1 : keyR c p.1 := h1
      rw [q] at h1
      exact ⟨.cons h1 a1, .cons rv a2⟩
    · simp only [q, if_false, decide_false, Bool.false_eq_true, and_true]
      exact ⟨.cons h1 a1, .cons r1 a2⟩
theorem KeysR.snoc : ∀ {ks : List T} {xs : List Key} {k : T} {x : Key}, KeysR ks xs → keyR k x → KeysR (ks ++ [k]) (xs ++ [x])
  | _, _, _, _, .nil, h => .cons h .nil
  | _, _, _, _, .cons a r, h => .cons a (r.snoc h)
theorem put_val {k : T} {key : Key} {v : T} {y : V} (hk : keyR k key) (rv : ValR G H η v y) {kvs : List (Key × V)} {ks vs : List T} (h1 : KeysR ks (kvs.map (·.1))) (h2 : ValsR G H η vs (kvs.map (·.2))) :
    KeysR (dputT k v ks vs).1 ((putK kvs key y).map (·.1)) ∧ ValsR G H η (dputT k v ks vs).2 ((putK kvs key y).map (·.2)) := by
  obtain ⟨a1, a2, a3⟩ := zip_map hk rv h1 h2
  unfold dputT putK
  rw [a3]
  split
  · exact ⟨a1, a2⟩
  · rw [List.map_append, List.map_append]
    exact ⟨h1.snoc hk, h2.append (.cons rv .nil)⟩
/-- pairs laid into a dict, one after another -/
theorem dictOf_val : ∀ {ps : List T} {ws : List V} {ks vs : List T} {kvs : List (Key × V)} {q : List T × List T}, ValsR G H η ps ws → dictOf ps ks vs = some q → KeysR ks (kvs.map (·.1)) → ValsR G H η vs (kvs.map (·.2)) →
    ∃ (as : List Addr) (more : List (Key × V)), ws = as.map V.ref ∧ Paired (fun p kv => SqT G.K H p [kV kv.1, kv.2]) as more ∧ KeysR q.1 ((mergeK kvs more).map (·.1)) ∧ ValsR G H η q.2 ((mergeK kvs more).map (·.2))
  | [], _, ks, vs, kvs, q, r, e, h1, h2 => by
    cases r
    cases e
    exact ⟨[], [], rfl, .nil, h1, h2⟩
  | p :: ps, _, ks, vs, kvs, q, r, e, h1, h2 => by
    cases r with
    | cons rp r =>
    cases rp with
    | @tup a us ts st rs =>
      match ts, rs, e with
      | [k, v], rs, e =>
        obtain ⟨ku, vu, rfl, rk, rv⟩ := rs.two
        unfold dictOf at e
        split at e
        · rename_i hk
          obtain ⟨key, kr, rfl⟩ := keyR_of hk rk
          obtain ⟨b1, b2⟩ := put_val kr rv h1 h2
          obtain ⟨as, more, rfl, hp, c1, c2⟩ := dictOf_val r e b1 b2
          exact ⟨a :: as, (key, vu) :: more, rfl, .cons st.sq hp, c1, c2⟩
        · cases e
      | [], rs, e => cases e
      | [_], rs, e => cases e
      | _ :: _ :: _ :: _, rs, e => cases e
    | _ => cases e
end
/-! dict(pairs) -/
section
variable {X : Cx}
theorem prs_of {pins : List (Addr × Obj)} {σ : L2.St} {H : Hp} {s : Shared} (I : Inv X pins σ H s) : ∀ {as : List Addr} {kvs : List (Key × V)}, Paired (fun p kv => SqT X.K H p [kV kv.1, kv.2]) as kvs →
    ∃ (prs : List (Value × Value)) (kws : List (Key × Value)), KV kvs kws ∧ prs.length = as.length ∧ kws.length = as.length ∧ (∀ (j : Nat) (k v : Value), prs[j]? = some (k, v) → (∃ b, as[j]? = some b ∧ IsTup s.heap b #[k, v]) ∧ ∃ key, kws[j]? = some (key, v) ∧ (mixKind X.prog X.w).is key k = true)
  | _, _, .nil => ⟨[], [], .nil, rfl, rfl, fun j k v e => by simp at e⟩
  | _, _, .cons (a := p) (b := kv) h t => by
    obtain ⟨prs, kws, r, l1, l2, hp⟩ := prs_of I t
    obtain ⟨us, rv, ht, _⟩ := I.tuple h
    obtain ⟨u, y, ei, ru, ry⟩ := vals2 rv
    subst ei
    refine ⟨(u, y) :: prs, (kv.1, y) :: kws, .cons ⟨rfl, ry⟩ r, by rw [List.length_cons, List.length_cons, l1], by rw [List.length_cons, List.length_cons, l2], fun j k v e => ?_⟩
    cases j with
    | zero =>
      have e' : (u, y) = (k, v) := Option.some.inj e
      cases e'
      exact ⟨⟨p, rfl, ht⟩, kv.1, rfl, kV_is ru⟩
    | succ j => exact hp j k v (by simpa using e)
/-- a tuple without a dict -/
def PlT (K : PySem.W.Frag) (H : Hp) (a : Addr) (vs : List V) : Prop := FzT H a vs ∨ KwT K a vs
theorem plT_at {pins : List (Addr × Obj)} {σ : L2.St} {H : Hp} {s : Shared} (I : Inv X pins σ H s) {a : Addr} {vs : List V} (h : PlT X.K H a vs) : ∃ us, Vals vs us ∧ PySem.PlainSeq "tuple" s.heap a us.toArray ∧ vs.length ≤ sizeLine := by
  rcases h with ⟨o, h, hd⟩ | ⟨o, its, n, h1, h2, h3, h4, h5, h6⟩
  · obtain ⟨e, hz, us, r, o', e', hc, n, hdat⟩ := (show ObjOk X.prog X.w H s.heap a (.frz o (.tup vs)) from I.hok a _ h)
    rw [e] at e'
    cases e'
    exact ⟨us, r, ⟨o, n, e, hc, hd, hdat⟩, hz⟩
  · refine ⟨its.toList, h6, ⟨o, n, I.kIn _ _ h1, h2, h3, by rw [h4]⟩, ?_⟩
    rw [h6.length, Array.length_toList]
    exact h5
def rDictF (K : PySem.W.Frag) : List V → Hp → VK → Prop := fun xs H Q => ∃ (a : Addr) (as : List Addr) (kvs : List (Key × V)), xs = [.ref a] ∧ (SqL K H a (as.map V.ref) ∨ PlT K H a (as.map V.ref)) ∧ Paired (fun p kv => SqT K H p [kV kv.1, kv.2]) as kvs ∧
    ∀ p, H p = none → Q (.ref p) (upd H p (.dK (mergeK [] kvs)))
theorem cr_dictF (hcalm : X.calm = true) : CallR X (.type "dict") (rDictF X.K) := by
  intro pins s σ H xs us Q I r q
  obtain ⟨a, as, kvs, rfl, hq, hp, q⟩ := q
  rcases hq with hq | hq
  · exact call_dictP hcalm pins s σ H _ us Q I r ⟨a, as, kvs, rfl, hq, hp, q⟩
  · obtain ⟨u, rfl, rx⟩ := vals1 r
    cases rx
    obtain ⟨its, rv, pl, hz⟩ := plT_at I hq
    have ei := refs_at rv
    subst ei
    rw [List.length_map] at hz
    obtain ⟨prs, kws, rel, l1, l2, hpr⟩ := prs_of I hp
    have hit : PySem.PairItems s.heap (as.map Value.ref).toArray (fun j => as.getD j 0) prs := ⟨by simp [l1], fun j k v e => by
      obtain ⟨⟨b, e1, e2⟩, _⟩ := hpr j k v e
      refine ⟨by simp [e1], .inl ?_⟩
      have : as.getD j 0 = b := by rw [List.getD_eq_getElem?_getD, e1]; rfl
      show s.heap.IsTuple (as.getD j 0) #[k, v]
      rw [this]
      exact e2⟩
    refine PySem.call_dict_pairs (knd := mixKind X.prog X.w) (kvs := kws) (PySem.PairArg.tuple a (as.map Value.ref).toArray (fun j => as.getD j 0) prs) (I.ok.hd hcalm) ⟨pl, hit⟩ ⟨by rw [l2, l1], fun j k v e => ?_⟩ (by rw [l1]; exact hz) fun h' tk hd' kp => ?_
    · obtain ⟨_, key, e1, e2⟩ := hpr j k v e
      exact ⟨key, e1, e2⟩
    · have hm : (s.heap.objs.size == sysModules) = false := beq_eq_false_iff_ne.mpr (Nat.ne_of_gt I.big)
      have hlen : (mergeK [] kvs).length ≤ sizeLine := by
        refine Nat.le_trans (length_mergeK kvs []) ?_
        have : kvs.length = as.length := by rw [rel.length, l2]
        rw [List.length_nil, Nat.zero_add, this]
        exact hz
      exact ⟨.ref s.heap.objs.size, upd H s.heap.objs.size (.dK (mergeK [] kvs)), I.laid (t' := tk) (fun b o e => kp b o (by simp) e) (Nat.le_refl _) (show ObjOk X.prog X.w _ _ _ (.dK (mergeK [] kvs)) from ⟨hlen, hm, merged [] kws, KV.merge rel .nil, hd'⟩), rfl, q _ (I.hok.fresh (Nat.le_refl _))⟩
end
section
variable {G : Glob} {W : WX} {X : Cx} {a b c : Expr} {ta tb tc : TE'} {pos : Pos} {es : List Expr} {n m : Nat} {tl tl2 : TL'}
theorem seqR_plain {H : Hp} {η : Sto} {ts : List T} {src : Option Addr} {v : V} (h : SeqR G H η ts src v) : ∃ a vs, v = .ref a ∧ ValsR G H η ts vs ∧ (SqL G.K H a vs ∨ PlT G.K H a vs) := by
  obtain ⟨a, vs, e, r, h | h | h⟩ := h.ex
  · exact ⟨a, vs, e, r, .inl h.2.sq⟩
  · exact ⟨a, vs, e, r, .inr (h.2.imp (fun h => h.1) id)⟩
  · exact ⟨a, vs, e, r, .inl (SqL.of h.2.1)⟩
theorem q_dict {p : Pos} (o : XG G n W X) (hg : Gl X "dict") (hm : X.mg "dict" = none) (ha : PE X a (liftE G W ta)) (hs : starEach [a] X.env = (false, eval a X.env) :: starEach [] X.env) :
    PE X (.Call (.Name "dict" p) [a] [] pos) (liftE G W fun ρ η X K => ta ρ η X fun t η1 => optF (bltV .dict [t] η1) fun t => K t η1) :=
  (pe_callTy (cr_dictF o.calm) hg hm (by decide +kernel) (pa_cons ha pa_nil hs) (by decide) (by decide) hs (by rfl)).imp fun σ H Q ⟨ρ, η, Y, K, hρ, hS, ht, hX, hQ⟩ => lift1 hρ hS ht hX fun t x η2 H2 rx S2 f2 k => by
    obtain ⟨u, e, q⟩ := optF_inv k
    obtain ⟨w, e1, rfl⟩ := Option.map_eq_some_iff.mp e
    obtain ⟨ps, e2, e3⟩ := Option.bind_eq_some_iff.mp e1
    obtain ⟨p', vs, rfl, rs, hq⟩ := seqR_plain (seqR_of S2 e2 rx)
    obtain ⟨as, more, rfl, hp, c1, c2⟩ := dictOf_val (kvs := []) rs e3 .nil .nil
    refine ⟨p', as, more, rfl, by rw [o.K]; exact hq, by rw [o.K]; exact hp, fun d hd => ?_⟩
    have f3 : Frm η2 H2 η2 (upd H2 d (.dK (mergeK [] more))) := Frm.new hd
    exact hQ _ _ η2 _ (.dct upd_same (S2.nz hd) c1 (c2.frm f3)) (S2.new hd) (f2.trans f3) q
theorem q_get2 {k d : Expr} {tk td : TE'} {p1 p2 : Pos} (o : XG G n W X) (ha : PE X a (liftE G W ta)) (hk : PE X k (liftE G W tk)) (hd : PE X d (liftE G W td)) (m : M2 X a "get" p1 k d p2) :
    PE X (.Call (.Attribute a "get" p1) [k, d] [] p2) (liftE G W fun ρ η X K => ta ρ η X fun u η1 => mthT .get2 u η1 = true ∧ tk ρ η1 X fun t1 η2 => td ρ η2 X fun t2 η3 => mthG .get2 u [t1, t2] η3 ∧ optF (mthV .get2 u [t1, t2] η3) fun q => K q.1 q.2) :=
  (pe_dget2 (by have := o.room.un; omega) ha hk hd m).imp fun σ H Q ⟨ρ, η, Y, K, hρ, hS, ht, hX, hQ⟩ => lift1 hρ hS ht hX fun u x η1 H1 rx S1 f1 hTk => by
    obtain ⟨hT, k1⟩ := hTk
    cases rx with
    | @dct ad kvs ks vs e n' kr vr =>
      refine ⟨_, rfl, .inl ⟨_, .inl e⟩, ?_⟩
      refine lift2 (K' := fun t1 t2 η3 => mthG .get2 (.dct ks vs) [t1, t2] η3 ∧ optF (mthV .get2 (.dct ks vs) [t1, t2] η3) fun q => K q.1 q.2) (hρ.frm f1) S1 k1 (hX.frm f1) fun t1 t2 y z η3 H3 ry rz S3 f3 ⟨g, k3⟩ => ?_
      obtain ⟨q, e3, k3⟩ := optF_inv k3
      cases e3
      obtain ⟨key, kr1, rfl⟩ := keyR_of g ry
      have e' := f3.hp _ _ e n'.1 (fun _ z => by cases z)
      refine ⟨valV kvs key, .inl ⟨kvs, key, .inl e', rfl, rfl⟩, ?_⟩
      rcases dget_val kr1 kr (vr.frm f3) with ⟨d1, d2⟩ | ⟨t, v, d1, d2, rv⟩
      · rw [d2]
        rw [d1] at k3
        exact (hQ.frm (f1.trans f3)).here S3 rz k3
      · rw [d2]
        rw [d1] at k3
        exact (hQ.frm (f1.trans f3)).here S3 rv k3
    | _ => cases hT
/-! f(a, .., k = v, ..) -/
structure KwB (K : PySem.W.Frag) (fd : FuncData) (ps : List Str) (n : Nat) (ks : List Str) (perm : List Nat) : Prop where
  to : ∀ (s : Shared) (us ws : List Value), K.In s.heap → us.length = n → ws.length = ks.length → BindsTo s fd ⟨us, ks.zip ws⟩ (ps.zip (perm.map fun i => (us ++ ws).getD i .none))
  len : perm.length = ps.length
theorem vals_perm {vs : List V} {us : List Value} (r : Vals vs us) (perm : List Nat) : Vals (perm.map fun i => vs.getD i .non) (perm.map fun i => us.getD i .none) := by
  induction perm with
  | nil => exact .nil
  | cons i rest ih =>
    refine .cons ?_ ih
    show RelV (vs.getD i .non) (us.getD i .none)
    rw [List.getD_eq_getElem?_getD, List.getD_eq_getElem?_getD]
    cases e : vs[i]? with
    | none => rw [r.none_of e]; rfl
    | some v =>
      obtain ⟨u, e2, r2⟩ := r.get e
      rw [e2]
      exact r2
theorem valsR_perm {H : Hp} {η : Sto} {ts : List T} {vs : List V} (r : ValsR G H η ts vs) (perm : List Nat) : ValsR G H η (perm.map fun i => ts.getD i .non) (perm.map fun i => vs.getD i .non) := by
  induction perm with
  | nil => exact .nil
  | cons i rest ih =>
    refine .cons ?_ ih
    show ValR G H η (ts.getD i .non) (vs.getD i .non)
    rw [List.getD_eq_getElem?_getD, List.getD_eq_getElem?_getD]
    cases e : ts[i]? with
    | none =>
      have : vs[i]? = none := by rw [List.getElem?_eq_none_iff] at e ⊢; rw [← r.length]; exact e
      rw [this]
      exact .non
    | some t =>
      obtain ⟨v, e2, r2⟩ := r.get e
      rw [e2]
      exact r2
theorem run_kw {CX : CXT} {k : Nat} {f : Addr} {fd : FuncData} {ps ks : List Str} {perm : List Nat} {sp : Sp} {E : L2.St → XK} {pins : List (Addr × Obj)} {σ : L2.St} {H : Hp} {s : Shared} {Q : VK} {us ws : List Value} {vs zs : List V} (F : FnOk X.prog X.w X.K X.mg X.base CX k f fd ps sp) (hr : Room k X.A) (hb : KwB X.K fd ps n ks perm) (hx : PassesAt CX X σ (E σ))
    (I : Inv X pins σ H s) (r : Vals vs us) (rz : Vals zs ws) (l1 : vs.length = n) (l2 : zs.length = ks.length) (h : sp (perm.map fun i => (vs ++ zs).getD i .non) H Q (E σ)) : wpAny (model X.prog X.w) X.A (call (.ref f) us (ks.zip ws)) (EP X pins σ Q) X.xe s := by
  have b := hb.to s us ws I.kIn (by rw [← r.length]; exact l1) (by rw [← rz.length]; exact l2)
  refine wpAny_call (codeAny_mono (F.run X.A X.stack s H ⟨us, ks.zip ws⟩ _ _ Q (E σ) hr I.env0 b (vals_perm (r.append rz) perm) h) fun res s' hq => ?_)
  match res, hq with
  | .error e, hq => exact hx pins H s e s' I hq
  | .ok (.ret u), hq => exact I.after hq
  | .ok .next, hq => exact False.elim hq
  | .ok .brk, hq => exact False.elim hq
  | .ok .cont, hq => exact False.elim hq
/-- the keywords' values, one after another -/
theorem k_nil : PK X [] (liftL G W 0 fun _ η _ K => K [] η) := ⟨fun pos pins s σ H Q I h => pk_nil.run pos pins s σ H Q I (by
  obtain ⟨ρ, η, Y, K, hρ, hS, ht, hX, hQ⟩ := h
  exact hQ [] [] η H rfl .nil hS .refl ht)⟩
theorem k_cons {nm : Option Str} {kpos : Pos} {kws : List Keyword} (ha : PE X a (liftE G W ta)) (h : PK X kws (liftL G W n tl)) : PK X (⟨nm, a, kpos⟩ :: kws) (liftL G W (n + 1) fun ρ η X K => ta ρ η X fun t η1 => tl ρ η1 X fun ts η2 => K (t :: ts) η2) := ⟨fun pos pins s σ H Q I hq => (pk_cons ha h).run pos pins s σ H Q I (by
  obtain ⟨ρ, η, Y, K, hρ, hS, ht, hX, hQ⟩ := hq
  exact lift1 hρ hS ht hX fun u x η1 H1 rx S1 f1 k1 => liftN (hρ.frm f1) S1 k1 (hX.frm f1) fun ts vs η2 H2 l r S2 f2 k2 => hQ (u :: ts) (x :: vs) η2 H2 (congrArg (· + 1) l) (.cons (rx.frm f2) r) S2 (f1.trans f2) k2)⟩
theorem q_callK {Φ : List T → Sto → KX → KE → Prop} {nm : Str} {ps ks : List Str} {f : Addr} {fd : FuncData} {perm : List Nat} {kws : List Keyword} {p : Pos} {k : Nat} (o : XG G n W X) (F : FnK G k Φ nm ps f fd) (hkn : k ≤ n) (B : KwB G.K fd ps m ks perm) (hg : Gl X nm) (ha : PA X es (liftL G W m tl)) (hkw : PK X kws (liftL G W ks.length tl2)) (hdb : (nm == ("__debug__" : Str)) = false)
    (hall : (backToKw pos (keywordEach kws X.env)).all (·.1.isSome) = true) (hks : (backToKw pos (keywordEach kws X.env)).filterMap (·.1) = ks) (hnil : es = [] → m = 0 ∧ ∀ ρ η X K, tl ρ η X K → K [] η) (he : ∀ e es', es = e :: es' → starEach (e :: es') X.env = (false, eval e X.env) :: starEach es' X.env)
    (hpl : ((backTo pos (starEach es X.env)).any (·.1) || (backToKw pos (keywordEach kws X.env)).any (·.1.isNone)) = false) :
    PE X (.Call (.Name nm p) es kws pos) (liftE G W fun ρ η X K => tl ρ η X fun ts η1 => tl2 ρ η1 X fun us η2 => Φ (perm.map fun i => (ts ++ us).getD i .non) η2 X K) := by
  have F1 : FnOk X.prog X.w X.K X.mg X.base (L2.CX X.prog X.w) k f fd ps (prom G ps.length Φ) := by rw [o.P, o.w, o.K, o.mg, o.base]; exact F.ok G.Z
  have B1 : KwB X.K fd ps m ks perm := by rw [o.K]; exact B
  have tail : ∀ {pins : List (Addr × Obj)} {σ : L2.St} {H H1 : Hp} {s1 : Shared} {Q : VK} {ρ : Env} {η η1 : Sto} {Y : KX} {K : KE} {us : List Value} {vs : List V} {ts : List T}, EnvR G H η σ ρ → HX G W σ H η Y → HQ G Q H η K → Inv X pins σ H1 s1 → Vals vs us → ts.length = m → ValsR G H1 η1 ts vs → StoR G H1 η1 → Frm η H η1 H1 →
      (tl2 ρ η1 Y fun us η2 => Φ (perm.map fun i => (ts ++ us).getD i .non) η2 Y K) → wpAny (model X.prog X.w) X.A (evalAll ((backToKw pos (keywordEach kws X.env)).map (·.2))) (fun ws s2 => X.K.In s2.heap ∧ wpAny (model X.prog X.w) X.A (call (.ref f) us (((backToKw pos (keywordEach kws X.env)).filterMap (·.1)).zip ws)) (EP X pins σ Q) X.xe s2) X.xe s1 :=
    fun {pins σ H H1 s1 Q ρ η η1 Y K us vs ts} hρ hX hQ I1 r1 l1 rs S1 f1 k1 => by
      refine thn (hkw.run pos pins s1 σ H1 (fun zs H2 => ∃ ts2 η2, ts2.length = ks.length ∧ ValsR G H2 η2 ts2 zs ∧ StoR G H2 η2 ∧ Frm η1 H1 η2 H2 ∧ Φ (perm.map fun i => (ts ++ ts2).getD i .non) η2 Y K) I1 ⟨ρ, η1, Y, _, hρ.frm f1, S1, k1, hX.frm f1, fun ts2 zs η2 H2 l2 r2 S2 f2 k2 => ⟨ts2, η2, l2, r2, S2, f2, k2⟩⟩) fun ws s2 ⟨zs, H2, I2, rz, ts2, η2, l2, r2, S2, f2, k2⟩ => ⟨I2.kIn, ?_⟩
      rw [hks]
      refine run_kw (E := fun σ => WE W σ) F1 (o.room.mono hkn) B1 (passAt o.tk σ) I2 r1 rz (by rw [← rs.length]; exact l1) (by rw [← r2.length]; exact l2) ?_
      refine ⟨_, η2, Y, K, by rw [List.length_map]; exact B.len, valsR_perm ((rs.frm f2).append r2) perm, S2, k2, fun e η' cls d H' a b c q => hX e η' cls d H' a b ((f1.trans f2).trans c) q, hQ.frm (f1.trans f2)⟩
  refine ⟨fun pins s σ H Q I h => ?_⟩
  obtain ⟨ρ, η, Y, K, hρ, hS, ht, hX, hQ⟩ := h
  refine wpAny_Call_Name_kw (ld_glob I hg (by rw [o.mg]; exact F.mg) ?_ hdb)
  cases es with
  | nil =>
    refine PySem.W.callWith_KW0 (h₀ := X.base) I.ok.mod.kin (by rw [o.K]; exact F.kp) hall ?_ hpl
    obtain ⟨hm0, ht0⟩ := hnil rfl
    subst hm0
    exact tail hρ hX hQ I .nil rfl .nil hS .refl (ht0 _ _ _ _ ht)
  | cons e es' =>
    refine PySem.W.callWith_KW (h₀ := X.base) I.ok.mod.kin (by rw [o.K]; exact F.kp) hall ?_ hpl (he e es' rfl)
    refine thn (ha.run pos pins s σ H (fun vs H1 => ∃ ts η1, ts.length = m ∧ ValsR G H1 η1 ts vs ∧ StoR G H1 η1 ∧ Frm η H η1 H1 ∧ tl2 ρ η1 Y fun us η2 => Φ (perm.map fun i => (ts ++ us).getD i .non) η2 Y K) I ⟨ρ, η, Y, _, hρ, hS, ht, hX, fun ts vs η1 H1 l r S f k => ⟨ts, η1, l, r, S, f, k⟩⟩) fun us s1 ⟨vs, H1, I1, r1, ts, η1, l1, rs, S1, f1, k1⟩ => ?_
    exact tail hρ hX hQ I1 r1 l1 rs S1 f1 k1
end
end TL

set_option maxHeartbeats 2000000
/-! t[::-1] of a tuple -/
namespace TL
open PySem PySem.Spec PyProof.Rows L2
section
variable {prog : Program} {w : World} {A : Around} {E : Value → Shared → Prop} {s : Shared}
theorem rev_adjust (n : Nat) : Builtin.Slice.sliceAdjust none none (-1) (n : Int) = ((n : Int) - 1, -1) := by
  unfold Builtin.Slice.sliceAdjust
  first | rfl | simp
theorem rev_places (n : Nat) : Builtin.Slice.slicePlaces ((n : Int) - 1) (-1) (-1) = n := by
  unfold Builtin.Slice.slicePlaces
  have h1 : ¬ ((-1 : Int) > 0) := by decide
  simp only [h1, if_false]
  rw [show (- -1 : Int) = 1 by decide, Int.ediv_one]
  split <;> omega
theorem fm_congr {α β : Type} {f g : α → Option β} : ∀ {l : List α}, (∀ x ∈ l, f x = g x) → l.filterMap f = l.filterMap g
  | [], _ => rfl
  | a :: l, h => by rw [List.filterMap_cons, List.filterMap_cons, h a List.mem_cons_self, fm_congr fun x hx => h x (List.mem_cons_of_mem _ hx)]
theorem rev_pick (xs : Array Value) : ((List.range xs.size).filterMap fun (m : Nat) => xs[(((xs.size : Int) - 1) + (m : Int) * (-1)).toNat]?).toArray = xs.toList.reverse.toArray := by
  congr 1
  have e : (List.range xs.size).filterMap (fun (m : Nat) => xs[(((xs.size : Int) - 1) + (m : Int) * (-1)).toNat]?) = ((List.range xs.size).map fun k => xs.size - 1 - k).filterMap (xs[·]?) := by
    rw [List.filterMap_map]
    refine fm_congr fun m hm => ?_
    have hm := List.mem_range.mp hm
    have : (((xs.size : Int) - 1) + (m : Int) * (-1)).toNat = xs.size - 1 - m := by omega
    show _ = xs[xs.size - 1 - m]?
    rw [this]
  rw [e, PySem.W.krv_range, List.filterMap_reverse, PySem.W.krv_all]
theorem rev_applied {sl : Addr} {vl vu vs : Value} {n : Nat} {Q : Int × Int × Nat → Shared → Prop} (hs : s.heap.IsSliceOf sl vl vu vs) (pl : IsPart vl none) (pu : IsPart vu none) (ps : IsPart vs (some (-1)))
    (h : Q ((n : Int) - 1, -1, n) s) : wpAny (model prog w) A (Builtin.Slice.sliceApplied (.ref sl) (pure (n : Int))) Q E s := by
  obtain ⟨os, hos, hcs, hds⟩ := id hs
  unfold Builtin.Slice.sliceApplied Builtin.Slice.sliceFields
  refine wpAny_bind (wpAny_bind (wpAny_field hos hds (x := vl) rfl (wpAny_bind (wpAny_field hos hds (x := vu) rfl (wpAny_bind (wpAny_field hos hds (x := vs) rfl (wpAny_pure ?_)))))))
  refine wpAny_bind (HT.slicePart_ ps ?_)
  show wpAny _ _ (if ((-1 : Int) == 0) = true then _ else _) _ _ s
  rw [if_neg (by decide)]
  refine wpAny_bind (HT.slicePart_ pl (wpAny_bind (HT.slicePart_ pu (wpAny_bind (wpAny_pure ?_)))))
  show wpAny _ _ (match Builtin.Slice.sliceAdjust none none (-1) (n : Int) with | (lo, hi) => pure (lo, (-1 : Int), Builtin.Slice.slicePlaces lo hi (-1))) _ _ s
  rw [rev_adjust]
  show wpAny _ _ (pure ((n : Int) - 1, (-1 : Int), Builtin.Slice.slicePlaces ((n : Int) - 1) (-1) (-1))) _ _ s
  rw [rev_places]
  exact wpAny_pure h
theorem getItem_rev {t sl : Addr} {items : Array Value} {vl vu vs : Value} {Q : Value → Shared → Prop} (ht : IsTup s.heap t items) (hs : s.heap.IsSliceOf sl vl vu vs) (pl : IsPart vl none) (pu : IsPart vu none) (ps : IsPart vs (some (-1)))
    (h : Q (.ref s.heap.objs.size) { s with heap := s.heap.push { cls := .type "tuple", data := .seq items.toList.reverse.toArray } })
    (hsz : items.size ≤ sizeLine) : wpAny (model prog w) A (getItem (.ref t) (.ref sl)) Q E s := by
  have hok : sizeOk (.seq items.toList.reverse.toArray) := by
    show items.toList.reverse.toArray.size ≤ sizeLine
    rw [List.size_toArray, List.length_reverse, Array.length_toList]
    exact hsz
  obtain ⟨os, hos, hcs, hds⟩ := id hs
  have hTs : s.TypeIs (.ref sl) "slice" := ⟨os, hos, hcs⟩
  unfold getItem
  try with_reducible refine wpAny_holding ?_
  first | refine wpAny_bind (wpAny_pure ?_) | skip
  refine wpAny_bind (wpAny_sequenceKey ht.typeIs (by decide) ?_)
  refine wpAny_bind (wpAny_callSpecial?_slot (name := Str.ofString "__getitem__") ht.typeIs PyProof.Rows.slot_tuple_getitem
    (wpAny_call_entry PyProof.Rows.slot_tuple_getitem ht.typeIs entry_tuple_getitem ?_ (args_tuple_getitem _ _)))
  show wpAny _ _ (Builtin.Tuple.tupleItemsOf (.ref t) >>= _) _ _ s
  refine wpAny_bind (tupleItemsOf_ ht ?_)
  refine wpAny_bind (wpAny_typeOf hTs ?_)
  rw [if_pos (by decide)]
  refine wpAny_bind (rev_applied hs pl pu ps ?_)
  show wpAny _ _ (if ((((items.size : Int) - 1) == 0) && ((-1 : Int) == 1) && (items.size == items.size)) = true then _ else _) _ _ s
  have hno : ¬ (((((items.size : Int) - 1) == 0) && ((-1 : Int) == 1) && (items.size == items.size)) = true) := by
    intro q
    rw [Bool.and_eq_true, Bool.and_eq_true] at q
    exact absurd q.1.2 (by decide)
  rw [if_neg hno, rev_pick]
  first
    | exact wpAny_bind (m := Builtin.Tuple.tupleExact _) (wpAny_newObj_type (wpAny_pure ⟨_, rfl, wpAny_pure h⟩) hok)
    | exact wpAny_bind (m := Builtin.Tuple.tupleExact _) (wpAny_newObj_type (wpAny_bind (wpAny_pure (wpAny_pure ⟨_, rfl, wpAny_pure h⟩))) hok)
    | exact wpAny_bind (wpAny_bind (m := Builtin.Tuple.tupleExact _) (wpAny_newObj_type (wpAny_pure (wpAny_pure ⟨_, rfl, wpAny_pure h⟩)) hok))
end
section
variable {X : Cx}
def tRevT (K : PySem.W.Frag) (te : TE) : TE := fun σ H Q => te σ H fun x H1 => ∃ a xs, x = V.ref a ∧ SqT K H1 a xs ∧ ∀ p o, H1 p = none → o.dict = none → Q (.ref p) (upd H1 p (.frz o (.tup xs.reverse)))
theorem pe_revT {e : Expr} {te : TE} {k : Nat} {p1 p2 p3 pos : Pos} (he : PE X e te) : PE X (.Subscript e (.Slice none none (some (.UnaryOp .USub (.Constant (.int 1) k p1) p2)) p3) pos) (tRevT X.K te) := by
  refine ⟨fun pins s σ H Q I h => ?_⟩
  refine Subscript_ (thn (he.run pins s σ H _ I h) fun v s1 ⟨x, H1, I1, r1, a, xs, ex, hx, q⟩ => ?_)
  subst ex
  cases r1
  have hst : PO X (some (.UnaryOp .USub (.Constant (.int 1) k p1) p2)) (tPart (tUn (rU fun i => .int (-i)) (tC (.int 1)))) := po_some (pe_un un_neg pe_int)
  refine wpAny_Slice (thn (po_none.run pins s1 σ H1 (fun o H2 => o = none ∧ H2 = H1) I1 ⟨rfl, rfl⟩) fun vl s2 ⟨l, H2, I2, pl, el, e2⟩ => ?_)
  subst el e2
  refine thn (po_none.run pins s2 σ H2 (fun o H3 => o = none ∧ H3 = H2) I2 ⟨rfl, rfl⟩) fun vu s3 ⟨u, H3, I3, pu, eu, e3⟩ => ?_
  subst eu e3
  refine thn (hst.run pins s3 σ H3 (fun o H4 => o = some (-1) ∧ H4 = H3) I3 ⟨1, rfl, -1, rfl, rfl, rfl⟩) fun vs s4 ⟨o, H4, I4, ps, eo, e4⟩ => ?_
  subst eo e4
  have I5 : Inv X pins σ H4 { s4 with heap := s4.heap.push { cls := .type "slice", data := .fields #[vl, vu, vs] } } := I4.kept (t' := s4.toks) fun b ob q => Heap.get?_push_of_some _ q
  obtain ⟨its, r, ht, hz⟩ := I5.tuple hx
  have hlen := r.length
  show wpAny (model X.prog X.w) X.A (subscriptTail e (.Slice none none (some (.UnaryOp .USub (.Constant (.int 1) k p1) p2)) p3) (.ref a) (.ref s4.heap.objs.size)) (EP X pins σ Q) X.xe { s4 with heap := s4.heap.push { cls := .type "slice", data := .fields #[vl, vu, vs] } }
  refine tail_any (ops := [.ref a, .ref s4.heap.objs.size]) ht.typeIs (PyProof.Rows.slot_tuple_getitem.lookup) ?_ (by with_unfolding_all rfl)
  refine getItem_rev ht (Heap.IsSliceOf.new _ vl vu vs) pl pu ps ?_ (by rw [List.size_toArray]; omega)
  exact I5.tupF s4.toks (by rw [List.length_reverse]; exact hz) r.reverse q
end
theorem ValsR.rev {G : Glob} {H : Hp} {η : Sto} : ∀ {ts : List T} {vs : List V}, ValsR G H η ts vs → ValsR G H η ts.reverse vs.reverse
  | [], _, .nil => .nil
  | _ :: _, _, .cons r rs => by
    rw [List.reverse_cons, List.reverse_cons]
    exact ValsR.append (ValsR.rev rs) (.cons r .nil)
section
variable {G : Glob} {W : WX} {X : Cx} {a : Expr} {ta : TE'} {n : Nat}
theorem q_rev {k : Nat} {p1 p2 p3 pos : Pos} (o : XG G n W X) (ha : PE X a (liftE G W ta)) :
    PE X (.Subscript a (.Slice none none (some (.UnaryOp .USub (.Constant (.int 1) k p1) p2)) p3) pos) (liftE G W fun ρ η X K => ta ρ η X fun t η1 => optF (bltV .rev [t] η1) fun t => K t η1) :=
  (pe_revT ha).imp fun σ H Q ⟨ρ, η, Y, K, hρ, hS, ht, hX, hQ⟩ => lift1 hρ hS ht hX fun t x η2 H2 rx S2 f2 k => by
    cases rx with
    | @tup a0 vs xs hst rs => exact ⟨a0, vs, rfl, by rw [o.K]; exact hst.sq, (hQ.frm f2).newTup S2 (ValsR.rev rs) k⟩
    | _ => exact k.elim
end
end TL

/-! methods of texts; index of tuples of texts -/
namespace TL
open PySem PySem.Spec PyProof.Rows L2
theorem strs_vals {G : Glob} {H : Hp} {η : Sto} : ∀ {xs : List T} {vs : List V} {ys : List Str}, strsL xs = some ys → ValsR G H η xs vs → vs = ys.map V.str
  | [], _, _, e, .nil => by cases e; rfl
  | .str x :: xs, _, ys, e, .cons r rs => by
    have e : (strsL xs).map (x :: ·) = some ys := e
    cases q : strsL xs with
    | none => rw [q] at e; cases e
    | some zs =>
      rw [q] at e
      cases e
      cases r
      rw [strs_vals q rs]
      rfl
  | .non :: _, _, _, e, _ => by cases e
  | .bl _ :: _, _, _, e, _ => by cases e
  | .int _ :: _, _, _, e, _ => by cases e
  | .tup _ :: _, _, _, e, _ => by cases e
  | .cl _ :: _, _, _, e, _ => by cases e
  | .dct _ _ :: _, _, _, e, _ => by cases e
  | .ref _ :: _, _, _, e, _ => by cases e
theorem strs_map : ∀ {xs : List T} {ys : List Str}, strsL xs = some ys → xs = ys.map T.str
  | [], _, e => by cases e; rfl
  | .str x :: xs, ys, e => by
    have e : (strsL xs).map (x :: ·) = some ys := e
    cases q : strsL xs with
    | none => rw [q] at e; cases e
    | some zs => rw [q] at e; cases e; rw [strs_map q]; rfl
  | .non :: _, _, e => by cases e
  | .bl _ :: _, _, e => by cases e
  | .int _ :: _, _, e => by cases e
  | .tup _ :: _, _, e => by cases e
  | .cl _ :: _, _, e => by cases e
  | .dct _ _ :: _, _, e => by cases e
  | .ref _ :: _, _, e => by cases e
theorem eqv_str {x z : Str} : eqv (.str x) (.str z) = true ↔ x = z := by
  show (x == z) = true ↔ _
  exact ⟨fun h => eq_of_beq h, fun h => by subst h; exact beq_self_eq_true _⟩
theorem ix_strs {z : Str} : ∀ {ys : List Str} {k : Nat}, ixOf (.str z) (ys.map T.str) = some k → ys[k]? = some z ∧ ∀ m, m < k → ys[m]? ≠ some z
  | [], k, e => by cases e
  | y :: ys, k, e => by
    have e : (if eqv (.str y) (.str z) then some 0 else (ixOf (.str z) (ys.map T.str)).map (· + 1)) = some k := e
    by_cases h : y = z
    · rw [if_pos (eqv_str.mpr h)] at e
      cases e
      exact ⟨by simp [h], fun m hm => by omega⟩
    · rw [if_neg (fun q => h (eqv_str.mp q))] at e
      cases q : ixOf (.str z) (ys.map T.str) with
      | none => rw [q] at e; cases e
      | some j =>
        rw [q] at e
        cases e
        obtain ⟨a, b⟩ := ix_strs q
        refine ⟨by simpa using a, fun m hm => ?_⟩
        cases m with
        | zero => simpa using h
        | succ m =>
          have hm : m + 1 < j + 1 := hm
          simpa using b m (by omega)
section
variable {G : Glob} {n : Nat} {W : WX} {X : Cx} {a b : Expr} {ta tb : TE'} {p1 p2 : Pos}
theorem q_join (o : XG G n W X) (ha : PE X a (liftE G W ta)) (hb : PE X b (liftE G W tb)) (hs : starEach [b] X.env = (false, eval b X.env) :: starEach [] X.env) (hbase : attributeBase a "join" X.env (eval a X.env) = eval a X.env) (hline : (p1.endLine == p2.line) = true) :
    PE X (.Call (.Attribute a "join" p1) [b] [] p2) (liftE G W fun ρ η X K => ta ρ η X fun u η1 => mthT .join u η1 = true ∧ tb ρ η1 X fun t η2 => mthG .join u [t] η2 ∧ optF (mthV .join u [t] η2) fun q => K q.1 q.2) :=
  (pe_join ha hb hs hbase hline).imp fun σ H Q ⟨ρ, η, Y, K, hρ, hS, ht, hX, hQ⟩ => lift1 hρ hS ht hX fun u x η1 H1 rx S1 f1 ⟨hT, k1⟩ => by
    cases rx with
    | str s l =>
      refine ⟨⟨s, rfl⟩, lift1 (hρ.frm f1) S1 k1 (hX.frm f1) fun t y η2 H2 ry S2 f2 ⟨g, k2⟩ => ?_⟩
      have k2 : optF (((seqOf η2 t).bind strsL).map fun ys => (T.str (Txt.join s ys), η2)) fun q => K q.1 q.2 := k2
      have g : (match (seqOf η2 t).bind strsL with
        | some ys => (ys.map (·.length)).sum + ys.length * s.length ≤ 16777216 ∧ (Txt.join s ys).length ≤ sizeLine
        | none => True) := g
      cases q : seqOf η2 t with
      | none => rw [q] at k2; exact k2.elim
      | some xs =>
        cases q2 : strsL xs with
        | none =>
          rw [q] at k2
          have k2 : optF ((strsL xs).map fun ys => (T.str (Txt.join s ys), η2)) fun q => K q.1 q.2 := k2
          rw [q2] at k2
          exact k2.elim
        | some ys =>
          rw [q] at k2 g
          have k2 : optF ((strsL xs).map fun ys => (T.str (Txt.join s ys), η2)) fun q => K q.1 q.2 := k2
          have g : (match strsL xs with
            | some ys => (ys.map (·.length)).sum + ys.length * s.length ≤ 16777216 ∧ (Txt.join s ys).length ≤ sizeLine
            | none => True) := g
          rw [q2] at k2 g
          obtain ⟨a0, vs, rfl, hq, rs⟩ := seq_val S2 q ry
          have ev := strs_vals q2 rs
          subst ev
          exact ⟨s, a0, ys, rfl, rfl, by rw [o.K]; exact hq, g.1, (hQ.frm (f1.trans f2)).here S2 (.str _ g.2) k2⟩
    | _ => exact Bool.noConfusion hT
theorem q_sw (o : XG G n W X) (ha : PE X a (liftE G W ta)) (hb : PE X b (liftE G W tb)) (hs : starEach [b] X.env = (false, eval b X.env) :: starEach [] X.env) (hbase : attributeBase a "startswith" X.env (eval a X.env) = eval a X.env) (hline : (p1.endLine == p2.line) = true) :
    PE X (.Call (.Attribute a "startswith" p1) [b] [] p2) (liftE G W fun ρ η X K => ta ρ η X fun u η1 => mthT .sw u η1 = true ∧ tb ρ η1 X fun t η2 => mthG .sw u [t] η2 ∧ optF (mthV .sw u [t] η2) fun q => K q.1 q.2) :=
  (pe_m1 PySem.F.slot_str_startswith PySem.F.type_str_startswith mt_startswith ha hb hs hbase hline).imp fun σ H Q ⟨ρ, η, Y, K, hρ, hS, ht, hX, hQ⟩ => lift1 hρ hS ht hX fun u x η1 H1 rx S1 f1 ⟨hT, k1⟩ => by
    cases rx with
    | str s l =>
      refine ⟨⟨s, rfl⟩, lift1 (hρ.frm f1) S1 k1 (hX.frm f1) fun t y η2 H2 ry S2 f2 ⟨g, k2⟩ => ?_⟩
      cases ry with
      | str z lz => exact ⟨s, z, rfl, rfl, (hQ.frm (f1.trans f2)).here S2 (.bl _) k2⟩
      | _ => exact k2.elim
    | _ => exact Bool.noConfusion hT
/-- a tuple that is known as an object -/
def tBMT (K : PySem.W.Frag) (r : V → List V → Hp → VK → Prop) (to : TE) (t : TA) : TE := fun σ H Q => to σ H fun x H1 => (∃ p vs, x = .ref p ∧ PlT K H1 p vs) ∧ t σ H1 fun xs H2 => r x xs H2 Q
theorem pe_bmT {o e : Expr} {to : TE} {t : TA} {name : Str} {apos cpos : Pos} {id : String} {r : V → List V → Hp → VK → Prop} (slot : Slot "tuple" name id) (hty : typeOf (.builtin id) = pure (.type "method_descriptor")) (hm : MtR X id r) (ho : PE X o to) (ha : PA X [e] t)
    (hbase : attributeBase o name X.env (eval o X.env) = eval o X.env) (hs : starEach [e] X.env = (false, eval e X.env) :: starEach [] X.env) (hline : (apos.endLine == cpos.line) = true) : PE X (.Call (.Attribute o name apos) [e] [] cpos) (tBMT X.K r to t) := by
  refine ⟨fun pins s σ H Q I h => ?_⟩
  refine wpAny_Call_method_late hbase (starFew X cpos hs) hline rfl (thn (ho.run pins s σ H _ I h) fun v s1 ⟨x, H1, I1, r1, ⟨p, vs, ex, pl⟩, q1⟩ => ?_)
  subst ex
  cases r1
  obtain ⟨_, _, ⟨u, _, g1, g2, g3, _⟩, _⟩ := plT_at I1 pl
  refine ⟨"tuple", id, PySem.F.plainAttrs_tuple, slot, hty, ⟨u, g1, g2⟩, fun a z => ?_, ?_⟩
  · cases z
    exact ⟨u, g1, g3⟩
  · have hA := ha.run cpos pins s1 σ H1 _ I1 q1
    rw [hs] at hA ⊢
    exact Calls.callWith_builtin rfl (Calls.evalArgs_plain (thn hA fun us s2 ⟨ws, H2, I2, r2, q2⟩ => hm pins s2 σ H2 (.ref p) ws (.ref p) us Q I2 rfl r2 q2))
theorem q_indexT (o : XG G n W X) (ha : PE X a (liftE G W ta)) (hb : PE X b (liftE G W tb)) (hs : starEach [b] X.env = (false, eval b X.env) :: starEach [] X.env) (hbase : attributeBase a "index" X.env (eval a X.env) = eval a X.env) (hline : (p1.endLine == p2.line) = true) :
    PE X (.Call (.Attribute a "index" p1) [b] [] p2) (liftE G W fun ρ η X K => ta ρ η X fun u η1 => mthT .indexT u η1 = true ∧ tb ρ η1 X fun t η2 => mthG .indexT u [t] η2 ∧ optF (mthV .indexT u [t] η2) fun q => K q.1 q.2) :=
  (pe_bmT PySem.F.slot_tuple_index PySem.F.type_tuple_index mt_tup_index ha (pa_cons hb pa_nil hs) hbase hs hline).imp fun σ H Q ⟨ρ, η, Y, K, hρ, hS, ht, hX, hQ⟩ => lift1 hρ hS ht hX fun u x η1 H1 rx S1 f1 ⟨hT, k1⟩ => by
    cases rx with
    | @tup a0 vs xs hst rs =>
      refine ⟨⟨a0, vs, rfl, by rw [o.K]; exact hst.imp (fun h => h.1) id⟩, lift1 (hρ.frm f1) S1 k1 (hX.frm f1) fun t y η2 H2 ry S2 f2 ⟨g, k2⟩ => ?_⟩
      cases ry with
      | str z lz =>
        have k2 : optF ((strsL xs).bind fun _ => (ixOf (.str z) xs).map fun (k : Nat) => (T.int k, η2)) fun q => K q.1 q.2 := k2
        cases q : strsL xs with
        | none => rw [q] at k2; exact k2.elim
        | some ys =>
          rw [q] at k2
          have k2 : optF ((ixOf (.str z) xs).map fun (k : Nat) => (T.int k, η2)) fun q => K q.1 q.2 := k2
          cases q2 : ixOf (.str z) xs with
          | none => rw [q2] at k2; exact k2.elim
          | some j =>
            have k3 : K (.int j) η2 := by
              rw [q2] at k2
              exact k2
            have ex := strs_map q
            subst ex
            obtain ⟨i1, i2⟩ := ix_strs q2
            have ev := strs_vals q rs
            subst ev
            exact ⟨a0, ys, z, j, rfl, rfl, by rw [o.K]; exact (StT.frm f2 hst).sq, i1, i2, (hQ.frm (f1.trans f2)).here S2 (.int _) k3⟩
      | _ =>
        exfalso
        exact k2.elim
    | _ => exact Bool.noConfusion hT
end
end TL

set_option maxHeartbeats 2000000
/-! len of a set comprehension of keys -/
namespace TL
open PySem PySem.Spec PyProof.Rows L2
section
variable {X : Cx}
/-- {elt for target in iter}, elt a key: D the new set -/
def tSk (P : Program) (w : World) (wi : TI) (g : TG) (te : TE) (vs : List Nat) : TE := fun σ H Q => wi σ H fun J H1 => ∀ D, H1 D = none → ∃ Z : Nat → Nat → Hp → Prop, (∃ m, Z 0 m (upd H1 D (SetK P w D (fun _ => false) 0))) ∧ ∀ i m H, Z i m H →
  (J.stop i H ∧ Q (.ref D) H) ∨ (J.go i H ∧ ∃ Nx : Hp → Prop, (∀ H', Nx H' → ∃ m', m' < m ∧ Z (i + 1) m' H') ∧ ∀ x H', J.yld i H x H' → g x (L2.wipe σ vs) H' fun σ2 H2 => L2.wipe σ2 vs = L2.wipe σ vs ∧
    te σ2 H2 fun y H4 => ∃ (c : Key) (S : Key → Bool) (n : Nat), y = kV c ∧ H4 D = some (SetK P w D S n) ∧ n + 1 < scanBound ∧ Nx (upd H4 D (SetK P w D (fun j => S j || decide (j = c)) (if S c = true then n else n + 1))))
theorem sk_fresh {P : Program} {w : World} {h : Heap} : (h.push { cls := .type "set", dict := none, data := .set #[] 0 (.fresh 0 0 (!w.params.followText "set-order")) }).SetOf (mixKind P w) h.objs.size (fun _ => false) 0 :=
  ⟨_, #[], 0, _, Heap.get?_push_size _ rfl, ⟨rfl, rfl, rfl⟩, rfl, (fun e he => by simp at he), (fun k => by simp), (by decide), (by rfl), rfl⟩
theorem pe_sk {elt tg iter : Expr} {scope : Scope} {own : List (Str × Nat)} {pos : Pos} {wi : TI} {g : TG} {te : TE} (hc : X.calm = true) (hN : X.N.Nodup) (hi : PI X tg iter wi) (ok : BlkOk X.N X.env.scope scope own)
    (hg : ∀ (t : Shared) (H : Hp) (C : Addr) (cl : List (Str × Addr)) (fp : List Addr), PG (X.blk t H scope (compEnvC scope cl C X.env) fp) tg g)
    (he : ∀ (t : Shared) (H : Hp) (C : Addr) (cl : List (Str × Addr)) (fp : List Addr), PE (X.blk t H scope (compEnvC scope cl C X.env) fp) elt te) (hs : ∀ x, foldedSetIterable iter X.env x = pure x) :
    PE X (.SetComp elt [⟨tg, iter, [], 0⟩] scope pos) (tSk X.prog X.w wi g te (own.map (·.2))) := by
  refine ⟨fun pins t0 σ H Q I0 hh => ?_⟩
  rw [PpSet.eval_SetComp]
  have hfr : ∀ y ∈ scope.names, y.2 = .free → ∃ c, X.env.cells.lookup y.1 = some c := fun y hy e => (ok.free y hy e).elim (fun k => I0.ok.has _ (.inl k)) fun k => I0.ok.has _ (.inr k)
  refine wpAny_comprehension_free (use := none) rfl hs (closure_ok hfr) ok.kind (fun y hy e => by rw [ok.uniq y hy, e]) (thn (hi.run pins t0 σ H _ I0 hh) fun xv t1 hx => thn hx fun itv t2 h2 => ?_)
  obtain ⟨it, fp, tn, J, H2, rfl, I2, T, st2, fk2, q⟩ := h2
  refine PpSet.newSet_ok (newEnv_comp ?_)
  generalize hDe : t2.heap.objs.size = D
  have hD0 : H2 D = none := I2.hok.fresh (Nat.le_of_eq hDe)
  obtain ⟨Z, ⟨m0, z0⟩, turn⟩ := q D hD0
  generalize ht3 : ({ t2 with heap := t2.heap.push { cls := .type "set", dict := none, data := .set #[] 0 (.fresh 0 0 (!X.w.params.followText "set-order")) } } : Shared) = t3
  generalize hHD : upd H2 D (SetK X.prog X.w D (fun _ => false) 0) = HD at z0
  have I3 : Inv X pins σ HD t3 := by
    rw [← ht3, ← hHD]
    refine I2.laid (t' := t2.toks) (fun b o e => Heap.get?_push_of_some _ e) (Nat.le_of_eq hDe) ?_
    rw [← hDe]
    exact setK_new sk_fresh
  have heap3 : t3.heap = t2.heap.push { cls := .type "set", dict := none, data := .set #[] 0 (.fresh 0 0 (!X.w.params.followText "set-order")) } := by rw [← ht3]
  have small : ∀ b ∈ fp, b < t2.heap.objs.size := fun b hb => (T.obj _ _ st2 b hb).elim fun _ e => Heap.lt_size e.1
  have fk3 : ∀ b ∈ fp, FpOk X pins HD b ∧ b < t3.heap.objs.size := fun b hb => by
    have lt := small b hb
    refine ⟨⟨?_, (fk2 b hb).2⟩, by rw [heap3, Heap.size_push]; exact Nat.lt_succ_of_lt lt⟩
    rw [← hHD, upd_ne (by rw [← hDe]; exact Nat.ne_of_lt lt)]
    exact (fk2 b hb).1
  have st3 : tn 0 t3.heap := T.keep _ _ _ st2 fun b _ o e => by rw [heap3]; exact Heap.get?_push_of_some _ e
  have I4 := block_start I3 ok hN fk3
  generalize hcl : cellsFrom (t3.heap.objs.size + 1) scope.names (cloFrom X.env.cells scope.names []) = cl at I4 ⊢
  have pg := hg t3 HD t3.heap.objs.size cl fp
  have pe := he t3 HD t3.heap.objs.size cl fp
  have dist : ∀ b ∈ fp, HD b = none := fun b hb => (fk3 b hb).1.1
  show codeAny _ _ (.compStart (.SetComp elt [⟨tg, iter, [], 0⟩] scope pos) 0 (.ref it) (.ref D) (compEnvC scope cl t3.heap.objs.size X.env)) (compPost (model X.prog X.w) X.A X.xe none (EP X pins σ Q) (.ref D) t3.heap.objs.size) { t3 with heap := pushCells (t3.heap.push { cls := .type "dict", data := .dict #[] }) scope.names }
  generalize hcenv : compEnvC scope cl t3.heap.objs.size X.env = ce at I4 pg pe ⊢
  have ceL : ce.locals = t3.heap.objs.size := by subst hcenv; rfl
  generalize ht4 : ({ t3 with heap := pushCells (t3.heap.push { cls := .type "dict", data := .dict #[] }) scope.names } : Shared) = t4 at I4 ⊢
  have st4 : tn 0 t4.heap := T.keep _ _ _ st3 fun b _ o e => by rw [← ht4]; exact pushCells_keeps _ _ _ _ (Heap.get?_push_of_some _ e)
  have own' : ∀ {τ : L2.St} {Hc : Hp} {tc : Shared}, Inv (X.blk t3 HD scope ce fp) [] τ Hc tc → (∀ b ∈ fp, Hc b = none) → ∀ b ∈ fp, FpOk (X.blk t3 HD scope ce fp) [] Hc b := fun {τ Hc tc} J hn b hb =>
    ⟨hn b hb, (J.ok.exf b hb).1, J.ok.exfs b hb, .inl hb, fun x c e => (J.ok.exf b hb).2 x c e, fun p hp => absurd (show p ∈ ([] : List (Addr × Obj)) ++ [] from hp) (by simp)⟩
  have loop : codeAny (model X.prog X.w) X.A (.compLoop (.SetComp elt [⟨tg, iter, [], 0⟩] scope pos) 0 (.ref it) (.ref D) ce) (compPost (model X.prog X.w) X.A X.xe none (EP X pins σ Q) (.ref D) t3.heap.objs.size) t4 := by
    refine PpSet.compLoopS_any (fun n tc => ∃ i Hc, Inv (X.blk t3 HD scope ce fp) [] (L2.wipe σ (own.map (·.2))) Hc tc ∧ tn i tc.heap ∧ (∀ b ∈ fp, Hc b = none) ∧ Z i n Hc) ?_ m0 ⟨0, HD, I4, st4, dist, z0⟩
    rintro n t5 ⟨i, H5, I5, st5, n5, z5⟩
    rcases turn i n H5 z5 with ⟨stop, qq⟩ | ⟨go, Nx, hNx, step⟩
    · refine thnF (T.done (X.blk t3 HD scope ce fp) rfl rfl rfl hc i [] t5 _ H5 (fun _ _ => False) I5 (own' I5 n5) st5 stop) fun r t6 ⟨hr, I6⟩ => ?_
      subst hr
      have I7 : Inv X pins σ H5 t6 := I3.call' (ch := fp) I6.os I6.base I6.hok I6.bare fun b hb => ⟨(fk3 b hb).1.2.2.2.1, (fk3 b hb).1.2.1, (fk3 b hb).1.2.2.2.2.1, (fk3 b hb).1.2.2.2.2.2⟩
      have nC : H5 t3.heap.objs.size = none := by rw [← ceL]; exact I6.free
      obtain ⟨mm, hn, _⟩ := I6.loc
      have hn : t6.heap.Ns t3.heap.objs.size mm := by rw [← ceL]; exact hn
      refine ⟨mm, hn, fun h'' sb => ?_⟩
      obtain ⟨g0, g1, g2, g3, g4, g5⟩ := I3.fpOk (Nat.le_refl _) nC
      exact ⟨.ref D, H5, I7.turned (t' := t6.toks) (fun b o hb e => (sb.2 b hb).trans e) g0 g1 g3 g4 g5, rfl, qq⟩
    · refine thnF (T.item (X.blk t3 HD scope ce fp) rfl rfl rfl hc i [] t5 _ H5 (fun _ _ => False) I5 (own' I5 n5) st5 go) fun r t6 ⟨u, hr, h6⟩ => ?_
      subst hr
      refine thnF h6 fun _ t7 ⟨x, H7, I7, r7, y7, st7, n7⟩ => ?_
      have J7 := I7.pinned (own' I7 n7) (T.obj _ _ st7)
      refine thnF (pg.run _ t7 _ H7 x u _ J7 r7 (step x H7 y7)) fun _ t8 ⟨σ8, H8, I8, hw8, q8⟩ => ?_
      refine wpAny_tests_nil ?_
      rw [if_pos rfl]
      refine thnF (pe.run _ t8 σ8 H8 _ I8 q8) fun z t10 ⟨yv, H10, I10, r10, c, S0, n0, ey, hD10, hz10, nx⟩ => ?_
      subst ey
      refine call_set_add (knd := mixKind X.prog X.w) (kV_is r10) (key_scan r10) (setK_get (X := X.blk t3 HD scope ce fp) I10 hD10) hz10 fun h' sb new => ?_
      have there : ∃ o, h'.get? D = some o := new.elim fun o e => by obtain ⟨_, _, _, ho, _⟩ := e; exact ⟨o, ho⟩
      have I11 := I10.write (e := D) (t' := t10.toks + 1) (by rw [hD10]; trivial) (.inl rfl) (fun b o hb ho => (sb.2 b hb).trans ho) there (setK_new new)
      obtain ⟨m', hm, z'⟩ := hNx _ nx
      have pin' : ∀ b ∈ fp, ∀ o, t7.heap.get? b = some o → h'.get? b = some o ∧ upd H10 D (SetK X.prog X.w D (fun j => S0 j || decide (j = c)) (if S0 c = true then n0 else n0 + 1)) b = none := fun b hb o e =>
        have zz := I11.pin (b, o) (List.mem_append_right _ (List.mem_append_right _ (mem_pinsAt hb e)))
        ⟨zz.1, zz.2.1⟩
      have hl : (L2.wipe σ (own.map (·.2))).length = σ8.length := by rw [← hw8, L2.wipe_length]
      refine ⟨m', hm, i + 1, _, (I11.unpinned (pins := [])).weak hl (fun j v e => ?_), T.keep _ _ _ st7 fun b hb o e => (pin' b hb o e).1, fun b hb => ?_, z'⟩
      · rw [← hw8] at e
        exact (L2.wipe_some e).1
      · obtain ⟨o, e, _⟩ := T.obj _ _ st7 b hb
        exact (pin' b hb o e).2
  exact PpSet.codeAny_compStart_set loop (T.self X.A 0 _ _ _ st4 loop)
/-- len of such a set -/
theorem cr_lenK : CallR X (.builtin "len") fun xs H Q => ∃ D S n, xs = [.ref D] ∧ H D = some (SetK X.prog X.w D S n) ∧ Q (.int n) H := by
  intro pins s σ H xs us Q I r h
  obtain ⟨D, S, n, rfl, hD, q⟩ := h
  obtain ⟨u, rfl, ru⟩ := vals1 r
  cases ru
  obtain ⟨o, es, ep, t, ho, hex, hd, _, _, hb, hf, hn⟩ := setK_get I hD
  have hb : es.size < 4096 := hb
  exact call_len_set ho hex hd hf (by omega) ⟨.int n, H, I.tok _, ⟨_, by rw [hn]⟩, q⟩
end
/-! as a rule of the small language -/
theorem hid_setK {P : Program} {w : World} {D : Addr} {S : Key → Bool} {n : Nat} : HidO (SetK P w D S n) := by
  refine ⟨trivial, fun _ z => (by unfold SetK at z; cases z), fun c q z => ?_⟩
  unfold SetK LamX.CodeO at z
  injection z with z
  let ob : Obj := { cls := .none, data := .fields #[.none, .str q 0] }
  let hp : Heap := { objs := Array.replicate (max c D + 1) ob }
  have get : ∀ a, a ≤ max c D → hp.get? a = some ob := fun a ha => by
    have e : hp.objs[a]? = some ob := by
      show (Array.replicate (max c D + 1) ob)[a]? = some ob
      rw [Array.getElem?_replicate, if_pos (Nat.lt_succ_of_le ha)]
    unfold Heap.get?
    rw [e]
  have yes : (∃ (oc : Obj) (vs : Array Value) (t : Tok), hp.get? c = some oc ∧ oc.data = .fields vs ∧ vs[1]? = some (.str q t)) := ⟨ob, _, 0, get c (Nat.le_max_left _ _), rfl, rfl⟩
  rw [← congrFun z hp] at yes
  obtain ⟨o, es, ep, t, ho, _, hd, _⟩ := yes
  rw [get D (Nat.le_max_right _ _)] at ho
  cases ho
  cases hd
def hasK (ks : List Key) (j : Key) : Bool := ks.any fun k => decide (k = j)
theorem inT_key {u : T} {c : Key} (hu : keyR u c) : ∀ {us : List T} {ks : List Key}, KeysR us ks → inT u us = hasK ks c
  | _, _, .nil => rfl
  | _, _, .cons h r => by
    unfold inT hasK
    rw [keyR_eqv h hu, inT_key hu r]
    rfl
theorem dedup_snoc {us : List T} {u : T} : dedup (us ++ [u]) = addD (dedup us) u := by unfold dedup; rw [List.foldl_append]; rfl
structure SkR (us : List T) (S : Key → Bool) (n : Nat) : Prop where
  ex : ∃ ks, KeysR (dedup us) ks ∧ ∀ j, S j = hasK ks j
  num : n = (dedup us).length
theorem SkR.snoc {us : List T} {S : Key → Bool} {n : Nat} (h : SkR us S n) {u : T} {c : Key} (hu : keyR u c) : SkR (us ++ [u]) (fun j => S j || decide (j = c)) (if S c = true then n else n + 1) := by
  obtain ⟨⟨ks, h1, h2⟩, h3⟩ := h
  have e := inT_key hu h1
  have ed : dedup (us ++ [u]) = if hasK ks c = true then dedup us else dedup us ++ [u] := by rw [dedup_snoc]; unfold addD; rw [e]
  rw [h2 c]
  by_cases hc : hasK ks c = true
  · rw [if_pos hc] at ed ⊢
    refine ⟨⟨ks, by rw [ed]; exact h1, fun j => ?_⟩, by rw [ed]; exact h3⟩
    rw [h2 j]
    by_cases hj : j = c
    · subst hj; rw [hc]; rfl
    · rw [decide_eq_false hj, Bool.or_false]
  · rw [if_neg hc] at ed ⊢
    refine ⟨⟨ks ++ [c], by rw [ed]; exact h1.snoc hu, fun j => ?_⟩, by rw [ed, List.length_append, h3]; rfl⟩
    rw [h2 j]
    unfold hasK
    rw [List.any_append]
    simp [eq_comm]
theorem dedup_le {us : List T} : (dedup us).length ≤ us.length := by
  have key : ∀ (l acc : List T), (l.foldl addD acc).length ≤ acc.length + l.length := by
    intro l
    induction l with
    | nil => intro acc; exact Nat.le_refl _
    | cons u l ih =>
      intro acc
      refine Nat.le_trans (ih (addD acc u)) ?_
      unfold addD
      split
      · rw [List.length_cons]; omega
      · rw [List.length_append, List.length_cons, List.length_cons, List.length_nil]; omega
  have := key us []
  rw [List.length_nil, Nat.zero_add] at this
  exact this
section
variable {G : Glob} {W : WX} {X : Cx} {elt tgE iter : Expr} {scope : Scope} {own : List (Str × Nat)} {pos p1 p2 : Pos} {tg : Tg} {wi : TI'} {te : TE'} {n : Nat}
abbrev lsF (own : List Nat) (tg : Tg) (te : TE') (ρ : Env) : T → Sto → KL → Prop := fun x η' Kr => optF (bindTg tg x (setvs ρ.v own)) fun v => te ⟨v, ρ.x⟩ η' noX fun u η3 => keyT u = true ∧ Kr [u] η3
theorem q_lenSet (o : XG G n W X) (hN : X.N.Nodup) (hi : PI X tgE iter (liftI G W wi)) (ok : BlkOk X.N X.env.scope scope own)
    (hg : ∀ (s : Shared) (H : Hp) (C : Addr) (cl : List (Str × Addr)) (fp : List Addr), PG (X.blk s H scope (compEnvC scope cl C X.env) fp) tgE (gT G.K tg))
    (he : ∀ Z (s : Shared) (H : Hp) (C : Addr) (cl : List (Str × Addr)) (fp : List Addr), PE (X.blk s H scope (compEnvC scope cl C X.env) fp) elt (liftE (G.hid Z) noW te)) (hs : ∀ x, foldedSetIterable iter X.env x = pure x) (hv : ∀ i ∈ tgIx tg, i ∈ own.map (·.2))
    (hgl : Gl X "len") (hm : X.mg "len" = none) :
    PE X (.Call (.Name "len" p1) [.SetComp elt [⟨tgE, iter, [], 0⟩] scope pos] [] p2) (liftE G W fun ρ η X K => wi ρ η X fun ts sr η1 => ts.length ≤ 1000 ∧ wcomp (stays sr ts) (lsF (own.map (·.2)) tg te ρ) ts [] η1 fun us η' => K (.int (dedup us).length) η') := by
  have core : PE X (.SetComp elt [⟨tgE, iter, [], 0⟩] scope pos) (tSk X.prog X.w (liftI G W wi) (gT G.K tg) (fun σ H Q => ∃ Z, liftE (G.hid Z) noW te σ H Q) (own.map (·.2))) := pe_sk o.calm hN hi ok hg (fun s H C cl fp => pe_any fun Z => he Z s H C cl fp) hs
  refine (one_star X (by rfl) cr_lenK hgl hm (by decide +kernel) core (by decide) (by decide)).imp fun σ H Q ⟨ρ, η, Y, K, hρ, hS, ht, hX, hQ⟩ => ?_
  refine ⟨ρ, η, Y, _, hρ, hS, ht, hX, fun ts src J η1 H1 wk hl S1 f1 ⟨hsz, k1⟩ D hD => ?_⟩
  have hZ : ∀ a, hidD G D a → G.Z a ∨ H1 a = none := fun a z => z.imp id fun e => by rw [e]; exact hD
  have nD := S1.nz hD
  refine ⟨fun i m H' => i ≤ ts.length ∧ m = ts.length - i ∧ ∃ η' us S n, H' D = some (SetK X.prog X.w D S n) ∧ us.length ≤ i ∧ SkR us S n ∧ StoR (G.hid (hidD G D)) H' η' ∧ Frm η1 H1 η' H' ∧ wcomp (stays src ts) (lsF (own.map (·.2)) tg te ρ) (ts.drop i) us η' fun us η' => K (.int (dedup us).length) η',
    ⟨ts.length, Nat.zero_le _, rfl, η1, [], _, 0, upd_same, Nat.le_refl _, ⟨⟨[], .nil, fun j => rfl⟩, rfl⟩, S1.hide hD hid_setK, Frm.new hD, k1⟩, ?_⟩
  rintro i m H' ⟨hi', rfl, η', us, S, nn, hDa, hlu, sk, S', f', hw⟩
  by_cases hlt : i < ts.length
  · rw [List.drop_eq_getElem_cons hlt] at hw
    obtain ⟨st, hw⟩ := hw
    refine .inr ⟨wk.go _ hZ i H' η' hlt S' f' st, fun H'' => ∃ m', m' < ts.length - i ∧ (i + 1 ≤ ts.length ∧ m' = ts.length - (i + 1) ∧ ∃ η' us S n, H'' D = some (SetK X.prog X.w D S n) ∧ us.length ≤ i + 1 ∧ SkR us S n ∧ StoR (G.hid (hidD G D)) H'' η' ∧ Frm η1 H1 η' H'' ∧ wcomp (stays src ts) (lsF (own.map (·.2)) tg te ρ) (ts.drop (i + 1)) us η' fun us η' => K (.int (dedup us).length) η'), fun _ h => h, fun x H2 y => ?_⟩
    obtain ⟨t, et, rx, S2, f2⟩ := wk.yld _ hZ i H' η' x H2 S' f' st y hlt
    rw [List.getElem?_eq_getElem hlt] at et
    cases et
    obtain ⟨v, ev, hw⟩ := optF_inv hw
    have f12 := f'.trans f2
    have keepD : ∀ {η3 : Sto} {H3 : Hp}, Frm η' H' η3 H3 → H3 D = some (SetK X.prog X.w D S nn) := fun f => f.hp D _ hDa (S'.hz D (.inr rfl)).2 hid_setK.nt
    have envs : EnvR (G.hid (hidD G D)) H2 η' (L2.wipe σ (own.map (·.2))) ⟨setvs ρ.v (own.map (·.2)), ρ.x⟩ := by
      have e1 : EnvR G H1 η1 (L2.wipe σ (own.map (·.2))) ⟨setvs ρ.v (own.map (·.2)), ρ.x⟩ := (hρ.frm f1).wipe
      have e2 : EnvR (G.hid (hidD G D)) H1 η1 (L2.wipe σ (own.map (·.2))) ⟨setvs ρ.v (own.map (·.2)), ρ.x⟩ := e1.mv (mv_Z hZ)
      exact e2.frm f12
    refine gT_ok (G := G.hid (hidD G D)) (x := ρ.x) envs rx ev fun σ2 hρ2 hwp => ⟨(hwp _ hv).trans wipe_wipe, hidD G D, ⟨v, ρ.x⟩, η', noX, _, hρ2, S2, hw, .no, fun u y η4 H4 ry S4 f4 ⟨hk, k4⟩ => ?_⟩
    obtain ⟨c, kr, rfl⟩ := keyR_of hk ry
    have hd := keepD (f2.trans f4)
    have hb : nn + 1 < scanBound := by
      have h1 := sk.num
      have h2 := dedup_le (us := us)
      show nn + 1 < 4096
      omega
    refine ⟨c, S, nn, rfl, hd, hb, ts.length - (i + 1), by omega, hlt, rfl, η4, us ++ [u], _, _, upd_same, by rw [List.length_append]; exact Nat.succ_le_succ hlu, sk.snoc kr, S4.grow hd hid_setK hid_setK, (f12.trans f4).updD hD, k4⟩
  · have e : i = ts.length := by omega
    subst e
    rw [List.drop_length] at hw
    obtain ⟨st, hw⟩ := hw
    refine .inl ⟨wk.stop _ hZ H' η' S' f' st, D, S, nn, rfl, hDa, ?_⟩
    rw [sk.num]
    exact (hQ.frm (f1.trans f')).here S'.show' (.int _) hw
end
end TL

set_option maxHeartbeats 4000000
/-! len(set(xs)), xs a tuple or a list of keys -/
namespace TL
open PySem PySem.Spec PyProof.Rows L2
section
variable {prog : Program} {w : World} {A : Around} {R : Result → Shared → Prop} {I : Addr} {fp wr : List Addr} {G : Array GenState → Array GenState → Prop} {n : Nat} {P : Nat → Value → Prop} {St : Nat → Shared → Prop}
/-- the set that has met the first i of ts -/
def MetK (prog : Program) (w : World) (ts : List T) (D : Addr) (i : Nat) (h : Heap) : Prop := ∃ S m, h.SetOf (mixKind prog w) D S m ∧ SkR (ts.take i) S m
theorem MetK.keep {ts : List T} {D : Addr} {i : Nat} {h h' : Heap} (q : MetK prog w ts D i h) (k : ∀ o, h.get? D = some o → h'.get? D = some o) : MetK prog w ts D i h' := by
  obtain ⟨S, m, a, b⟩ := q
  exact ⟨S, m, setOf_at a k, b⟩
theorem loopK (W : WalksS prog w A.in1 I fp wr G n P St) (D : Addr) (hD : D ∉ fp) (ts : List T) (hz : n ≤ 1000)
    (hval : ∀ i v, P i v → ∃ u c, ts[i]? = some u ∧ keyR u c ∧ RelV (kV c) v) :
    ∀ (k i : Nat) (s0 s : Shared), n - i = k → i ≤ n → St i s → MetK prog w ts D i s.heap → Moved (D :: wr) G s0 s →
      (∀ s', Moved (D :: wr) G s0 s' → MetK prog w ts D n s'.heap → R (.ok (.ret .none)) s') →
      codeAny (model prog w) A (.builtin "set.update.loop" ⟨[.ref D, .ref I], []⟩) R s := by
  have hDw : D ∉ wr := fun h => hD (W.sub _ h)
  have hsub : ∀ b ∈ wr, b ∈ D :: wr := fun b hb => List.mem_cons_of_mem _ hb
  intro k
  induction k with
  | zero =>
    intro i s0 s hk hi hst hS h0 hR
    obtain rfl : i = n := by omega
    refine codeAny_builtin PyProof.Rows.F.entry_set_update_loop ?_
    rw [Around.under_plainId PyProof.Rows.F.plain_set_update_loop _]
    show wpAny _ A.in1 (pyNext (.ref I) >>= _) _ _ s
    refine wpAny_bind (W.done s _ _ hst fun s' hm => ?_)
    show wpAny _ A.in1 (ret Value.none) _ _ s'
    exact wpAny_pure (hR s' (Moved.trans W.gtrans h0 (hm.mono hsub)) (hS.keep fun o e => hm.heap D o hDw e))
  | succ k ih =>
    intro i s0 s hk hi hst hS h0 hR
    have hlt : i < n := by omega
    refine codeAny_builtin PyProof.Rows.F.entry_set_update_loop ?_
    rw [Around.under_plainId PyProof.Rows.F.plain_set_update_loop _]
    show wpAny _ A.in1 (pyNext (.ref I) >>= _) _ _ s
    refine wpAny_bind (W.item i s _ _ hlt hst fun v s' hP hst' hm => ?_)
    obtain ⟨u, c, hu, hk', rv⟩ := hval i v hP
    obtain ⟨S, m, hS', sk⟩ := hS.keep (h' := s'.heap) fun o e => hm.heap D o hDw e
    have hm' : m + 1 < scanBound := by
      have h1 := sk.num
      have h2 := dedup_le (us := ts.take i)
      have h3 := List.length_take_le i ts
      show m + 1 < 4096
      omega
    show wpAny _ A.in1 (holding [v] (setAdd D v) >>= _) _ _ s'
    refine wpAny_bind (wpAny_holding ?_)
    unfold setAdd
    refine wpAny_holding ?_
    refine wpAny_bind ((mixKind prog w).pyHash (k := c) (kV_is rv) ?_)
    refine wpAny_setAddHashed_of (knd := mixKind prog w) (s := { s' with toks := s'.toks + 1 }) (kV_is rv) (key_scan rv) hS' hm' fun h' hsb hS2 => ?_
    have et : ts.take (i + 1) = ts.take i ++ [u] := by rw [List.take_succ, hu]; rfl
    have met : MetK prog w ts D (i + 1) h' := ⟨_, _, hS2, by rw [et]; exact sk.snoc hk'⟩
    refine wpAny_pure ⟨plainId_quiet PyProof.Rows.F.plain_set_update_loop _, ih (i + 1) s0 _ (by omega) hlt (W.frame _ s' _ _ hst' (Nat.le_succ _) fun b hb o e => ?_) met (Moved.trans W.gtrans h0 ((hm.mono hsub).then_heap (Nat.le_succ _) fun b o hb e => ?_)) hR⟩
    · rw [hsb.2 b (fun h : b = D => hD (by rw [← h]; exact hb))]; exact e
    · rw [hsb.2 b (fun h : b = D => hb (by rw [h]; exact List.mem_cons_self))]; exact e
end
section
variable {prog : Program} {w : World} {A : Around} {E : Value → Shared → Prop} {s : Shared}
/-- set(x), x a tuple of keys -/
theorem set_tuple {l : Addr} {items : Array Value} {ts : List T} {Q : Value → Shared → Prop} (hh : A.handled = none) (hl : s.heap.IsTuple l items) (hz : items.size ≤ 1000) (hn : ts.length = items.size)
    (hi : ∀ (i : Nat) (v : Value), items[i]? = some v → ∃ (u : T) (c : Key), ts[i]? = some u ∧ keyR u c ∧ RelV (kV c) v)
    (h : ∀ (h' : Heap) (tk : Nat), MetK prog w ts s.heap.objs.size items.size h' → (∀ b o, b < s.heap.objs.size → s.heap.get? b = some o → h'.get? b = some o) → Q (.ref s.heap.objs.size) { s with heap := h', toks := tk }) :
    wpAny (model prog w) A (call (.type "set") [.ref l]) Q E s := by
  have hmade := PySem.F.called_set.made
  have hsub := PySem.F.called_set.sub
  obtain ⟨c, tl, hmro⟩ := PySem.F.called_set.mro
  refine wpAny_call (codeAny_of_tree ?_)
  show wpAny _ _ (callAny (.type "set") _) _ _ _
  refine wpAny_pure ⟨Code.quiet_builtin _ (by decide +kernel), codeAny_builtin PySem.F.entry_type_call ?_⟩
  rw [Around.under_plain (weight_type_call_type "set" [.ref l] []) rfl]
  have h1 := PySem.F.called_set.notType
  have h2 := PySem.F.called_set.canCreate
  have hct := PySem.F.typeCall_set_1 (.ref l)
  repeat (any_goals (first | assumption | wp_step))
  generalize eo : s.heap.objs.size = D at h
  refine codeAny_mono (code_set_new_1 (.ref l) (E := E) (Q₁ := fun obj s₁ => ∃ led : Bool, obj = .ref D ∧ s₁ = { s with heap := s.heap.push { cls := .type "set", dict := none, data := .set #[] 0 (.fresh 0 0 led) } }) fun led => ⟨led, by rw [← eo], rfl⟩) fun r s₁ hr => ?_
  cases r with
  | error e => exact hr
  | ok fl =>
    cases fl with
    | ret obj =>
      obtain ⟨led, rfl, rfl⟩ := hr
      have hS : (s.heap.push { cls := .type "set", dict := none, data := .set #[] 0 (.fresh 0 0 led) }).get? D = some { cls := .type "set", dict := none, data := .set #[] 0 (.fresh 0 0 led) } := by rw [← eo]; exact Heap.get?_push_size _ rfl
      have hT : Shared.TypeIs { s with heap := s.heap.push { cls := .type "set", dict := none, data := .set #[] 0 (.fresh 0 0 led) } } (.ref D) "set" := ⟨_, hS, rfl⟩
      have hli := PySem.F.called_set.init.lookup
      have hbi := PySem.F.called_set.init.bind (.ref D)
      repeat (any_goals (first | assumption | wp_step))
      refine codeAny_mono (codeAny_call_builtin (R := wants (fun r s₂ => r = .none ∧ ∃ h' tk, s₂ = { s with heap := h', toks := tk } ∧ MetK prog w ts D items.size h' ∧ (∀ b o, b < D → s.heap.get? b = some o → h'.get? b = some o)) E) PySem.F.called_set.init.plain PySem.F.entry_set_init (check_set_init_1 hT ?_)) fun r₂ s₂ hr₂ => ?_
      · obtain ⟨⟨ocls, odict, odata, oslots⟩, hol, hcl, nl, hdl⟩ := hl
        simp only at hcl hdl
        subst hcl; subst hdl
        have hol' : (s.heap.push { cls := .type "set", dict := none, data := .set #[] 0 (.fresh 0 0 led) }).get? l = some { cls := .type "tuple", dict := odict, data := .seq items nl, slots := oslots } := Heap.get?_push_of_some _ hol
        have hsls := PySem.F.sub_tuple_set
        have hslf := PySem.F.sub_tuple_frozenset
        have hne : (Value.type "tuple" == Value.type "dict") = false := by decide
        have hl1 : (s.heap.push { cls := .type "set", dict := none, data := .set #[] 0 (.fresh 0 0 led) }).IsTuple l items := ⟨_, hol', rfl, nl, rfl⟩
        have hlS : l < D := by rw [← eo]; exact Heap.lt_size hol
        have szb : (s.heap.push { cls := .type "set", dict := none, data := .set #[] 0 (.fresh 0 0 led) }).objs.size = D + 1 := by rw [Heap.size_push, eo]
        unfold Builtin.«set.__init__» noKeywords Builtin.Frozenset.updateFrom
        generalize hPI : pyIter = PI
        wp_walk
        subst hPI
        refine wpAny_pyIter_tuple hl1 ?_
        refine wpAny_bind (wpAny_runValue ?_)
        have hh3 : A.in1.in1.in1.handled = none := by simp [hh]
        have hneI : l ≠ (s.heap.push { cls := .type "set", dict := none, data := .set #[] 0 (.fresh 0 0 led) }).objs.size := by rw [szb]; exact Nat.ne_of_lt (Nat.lt_succ_of_lt hlS)
        have hSf : D ∉ [(s.heap.push { cls := .type "set", dict := none, data := .set #[] 0 (.fresh 0 0 led) }).objs.size, l] := by
          rw [szb]
          simp only [List.mem_cons, List.not_mem_nil, or_false, not_or]
          exact ⟨Nat.ne_of_lt (Nat.lt_succ_self _), Nat.ne_of_gt hlS⟩
        have m0 : MetK prog w ts D 0 ((s.heap.push { cls := .type "set", dict := none, data := .set #[] 0 (.fresh 0 0 led) }).push { cls := .type "tuple_iterator", data := .fields #[.ref l, .int 0 0] }) := by
          refine ⟨fun _ => false, 0, ?_, ⟨[], .nil, fun j => rfl⟩, rfl⟩
          have hget : ((s.heap.push { cls := .type "set", dict := none, data := .set #[] 0 (.fresh 0 0 led) }).push { cls := .type "tuple_iterator", data := .fields #[.ref l, .int 0 0] }).get? D = some { cls := .type "set", dict := none, data := .set #[] 0 (.fresh 0 0 led) } := Heap.get?_push_of_some _ hS
          exact ⟨_, #[], 0, _, hget, ⟨rfl, rfl, rfl⟩, rfl, (fun e he => by simp at he), (fun k => by simp), (by decide), (by rfl), rfl⟩
        refine loopK ((Walks.tuple hh3 _ l hneI items).toS) D hSf ts hz hi (items.size - 0) 0 _ _ (by omega) (Nat.zero_le _) ⟨⟨_, Heap.get?_push_size _ rfl, rfl, rfl⟩, (hl1.push _)⟩ m0 ⟨fun _ _ _ e => e, rfl, rfl, rfl, Nat.le_refl _⟩ fun s' hm hS' => ?_
        obtain ⟨h', g', d', tk', os'⟩ := s'
        have eg : g' = s.gens := hm.gens
        have ed : d' = s.drawn := hm.drawn
        have eo2 : os' = s.os := hm.os
        subst eg; subst ed; subst eo2
        show wpAny _ _ _ _ _ _
        refine wpAny_pure ?_
        show wpAny _ _ (ret Value.none) _ _ _
        refine wpAny_pure ⟨rfl, h', tk', rfl, hS', fun b o hb e => ?_⟩
        refine hm.heap b o ?_ (Heap.get?_push_of_some _ (Heap.get?_push_of_some _ e))
        rw [szb]
        simp only [List.mem_cons, List.not_mem_nil, or_false, not_or]
        exact ⟨Nat.ne_of_lt hb, Nat.ne_of_lt (Nat.lt_succ_of_lt hb)⟩
      · cases r₂ with
        | error e => exact hr₂
        | ok fl₂ =>
          cases fl₂ with
          | ret r =>
            obtain ⟨rfl, h', tk, rfl, hS', hk'⟩ := hr₂
            repeat (any_goals (first | assumption | wp_step))
            exact h _ _ hS' hk'
          | _ => exact hr₂.elim
    | _ => exact hr.elim
/-- set(x), x a list of keys -/
theorem set_list {l : Addr} {items : Array Value} {ts : List T} {Q : Value → Shared → Prop} (hh : A.handled = none) (hl : s.heap.IsList l items) (hz : items.size ≤ 1000) (hn : ts.length = items.size)
    (hi : ∀ (i : Nat) (v : Value), items[i]? = some v → ∃ (u : T) (c : Key), ts[i]? = some u ∧ keyR u c ∧ RelV (kV c) v)
    (h : ∀ (h' : Heap) (tk : Nat), MetK prog w ts s.heap.objs.size items.size h' → (∀ b o, b < s.heap.objs.size → s.heap.get? b = some o → h'.get? b = some o) → Q (.ref s.heap.objs.size) { s with heap := h', toks := tk }) :
    wpAny (model prog w) A (call (.type "set") [.ref l]) Q E s := by
  have hmade := PySem.F.called_set.made
  have hsub := PySem.F.called_set.sub
  obtain ⟨c, tl, hmro⟩ := PySem.F.called_set.mro
  refine wpAny_call (codeAny_of_tree ?_)
  show wpAny _ _ (callAny (.type "set") _) _ _ _
  refine wpAny_pure ⟨Code.quiet_builtin _ (by decide +kernel), codeAny_builtin PySem.F.entry_type_call ?_⟩
  rw [Around.under_plain (weight_type_call_type "set" [.ref l] []) rfl]
  have h1 := PySem.F.called_set.notType
  have h2 := PySem.F.called_set.canCreate
  have hct := PySem.F.typeCall_set_1 (.ref l)
  repeat (any_goals (first | assumption | wp_step))
  generalize eo : s.heap.objs.size = D at h
  refine codeAny_mono (code_set_new_1 (.ref l) (E := E) (Q₁ := fun obj s₁ => ∃ led : Bool, obj = .ref D ∧ s₁ = { s with heap := s.heap.push { cls := .type "set", dict := none, data := .set #[] 0 (.fresh 0 0 led) } }) fun led => ⟨led, by rw [← eo], rfl⟩) fun r s₁ hr => ?_
  cases r with
  | error e => exact hr
  | ok fl =>
    cases fl with
    | ret obj =>
      obtain ⟨led, rfl, rfl⟩ := hr
      have hS : (s.heap.push { cls := .type "set", dict := none, data := .set #[] 0 (.fresh 0 0 led) }).get? D = some { cls := .type "set", dict := none, data := .set #[] 0 (.fresh 0 0 led) } := by rw [← eo]; exact Heap.get?_push_size _ rfl
      have hT : Shared.TypeIs { s with heap := s.heap.push { cls := .type "set", dict := none, data := .set #[] 0 (.fresh 0 0 led) } } (.ref D) "set" := ⟨_, hS, rfl⟩
      have hli := PySem.F.called_set.init.lookup
      have hbi := PySem.F.called_set.init.bind (.ref D)
      repeat (any_goals (first | assumption | wp_step))
      refine codeAny_mono (codeAny_call_builtin (R := wants (fun r s₂ => r = .none ∧ ∃ h' tk, s₂ = { s with heap := h', toks := tk } ∧ MetK prog w ts D items.size h' ∧ (∀ b o, b < D → s.heap.get? b = some o → h'.get? b = some o)) E) PySem.F.called_set.init.plain PySem.F.entry_set_init (check_set_init_1 hT ?_)) fun r₂ s₂ hr₂ => ?_
      · obtain ⟨⟨ocls, odict, odata, oslots⟩, hol, hcl, nl, hdl⟩ := hl
        simp only at hcl hdl
        subst hcl; subst hdl
        have hol' : (s.heap.push { cls := .type "set", dict := none, data := .set #[] 0 (.fresh 0 0 led) }).get? l = some { cls := .type "list", dict := odict, data := .seq items nl, slots := oslots } := Heap.get?_push_of_some _ hol
        have hsls := PySem.F.sub_list_set
        have hslf := PySem.F.sub_list_frozenset
        have hne : (Value.type "list" == Value.type "dict") = false := by decide
        have hl1 : (s.heap.push { cls := .type "set", dict := none, data := .set #[] 0 (.fresh 0 0 led) }).IsList l items := ⟨_, hol', rfl, nl, rfl⟩
        have hlS : l < D := by rw [← eo]; exact Heap.lt_size hol
        have szb : (s.heap.push { cls := .type "set", dict := none, data := .set #[] 0 (.fresh 0 0 led) }).objs.size = D + 1 := by rw [Heap.size_push, eo]
        unfold Builtin.«set.__init__» noKeywords Builtin.Frozenset.updateFrom
        generalize hPI : pyIter = PI
        wp_walk
        subst hPI
        refine wpAny_pyIter_list hl1 ?_
        refine wpAny_bind (wpAny_runValue ?_)
        have hh3 : A.in1.in1.in1.handled = none := by simp [hh]
        have hneI : l ≠ (s.heap.push { cls := .type "set", dict := none, data := .set #[] 0 (.fresh 0 0 led) }).objs.size := by rw [szb]; exact Nat.ne_of_lt (Nat.lt_succ_of_lt hlS)
        have hSf : D ∉ [(s.heap.push { cls := .type "set", dict := none, data := .set #[] 0 (.fresh 0 0 led) }).objs.size, l] := by
          rw [szb]
          simp only [List.mem_cons, List.not_mem_nil, or_false, not_or]
          exact ⟨Nat.ne_of_lt (Nat.lt_succ_self _), Nat.ne_of_gt hlS⟩
        have m0 : MetK prog w ts D 0 ((s.heap.push { cls := .type "set", dict := none, data := .set #[] 0 (.fresh 0 0 led) }).push { cls := .type "list_iterator", data := .fields #[.ref l, .int 0 0] }) := by
          refine ⟨fun _ => false, 0, ?_, ⟨[], .nil, fun j => rfl⟩, rfl⟩
          have hget : ((s.heap.push { cls := .type "set", dict := none, data := .set #[] 0 (.fresh 0 0 led) }).push { cls := .type "list_iterator", data := .fields #[.ref l, .int 0 0] }).get? D = some { cls := .type "set", dict := none, data := .set #[] 0 (.fresh 0 0 led) } := Heap.get?_push_of_some _ hS
          exact ⟨_, #[], 0, _, hget, ⟨rfl, rfl, rfl⟩, rfl, (fun e he => by simp at he), (fun k => by simp), (by decide), (by rfl), rfl⟩
        refine loopK ((Walks.list hh3 _ l hneI items).toS) D hSf ts hz hi (items.size - 0) 0 _ _ (by omega) (Nat.zero_le _) ⟨⟨_, Heap.get?_push_size _ rfl, rfl, rfl⟩, (hl1.push _)⟩ m0 ⟨fun _ _ _ e => e, rfl, rfl, rfl, Nat.le_refl _⟩ fun s' hm hS' => ?_
        obtain ⟨h', g', d', tk', os'⟩ := s'
        have eg : g' = s.gens := hm.gens
        have ed : d' = s.drawn := hm.drawn
        have eo2 : os' = s.os := hm.os
        subst eg; subst ed; subst eo2
        show wpAny _ _ _ _ _ _
        refine wpAny_pure ?_
        show wpAny _ _ (ret Value.none) _ _ _
        refine wpAny_pure ⟨rfl, h', tk', rfl, hS', fun b o hb e => ?_⟩
        refine hm.heap b o ?_ (Heap.get?_push_of_some _ (Heap.get?_push_of_some _ e))
        rw [szb]
        simp only [List.mem_cons, List.not_mem_nil, or_false, not_or]
        exact ⟨Nat.ne_of_lt hb, Nat.ne_of_lt (Nat.lt_succ_of_lt hb)⟩
      · cases r₂ with
        | error e => exact hr₂
        | ok fl₂ =>
          cases fl₂ with
          | ret r =>
            obtain ⟨rfl, h', tk, rfl, hS', hk'⟩ := hr₂
            repeat (any_goals (first | assumption | wp_step))
            exact h _ _ hS' hk'
          | _ => exact hr₂.elim
    | _ => exact hr.elim
end
/-! the rule of the small language -/
section
variable {X : Cx}
theorem met_len {prog : Program} {w : World} {ts : List T} {D : Addr} {h : Heap} (q : MetK prog w ts D ts.length h) : ∃ S, h.SetOf (mixKind prog w) D S (dedup ts).length := by
  obtain ⟨S, m, a, b⟩ := q
  have e := b.num
  rw [List.take_length] at e
  exact ⟨S, e ▸ a⟩
def tLenK (K : PySem.W.Frag) (ta : TE) : TE := fun σ H Q => ta σ H fun x H1 => ∃ l vs ts, x = V.ref l ∧ (SqL K H1 l vs ∨ SqT K H1 l vs) ∧ ts.length ≤ 1000 ∧ ts.length = vs.length ∧ (∀ (i : Nat) (v : V), vs[i]? = some v → ∃ (u : T) (c : Key), ts[i]? = some u ∧ keyR u c ∧ v = kV c) ∧ Q (.int (dedup ts).length) H1
theorem pe_lenK {a : Expr} {ta : TE} {p p2 q pos : Pos} (hc : X.calm = true) (hg : Gl X "len") (hm : X.mg "len" = none) (hg2 : Gl X "set") (hm2 : X.mg "set" = none) (ha : PE X a ta)
    (na : starEach [a] X.env = (false, eval a X.env) :: starEach [] X.env) : PE X (.Call (.Name "len" p) [.Call (.Name "set" p2) [a] [] q] [] pos) (tLenK X.K ta) := by
  refine ⟨fun pins s σ H Q I h => ?_⟩
  refine Call_ (ld_blt I hg hm boot_len ?_)
  refine PyProof.Rows.callWith_builtin1 (PyProof.Rows.args_cons ?_ rfl) rfl rfl
  refine Call_ (ld_blt I hg2 hm2 boot_set ?_)
  refine PyProof.Rows.callWith_type1 (PyProof.Rows.args_cons (thn (ha.run pins s σ H _ I h) fun v s1 ⟨x, H1, I1, r1, l, vs, ts, ex, hq, hz, hl, hi, q1⟩ => PyProof.Rows.args_nil ?_) na) na rfl
  subst ex
  cases r1
  have fin : ∀ (h' : Heap) (tk : Nat), MetK X.prog X.w ts s1.heap.objs.size ts.length h' → (∀ b o, b < s1.heap.objs.size → s1.heap.get? b = some o → h'.get? b = some o) →
      wpAny (model X.prog X.w) X.A (spliced (backTo pos (starEach [] X.env))) (fun vs s₂ => wpAny (model X.prog X.w) X.A (call (.builtin "len") (Value.ref s1.heap.objs.size :: vs)) (EP X pins σ Q) X.xe s₂) X.xe { s1 with heap := h', toks := tk } := fun h' tk met hk => by
    refine PyProof.Rows.args_nil ?_
    obtain ⟨S, o, es, ep, t, ho, hex, hd, _, _, _, hf, hn⟩ := met_len met
    have I2 : Inv X pins σ H1 { s1 with heap := h', toks := tk } := I1.kept fun b o e => hk b o (Heap.lt_size e) e
    have hle := dedup_le (us := ts)
    refine call_len_set ho hex hd hf (by rw [hn]; omega) ⟨.int (dedup ts).length, H1, I2.tok _, ⟨_, by rw [hn]⟩, q1⟩
  have vals : ∀ {its : List Value}, Vals vs its → its.toArray.size = ts.length ∧ ∀ (i : Nat) (v : Value), its.toArray[i]? = some v → ∃ (u : T) (c : Key), ts[i]? = some u ∧ keyR u c ∧ RelV (kV c) v := fun {its} r => by
    refine ⟨by rw [List.size_toArray, ← r.length, hl], fun i v e => ?_⟩
    rw [List.getElem?_toArray] at e
    have hlt : i < vs.length := by rw [r.length]; exact (List.getElem?_eq_some_iff.mp e).1
    obtain ⟨w, hw, rw'⟩ := r.get (i := i) (x := vs[i]) (List.getElem?_eq_getElem hlt)
    rw [hw] at e
    cases e
    obtain ⟨u, c, e1, e2, e3⟩ := hi i _ (List.getElem?_eq_getElem hlt)
    exact ⟨u, c, e1, e2, by rw [← e3]; exact rw'⟩
  rcases hq with hq | hq
  · obtain ⟨its, r, pl, _⟩ := I1.list hq
    obtain ⟨v1, v2⟩ := vals r
    exact set_list (ts := ts) (I1.ok.hd hc) pl.isList (by rw [v1]; exact hz) v1.symm v2 fun h' tk met hk => fin h' tk (v1 ▸ met) hk
  · obtain ⟨its, r, pl, _⟩ := I1.tuple hq
    obtain ⟨v1, v2⟩ := vals r
    exact set_tuple (ts := ts) (I1.ok.hd hc) pl (by rw [v1]; exact hz) v1.symm v2 fun h' tk met hk => fin h' tk (v1 ▸ met) hk
end
section
variable {G : Glob} {W : WX} {X : Cx} {a : Expr} {ta : TE'} {pos : Pos} {n : Nat}
theorem vals_key {H : Hp} {η : Sto} : ∀ {ts : List T} {vs : List V}, ValsR G H η ts vs → ts.all keyT = true → ∀ (i : Nat) (v : V), vs[i]? = some v → ∃ (u : T) (c : Key), ts[i]? = some u ∧ keyR u c ∧ v = kV c
  | [], _, .nil, _, i, v, e => by simp at e
  | t :: ts, _, .cons r rs, h, 0, v, e => by
    rw [List.all_cons, Bool.and_eq_true] at h
    obtain ⟨c, h1, h2⟩ := keyR_of h.1 r
    rw [List.getElem?_cons_zero] at e
    cases e
    exact ⟨t, c, rfl, h1, h2⟩
  | t :: ts, _, .cons r rs, h, i + 1, v, e => by
    rw [List.all_cons, Bool.and_eq_true] at h
    rw [List.getElem?_cons_succ] at e ⊢
    exact vals_key rs h.2 i v e
theorem q_setLen {p p2 q : Pos} (o : XG G n W X) (hg : Gl X "len") (hm : X.mg "len" = none) (hg2 : Gl X "set") (hm2 : X.mg "set" = none) (ha : PE X a (liftE G W ta)) (hs : starEach [a] X.env = (false, eval a X.env) :: starEach [] X.env) :
    PE X (.Call (.Name "len" p) [.Call (.Name "set" p2) [a] [] q] [] pos) (liftE G W fun ρ η X K => ta ρ η X fun t η1 => optF (bltV .setLen [t] η1) fun t => K t η1) :=
  (pe_lenK o.calm hg hm hg2 hm2 ha hs).imp fun σ H Q ⟨ρ, η, Y, K, hρ, hS, ht, hX, hQ⟩ => lift1 hρ hS ht hX fun t x η2 H2 rx S2 f2 k => by
    obtain ⟨u, e, q⟩ := optF_inv k
    obtain ⟨ts, e1, e2⟩ := Option.bind_eq_some_iff.mp e
    by_cases hc : ts.all keyT = true ∧ ts.length ≤ 1000
    · rw [if_pos hc] at e2
      cases e2
      obtain ⟨a0, vs, rfl, hq, rs⟩ := seq_val S2 e1 rx
      exact ⟨a0, vs, ts, rfl, by rw [o.K]; exact hq, hc.2, rs.length, vals_key rs hc.1, (hQ.frm f2).here S2 (.int _) q⟩
    · rw [if_neg hc] at e2
      cases e2
end
end TL

set_option maxHeartbeats 1000000
/-! enumerate and zip over lists and tuples, each item in a new pair that is known as an object -/
namespace TL
open PySem PySem.Spec PyProof.Rows L2
/-- what is walked: a list, a tuple -/
inductive Kd | l | t
  deriving DecidableEq
def SqK (K : PySem.W.Frag) (k : Kd) (H : Hp) (a : Addr) (xs : List V) : Prop := match k with
  | .l => SqL K H a xs
  | .t => SqT K H a xs
def ItO (k : Kd) (a : Addr) : Obj := match k with
  | .l => { cls := .type "list_iterator", data := .fields #[.ref a, .int 0 0] }
  | .t => { cls := .type "tuple_iterator", data := .fields #[.ref a, .int 0 0] }
def AtK (k : Kd) (h : Heap) (it a : Addr) (i : Nat) : Prop := match k with
  | .l => h.IsListIter it a i
  | .t => h.IsTupleIter it a i
def IsK (k : Kd) (h : Heap) (a : Addr) (its : Array Value) : Prop := match k with
  | .l => h.IsList a its
  | .t => h.IsTuple a its
section
variable {prog : Program} {w : World} {A : Around} {h h' : Heap} {k k2 : Kd} {it a b e : Addr} {i : Nat} {its its2 : Array Value}
theorem begK : Begins (.ref a) (ItO k a) fun h => IsK k h a its := by
  cases k
  · exact begins_list a its
  · exact begins_tuple a its
theorem drwK (hh : A.handled = none) (n : it ≠ a) : Draws prog w A it [it, a] its.size (fun i v => its[i]? = some v) (fun i h => AtK k h it a i ∧ IsK k h a its) := by
  cases k
  · exact Draws.list hh it a (Ne.symm n) its
  · exact Draws.tuple hh it a (Ne.symm n) its
theorem AtK.obj (q : AtK k h it a i) : ∃ o, h.get? it = some o ∧ (o.cls = .type "list_iterator" ∨ o.cls = .type "tuple_iterator") ∧ ∀ v, o.data ≠ .cell v := by
  cases k
  all_goals
    obtain ⟨o, e, c, d⟩ := q
    refine ⟨o, e, ?_, fun v z => by rw [d] at z; cases z⟩
  · exact .inl c
  · exact .inr c
theorem IsK.obj (q : IsK k h a its) : ∃ o, h.get? a = some o ∧ (o.cls = .type "list" ∨ o.cls = .type "tuple") := by
  cases k
  · obtain ⟨o, e, c, _⟩ := q; exact ⟨o, e, .inl c⟩
  · obtain ⟨o, e, c, _⟩ := q; exact ⟨o, e, .inr c⟩
theorem AtK.ne (q : AtK k h it a i) (r : IsK k2 h b its) : it ≠ b := by
  rintro rfl
  obtain ⟨o, e1, c1, _⟩ := q.obj
  obtain ⟨o2, e2, c2⟩ := r.obj
  rw [e1] at e2
  cases e2
  rcases c1 with c1 | c1 <;> rcases c2 with c2 | c2 <;> (rw [c1] at c2; simp at c2)
theorem AtK.keep (q : AtK k h it a i) (s : ∀ o, h.get? it = some o → h'.get? it = some o) : AtK k h' it a i := by
  cases k
  · exact Heap.IsListIter.at q s
  · exact Heap.IsTupleIter.at q s
theorem AtK.zero (q : h.get? it = some (ItO k a)) : AtK k h it a 0 := by
  cases k
  · exact ⟨_, q, rfl, rfl⟩
  · exact ⟨_, q, rfl, rfl⟩
theorem isEnum_ne {n : Int} {old : Value} (q : IsEnum h e it n old) (r : IsK k h b its) : e ≠ b := by
  rintro rfl
  obtain ⟨o, e2, c2⟩ := r.obj
  have q : h.get? e = some _ := q
  rw [e2] at q
  cases q
  rcases c2 with c2 | c2 <;> simp at c2
end
section
variable {X : Cx} {pins : List (Addr × Obj)} {σ : L2.St} {H : Hp} {s : Shared} {k : Kd} {a : Addr} {xs ys : List V}
theorem invK (I : Inv X pins σ H s) (q : SqK X.K k H a xs) : ∃ its : List Value, Vals xs its ∧ IsK k s.heap a its.toArray := by
  cases k
  · obtain ⟨its, r, p, _⟩ := I.list q
    exact ⟨its, r, p.isList⟩
  · obtain ⟨its, r, p, _⟩ := I.tuple q
    exact ⟨its, r, p⟩
theorem lenK (I : Inv X pins σ H s) (q : SqK X.K k H a xs) : xs.length ≤ sizeLine := by
  cases k
  · obtain ⟨its, r, p, z⟩ := I.list q
    exact z
  · obtain ⟨its, r, p, z⟩ := I.tuple q
    exact z
theorem injK (I : Inv X pins σ H s) (q : SqK X.K k H a xs) (r : SqK X.K k H a ys) : xs = ys := by
  cases k
  · exact I.list_inj q r
  · exact I.tuple_inj q r
/-- a pair laid new -/
theorem pairOk {h : Heap} {T : Addr} {x y : V} {u v : Value} (g : h.get? T = some { cls := .type "tuple", data := .seq #[u, v] }) (rx : RelV x u) (ry : RelV y v) :
    ObjOk X.prog X.w (upd H T (.frz { cls := .type "tuple", data := .seq #[u, v] } (.tup [x, y]))) h T (.frz { cls := .type "tuple", data := .seq #[u, v] } (.tup [x, y])) :=
  ⟨g, (by show 2 ≤ sizeLine; decide), [u, v], .cons rx (.cons ry .nil), _, g, rfl, _, rfl⟩
end
/-! ### enumerate -/
def IteK (K : PySem.W.Frag) (k : Kd) (a : Addr) : L2.It where
  go := fun i H => ∃ (xs : List V) (x : V), SqK K k H a xs ∧ xs[i]? = some x
  yld := fun i H v H' => ∃ T x o, v = .ref T ∧ H T = none ∧ Obj.dict o = none ∧ H' = upd H T (.frz o (.tup [.int (i : Nat), x])) ∧ ∀ xs, SqK K k H a xs → xs[i]? = some x
  stop := fun i H => ∃ xs : List V, SqK K k H a xs ∧ xs.length = i
def StE (k : Kd) (a e it : Addr) (i : Nat) (h : Heap) : Prop := (∃ old, IsEnum h e it ((i : Nat) : Int) old) ∧ AtK k h it a i ∧ e ≠ it
theorem turn_enumK {P : Program} {w : World} {K : PySem.W.Frag} {elts : List Expr} {kk : Nat} {tpos : Pos} (k : Kd) (a e it : Addr) : Turn P w K (.Tuple elts kk tpos) (IteK K k a) [e, it] e (StE k a e it) where
  mem := List.mem_cons_self
  obj := fun i h st b hb => by
    obtain ⟨⟨old, q⟩, r, _⟩ := st
    rcases List.mem_cons.mp hb with z | z
    · subst z
      exact ⟨_, q, fun v z => nomatch z⟩
    · rw [List.mem_singleton.mp z]
      obtain ⟨o, e1, _, d⟩ := r.obj
      exact ⟨o, e1, fun v z => d v z⟩
  keep := fun i h h' st kp => by
    obtain ⟨⟨old, q⟩, r, n⟩ := st
    exact ⟨⟨old, kp e List.mem_cons_self _ q⟩, r.keep fun o z => kp it (List.mem_cons_of_mem _ List.mem_cons_self) o z, n⟩
  item := by
    intro X hP hw hK hc i pins s σ H E I hf st hg
    subst hP hw hK
    obtain ⟨⟨old, he⟩, hit, hne⟩ := st
    obtain ⟨xs, x, hq, hx⟩ := hg
    obtain ⟨its, rv, hI⟩ := invK I hq
    obtain ⟨u, hu, ru⟩ := rv.get hx
    have hlt : i < its.toArray.size := by simpa using (List.getElem?_eq_some_iff.mp hu).1
    have n1 := hit.ne hI
    have n2 := isEnum_ne he hI
    have old1 : ∀ c, c ∈ [e, it] → c < s.heap.objs.size := fun c hc => by
      rcases List.mem_cons.mp hc with z | z
      · subst z; exact Heap.lt_size he
      · rw [List.mem_singleton.mp z]; obtain ⟨o, e1, _⟩ := hit.obj; exact Heap.lt_size e1
    refine wpAny_pyNext_enum_itemD (drwK (A := X.A.in1) (I.ok.hd hc) n1) he ⟨hit, hI⟩ hlt hne (by simp [hne, n2]) fun v h1 tk hv ho st1 hT hsz hk => ?_
    obtain rfl : u = v := by
      have z : its.toArray[i]? = some u := by simpa using hu
      exact Option.some.inj (z.symm.trans hv)
    refine ⟨_, rfl, wpAny_letOwnedTupleGo_enum (s := { s with heap := h1, toks := tk + 1 }) ho fun h2 he2 sb => ?_⟩
    have far : ∀ c, c ≠ e → ∀ o, h1.get? c = some o → h2.get? c = some o := fun c hc o z => (sb.2 c hc).trans z
    have nT : s.heap.objs.size ≠ e := Nat.ne_of_gt (old1 e List.mem_cons_self)
    have gT := far _ nT _ hT
    have I1 := I.turnedNew (t' := tk + 1) (h' := h2) (ch := [e, it]) (T := s.heap.objs.size) (ob := .frz { cls := .type "tuple", data := .seq #[.int i tk, u] } (.tup [.int (i : Nat), x]))
      (fun c o hc z => far c (fun y => hc (by simp [y])) o (hk c o (fun y => hc (by simp [y])) (fun y => hc (by simp [y])) z)) hf (Nat.le_refl _) (pairOk gT ⟨tk, rfl⟩ ru)
    refine ⟨.ref s.heap.objs.size, _, I1, rfl, ⟨_, x, _, rfl, I.hok.fresh (Nat.le_refl _), rfl, rfl, fun ys hy => ?_⟩, ⟨⟨u, ?_⟩, st1.1.keep (far it (Ne.symm hne)), hne⟩, fun c hc => ?_⟩
    · rw [injK I hy hq]; exact hx
    · rw [show ((i + 1 : Nat) : Int) = (i : Int) + 1 by omega]; exact he2
    · rw [upd_ne (Nat.ne_of_lt (old1 c hc))]; exact (hf c hc).1
  done := by
    intro X hP hw hK hc i pins s σ H E I hf st hg
    subst hP hw hK
    obtain ⟨⟨old, he⟩, hit, hne⟩ := st
    obtain ⟨xs, hq, hn⟩ := hg
    obtain ⟨its, rv, hI⟩ := invK I hq
    obtain ⟨f0, f1, f2, f3, f4, f5⟩ := hf it (List.mem_cons_of_mem _ List.mem_cons_self)
    have hi : i = its.toArray.size := by rw [← hn, rv.length]; simp
    subst hi
    exact wpAny_pyNext_enum_endD (drwK (A := X.A.in1) (I.ok.hd hc) (hit.ne hI)) he ⟨hit, hI⟩ fun h1 eb => ⟨rfl, I.turned (t' := s.toks) (fun b o hb z => eb b o hb z) f0 f1 f3 f4 f5⟩
  self := fun A i s Q E st q => by
    obtain ⟨⟨_, he⟩, _⟩ := st
    exact wpAny_pyIter_enum he q
theorem meets_enum1 {v : Value} {o : Obj} {S : Heap → Prop} (B : Begins v o S) :
    Meets (Builtin.«enumerate.__new__» ⟨[.type "enumerate", v], []⟩) (fun _ R s => S s.heap ∧
      R (.ok (.ret (.ref (s.heap.push o).objs.size))) { s with heap := (s.heap.push o).push { cls := .type "enumerate", data := .fields #[.none, .bool false, .ref s.heap.objs.size, rawInt 0, .none, .none] } }) :=
  .of_wp fun prog w A R s q => by
    obtain ⟨hp, g, d, tk, os⟩ := s
    obtain ⟨q1, q2⟩ := q
    have hsub := sub_enumerate
    have go : ∀ {A' : Around} {E : Value → Shared → Prop} {Q : Value → Shared → Prop}, Q (.ref hp.objs.size) ⟨hp.push o, g, d, tk, os⟩ → wpAny (model prog w) A' (pyIter v) Q E ⟨hp, g, d, tk, os⟩ := fun z => B.iter prog w _ _ _ _ q1 z
    wp_walk using go
    refine wpAny_stack_any fun st => wpAny_pure ?_
    split
    · rename_i c _ _ _ _ _
      cases (c == Value.type "enumerate") <;> (wp_walk using go; exact ⟨_, rfl, q2⟩)
    · wp_walk using go
      exact ⟨_, rfl, q2⟩
theorem call_enum1 {prog : Program} {w : World} {A : Around} {E : Value → Shared → Prop} {s : Shared} {v : Value} {o : Obj} {S : Heap → Prop} {Q : Value → Shared → Prop} (B : Begins v o S) (hS : S s.heap)
    (q : ∀ h1, IsEnum h1 (s.heap.objs.size + 1) s.heap.objs.size 0 .none → h1.get? s.heap.objs.size = some o → (∀ b o, s.heap.get? b = some o → h1.get? b = some o) → Q (.ref (s.heap.objs.size + 1)) { s with heap := h1 }) :
    wpAny (model prog w) A (call (.type "enumerate") [v]) Q E s := by
  refine callType_new F.called_enumerate (by decide) (F.typeCall_enumerate_1 _) (F.newCall_enumerate_1 _) (fun obj => F.args_object_init_2 obj _) F.entry_enumerate_new (meets_enum1 B) ⟨hS, ?_⟩
  have z1 : (s.heap.push o).objs.size = s.heap.objs.size + 1 := Heap.size_push ..
  have he : ((s.heap.push o).push { cls := .type "enumerate", data := .fields #[.none, .bool false, .ref s.heap.objs.size, rawInt 0, .none, .none] }).get? (s.heap.push o).objs.size = some { cls := .type "enumerate", data := .fields #[.none, .bool false, .ref s.heap.objs.size, rawInt 0, .none, .none] } := Heap.get?_push_size _ rfl
  show _ ∧ _
  rw [z1] at he ⊢
  exact ⟨⟨_, he, rfl⟩, q _ he (Heap.get?_push_of_some _ (Heap.get?_push_size _ B.free)) fun b u z => Heap.get?_push_of_some _ (Heap.get?_push_of_some _ z)⟩
def iEnumK (K : PySem.W.Frag) (ta : TA) : TI := fun σ H R => ta σ H fun vs H1 => ∃ k a xs, vs = [.ref a] ∧ SqK K k H1 a xs ∧ (xs.length ≤ sizeLine → R (IteK K k a) H1)
theorem pi_enumK {X : Cx} {e : Expr} {ta : TA} {p pos tpos : Pos} {elts : List Expr} {kk : Nat} (hg : Gl X "enumerate") (hm : X.mg "enumerate" = none) (ha : PA X [e] ta) (hs : starEach [e] X.env = [(false, eval e X.env)]) :
    PI X (.Tuple elts kk tpos) (.Call (.Name "enumerate" p) [e] [] pos) (iEnumK X.K ta) := by
  refine ⟨fun pins s σ H R I q => Call_ (ld_blt I hg hm boot_enumerate (PyProof.Rows.callWith_type1 (thn (ha.run pos pins s σ H _ I q) fun us s1 ⟨vs, H1, I1, r1, k, a, xs, ex, hq, q1⟩ => ?_) hs rfl))⟩
  subst ex
  obtain ⟨u, rfl, ru⟩ : ∃ u, us = [u] ∧ RelV (.ref a) u := by
    cases r1 with
    | cons r rr => cases rr; exact ⟨_, rfl, r⟩
  cases ru
  obtain ⟨its, rv, hI⟩ := invK I1 hq
  refine call_enum1 (begK (k := k) (its := its.toArray)) hI fun h1 he gi kp => wpAny_pyIter_enum he ?_
  refine ⟨s1.heap.objs.size + 1, [s1.heap.objs.size + 1, s1.heap.objs.size], _, _, H1, rfl, I1.kept (t' := s1.toks) kp, turn_enumK k a (s1.heap.objs.size + 1) s1.heap.objs.size, ⟨⟨.none, he⟩, AtK.zero gi, Nat.succ_ne_self _⟩, fun b hb => ?_, q1 (lenK I1 hq)⟩
  have hle : s1.heap.objs.size ≤ b := by
    simp only [List.mem_cons, List.not_mem_nil, or_false] at hb
    rcases hb with rfl | rfl
    · exact Nat.le_add_right _ _
    · exact Nat.le_refl _
  exact I1.fpOk hle (I1.hok.fresh hle)
/-! ### zip -/
theorem neN {a b : Nat} (h : a < b ∨ b < a) : ¬ @Eq Addr a b := fun e => by
  have e : a = b := e
  omega
theorem ninN {z a b : Nat} (h : z ≠ a) (k : z ≠ b) : ¬ (z : Addr) ∈ ([a, b] : List Addr) := fun m => by
  rcases List.mem_cons.mp m with e | e
  · exact h e
  · exact k (List.mem_singleton.mp e)
theorem sepN {n a b : Nat} (la : a < n) (lb : b < n) : ZipSep2 (n + 4) (n + 2) (n + 3) n (n + 1) [n, a] [n + 1, b] where
  TIz := neN (by omega)
  TOz := neN (by omega)
  TITO := neN (by omega)
  TIi1 := neN (by omega)
  mem1 := List.mem_cons_self
  zf1 := ninN (by omega) (by omega)
  Tf1 := ninN (by omega) (by omega)
  TIi2 := neN (by omega)
  mem2 := List.mem_cons_self
  zf2 := ninN (by omega) (by omega)
  Tf2 := ninN (by omega) (by omega)
  sep1_2 := ninN (by omega) (by omega)
  sep2_1 := ninN (by omega) (by omega)
def ItzK (K : PySem.W.Frag) (k k2 : Kd) (a b : Addr) : L2.It where
  go := fun i H => ∃ (xs ys : List V) (x y : V), SqK K k H a xs ∧ SqK K k2 H b ys ∧ xs[i]? = some x ∧ ys[i]? = some y
  yld := fun i H v H' => ∃ T x y o, v = .ref T ∧ H T = none ∧ Obj.dict o = none ∧ H' = upd H T (.frz o (.tup [x, y])) ∧ (∀ xs, SqK K k H a xs → xs[i]? = some x) ∧ ∀ ys, SqK K k2 H b ys → ys[i]? = some y
  stop := fun i H => ∃ xs ys : List V, SqK K k H a xs ∧ SqK K k2 H b ys ∧ i = min xs.length ys.length
def StZ (k k2 : Kd) (a b z TI TO i1 i2 : Addr) (i : Nat) (h : Heap) : Prop := IsZip h z TI TO .none ∧ IsTupOf2 h TI (.ref i1) (.ref i2) ∧ (∃ x y, IsTupOf2 h TO x y) ∧ AtK k h i1 a i ∧ AtK k2 h i2 b i
theorem turn_zipK {P : Program} {w : World} {K : PySem.W.Frag} {elts : List Expr} {kk : Nat} {tpos : Pos} {k k2 : Kd} {a b z TI TO i1 i2 : Addr} (D : ZipSep2 z TI TO i1 i2 [i1, a] [i2, b]) :
    Turn P w K (.Tuple elts kk tpos) (ItzK K k k2 a b) [z, TI, TO, i1, i2] z (StZ k k2 a b z TI TO i1 i2) where
  mem := List.mem_cons_self
  obj := fun i h st c hc => by
    obtain ⟨q1, q2, ⟨x, y, q3⟩, r1, r2⟩ := st
    simp only [List.mem_cons, List.not_mem_nil, or_false] at hc
    rcases hc with rfl | rfl | rfl | rfl | rfl
    · exact ⟨_, q1, fun v z => nomatch z⟩
    · exact ⟨_, q2, fun v z => nomatch z⟩
    · exact ⟨_, q3, fun v z => nomatch z⟩
    · obtain ⟨o, e1, _, d⟩ := r1.obj; exact ⟨o, e1, fun v z => d v z⟩
    · obtain ⟨o, e1, _, d⟩ := r2.obj; exact ⟨o, e1, fun v z => d v z⟩
  keep := fun i h h' st kp => by
    obtain ⟨q1, q2, ⟨x, y, q3⟩, r1, r2⟩ := st
    exact ⟨kp z (by simp) _ q1, kp TI (by simp) _ q2, ⟨x, y, kp TO (by simp) _ q3⟩, r1.keep fun o e => kp i1 (by simp) o e, r2.keep fun o e => kp i2 (by simp) o e⟩
  item := by
    intro X hP hw hK hc i pins s σ H E I hf st hg
    subst hP hw hK
    obtain ⟨q1, q2, ⟨x0, y0, q3⟩, r1, r2⟩ := st
    obtain ⟨xs, ys, x, y, hqx, hqy, hx, hy⟩ := hg
    obtain ⟨its, rv, hI⟩ := invK I hqx
    obtain ⟨its2, rv2, hI2⟩ := invK I hqy
    obtain ⟨u, hu, ru⟩ := rv.get hx
    obtain ⟨u2, hu2, ru2⟩ := rv2.get hy
    have l1 : i < its.toArray.size := by simpa using (List.getElem?_eq_some_iff.mp hu).1
    have l2 : i < its2.toArray.size := by simpa using (List.getElem?_eq_some_iff.mp hu2).1
    have old1 : ∀ c, c ∈ [z, TI, TO, i1, i2] → c < s.heap.objs.size := fun c hc => by
      simp only [List.mem_cons, List.not_mem_nil, or_false] at hc
      rcases hc with rfl | rfl | rfl | rfl | rfl
      · exact Heap.lt_size q1
      · exact Heap.lt_size q2
      · exact Heap.lt_size q3
      · obtain ⟨o, e1, _⟩ := r1.obj; exact Heap.lt_size e1
      · obtain ⟨o, e1, _⟩ := r2.obj; exact Heap.lt_size e1
    refine wpAny_pyNext_zipD2_item D (drwK (A := X.A.in1) (I.ok.hd hc) (r1.ne hI)) (drwK (A := X.A.in1) (I.ok.hd hc) (r2.ne hI2)) q1 q2 q3 ⟨r1, hI⟩ ⟨r2, hI2⟩ l1 l2 fun v1 v2 h1 tk p1 p2 c1 c2 t1 t2 gT hsz hk => ?_
    obtain rfl : u = v1 := by
      have z : its.toArray[i]? = some u := by simpa using hu
      exact Option.some.inj (z.symm.trans p1)
    obtain rfl : u2 = v2 := by
      have z : its2.toArray[i]? = some u2 := by simpa using hu2
      exact Option.some.inj (z.symm.trans p2)
    refine ⟨_, rfl, wpAny_letOwnedTupleGo_zip (s := { s with heap := h1, toks := tk }) c1 fun h2 c3 sb => ?_⟩
    have far : ∀ c, c ≠ z → ∀ o, h1.get? c = some o → h2.get? c = some o := fun c hc o e => (sb.2 c hc).trans e
    have nT : s.heap.objs.size ≠ z := Nat.ne_of_gt (old1 z (by simp))
    have I1 := I.turnedNew (t' := tk) (h' := h2) (ch := [z, TI, TO, i1, i2]) (T := s.heap.objs.size) (ob := .frz { cls := .type "tuple", data := .seq #[u, u2] } (.tup [x, y]))
      (fun c o hc e => far c (fun y => hc (by simp [y])) o (hk c o (fun y => hc (by simp [y])) (fun y => hc (by simp [y])) (fun y => hc (by simp [y])) (fun y => hc (by simp [y])) e)) hf (Nat.le_refl _) (pairOk (far _ nT _ gT) ru ru2)
    refine ⟨.ref s.heap.objs.size, _, I1, rfl, ⟨_, x, y, _, rfl, I.hok.fresh (Nat.le_refl _), rfl, rfl, fun l hl => ?_, fun l hl => ?_⟩, ⟨c3, ?_, ⟨u, u2, far _ D.TOz _ c2⟩, t1.1.keep (far _ (Ne.symm D.zi1)), t2.1.keep (far _ (Ne.symm D.zi2))⟩, fun c hc => ?_⟩
    · rw [injK I hl hqx]; exact hx
    · rw [injK I hl hqy]; exact hy
    · exact far _ D.TIz _ (hk _ _ D.TIz D.TITO D.TIi1 D.TIi2 q2)
    · rw [upd_ne (Nat.ne_of_lt (old1 c hc))]; exact (hf c hc).1
  done := by
    intro X hP hw hK hc i pins s σ H E I hf st hg
    subst hP hw hK
    obtain ⟨q1, q2, ⟨x0, y0, q3⟩, r1, r2⟩ := st
    obtain ⟨xs, ys, hqx, hqy, hi⟩ := hg
    obtain ⟨its, rv, hI⟩ := invK I hqx
    obtain ⟨its2, rv2, hI2⟩ := invK I hqy
    have l1 : its.toArray.size = xs.length := by rw [rv.length]; simp
    have l2 : its2.toArray.size = ys.length := by rw [rv2.length]; simp
    refine wpAny_pyNext_zipD2_end D (drwK (A := X.A.in1) (I.ok.hd hc) (r1.ne hI)) (drwK (A := X.A.in1) (I.ok.hd hc) (r2.ne hI2)) q1 q2 q3 ⟨r1, hI⟩ ⟨r2, hI2⟩ (by omega) (by omega) (by omega) fun h1 tk hk => ⟨rfl, I.turnedL (t' := tk) (ch := [z, TI, TO, i1, i2]) (fun c o hb e => hk c o ?_ ?_ ?_ ?_ e) hf⟩
    all_goals (rintro rfl; exact hb (by simp))
  self := fun A i s Q E st q => wpAny_pyIter_zip st.1 q
def iZipK (K : PySem.W.Frag) (ta : TA) : TI := fun σ H R => ta σ H fun vs H1 => ∃ k k2 a b xs ys, vs = [.ref a, .ref b] ∧ SqK K k H1 a xs ∧ SqK K k2 H1 b ys ∧ (xs.length ≤ sizeLine → R (ItzK K k k2 a b) H1)
theorem pi_zipK {X : Cx} {e e2 : Expr} {ta : TA} {p pos tpos : Pos} {elts : List Expr} {kk : Nat} (hg : Gl X "zip") (hm : X.mg "zip" = none) (ha : PA X [e, e2] ta)
    (hs : starEach [e, e2] X.env = (false, eval e X.env) :: starEach [e2] X.env) (hpl : (backTo pos (starEach [e2] X.env)).any (·.1) = false) : PI X (.Tuple elts kk tpos) (.Call (.Name "zip" p) [e, e2] [] pos) (iZipK X.K ta) := by
  refine ⟨fun pins s σ H R I q => Call_ (ld_blt I hg hm PyProof.Rows.boot_zip (PyProof.Rows.callWith_type1 (thn (ha.run pos pins s σ H _ I q) fun us s1 ⟨vs, H1, I1, r1, k, k2, a, b, xs, ys, ex, hqx, hqy, q1⟩ => ?_) hs hpl))⟩
  subst ex
  obtain ⟨u, v, rfl, ru, rv⟩ : ∃ u v, us = [u, v] ∧ RelV (.ref a) u ∧ RelV (.ref b) v := by
    cases r1 with
    | cons r rr => cases rr with
      | cons r2 r3 => cases r3; exact ⟨_, _, rfl, r, r2⟩
  cases ru
  cases rv
  obtain ⟨its, _, hI⟩ := invK I1 hqx
  obtain ⟨its2, _, hI2⟩ := invK I1 hqy
  have la : a < s1.heap.objs.size := by obtain ⟨o, e1, _⟩ := hI.obj; exact Heap.lt_size e1
  have lb : b < s1.heap.objs.size := by obtain ⟨o, e1, _⟩ := hI2.obj; exact Heap.lt_size e1
  refine zip_begins2 (begK (k := k) (its := its.toArray)) (begK (k := k2) (its := its2.toArray)) hI hI2 fun h1 gz gI gO g1 g2 hsz kp => wpAny_pyIter_zip gz ?_
  have D : ZipSep2 (s1.heap.objs.size + 4) (s1.heap.objs.size + 2) (s1.heap.objs.size + 3) s1.heap.objs.size (s1.heap.objs.size + 1) [s1.heap.objs.size, a] [s1.heap.objs.size + 1, b] := by
    exact sepN la lb
  refine ⟨s1.heap.objs.size + 4, [s1.heap.objs.size + 4, s1.heap.objs.size + 2, s1.heap.objs.size + 3, s1.heap.objs.size, s1.heap.objs.size + 1], _, _, H1, rfl, I1.kept (t' := s1.toks) kp, turn_zipK D, ⟨gz, gI, ⟨_, _, gO⟩, AtK.zero g1, AtK.zero g2⟩, fun c hc => ?_, q1 (lenK I1 hqx)⟩
  have hle : s1.heap.objs.size ≤ c := by
    simp only [List.mem_cons, List.not_mem_nil, or_false] at hc
    rcases hc with rfl | rfl | rfl | rfl | rfl <;> first | exact Nat.le_add_right _ _ | exact Nat.le_refl _
  exact I1.fpOk hle (I1.hok.fresh hle)
end TL

/-! enumerate, zip in the small language -/
namespace TL
open PySem PySem.Spec PyProof.Rows L2
theorem enumL_get : ∀ (ts : List T) (k i : Nat), (enumL k ts)[i]? = ts[i]?.map fun x => .tup [.int ((k + i : Nat) : Int), x]
  | [], k, i => by simp [enumL]
  | x :: ts, k, 0 => by simp [enumL]
  | x :: ts, k, i + 1 => by
    show (enumL (k + 1) ts)[i]? = ts[i]?.map _
    rw [enumL_get ts (k + 1) i, show k + 1 + i = k + (i + 1) by omega]
theorem enumL_len : ∀ (ts : List T) (k : Nat), (enumL k ts).length = ts.length
  | [], k => rfl
  | x :: ts, k => congrArg (· + 1) (enumL_len ts (k + 1))
theorem zipL_get : ∀ (xs ys : List T) (i : Nat) {x y : T}, xs[i]? = some x → ys[i]? = some y → (zipL xs ys)[i]? = some (.tup [x, y])
  | [], ys, i, x, y, h, k => by simp at h
  | _ :: _, [], i, x, y, h, k => by simp at k
  | a :: xs, b :: ys, 0, x, y, h, k => by
    simp at h k
    subst h k
    rfl
  | a :: xs, b :: ys, i + 1, x, y, h, k => zipL_get xs ys i (by simpa using h) (by simpa using k)
theorem zipL_len : ∀ (xs ys : List T), (zipL xs ys).length = min xs.length ys.length
  | [], ys => by simp [zipL]
  | _ :: _, [] => by simp [zipL]
  | a :: xs, b :: ys => by
    show (zipL xs ys).length + 1 = _
    rw [zipL_len xs ys, List.length_cons, List.length_cons]
    omega
section
variable {G : Glob} {H0 : Hp} {η0 : Sto}
/-- a sequence that stands still -/
def StK (G : Glob) (k : Kd) (H : Hp) (η : Sto) (a : Addr) (vs : List V) : Prop := match k with
  | .l => StL G H η a vs
  | .t => StT G H η a vs
theorem StK.far {k : Kd} {a : Addr} {vs : List V} {ts : List T} (r : ValsR G H0 η0 ts vs) (h : StK G k H0 η0 a vs) {Z : Addr → Prop} (hZ : ∀ a, Z a → G.Z a ∨ H0 a = none) {H : Hp} {η : Sto} (f : Frm η0 H0 η H) : SqK G.K k H a vs ∧ ValsR (G.hid Z) H η ts vs := by
  refine ⟨?_, (r.mv (mv_Z hZ)).frm f⟩
  cases k with
  | l =>
    have h' : StL (G.hid Z) H0 η0 a vs := h.imp (fun h => Rd.mv (mv_Z hZ) h.1 h.2) id
    exact (h'.frm f).sq
  | t =>
    have h' : StT (G.hid Z) H0 η0 a vs := h.imp (fun h => FzT.mv (mv_Z hZ) h.1 h.2) id
    exact (h'.frm f).sq
theorem wk_enum {k : Kd} {a : Addr} {vs : List V} {ts : List T} (r : ValsR G H0 η0 ts vs) (h : StK G k H0 η0 a vs) : Wk G (IteK G.K k a) (enumL 0 ts) none H0 η0 where
  go := fun Z hZ i H η hi S f st => by
    obtain ⟨hq, rs⟩ := h.far r hZ f
    rw [enumL_len] at hi
    obtain ⟨v, e, _⟩ := rs.get (List.getElem?_eq_getElem hi)
    exact ⟨vs, v, hq, e⟩
  yld := fun Z hZ i H η x H' S f st y hi => by
    obtain ⟨hq, rs⟩ := h.far r hZ f
    obtain ⟨T0, v, o, rfl, n, d, rfl, g⟩ := y
    obtain ⟨t, e, q⟩ := getE rs (g vs hq)
    refine ⟨.tup [.int (i : Nat), t], ?_, valR_newTup n d S (.cons (.int _) (.cons q .nil)), S.new n, Frm.new n⟩
    rw [enumL_get, e]
    simp
  stop := fun Z hZ H η S f st => by
    obtain ⟨hq, rs⟩ := h.far r hZ f
    exact ⟨vs, hq, by rw [enumL_len, rs.length]⟩
theorem wk_zip {k k2 : Kd} {a b : Addr} {vs ws : List V} {ts us : List T} (r : ValsR G H0 η0 ts vs) (h : StK G k H0 η0 a vs) (r2 : ValsR G H0 η0 us ws) (h2 : StK G k2 H0 η0 b ws) : Wk G (ItzK G.K k k2 a b) (zipL ts us) none H0 η0 where
  go := fun Z hZ i H η hi S f st => by
    obtain ⟨hq, rs⟩ := h.far r hZ f
    obtain ⟨hq2, rs2⟩ := h2.far r2 hZ f
    rw [zipL_len] at hi
    obtain ⟨v, e, _⟩ := rs.get (List.getElem?_eq_getElem (show i < ts.length by omega))
    obtain ⟨v2, e2, _⟩ := rs2.get (List.getElem?_eq_getElem (show i < us.length by omega))
    exact ⟨vs, ws, v, v2, hq, hq2, e, e2⟩
  yld := fun Z hZ i H η x H' S f st y hi => by
    obtain ⟨hq, rs⟩ := h.far r hZ f
    obtain ⟨hq2, rs2⟩ := h2.far r2 hZ f
    obtain ⟨T0, v, v2, o, rfl, n, d, rfl, g, g2⟩ := y
    obtain ⟨t, e, q⟩ := getE rs (g vs hq)
    obtain ⟨t2, e2, q2⟩ := getE rs2 (g2 ws hq2)
    exact ⟨.tup [t, t2], zipL_get _ _ _ e e2, valR_newTup n d S (.cons q (.cons q2 .nil)), S.new n, Frm.new n⟩
  stop := fun Z hZ H η S f st => by
    obtain ⟨hq, rs⟩ := h.far r hZ f
    obtain ⟨hq2, rs2⟩ := h2.far r2 hZ f
    exact ⟨vs, ws, hq, hq2, by rw [zipL_len, rs.length, rs2.length]⟩
theorem still_of {η : Sto} {u : T} {x : V} {H : Hp} {xs : List T} (e : stillV η u = some xs) (r : ValR G H η u x) : ∃ k a vs, x = .ref a ∧ StK G k H η a vs ∧ ValsR G H η xs vs := by
  cases r with
  | tup h q => cases e; exact ⟨.t, _, _, rfl, h, q⟩
  | cl h q => cases e; exact ⟨.l, _, _, rfl, h, q⟩
  | non => cases e
  | bl => cases e
  | int => cases e
  | str => cases e
  | ref => cases e
  | dct => cases e
theorem StK.sq {k : Kd} {H : Hp} {η : Sto} {a : Addr} {vs : List V} (h : StK G k H η a vs) : SqK G.K k H a vs := by
  cases k with
  | l => exact StL.sq h
  | t => exact StT.sq h
theorem StK.frm' {k : Kd} {H H' : Hp} {η η' : Sto} {a : Addr} {vs : List V} (h : StK G k H η a vs) (f : Frm η H η' H') : StK G k H' η' a vs := by
  cases k with
  | l => exact StL.frm f h
  | t => exact StT.frm f h
end
section
variable {G : Glob} {W : WX} {X : Cx} {a b : Expr} {ta tb : TE'} {pos : Pos}
theorem i_enum {p tpos : Pos} {elts : List Expr} {kk : Nat} (hK : X.K = G.K) (hg : Gl X "enumerate") (hm : X.mg "enumerate" = none) (ha : PE X a (liftE G W ta)) (hs : starEach [a] X.env = (false, eval a X.env) :: starEach [] X.env) :
    PI X (.Tuple elts kk tpos) (.Call (.Name "enumerate" p) [a] [] pos) (liftI G W fun ρ η X K => ta ρ η X fun u η1 => optF (stillV η1 u) fun xs => K (enumL 0 xs) none η1) :=
  (pi_enumK hg hm (pa_cons ha pa_nil hs) hs).imp fun σ H R ⟨ρ, η, Y, K, hρ, hS, ht, hX, hI⟩ => lift1 hρ hS ht hX fun u x η1 H1 rx S1 f1 k1 => by
    obtain ⟨xs, e, q⟩ := optF_inv k1
    obtain ⟨k, a, vs, rfl, hst, rs⟩ := still_of e rx
    rw [hK]
    exact ⟨k, a, vs, rfl, hst.sq, fun hl => hI _ none _ η1 H1 (wk_enum rs hst) (by rw [enumL_len, rs.length]; exact hl) S1 f1 q⟩
theorem i_zip {p tpos : Pos} {elts : List Expr} {kk : Nat} (hK : X.K = G.K) (hg : Gl X "zip") (hm : X.mg "zip" = none) (ha : PE X a (liftE G W ta)) (hb : PE X b (liftE G W tb)) (hs : starEach [a, b] X.env = (false, eval a X.env) :: starEach [b] X.env) (hs2 : starEach [b] X.env = (false, eval b X.env) :: starEach [] X.env) :
    PI X (.Tuple elts kk tpos) (.Call (.Name "zip" p) [a, b] [] pos) (liftI G W fun ρ η X K => ta ρ η X fun u η1 => tb ρ η1 X fun w η2 => optF (stillV η2 u) fun xs => optF (stillV η2 w) fun ys => K (zipL xs ys) none η2) :=
  (pi_zipK hg hm (pa_cons ha (pa_cons hb pa_nil hs2) hs) hs (by rw [hs2]; rfl)).imp fun σ H R ⟨ρ, η, Y, K, hρ, hS, ht, hX, hI⟩ => lift2 hρ hS ht hX fun u w x y η1 H1 rx ry S1 f1 k1 => by
    obtain ⟨xs, e, k1⟩ := optF_inv k1
    obtain ⟨ys, e2, q⟩ := optF_inv k1
    obtain ⟨k, a, vs, rfl, hst, rs⟩ := still_of e rx
    obtain ⟨k2, b, ws, rfl, hst2, rs2⟩ := still_of e2 ry
    rw [hK]
    exact ⟨k, k2, a, b, vs, ws, rfl, hst.sq, hst2.sq, fun hl => hI _ none _ η1 H1 (wk_zip rs hst rs2 hst2) (by rw [zipL_len, rs.length]; omega) S1 f1 q⟩
end
end TL

/-! tables with written texts as keys: of the module, and displayed -/
namespace TL
open PySem PySem.Spec PyProof.Rows L2
/-- a table of the module -/
structure DctF (G : Glob) (nm : Str) (ks : List Str) (vs : List T) : Prop where
  ex : ∃ d es n, G.mg nm = some (.ref d) ∧ KDict G.K G.w d es n ∧ (∀ z t, lookS z ks vs = some t → ∃ u v, PySem.W.nsIn G.K d z = some (some u) ∧ RelV v u ∧ ∀ Z, KValR (G.hid Z) t v) ∧
    ∀ z, ∃ r, PySem.W.nsIn G.K d z = some r ∧ r.isSome = ks.contains z
theorem DctF.hid {G : Glob} {nm : Str} {ks : List Str} {vs : List T} (F : DctF G nm ks vs) (Z : Addr → Prop) : DctF (G.hid Z) nm ks vs := ⟨F.ex⟩
section
variable {G : Glob} {W : WX} {X : Cx} {a b c : Expr} {ta tb tc : TE'} {pos p1 : Pos} {n : Nat} {nm : Str} {ks : List Str} {vs : List T}
theorem q_gix (o : XG G n W X) (F : DctF G nm ks vs) (hg : Gl X nm) (hd : (nm == ("__debug__" : Str)) = false) (hb : PE X b (liftE G W tb)) (hs : PlainIx b) :
    PE X (.Subscript (.Name nm p1) b pos) (liftE G W fun ρ η X K => tb ρ η X fun u η1 => optF (strV u) fun z => optF (lookS z ks vs) fun t => K t η1) := by
  obtain ⟨d, es, m, hm, D, look, _⟩ := F.ex
  refine (pe_ix ix_kdict (pe_glob (v := .ref d) hg (by rw [o.mg]; exact hm) rfl hd) hb hs).imp fun σ H Q ⟨ρ, η, Y, K, hρ, hS, ht, hX, hQ⟩ => ?_
  refine lift1 hρ hS ht hX fun u x η1 H1 rx S1 f1 k1 => ?_
  obtain ⟨z, e1, k2⟩ := optF_inv k1
  obtain ⟨t, e2, k3⟩ := optF_inv k2
  obtain ⟨w, v, e3, r, kv⟩ := look z t e2
  cases rx with
  | str s l =>
    cases e1
    refine ⟨d, z, v, rfl, rfl, ⟨es, m, w, by rw [o.K]; exact D.at_, by rw [o.w]; exact D.lit, by rw [o.K]; exact e3, r⟩, (hQ.frm f1).here S1 (kv G.Z H1 η1) k3⟩
  | _ => cases e1
theorem c_gin (o : XG G n W X) {neg : Bool} (F : DctF G nm ks vs) (hg : Gl X nm) (hd : (nm == ("__debug__" : Str)) = false) (hb : PE X b (liftE G W tb)) {op : CmpOp} (ho : (neg = false ∧ op = .In) ∨ (neg = true ∧ op = .NotIn)) :
    PE X (.Compare b [op] [.Name nm p1] pos) (liftE G W fun ρ η X K => tb ρ η X fun u η1 => optF (strV u) fun z => K (.bl (neg != ks.contains z)) η1) := by
  obtain ⟨d, es, m, hm, D, _, has⟩ := F.ex
  have D' : KDict X.K X.w d es m := by rw [o.K, o.w]; exact D
  have gl : PE X (.Name nm p1) (tC (.ref d)) := pe_glob (v := .ref d) hg (by rw [o.mg]; exact hm) rfl hd
  rcases ho with ⟨rfl, rfl⟩ | ⟨rfl, rfl⟩
  · refine (pe_cmpR (op_in_kd D') hb gl (by rfl)).imp fun σ H Q ⟨ρ, η, Y, K, hρ, hS, ht, hX, hQ⟩ => ?_
    refine lift1 hρ hS ht hX fun u x η1 H1 rx S1 f1 k1 => ?_
    obtain ⟨z, e1, k2⟩ := optF_inv k1
    obtain ⟨r, e2, e3⟩ := has z
    cases rx with
    | str s l =>
      cases e1
      refine ⟨z, r, rfl, rfl, by rw [o.K]; exact e2, ?_⟩
      rw [e3]
      have e4 : (false != ks.contains z) = ks.contains z := by cases ks.contains z <;> rfl
      rw [e4] at k2
      exact (hQ.frm f1).here S1 (.bl _) k2
    | _ => cases e1
  · refine (pe_cmpR (op_notIn_kd D') hb gl (by rfl)).imp fun σ H Q ⟨ρ, η, Y, K, hρ, hS, ht, hX, hQ⟩ => ?_
    refine lift1 hρ hS ht hX fun u x η1 H1 rx S1 f1 k1 => ?_
    obtain ⟨z, e1, k2⟩ := optF_inv k1
    obtain ⟨r, e2, e3⟩ := has z
    cases rx with
    | str s l =>
      cases e1
      refine ⟨z, r, rfl, rfl, by rw [o.K]; exact e2, ?_⟩
      rw [e3]
      have e4 : (true != ks.contains z) = !ks.contains z := by cases ks.contains z <;> rfl
      rw [e4] at k2
      exact (hQ.frm f1).here S1 (.bl _) k2
    | _ => cases e1
end
/-! ### a displayed table that is asked at once -/
def cvB : T → Bool
  | .non => true | .bl _ => true | .int _ => true | .str x => decide (x.length ≤ sizeLine) | _ => false
def cv : T → V
  | .bl b => .bl b | .int i => .int i | .str x => .str x | _ => .non
def ckCst (a : Expr) (t : T) : Bool := match a, t with
  | .Constant .none _ _, .non => true
  | .Constant (.bool b) _ _, .bl c => b == c
  | .Constant (.int i) _ _, .int j => decide (i = j)
  | .Constant (.str x) _ _, .str y => decide (x = y)
  | _, _ => false
def ckPs : List (Option Expr) → List Expr → List Str → List T → Bool
  | [], [], [], [] => true
  | some a :: as, e :: es, k :: ks, v :: vs => ckCst a (.str k) && (ckCst e v && cvB v) && ckPs as es ks vs
  | _, _, _, _ => false
theorem cst_pe {X : Cx} {a : Expr} {t : T} (h : ckCst a t = true) : PE X a (tC (cv t)) := by
  cases a <;> first
    | exact Bool.noConfusion h
    | (rename_i c j p
       cases c <;> cases t <;> first
         | exact Bool.noConfusion h
         | exact pe_non
         | (have h := eq_of_beq (show (_ == _) = true from h); subst h; exact pe_bl)
         | (have h := of_decide_eq_true (show decide (_ = _) = true from h); subst h; first | exact pe_int | exact pe_str))
theorem cv_val {G : Glob} {H : Hp} {η : Sto} {t : T} (h : cvB t = true) : ValR G H η t (cv t) := by
  cases t with
  | non => exact .non
  | bl b => exact .bl b
  | int i => exact .int i
  | str x => exact .str x (of_decide_eq_true h)
  | _ => exact Bool.noConfusion h
def prsOf : List Str → List T → List (Key × V)
  | k :: ks, v :: vs => (.inr k, cv v) :: prsOf ks vs
  | _, _ => []
theorem pps_of {X : Cx} {pos : Pos} : ∀ {keys : List (Option Expr)} {values : List Expr} {ks : List Str} {vs : List T}, ckPs keys values ks vs = true →
    ∃ trs, PPs X pos keys values trs ∧ keys.all (·.isSome) = true ∧ keys.length = values.length ∧ keys.length = ks.length ∧ (prsOf ks vs).length = ks.length ∧ (prsOf ks vs).map (·.1) = ks.map .inr ∧ ∀ σ H Q, Q ((prsOf ks vs).map fun kv => (kV kv.1, kv.2)) H → tPairs trs σ H Q
  | [], [], [], [], _ => ⟨[], pps_nil, rfl, rfl, rfl, rfl, rfl, fun σ H Q q => q⟩
  | some a :: as, e :: es, k :: ks, v :: vs, h => by
    have h : (ckCst a (.str k) && (ckCst e v && cvB v) && ckPs as es ks vs) = true := h
    simp only [Bool.and_eq_true] at h
    obtain ⟨⟨h1, h2, _⟩, h3⟩ := h
    obtain ⟨trs, P, e1, e2, e3, e4, e5, f⟩ := pps_of h3
    exact ⟨_, pps_cons (cst_pe h1) (cst_pe h2) P, e1, congrArg (· + 1) e2, congrArg (· + 1) e3, congrArg (· + 1) e4, congrArg (_ :: ·) e5, fun σ H Q q => f σ H _ q⟩
  | [], _ :: _, _, _, h => by simp [ckPs] at h
  | [], [], _ :: _, _, h => by simp [ckPs] at h
  | [], [], [], _ :: _, h => by simp [ckPs] at h
  | none :: _, _, _, _, h => by simp [ckPs] at h
  | some _ :: _, [], _, _, h => by simp [ckPs] at h
  | some _ :: _, _ :: _, [], _, h => by simp [ckPs] at h
  | some _ :: _, _ :: _, _ :: _, [], h => by simp [ckPs] at h
theorem merge_nd : ∀ (more acc : List (Key × V)), ((acc ++ more).map (·.1)).Nodup → mergeK acc more = acc ++ more
  | [], acc, _ => by rw [List.append_nil]; rfl
  | p :: more, acc, h => by
    have hn : valV acc p.1 = none := by
      have h2 : p.1 ∉ acc.map (·.1) := fun m => by
        rw [List.map_append, List.map_cons, List.nodup_append] at h
        exact h.2.2 p.1 m p.1 List.mem_cons_self rfl
      unfold valV
      rw [Option.map_eq_none_iff, List.find?_eq_none]
      intro x hx
      simp only [decide_eq_true_eq]
      exact fun e => h2 (List.mem_map.mpr ⟨x, hx, e⟩)
    show mergeK (putK acc p.1 p.2) more = _
    rw [putK_new p.2 hn, merge_nd more (acc ++ [(p.1, p.2)]) (by rw [List.append_assoc]; exact h), List.append_assoc]
    rfl
theorem look_prs {z : Str} {t : T} : ∀ {ks : List Str} {vs : List T}, lookS z ks vs = some t → valV (prsOf ks vs) (.inr z) = some (cv t) ∧ ∃ i : Nat, vs[i]? = some t
  | [], _, e => by cases e
  | _ :: _, [], e => by cases e
  | k :: ks, v :: vs, e => by
    have e : (if k = z then some v else lookS z ks vs) = some t := e
    by_cases q : k = z
    · rw [if_pos q] at e
      cases e
      exact ⟨valV_pos (κ := Key) (p := ((Sum.inr k : Key), cv t)) (r := prsOf ks vs) (by rw [q]), 0, rfl⟩
    · rw [if_neg q] at e
      obtain ⟨a, i, b⟩ := look_prs e
      exact ⟨(valV_neg (κ := Key) (p := ((Sum.inr k : Key), cv v)) (fun e => q (by injection e))).trans a, i + 1, b⟩
theorem ckPs_cv : ∀ {keys : List (Option Expr)} {values : List Expr} {ks : List Str} {vs : List T}, ckPs keys values ks vs = true → ∀ (i : Nat) (t : T), vs[i]? = some t → cvB t = true
  | [], [], [], [], _, i, t, e => by simp at e
  | some a :: as, x :: es, k :: ks, v :: vs, h, i, t, e => by
    have h : (ckCst a (.str k) && (ckCst x v && cvB v) && ckPs as es ks vs) = true := h
    simp only [Bool.and_eq_true] at h
    cases i with
    | zero => cases e; exact h.1.2.2
    | succ i => exact ckPs_cv h.2 i t (by simpa using e)
  | [], _ :: _, _, _, h, _, _, _ => by simp [ckPs] at h
  | [], [], _ :: _, _, h, _, _, _ => by simp [ckPs] at h
  | [], [], [], _ :: _, h, _, _, _ => by simp [ckPs] at h
  | none :: _, _, _, _, h, _, _, _ => by simp [ckPs] at h
  | some _ :: _, [], _, _, h, _, _, _ => by simp [ckPs] at h
  | some _ :: _, _ :: _, [], _, h, _, _, _ => by simp [ckPs] at h
  | some _ :: _, _ :: _, _ :: _, [], h, _, _, _ => by simp [ckPs] at h
section
variable {G : Glob} {W : WX} {X : Cx} {b : Expr} {tb : TE'} {pos p1 : Pos} {n : Nat} {ks : List Str} {vs : List T}
theorem q_dsel (o : XG G n W X) {keys : List (Option Expr)} {values : List Expr} (h : ckPs keys values ks vs = true) (h0 : ks ≠ []) (h15 : ks.length ≤ 15) (nd : ks.Nodup) (hb : PE X b (liftE G W tb)) (hs : PlainIx b) :
    PE X (.Subscript (.Dict keys values p1) b pos) (liftE G W fun ρ η X K => tb ρ η X fun u η1 => optF (strV u) fun z => optF (lookS z ks vs) fun t => K t η1) := by
  obtain ⟨trs, P, e1, e2, e3, e4, e5, f⟩ := pps_of (X := X) (pos := p1) h
  have D : PE X (.Dict keys values p1) (tDisp trs) := pe_disp P e1 e2 (fun z => by subst z; exact h0 (List.eq_nil_of_length_eq_zero e3.symm)) (by omega)
  refine (pe_dget (by have := o.room.un; omega) D hb hs).imp fun σ H Q ⟨ρ, η, Y, K, hρ, hS, ht, hX, hQ⟩ => ?_
  intro p hp
  refine f σ _ _ ⟨upd_same, prsOf ks vs, rfl, by omega, ?_⟩
  have nd2 : ((([] : List (Key × V)) ++ prsOf ks vs).map (·.1)).Nodup := by
    rw [List.nil_append, e5]
    exact List.pairwise_map.mpr (nd.imp fun h e => h (by injection e))
  rw [merge_nd _ _ nd2, List.nil_append, upd_upd]
  have f0 : Frm η H η (upd H p (.dK (prsOf ks vs))) := Frm.new hp
  have n0 : get η p = none := hS.nn hp
  refine lift1 (hρ.frm f0) (hS.new hp) ht (hX.frm f0) fun u x η1 H1 rx S1 f1 k1 => ?_
  obtain ⟨z, z1, k2⟩ := optF_inv k1
  obtain ⟨t, z2, k3⟩ := optF_inv k2
  obtain ⟨z3, i, z4⟩ := look_prs z2
  cases rx with
  | str s l =>
    cases z1
    have hd : H1 p = some (.dK (prsOf ks vs)) := f1.hp p _ upd_same n0 (fun _ z => by cases z)
    refine ⟨p, cv t, rfl, ?_, ((hQ.frm f0).frm f1).here S1 (cv_val (ckPs_cv h i t z4)) k3⟩
    have g := DGet.k (k := Sum.inr z) hd
    rw [z3] at g
    exact g
  | _ => cases z1
end
end TL

set_option maxHeartbeats 1000000
/-! a text of the program held against a text of the small language -/
namespace TL
open PySem PySem.Spec PyProof.Rows L2
/-! ### what the checker knows -/
structure KwP where
  f : Nat
  n : Nat
  ks : List Str
  perm : List Nat
structure HofP where
  nm : Str
  ci : Nat
  ret : Str
structure Gs where
  fns : List (Str × List Str)
  glb : List (Str × T)
  exn : List Str
  kws : List KwP
  hofs : List HofP
  blt : List Str
  dcs : List (Str × List Str × List T) := []
structure Sx where
  N : List Str
  sc : Scope
  /-- none: a def; some: a comprehension's block -/
  blk : Option Scope
  lam : Bool
def kindIs (sc : Scope) (x : Str) (k : NameKind) : Bool := decide (sc.names.lookup x = some k)
def visB (sc : Scope) (x : Str) : Bool := kindIs sc x .local || kindIs sc x .cell || kindIs sc x .free
def locB (sc : Scope) (x : Str) : Bool := kindIs sc x .local || kindIs sc x .cell
def nmOk (x : Str) : Bool := !(x == ("__debug__" : Str)) && !(x == ("__classdict__" : Str))
def glB (S : Sx) (x : Str) : Bool := kindIs S.sc x .globalImplicit && nmOk x
def bltB (g : Gs) (S : Sx) (x : Str) : Bool := glB S x && g.blt.contains x
def noStar : Expr → Bool
  | .Starred .. => false
  | _ => true
def plainIxB : Expr → Bool
  | .Slice .. => false
  | _ => true
/-- its truth is its value's -/
def plainC : Expr → Bool
  | .UnaryOp .Not .. => false
  | .BoolOp .. => false
  | .IfExp .. => false
  | .Compare .. => false
  | _ => true
def noComp : Expr → Bool
  | .ListComp .. => false
  | .SetComp .. => false
  | .DictComp .. => false
  | _ => true
def noSet : Expr → Bool
  | .Set .. => false
  | _ => true
def notCall0 : Expr → Bool
  | .Call (.Name _ _) [] [] _ => false
  | _ => true
def isBoolOp : Expr → Bool
  | .BoolOp .. => true
  | _ => false
def bopIs : Bop → Operator → Bool
  | .add, .Add => true | .sub, .Sub => true | .mul, .Mult => true | .fdiv, .FloorDiv => true | .mod, .Mod => true | .pow, .Pow => true
  | _, _ => false
def copIs : Cop → CmpOp → Bool
  | .eq, .Eq => true | .ne, .NotEq => true | .lt, .Lt => true | .le, .LtE => true | .gt, .Gt => true | .ge, .GtE => true
  | .isN, .Is => true | .notN, .IsNot => true | .inn, .In => true | .nin, .NotIn => true
  | _, _ => false
def ownP (N : List Str) (own : List Nat) : List (Str × Nat) := own.map fun i => (N.getD i "", i)
def inner (S : Sx) (scope : Scope) : Sx := ⟨S.N, relS scope S.sc, some scope, false⟩
/-- a name that is stored -/
def stoB (S : Sx) (i : Nat) (x : Str) : Bool := decide (S.N[i]? = some x) && locB S.sc x && (match S.blk with
  | none => true
  | some scope => kindIs scope x .cell || kindIs S.sc x .local)
def ckTg (S : Sx) (t : Expr) : Tg → Bool
  | .name i => match t with
    | .Name x _ => stoB S i x
    | _ => false
  | .two i j => match t with
    | .Tuple es _ _ => (match es with
      | [.Name x _, .Name y _] => stoB S i x && stoB S j y
      | _ => false)
    | _ => false
mutual
def teq : T → T → Bool
  | .non, .non => true
  | .bl a, .bl b => a == b
  | .int i, .int j => decide (i = j)
  | .str x, .str y => decide (x = y)
  | .tup xs, .tup ys => teqs xs ys
  | .cl xs, .cl ys => teqs xs ys
  | .dct as bs, .dct cs ds => teqs as cs && teqs bs ds
  | .ref a, .ref b => decide (a = b)
  | _, _ => false
def teqs : List T → List T → Bool
  | [], [] => true
  | x :: xs, y :: ys => teq x y && teqs xs ys
  | _, _ => false
end
mutual
theorem teq_ok : ∀ {t u : T}, teq t u = true → t = u
  | .non, u, h => by cases u <;> first | rfl | exact Bool.noConfusion h
  | .bl a, u, h => by cases u <;> first | exact congrArg T.bl (by simpa [teq] using h) | exact Bool.noConfusion h
  | .int a, u, h => by cases u <;> first | exact congrArg T.int (by simpa [teq] using h) | exact Bool.noConfusion h
  | .str a, u, h => by cases u <;> first | exact congrArg T.str (by simpa [teq] using h) | exact Bool.noConfusion h
  | .ref a, u, h => by cases u <;> first | exact congrArg T.ref (by simpa [teq] using h) | exact Bool.noConfusion h
  | .tup xs, u, h => by cases u <;> first | exact congrArg T.tup (teqs_ok (ts := xs) h) | exact Bool.noConfusion h
  | .cl xs, u, h => by cases u <;> first | exact congrArg T.cl (teqs_ok (ts := xs) h) | exact Bool.noConfusion h
  | .dct xs ys, u, h => by
    cases u <;> first
      | exact Bool.noConfusion h
      | (rename_i cs ds
         have h : (teqs xs cs && teqs ys ds) = true := h
         rw [Bool.and_eq_true] at h
         rw [teqs_ok h.1, teqs_ok h.2])
theorem teqs_ok : ∀ {ts us : List T}, teqs ts us = true → ts = us
  | [], [], _ => rfl
  | [], _ :: _, h => Bool.noConfusion h
  | _ :: _, [], h => Bool.noConfusion h
  | x :: xs, y :: ys, h => by
    have h : (teq x y && teqs xs ys) = true := h
    rw [Bool.and_eq_true] at h
    rw [teq_ok h.1, teqs_ok h.2]
end
def kwName (k : Keyword) : Option Str := k.arg
mutual
def ckE (g : Gs) : Sx → Expr → E → Bool
  | S, a, .var i => match a with
    | .Name x _ => decide (S.N[i]? = some x) && visB S.sc x && nmOk x
    | _ => false
  | S, a, .cst t => match a, t with
    | .Constant .none _ _, .non => true
    | .Constant (.bool b) _ _, .bl c => b == c
    | .Constant (.int i) _ _, .int j => decide (i = j)
    | .Constant (.str x) _ _, .str y => decide (x = y) && decide (x.length ≤ sizeLine)
    | _, _ => false
  | S, a, .gcst i t => match a with
    | .Name x _ => glB S x && (match g.glb[i]? with
      | some (y, u) => decide (x = y) && teq t u
      | none => false)
    | _ => false
  | S, a, .tup es => match a with
    | .Tuple as _ _ => ckEs g S as es && decide (as.length ≤ 1000)
    | _ => false
  | S, a, .lst es => match a with
    | .List as _ => ckEs g S as es && decide (as.length ≤ 1000)
    | _ => false
  | S, a, .lstV es => match a with
    | .List as _ => ckEs g S as es && decide (as.length ≤ 1000)
    | _ => false
  | S, a, .bin o x y => match a with
    | .BinOp l op r _ => bopIs o op && ckE g S l x && ckE g S r y
    | _ => false
  | S, a, .neg x => match a with
    | .UnaryOp .USub l _ => ckE g S l x
    | _ => false
  | S, a, .cat x y => match a with
    | .BinOp l .Add r _ => ckE g S l x && ckE g S r y
    | _ => false
  | S, a, .catV x y => match a with
    | .BinOp l .Add r _ => ckE g S l x && ckE g S r y
    | _ => false
  | S, a, .lc own tg src c elt => match a with
    | .ListComp el [⟨tgE, iter, ifs, 0⟩] scope _ => blkC S.N S.sc scope (ownP S.N own) && (tgIx tg).all (own.contains ·) && noSet iter && ckTg (inner S scope) tgE tg && ckI g S tgE iter src && ckE g (inner S scope) el elt && (match ifs, c with
      | [], .tt => true
      | [], _ => false
      | i :: more, c => more.isEmpty && ckC g (inner S scope) i c)
    | _ => false
  | S, a, .lcM own tg src c elt => match a with
    | .ListComp el [⟨tgE, iter, ifs, 0⟩] scope _ => blkC S.N S.sc scope (ownP S.N own) && (tgIx tg).all (own.contains ·) && noSet iter && ckTg (inner S scope) tgE tg && ckI g S tgE iter src && ckE g (inner S scope) el elt && (match ifs, c with
      | [], .tt => true
      | [], _ => false
      | i :: more, c => more.isEmpty && ckC g (inner S scope) i c)
    | _ => false
  | S, a, .cmp o x y => match a with
    | .Compare l [op] [r] _ => copIs o op && !behindInMarks op r && ckE g S l x && ckE g S r y
    | _ => false
  | S, a, .chain o1 o2 x y z => match a with
    | .Compare l [op, op'] [m, r] _ => copIs o1 op && copIs o2 op' && !lastMarks [op, op'] [m, r] && ckE g S l x && ckE g S m y && ckE g S r z
    | _ => false
  | S, a, .and x y => match a with
    | .BoolOp .And (l :: r :: more) p => ckE g S l x && (match more with
      | [] => ckE g S r y
      | m :: more => ckE g S (.BoolOp .And (r :: m :: more) p) y)
    | _ => false
  | S, a, .or x y => match a with
    | .BoolOp .Or (l :: r :: more) p => ckE g S l x && (match more with
      | [] => ckE g S r y
      | m :: more => ckE g S (.BoolOp .Or (r :: m :: more) p) y)
    | _ => false
  | S, a, .not x => match a with
    | .UnaryOp .Not l _ => ckE g S l x
    | _ => false
  | S, a, .ite c x y => match a with
    | .IfExp t l r _ => ckC g S t c && ckE g S l x && ckE g S r y
    | _ => false
  | S, a, .idx x i => match a with
    | .Subscript l r _ => plainIxB r && ckE g S l x && ckE g S r i
    | _ => false
  | S, a, .slc x lo hi => match a with
    | .Subscript l (.Slice b e none _) _ => ckE g S l x && ckO g S b lo && ckO g S e hi
    | _ => false
  | S, a, .slcM x lo hi => match a with
    | .Subscript l (.Slice b e none _) _ => ckE g S l x && ckO g S b lo && ckO g S e hi
    | _ => false
  | S, a, .isinst x t => match a with
    | .Call (.Name f _) [l, .Name y _] [] _ => decide (f = "isinstance") && decide (y = Str.ofString (tyName t)) && bltB g S f && bltB g S y && noStar l && ckE g S l x
    | _ => false
  | S, a, .call f es => match a with
    | .Call (.Name x _) (l :: more) [] _ => glB S x && (l :: more).all noStar && ckEs g S (l :: more) es && (match g.fns[f]? with
      | some (nm, ps) => decide (x = nm) && decide ((l :: more).length = ps.length)
      | none => false)
    | _ => false
  | S, a, .callK f es kw perm => match a with
    | .Call (.Name x _) as kws _ => glB S x && as.all noStar && ckEs g S as es && ckKs g S kws kw && (match g.fns[f]? with
      | some (nm, ps) => decide (x = nm) && (g.kws.any fun k => decide (k.f = f) && decide (k.n = as.length) && decide (k.perm = perm) && decide (kws.map kwName = k.ks.map some))
      | none => false)
    | _ => false
  | S, a, .agg ag x => match a with
    | .Call (.Name f _) [l] [] _ => decide (f = aggName ag) && bltB g S f && noStar l && ckE g S l x && (match ag with
      | .max => false
      | .min => false
      | _ => true)
    | _ => false
  | S, a, .blt b es => match b, es with
    | .len, .cons x .nil => (match a with
      | .Call (.Name f _) [l] [] _ => decide (f = "len") && bltB g S f && noStar l && ckE g S l x
      | _ => false)
    | .abs, .cons x .nil => (match a with
      | .Call (.Name f _) [l] [] _ => decide (f = "abs") && bltB g S f && noStar l && ckE g S l x
      | _ => false)
    | .int, .cons x .nil => (match a with
      | .Call (.Name f _) [l] [] _ => decide (f = "int") && bltB g S f && noStar l && ckE g S l x
      | _ => false)
    | .dict, .cons x .nil => (match a with
      | .Call (.Name f _) [l] [] _ => decide (f = "dict") && bltB g S f && noStar l && ckE g S l x
      | _ => false)
    | .rev, .cons x .nil => (match a with
      | .Subscript l (.Slice none none (some (.UnaryOp .USub (.Constant (.int 1) _ _) _)) _) _ => ckE g S l x
      | _ => false)
    | .setLen, .cons x .nil => (match a with
      | .Call (.Name f _) [.Call (.Name f2 _) [l] [] _] [] _ => decide (f = "len") && bltB g S f && decide (f2 = "set") && bltB g S f2 && noStar l && ckE g S l x
      | _ => false)
    | .max2, .cons x (.cons y .nil) => (match a with
      | .Call (.Name f _) [l, r] [] _ => decide (f = "max") && bltB g S f && noStar l && noStar r && ckE g S l x && ckE g S r y
      | _ => false)
    | .min2, .cons x (.cons y .nil) => (match a with
      | .Call (.Name f _) [l, r] [] _ => decide (f = "min") && bltB g S f && noStar l && noStar r && ckE g S l x && ckE g S r y
      | _ => false)
    | _, _ => false
  | S, a, .mth m o es => match m, es with
    | .append, .cons x .nil => (match a with
      | .Call (.Attribute l nm p1) [r] [] p2 => decide (nm = "append") && notCall0 l && decide (p1.endLine = p2.line) && noStar r && ckE g S l o && ckE g S r x
      | _ => false)
    | .join, .cons x .nil => (match a with
      | .Call (.Attribute l nm p1) [r] [] p2 => decide (nm = "join") && notCall0 l && decide (p1.endLine = p2.line) && noStar r && ckE g S l o && ckE g S r x
      | _ => false)
    | .sw, .cons x .nil => (match a with
      | .Call (.Attribute l nm p1) [r] [] p2 => decide (nm = "startswith") && notCall0 l && decide (p1.endLine = p2.line) && noStar r && ckE g S l o && ckE g S r x
      | _ => false)
    | .indexT, .cons x .nil => (match a with
      | .Call (.Attribute l nm p1) [r] [] p2 => decide (nm = "index") && notCall0 l && decide (p1.endLine = p2.line) && noStar r && ckE g S l o && ckE g S r x
      | _ => false)
    | .get2, .cons x (.cons y .nil) => (match a with
      | .Call (.Attribute l nm p1) [r, q] [] p2 => decide (nm = "get") && notCall0 l && decide (p1.endLine = p2.line) && noStar r && noStar q && ckE g S l o && ckE g S r x && ckE g S q y
      | _ => false)
    | _, _ => false
  | S, a, .lenSet own tg src elt => match a with
    | .Call (.Name f _) [.SetComp el [⟨tgE, iter, [], 0⟩] scope _] [] _ => decide (f = "len") && bltB g S f && blkC S.N S.sc scope (ownP S.N own) && (tgIx tg).all (own.contains ·) && noSet iter && ckTg (inner S scope) tgE tg && ckI g S tgE iter src && ckE g (inner S scope) el elt
    | _ => false
  | S, a, .hof ci e ret => match a with
    | .Call (.Name f _) [.Lambda ⟨[], [], none, [], [], none, []⟩ body scope _] [] _ => S.lam && glB S f && LamX.lamSB S.sc scope && (g.hofs.any fun h => decide (h.nm = f) && decide (h.ci = ci) && decide (h.ret = ret)) && ckE g ⟨S.N, scope, some scope, false⟩ body e
    | _ => false
  | _, _, .exc => false
  | S, a, .frz i => match a with
    | .Name x _ => decide (S.N[i]? = some x) && visB S.sc x && nmOk x
    | _ => false
  | S, a, .weak e => ckE g S a e
  | S, a, .gix i ks vs e => match a with
    | .Subscript (.Name x _) r _ => plainIxB r && glB S x && ckE g S r e && (match g.dcs[i]? with
      | some (y, ks2, vs2) => decide (x = y) && decide (ks = ks2) && teqs vs vs2
      | none => false)
    | _ => false
  | S, a, .gin neg i ks e => match a with
    | .Compare l [op] [.Name x _] _ => (match neg, op with
      | true, .NotIn => true
      | false, .In => true
      | _, _ => false) && glB S x && ckE g S l e && (match g.dcs[i]? with
      | some (y, ks2, _) => decide (x = y) && decide (ks = ks2)
      | none => false)
    | _ => false
  | S, a, .dsel ks vs e => match a with
    | .Subscript (.Dict keys values _) r _ => plainIxB r && ckPs keys values ks vs && !ks.isEmpty && decide (ks.length ≤ 15) && decide ks.Nodup && ckE g S r e
    | _ => false
def ckEs (g : Gs) : Sx → List Expr → Es → Bool
  | _, [], .nil => true
  | S, a :: as, .cons e es => noStar a && ckE g S a e && ckEs g S as es
  | _, _, _ => false
def ckKs (g : Gs) : Sx → List Keyword → Es → Bool
  | _, [], .nil => true
  | S, k :: ks, .cons e es => k.arg.isSome && ckE g S k.value e && ckKs g S ks es
  | _, _, _ => false
def ckC (g : Gs) : Sx → Expr → C → Bool
  | S, a, .and x y => match a with
    | .BoolOp .And (l :: r :: more) p => ckC g S l x && (match more with
      | [] => ckC g S r y
      | m :: more => ckC g S (.BoolOp .And (r :: m :: more) p) y)
    | _ => false
  | S, a, .or x y => match a with
    | .BoolOp .Or (l :: r :: more) p => ckC g S l x && (match more with
      | [] => ckC g S r y
      | m :: more => ckC g S (.BoolOp .Or (r :: m :: more) p) y)
    | _ => false
  | S, a, .not x => match a with
    | .UnaryOp .Not l _ => ckC g S l x
    | _ => false
  | S, a, .cmp o x y => match a with
    | .Compare l [op] [r] _ => copIs o op && !behindInMarks op r && ckE g S l x && ckE g S r y
    | _ => false
  | S, a, .chain o1 o2 x y z => match a with
    | .Compare l [op, op'] [m, r] _ => copIs o1 op && copIs o2 op' && !lastMarks [op, op'] [m, r] && ckE g S l x && ckE g S m y && ckE g S r z
    | _ => false
  | S, a, .val e => plainC a && ckE g S a e
  | _, _, .tt => false
def ckI (g : Gs) : Sx → Expr → Expr → It → Bool
  | S, _, a, .seq e => ckE g S a e
  | S, _, a, .chars e => ckE g S a e
  | S, _, a, .range e => match a with
    | .Call (.Name f _) [l] [] _ => decide (f = "range") && bltB g S f && noStar l && ckE g S l e
    | _ => false
  | S, _, a, .range2 e d => match a with
    | .Call (.Name f _) [l, r] [] _ => decide (f = "range") && bltB g S f && noStar l && noStar r && ckE g S l e && ckE g S r d
    | _ => false
  | S, t, a, .zip e d => match t, a with
    | .Tuple .., .Call (.Name f _) [l, r] [] _ => decide (f = "zip") && bltB g S f && noStar l && noStar r && ckE g S l e && ckE g S r d
    | _, _ => false
  | S, t, a, .enum e => match t, a with
    | .Tuple .., .Call (.Name f _) [l] [] _ => decide (f = "enumerate") && bltB g S f && noStar l && ckE g S l e
    | _, _ => false
def ckO (g : Gs) : Sx → Option Expr → Op → Bool
  | _, none, .no => true
  | S, some a, .some e => ckE g S a e
  | _, _, _ => false
end
end TL

set_option maxHeartbeats 4000000
/-! what the checker lets pass is so -/
namespace TL
open PySem PySem.Spec PyProof.Rows L2
def LamK (G : Glob) (X : Cx) : Prop := ∃ cA PA', X.env.code = .ref cA ∧ LamX.TabB X.base X.mg cA PA' ∧ (PA', X.env.qual ++ "<lambda>") ∈ G.Tb ∧ ∀ p ∈ G.Tb, p.1 = PA' → p.2 = X.env.qual ++ "<lambda>"
structure CxOk (G : Glob) (n : Nat) (W : WX) (X : Cx) (S : Sx) : Prop extends XG G n W X where
  hN : X.N = S.N
  nd : S.N.Nodup
  sc : X.env.scope = S.sc
  fn : ∀ x, (match S.blk with | none => True | some scope => scope.names.lookup x = some .cell) → X.fn x = true
  lam : S.lam = true → LamK G X
structure GOk (G : Glob) (g : Gs) (k : Nat) (Φ : Nat → List T → Sto → KX → KE → Prop) (fa : Nat → Addr) (fdt : Nat → FuncData) : Prop where
  fns : ∀ (i : Nat) nm ps, g.fns[i]? = some (nm, ps) → FnK G k (Φ i) nm ps (fa i) (fdt i)
  glb : ∀ (i : Nat) nm t, g.glb[i]? = some (nm, t) → ∃ v u, G.mg nm = some u ∧ RelV v u ∧ ∀ Z, KValR (G.hid Z) t v
  exn : ∀ (i : Nat) nm, g.exn[i]? = some nm → ∃ C fld, ExnC G i C fld ∧ G.mg nm = some (.ref C)
  kws : ∀ p ∈ g.kws, ∀ nm ps, g.fns[p.f]? = some (nm, ps) → KwB G.K (fdt p.f) ps p.n p.ks p.perm
  hofs : ∀ h ∈ g.hofs, (∃ gA Ng call sg cdv bg, HofC G h.nm h.ci h.ret gA Ng call sg cdv bg) ∧ h.ret.length ≤ sizeLine
  blt : ∀ nm ∈ g.blt, G.mg nm = none
  dcs : ∀ (i : Nat) nm ks vs, g.dcs[i]? = some (nm, ks, vs) → DctF G nm ks vs
theorem FnK.hid {G : Glob} {k : Nat} {Φ : List T → Sto → KX → KE → Prop} {nm : Str} {ps : List Str} {f : Addr} {fd : FuncData} (F : FnK G k Φ nm ps f fd) (Z : Addr → Prop) : FnK (G.hid Z) k Φ nm ps f fd := ⟨F.ok, F.mg, F.kp, F.bd⟩
theorem ExnC.hid {G : Glob} {i : Nat} {C : Addr} {fld : Str} (F : ExnC G i C fld) (Z : Addr → Prop) : ExnC (G.hid Z) i C fld := ⟨F.xs, F.T, F.init⟩
theorem HofC.hid {G : Glob} {nm : Str} {ci : Nat} {ret : Str} {g : Addr} {Ng : List Str} {call : Str} {sg : Scope} {cdv : Value} {bg : List Stmt} (F : HofC G nm ci ret g Ng call sg cdv bg) (Z : Addr → Prop) : HofC (G.hid Z) nm ci ret g Ng call sg cdv bg :=
  ⟨F.ex, F.cd, F.kp, F.mg, F.sc, F.n0, F.vis, F.gives, F.d1, F.d2, F.d3⟩
section
variable {G : Glob} {g : Gs} {k n : Nat} {Φ : Nat → List T → Sto → KX → KE → Prop} {fa : Nat → Addr} {fdt : Nat → FuncData} {W : WX} {X : Cx} {S : Sx}
theorem GOk.hid (Y : GOk G g k Φ fa fdt) (Z : Addr → Prop) : GOk (G.hid Z) g k Φ fa fdt :=
  ⟨fun i nm ps h => (Y.fns i nm ps h).hid Z, Y.glb, fun i nm h => let ⟨C, fld, a, b⟩ := Y.exn i nm h; ⟨C, fld, a.hid Z, b⟩, Y.kws, fun h hh => let ⟨⟨gA, Ng, call, sg, cdv, bg, a⟩, b⟩ := Y.hofs h hh; ⟨⟨gA, Ng, call, sg, cdv, bg, a.hid Z⟩, b⟩, Y.blt, fun i nm ks vs h => (Y.dcs i nm ks vs h).hid Z⟩
theorem CxOk.gl (o : CxOk G n W X S) {x : Str} (h : kindIs S.sc x .globalImplicit = true) : Gl X x := by
  show X.env.scope.names.lookup x = _
  rw [o.sc]
  exact of_decide_eq_true h
theorem CxOk.vis (o : CxOk G n W X S) {x : Str} (h : visB S.sc x = true) : Vis X.env.scope x := by
  unfold visB kindIs at h
  simp only [Bool.or_eq_true, decide_eq_true_eq] at h
  unfold Vis
  rw [o.sc]
  rcases h with (h | h) | h
  · exact .inl h
  · exact .inr (.inl h)
  · exact .inr (.inr h)
theorem CxOk.loc (o : CxOk G n W X S) {x : Str} (h : locB S.sc x = true) : L2.Loc X.env.scope x := by
  unfold locB kindIs at h
  simp only [Bool.or_eq_true, decide_eq_true_eq] at h
  unfold L2.Loc
  rw [o.sc]
  exact h
theorem nm1 {x : Str} (h : nmOk x = true) : (x == ("__debug__" : Str)) = false ∧ (x == ("__classdict__" : Str)) = false := by
  unfold nmOk at h
  simp only [Bool.and_eq_true, Bool.not_eq_true'] at h
  exact h
theorem gl1 {x : Str} (h : glB S x = true) : kindIs S.sc x .globalImplicit = true ∧ (x == ("__debug__" : Str)) = false := by
  unfold glB at h
  rw [Bool.and_eq_true] at h
  exact ⟨h.1, (nm1 h.2).1⟩
theorem blt1 (Y : GOk G g k Φ fa fdt) (o : CxOk G n W X S) {x : Str} (h : bltB g S x = true) : Gl X x ∧ X.mg x = none := by
  unfold bltB at h
  rw [Bool.and_eq_true] at h
  refine ⟨o.gl (gl1 h.1).1, ?_⟩
  rw [o.mg]
  exact Y.blt x (by simpa using h.2)
theorem star_of {a : Expr} (h : noStar a = true) {es : List Expr} {env : PySem.Env} : starEach (a :: es) env = (false, eval a env) :: starEach es env := by cases a <;> first | rfl | exact Bool.noConfusion h
theorem stars {env : PySem.Env} {pos : Pos} : ∀ {es : List Expr}, es.all noStar = true → (backTo pos (starEach es env)).any (·.1) = false
  | [], _ => rfl
  | a :: es, h => by
    rw [List.all_cons, Bool.and_eq_true] at h
    rw [star_of h.1]
    exact stars (es := es) h.2
theorem plainIx_of {a : Expr} (h : plainIxB a = true) : PlainIx a := by cases a <;> first | exact fun _ _ => rfl | exact Bool.noConfusion h
theorem plainC_of {a : Expr} (h : plainC a = true) {env : PySem.Env} : ∀ whole, isTrue a env whole = (do let v ← whole; standAt a.pos; holding [v] (truthy v)) := by
  cases a <;> first
    | exact fun _ => rfl
    | exact Bool.noConfusion h
    | (rename_i op _ _
       cases op <;> first
         | exact fun _ => rfl
         | exact Bool.noConfusion h)
theorem noSet_of {a : Expr} (h : noSet a = true) {env : PySem.Env} : ∀ x, foldedSetIterable a env x = pure x := by cases a <;> first | exact fun _ => rfl | exact Bool.noConfusion h
theorem swaps_of {a : Expr} (h : noComp a = true) {t : Option Expr} {l : Nat} {env : PySem.Env} : swapsWith a t l env = pure false := by cases a <;> first | rfl | exact Bool.noConfusion h
theorem base_of {a : Expr} (h : notCall0 a = true) {nm : Str} {env : PySem.Env} {whole : Sem Value} : attributeBase a nm env whole = whole := by
  cases a <;> first
    | rfl
    | (rename_i f args kws pos
       cases f <;> first
         | rfl
         | (cases args <;> first
             | rfl
             | (cases kws <;> first
                 | rfl
                 | exact Bool.noConfusion h)))
/-- the context of a comprehension's block -/
theorem CxOk.blk' (o : CxOk G n W X S) {scope : Scope} (hk : scope.kind = .function) (Z : Addr → Prop) (s : Shared) (H : Hp) (C : Addr) (cl : List (Str × Addr)) (fp : List Addr) :
    CxOk (G.hid Z) n noW (X.blk s H scope (compEnvC scope cl C X.env) fp) (inner S scope) where
  P := o.P
  w := o.w
  K := o.K
  mg := o.mg
  base := o.base
  calm := o.calm
  room := o.room
  tk := L2.takes0
  hN := o.hN
  nd := o.nd
  sc := by
    show relS scope X.env.scope = relS scope S.sc
    rw [o.sc]
  fn := fun x h => by
    show (scope.names.lookup x == some NameKind.cell) = true
    have h : scope.names.lookup x = some .cell := h
    rw [h]
    rfl
  lam := fun h => Bool.noConfusion h
theorem sto_ok (o : CxOk G n W X S) {i : Nat} {x : Str} (h : stoB S i x = true) : X.N[i]? = some x ∧ L2.Loc X.env.scope x ∧ (X.fn x = true ∨ X.env.scope.names.lookup x = some .local) := by
  unfold stoB at h
  rw [Bool.and_eq_true, Bool.and_eq_true, decide_eq_true_eq] at h
  obtain ⟨⟨h1, h2⟩, h3⟩ := h
  refine ⟨by rw [o.hN]; exact h1, o.loc h2, ?_⟩
  have f := o.fn x
  cases hb : S.blk with
  | none => rw [hb] at f; exact .inl (f trivial)
  | some scope =>
    rw [hb] at h3 f
    unfold kindIs at h3
    simp only [Bool.or_eq_true, decide_eq_true_eq] at h3
    rcases h3 with h3 | h3
    · exact .inl (f h3)
    · exact .inr (by rw [o.sc]; exact h3)
theorem tg_ok (o : CxOk G n W X S) {t : Expr} {tg : Tg} (h : ckTg S t tg = true) : PG X t (gT G.K tg) := by
  cases tg with
  | name i =>
    cases t <;> first
      | exact Bool.noConfusion h
      | (obtain ⟨h1, h2, h3⟩ := sto_ok o h
         exact pg_name (by rw [o.hN]; exact o.nd) h1 h2 h3)
  | two i j =>
    cases t <;> first
      | exact Bool.noConfusion h
      | (rename_i es kk pp
         match es, h with
         | [.Name x _, .Name y _], h =>
           have h : (stoB S i x && stoB S j y) = true := h
           rw [Bool.and_eq_true] at h
           obtain ⟨h1, h2, h3⟩ := sto_ok o h.1
           obtain ⟨g1, g2, g3⟩ := sto_ok o h.2
           have hN : X.N.Nodup := by rw [o.hN]; exact o.nd
           show PG X _ (gTup G.K 2 (gCons (gName i) (gCons (gName j) gNil)))
           rw [← o.K]
           exact pg_tup o.calm (pgs_cons (pg_name hN h1 h2 h3) (pgs_cons (pg_name hN g1 g2 g3) pgs_nil)))
theorem bop_ok {o : Bop} {op : Operator} (h : bopIs o op = true) : ∃ r, OpR X (binaryOp op) r ∧ (X.K = G.K → Sim2 G r (bopR o)) := by
  cases o <;> cases op <;> first
    | exact Bool.noConfusion h
    | exact ⟨_, op_addAll, fun e => by rw [e]; exact sim_add⟩
    | exact ⟨_, op_sub, fun _ => sim_sub⟩
    | exact ⟨_, op_mulB, fun _ => sim_mul⟩
    | exact ⟨_, op_fdivB, fun _ => sim_fdiv⟩
    | exact ⟨_, op_modN, fun _ => sim_mod⟩
    | exact ⟨_, op_pow, fun _ => sim_pow⟩
theorem cop_ok (hu : X.A.units + 65 < cLine) {o : Cop} {op : CmpOp} (h : copIs o op = true) : ∃ r, OpR X (compareOp op) r ∧ (X.K = G.K → Sim2 G r (copR o)) := by
  cases o <;> cases op <;> first
    | exact Bool.noConfusion h
    | exact ⟨_, op_eqP (by omega), fun e => by rw [e]; exact sim_eq⟩
    | exact ⟨_, op_neP (by omega), fun e => by rw [e]; exact sim_ne⟩
    | exact ⟨_, op_ltA (by omega), fun e => by rw [e]; exact sim_lt⟩
    | exact ⟨_, op_le, fun _ => sim_le⟩
    | exact ⟨_, op_gt, fun _ => sim_gt⟩
    | exact ⟨_, op_ge, fun _ => sim_ge⟩
    | exact ⟨_, op_isA, fun _ => sim_isN⟩
    | exact ⟨_, op_notA, fun _ => sim_notN⟩
    | exact ⟨_, op_inAll hu, fun e => by rw [e]; exact sim_inS false (.inl ⟨rfl, rfl⟩)⟩
    | exact ⟨_, op_ninAll hu, fun e => by rw [e]; exact sim_inS true (.inr ⟨rfl, rfl⟩)⟩
theorem own_ok {N : List Str} {own : List Nat} : (ownP N own).map (·.2) = own := by
  unfold ownP
  rw [List.map_map]
  exact List.map_id own
theorem lamCx_ok {k : Nat} {A : Around} {outer : List PySem.Env} {s : Shared} {H : Hp} {E : XK} {scope : Scope} {f c' : Addr} (o : CxOk G n W X S) (L : LamX.LamS X.env.scope scope) (hr : Room k (A.deeper (LamX.lamEnv X scope s.heap.objs.size f c'))) :
    CxOk G k (fun cls d _ H' => E cls d H') (LamX.lamCx X A outer s H E scope f c') ⟨S.N, scope, some scope, false⟩ where
  P := o.P
  w := o.w
  K := o.K
  mg := o.mg
  base := o.base
  calm := rfl
  room := hr
  tk := takes_of rfl rfl rfl rfl
  hN := o.hN
  nd := o.nd
  sc := rfl
  fn := fun x h => absurd rfl (L.own _ (PySem.mem_of_lookup (show scope.names.lookup x = some .cell from h))).2
  lam := fun h => Bool.noConfusion h
end
end TL

set_option maxHeartbeats 4000000
/-! soundness: expressions -/
namespace TL
open PySem PySem.Spec PyProof.Rows L2
theorem _root_.L2.PTs.imp {X : Cx} {e : List Expr} {t u : TT} (h : PTs X e t) (i : ∀ σ H Q, u σ H Q → t σ H Q) : PTs X e u := ⟨fun pins s σ H Q I q => h.run pins s σ H Q I (i σ H Q q)⟩
theorem filterMap_some : ∀ {kws : List Keyword} {ks : List Str}, kws.map kwName = ks.map some → kws.filterMap kwName = ks
  | [], [], _ => rfl
  | [], _ :: _, h => by simp at h
  | _ :: _, [], h => by simp at h
  | q :: kws, x :: ks, h => by
    rw [List.map_cons, List.map_cons] at h
    injection h with h1 h2
    rw [List.filterMap_cons, h1, filterMap_some h2]
def PTW (X : Cx) (a : Expr) (t : TT) : Prop := PT X a t ∧ (isBoolOp a = true → PW X a t)
section
variable (g : Gs) (k : Nat) (Φ : Nat → List T → Sto → KX → KE → Prop) (fa : Nat → Addr) (fdt : Nat → FuncData)
/-- a comprehension's parts -/
theorem lc_ok {G : Glob} {n : Nat} {W : WX} {X : Cx} {S : Sx} (o : CxOk G n W X S) {own : List Nat} {tg : Tg} {src : It} {c : C} {elt : E} {el tgE iter : Expr} {ifs : List Expr} {scope : Scope}
    (h1 : blkC S.N S.sc scope (ownP S.N own) = true) (h2 : (tgIx tg).all (own.contains ·) = true) (h3 : noSet iter = true) (h4 : ckTg (inner S scope) tgE tg = true) (hi : PI X tgE iter (liftI G W (wI Φ src)))
    (he : ∀ Z (X' : Cx), CxOk (G.hid Z) n noW X' (inner S scope) → PE X' el (liftE (G.hid Z) noW (wE Φ elt))) (ht : ∀ Z (X' : Cx), CxOk (G.hid Z) n noW X' (inner S scope) → PTs X' ifs (liftC (G.hid Z) noW (wC Φ c))) :
    LcOk G W X el tgE iter ifs scope (ownP S.N own) tg (wI Φ src) (wC Φ c) (wE Φ elt) := by
  have ok : BlkOk X.N X.env.scope scope (ownP S.N own) := by rw [o.hN, o.sc]; exact blkOk_by h1
  exact {
    hc := o.calm
    hN := by rw [o.hN]; exact o.nd
    hi := hi
    ok := ok
    hg := fun s H C cl fp => tg_ok (G := G.hid G.Z) (o.blk' ok.kind G.Z s H C cl fp) h4
    ht := fun Z s H C cl fp => ht Z _ (o.blk' ok.kind Z s H C cl fp)
    he := fun Z s H C cl fp => he Z _ (o.blk' ok.kind Z s H C cl fp)
    hs := noSet_of h3
    hv := fun i hi => by
      rw [own_ok]
      have := List.all_eq_true.mp h2 i hi
      simpa using this }
mutual
theorem okE : ∀ (e : E) {G : Glob} {n : Nat} {W : WX} {X : Cx} {S : Sx} {a : Expr}, GOk G g k Φ fa fdt → CxOk G n W X S → k ≤ n → 2 ≤ n → (S.lam = true → k + 2 ≤ n) → 2 ≤ k → ckE g S a e = true → PE X a (liftE G W (wE Φ e))
  | .var i, G, n, W, X, S, a, Y, o, kn, n2, hl, k2, h => by
    cases a <;> first
      | exact Bool.noConfusion h
      | (rename_i x p
         have h : (decide (S.N[i]? = some x) && visB S.sc x && nmOk x) = true := h
         simp only [Bool.and_eq_true, decide_eq_true_eq] at h
         obtain ⟨⟨h1, h2⟩, h3⟩ := h
         exact q_var (by rw [o.hN]; exact h1) (o.vis h2) (nm1 h3).1 (nm1 h3).2)
  | .cst t, G, n, W, X, S, a, Y, o, kn, n2, hl, k2, h => by
    cases a <;> first
      | exact Bool.noConfusion h
      | (rename_i c j p
         cases c <;> cases t <;> first
           | exact Bool.noConfusion h
           | exact q_non
           | (have h := eq_of_beq (show (_ == _) = true from h); subst h; exact q_bl)
           | (have h := of_decide_eq_true (show decide (_ = _) = true from h); subst h; exact q_int)
           | (rename_i x y
              have h : (decide (x = y) && decide (x.length ≤ sizeLine)) = true := h
              simp only [Bool.and_eq_true, decide_eq_true_eq] at h
              obtain ⟨rfl, h2⟩ := h
              exact q_str h2))
  | .gcst i t, G, n, W, X, S, a, Y, o, kn, n2, hl, k2, h => by
    cases a <;> first
      | exact Bool.noConfusion h
      | (rename_i x p
         have h : (glB S x && (match g.glb[i]? with
           | some (y, u) => decide (x = y) && teq t u
           | none => false)) = true := h
         rw [Bool.and_eq_true] at h
         obtain ⟨h1, h2⟩ := h
         cases e : g.glb[i]? with
         | none => rw [e] at h2; exact Bool.noConfusion h2
         | some q =>
           obtain ⟨y, u⟩ := q
           rw [e] at h2
           simp only [Bool.and_eq_true, decide_eq_true_eq] at h2
           obtain ⟨rfl, h3⟩ := h2
           cases teq_ok h3
           obtain ⟨v, w, a1, a2, a3⟩ := Y.glb i x t e
           exact q_glob (o.gl (gl1 h1).1) (by rw [o.mg]; exact a1) a2 (a3 G.Z) (gl1 h1).2)
  | .tup es, G, n, W, X, S, a, Y, o, kn, n2, hl, k2, h => by
    cases a <;> first
      | exact Bool.noConfusion h
      | (rename_i as x1 p
         have h : (ckEs g S as es && decide (as.length ≤ 1000)) = true := h
         simp only [Bool.and_eq_true, decide_eq_true_eq] at h
         exact q_tup h.2 (okEs es Y o kn n2 hl k2 h.1))
  | .lst es, G, n, W, X, S, a, Y, o, kn, n2, hl, k2, h => by
    cases a <;> first
      | exact Bool.noConfusion h
      | (rename_i as p
         have h : (ckEs g S as es && decide (as.length ≤ 1000)) = true := h
         simp only [Bool.and_eq_true, decide_eq_true_eq] at h
         exact q_lst h.2 (okEs es Y o kn n2 hl k2 h.1))
  | .lstV es, G, n, W, X, S, a, Y, o, kn, n2, hl, k2, h => by
    cases a <;> first
      | exact Bool.noConfusion h
      | (rename_i as p
         have h : (ckEs g S as es && decide (as.length ≤ 1000)) = true := h
         simp only [Bool.and_eq_true, decide_eq_true_eq] at h
         exact q_lstV h.2 (okEs es Y o kn n2 hl k2 h.1))
  | .bin b x y, G, n, W, X, S, a, Y, o, kn, n2, hl, k2, h => by
    cases a <;> first
      | exact Bool.noConfusion h
      | (rename_i l op r p
         have h : (bopIs b op && ckE g S l x && ckE g S r y) = true := h
         simp only [Bool.and_eq_true] at h
         obtain ⟨⟨h1, h2⟩, h3⟩ := h
         obtain ⟨rr, ho, hs⟩ := bop_ok (X := X) (G := G) h1
         exact q_bin ho (hs o.K) (okE x Y o kn n2 hl k2 h2) (okE y Y o kn n2 hl k2 h3))
  | .neg x, G, n, W, X, S, a, Y, o, kn, n2, hl, k2, h => by
    cases a <;> first
      | exact Bool.noConfusion h
      | (rename_i op l p
         cases op <;> first
           | exact Bool.noConfusion h
           | exact q_neg (okE x Y o kn n2 hl k2 h))
  | .cat x y, G, n, W, X, S, a, Y, o, kn, n2, hl, k2, h => by
    cases a <;> first
      | exact Bool.noConfusion h
      | (rename_i l op r p
         cases op <;> first
           | exact Bool.noConfusion h
           | (have h : (ckE g S l x && ckE g S r y) = true := h
              rw [Bool.and_eq_true] at h
              exact q_cat o.toXG (okE x Y o kn n2 hl k2 h.1) (okE y Y o kn n2 hl k2 h.2)))
  | .catV x y, G, n, W, X, S, a, Y, o, kn, n2, hl, k2, h => by
    cases a <;> first
      | exact Bool.noConfusion h
      | (rename_i l op r p
         cases op <;> first
           | exact Bool.noConfusion h
           | (have h : (ckE g S l x && ckE g S r y) = true := h
              rw [Bool.and_eq_true] at h
              exact q_catV o.toXG (okE x Y o kn n2 hl k2 h.1) (okE y Y o kn n2 hl k2 h.2)))
  | .lc own tg src c elt, G, n, W, X, S, a, Y, o, kn, n2, hl, k2, h => by
    rw [ckE.eq_def] at h
    dsimp only at h
    split at h
    · rename_i el tgE iter ifs scope p
      simp only [Bool.and_eq_true] at h
      obtain ⟨⟨⟨⟨⟨⟨h1, h2⟩, h3⟩, h4⟩, h5⟩, h6⟩, h7⟩ := h
      have L : LcOk G W X el tgE iter ifs scope (ownP S.N own) tg (wI Φ src) (wC Φ c) (wE Φ elt) := lc_ok Φ o h1 h2 h3 h4 (okI src Y o kn n2 hl k2 h5) (fun Z X' o' => okE elt (Y.hid Z) o' kn n2 (fun z => Bool.noConfusion z) k2 h6) fun Z X' o' => by
        cases ifs with
        | nil =>
          cases c <;> first
            | exact Bool.noConfusion h7
            | exact pts_nil.imp fun σ H Q ⟨ρ, η, _, K, hρ, hS, ht, hX, hB⟩ => hB true η H hS .refl ht
        | cons i more =>
          rw [Bool.and_eq_true, List.isEmpty_iff] at h7
          obtain ⟨rfl, h7⟩ := h7
          exact pts_one (okC c (Y.hid Z) o' kn n2 (fun z => Bool.noConfusion z) k2 h7).1
      have q := q_lc (pos := p) L
      rw [own_ok] at q
      exact q
    · exact Bool.noConfusion h
  | .lcM own tg src c elt, G, n, W, X, S, a, Y, o, kn, n2, hl, k2, h => by
    rw [ckE.eq_def] at h
    dsimp only at h
    split at h
    · rename_i el tgE iter ifs scope p
      simp only [Bool.and_eq_true] at h
      obtain ⟨⟨⟨⟨⟨⟨h1, h2⟩, h3⟩, h4⟩, h5⟩, h6⟩, h7⟩ := h
      have L : LcOk G W X el tgE iter ifs scope (ownP S.N own) tg (wI Φ src) (wC Φ c) (wE Φ elt) := lc_ok Φ o h1 h2 h3 h4 (okI src Y o kn n2 hl k2 h5) (fun Z X' o' => okE elt (Y.hid Z) o' kn n2 (fun z => Bool.noConfusion z) k2 h6) fun Z X' o' => by
        cases ifs with
        | nil =>
          cases c <;> first
            | exact Bool.noConfusion h7
            | exact pts_nil.imp fun σ H Q ⟨ρ, η, _, K, hρ, hS, ht, hX, hB⟩ => hB true η H hS .refl ht
        | cons i more =>
          rw [Bool.and_eq_true, List.isEmpty_iff] at h7
          obtain ⟨rfl, h7⟩ := h7
          exact pts_one (okC c (Y.hid Z) o' kn n2 (fun z => Bool.noConfusion z) k2 h7).1
      have q := q_lcM (pos := p) L
      rw [own_ok] at q
      exact q
    · exact Bool.noConfusion h
  | .cmp b x y, G, n, W, X, S, a, Y, o, kn, n2, hl, k2, h => by
    rw [ckE.eq_def] at h
    dsimp only at h
    split at h
    · rename_i l op r p
      simp only [Bool.and_eq_true, Bool.not_eq_true'] at h
      obtain ⟨⟨⟨h1, h2⟩, h3⟩, h4⟩ := h
      obtain ⟨rr, ho, hs⟩ := cop_ok (X := X) (G := G) (by have := o.room.un; omega) h1
      exact q_cmp ho (hs o.K) (okE x Y o kn n2 hl k2 h3) (okE y Y o kn n2 hl k2 h4) h2
    · exact Bool.noConfusion h
  | .chain o1 o2 x y z, G, n, W, X, S, a, Y, o, kn, n2, hl, k2, h => by
    rw [ckE.eq_def] at h
    dsimp only at h
    split at h
    · rename_i l op op' m r p
      simp only [Bool.and_eq_true, Bool.not_eq_true'] at h
      obtain ⟨⟨⟨⟨⟨h1, h2⟩, h3⟩, h4⟩, h5⟩, h6⟩ := h
      obtain ⟨r1, ho1, hs1⟩ := cop_ok (X := X) (G := G) (by have := o.room.un; omega) h1
      obtain ⟨r2, ho2, hs2⟩ := cop_ok (X := X) (G := G) (by have := o.room.un; omega) h2
      exact q_chain (ok := fun u w η => copG o1 u w η = true) (g := copV o1) (ok' := fun u w η => copG o2 u w η = true) (g' := copV o2) ho1 ho2 (hs1 o.K) (hs2 o.K) (okE x Y o kn n2 hl k2 h4) (okE y Y o kn n2 hl k2 h5) (okE z Y o kn n2 hl k2 h6) h3
    · exact Bool.noConfusion h
  | .and x y, G, n, W, X, S, a, Y, o, kn, n2, hl, k2, h => by
    rw [ckE.eq_def] at h
    dsimp only at h
    split at h
    · rename_i l r more p
      rw [Bool.and_eq_true] at h
      obtain ⟨h1, h2⟩ := h
      refine q_and (okE x Y o kn n2 hl k2 h1) ?_ o.K
      cases more with
      | nil => exact pe_one (okE y Y o kn n2 hl k2 h2)
      | cons m more => exact okE y Y o kn n2 hl k2 h2
    · exact Bool.noConfusion h
  | .or x y, G, n, W, X, S, a, Y, o, kn, n2, hl, k2, h => by
    rw [ckE.eq_def] at h
    dsimp only at h
    split at h
    · rename_i l r more p
      rw [Bool.and_eq_true] at h
      obtain ⟨h1, h2⟩ := h
      refine q_or (okE x Y o kn n2 hl k2 h1) ?_ o.K
      cases more with
      | nil => exact pe_one (okE y Y o kn n2 hl k2 h2)
      | cons m more => exact okE y Y o kn n2 hl k2 h2
    · exact Bool.noConfusion h
  | .not x, G, n, W, X, S, a, Y, o, kn, n2, hl, k2, h => by
    cases a <;> first
      | exact Bool.noConfusion h
      | (rename_i op l p
         cases op <;> first
           | exact Bool.noConfusion h
           | exact q_not (okE x Y o kn n2 hl k2 h) o.K)
  | .ite c x y, G, n, W, X, S, a, Y, o, kn, n2, hl, k2, h => by
    cases a <;> first
      | exact Bool.noConfusion h
      | (rename_i t l r p
         have h : (ckC g S t c && ckE g S l x && ckE g S r y) = true := h
         simp only [Bool.and_eq_true] at h
         exact q_ite (okC c Y o kn n2 hl k2 h.1.1).1 (okE x Y o kn n2 hl k2 h.1.2) (okE y Y o kn n2 hl k2 h.2))
  | .idx x i, G, n, W, X, S, a, Y, o, kn, n2, hl, k2, h => by
    cases a <;> first
      | exact Bool.noConfusion h
      | (rename_i l r p
         have h : (plainIxB r && ckE g S l x && ckE g S r i) = true := h
         simp only [Bool.and_eq_true] at h
         exact q_idx (okE x Y o kn n2 hl k2 h.1.2) (okE i Y o kn n2 hl k2 h.2) o.K (plainIx_of h.1.1))
  | .slc x lo hi, G, n, W, X, S, a, Y, o, kn, n2, hl, k2, h => by
    rw [ckE.eq_def] at h
    dsimp only at h
    split at h
    · rename_i l b e p1 p
      simp only [Bool.and_eq_true] at h
      exact q_slc (okE x Y o kn n2 hl k2 h.1.1) (okO lo Y o kn n2 hl k2 h.1.2) (okO hi Y o kn n2 hl k2 h.2) o.K
    · exact Bool.noConfusion h
  | .slcM x lo hi, G, n, W, X, S, a, Y, o, kn, n2, hl, k2, h => by
    rw [ckE.eq_def] at h
    dsimp only at h
    split at h
    · rename_i l b e p1 p
      simp only [Bool.and_eq_true] at h
      exact q_slcM (okE x Y o kn n2 hl k2 h.1.1) (okO lo Y o kn n2 hl k2 h.1.2) (okO hi Y o kn n2 hl k2 h.2) o.K
    · exact Bool.noConfusion h
  | .isinst x t, G, n, W, X, S, a, Y, o, kn, n2, hl, k2, h => by
    rw [ckE.eq_def] at h
    dsimp only at h
    split at h
    · rename_i f p l y p1 p2
      simp only [Bool.and_eq_true, decide_eq_true_eq] at h
      obtain ⟨⟨⟨⟨⟨rfl, rfl⟩, h3⟩, h4⟩, h5⟩, h6⟩ := h
      obtain ⟨a1, a2⟩ := blt1 Y o h3
      obtain ⟨b1, b2⟩ := blt1 Y o h4
      exact q_isinst a1 a2 b1 b2 (okE x Y o kn n2 hl k2 h6) o.K (star_of h5)
    · exact Bool.noConfusion h
  | .call f es, G, n, W, X, S, a, Y, o, kn, n2, hl, k2, h => by
    rw [ckE.eq_def] at h
    dsimp only at h
    split at h
    · rename_i x p l more p2
      simp only [Bool.and_eq_true] at h
      obtain ⟨⟨⟨h1, h2⟩, h3⟩, h4⟩ := h
      cases e : g.fns[f]? with
      | none => rw [e] at h4; exact Bool.noConfusion h4
      | some q =>
        obtain ⟨nm, ps⟩ := q
        rw [e] at h4
        simp only [Bool.and_eq_true, decide_eq_true_eq] at h4
        obtain ⟨rfl, h5⟩ := h4
        have ha := okEs es Y o kn n2 hl k2 h3
        rw [h5] at ha
        rw [List.all_cons, Bool.and_eq_true] at h2
        exact q_call o.toXG (Y.fns f x ps e) kn (o.gl (gl1 h1).1) ha (gl1 h1).2 (star_of h2.1) (stars h2.2)
    · exact Bool.noConfusion h
  | .callK f es kw perm, G, n, W, X, S, a, Y, o, kn, n2, hl, k2, h => by
    rw [ckE.eq_def] at h
    dsimp only at h
    split at h
    · rename_i x p as kws p2
      simp only [Bool.and_eq_true] at h
      obtain ⟨⟨⟨⟨h1, h2⟩, h3⟩, h4⟩, h5⟩ := h
      cases e : g.fns[f]? with
      | none => rw [e] at h5; exact Bool.noConfusion h5
      | some q =>
        obtain ⟨nm, ps⟩ := q
        rw [e] at h5
        simp only [Bool.and_eq_true, decide_eq_true_eq] at h5
        obtain ⟨rfl, h6⟩ := h5
        obtain ⟨kp, hkp, hq⟩ := List.any_eq_true.mp h6
        simp only [Bool.and_eq_true, decide_eq_true_eq] at hq
        obtain ⟨⟨⟨rfl, c2⟩, rfl⟩, c4⟩ := hq
        have B := Y.kws kp hkp x ps e
        rw [c2] at B
        obtain ⟨hk, k1, k2', k3⟩ := okKs kw Y o kn n2 hl k2 h4
        have hlen : kws.length = kp.ks.length := by have := congrArg List.length c4; rwa [List.length_map, List.length_map] at this
        rw [hlen] at hk
        refine q_callK o.toXG (Y.fns kp.f x ps e) kn B (o.gl (gl1 h1).1) (okEs es Y o kn n2 hl k2 h3) hk (gl1 h1).2 (k1 _) (by rw [k2']; exact filterMap_some c4) (fun e0 => ?_) (fun e1 es' ee => ?_) (by rw [stars h2, k3]; rfl)
        · subst e0
          refine ⟨rfl, fun ρ η X K hh => ?_⟩
          cases es with
          | nil => exact hh
          | cons _ _ => exact Bool.noConfusion h3
        · subst ee
          rw [List.all_cons, Bool.and_eq_true] at h2
          exact star_of h2.1
    · exact Bool.noConfusion h
  | .agg ag x, G, n, W, X, S, a, Y, o, kn, n2, hl, k2, h => by
    rw [ckE.eq_def] at h
    dsimp only at h
    split at h
    · rename_i f p l p2
      simp only [Bool.and_eq_true, decide_eq_true_eq] at h
      obtain ⟨⟨⟨⟨rfl, h3⟩, h4⟩, h5⟩, h6⟩ := h
      obtain ⟨a1, a2⟩ := blt1 Y o h3
      have hx := okE x Y o kn n2 hl k2 h5
      cases ag with
      | all => exact q_all o.toXG a1 a2 hx (star_of h4)
      | any => exact q_any o.toXG a1 a2 hx (star_of h4)
      | sum => exact q_sum o.toXG a1 a2 hx (star_of h4)
      | tuple => exact q_tuple o.toXG a1 a2 hx (star_of h4)
      | list => exact q_list o.toXG a1 a2 hx (star_of h4)
      | listM => exact q_listM o.toXG a1 a2 hx (star_of h4)
      | max => exact Bool.noConfusion h6
      | min => exact Bool.noConfusion h6
    · exact Bool.noConfusion h
  | .blt b es, G, n, W, X, S, a, Y, o, kn, n2, hl, k2, h => by
    cases b with
      | len => (
        match es, h with
        | .cons x .nil, h =>
          rw [ckE.eq_def] at h
          dsimp only at h
          split at h
          · rename_i f p l p2 _
            simp only [Bool.and_eq_true, decide_eq_true_eq] at h
            obtain ⟨⟨⟨rfl, h3⟩, h4⟩, h5⟩ := h
            obtain ⟨a1, a2⟩ := blt1 Y o h3
            exact q_len o.toXG a1 a2 (okE x Y o kn n2 hl k2 h5) (star_of h4)
          · exact Bool.noConfusion h
        | .nil, h => exact Bool.noConfusion h
        | .cons _ (.cons _ _), h => exact Bool.noConfusion h)
      | abs => (
        match es, h with
        | .cons x .nil, h =>
          rw [ckE.eq_def] at h
          dsimp only at h
          split at h
          · rename_i f p l p2 _
            simp only [Bool.and_eq_true, decide_eq_true_eq] at h
            obtain ⟨⟨⟨rfl, h3⟩, h4⟩, h5⟩ := h
            obtain ⟨a1, a2⟩ := blt1 Y o h3
            exact q_abs a1 a2 (okE x Y o kn n2 hl k2 h5) (star_of h4)
          · exact Bool.noConfusion h
        | .nil, h => exact Bool.noConfusion h
        | .cons _ (.cons _ _), h => exact Bool.noConfusion h)
      | int => (
        match es, h with
        | .cons x .nil, h =>
          rw [ckE.eq_def] at h
          dsimp only at h
          split at h
          · rename_i f p l p2 _
            simp only [Bool.and_eq_true, decide_eq_true_eq] at h
            obtain ⟨⟨⟨rfl, h3⟩, h4⟩, h5⟩ := h
            obtain ⟨a1, a2⟩ := blt1 Y o h3
            exact q_int1 a1 a2 (okE x Y o kn n2 hl k2 h5) (star_of h4)
          · exact Bool.noConfusion h
        | .nil, h => exact Bool.noConfusion h
        | .cons _ (.cons _ _), h => exact Bool.noConfusion h)
      | max2 => (
        match es, h with
        | .cons x (.cons y .nil), h =>
          rw [ckE.eq_def] at h
          dsimp only at h
          split at h
          · rename_i f p l r p2 _
            simp only [Bool.and_eq_true, decide_eq_true_eq] at h
            obtain ⟨⟨⟨⟨⟨rfl, h3⟩, h4⟩, h5⟩, h6⟩, h7⟩ := h
            obtain ⟨a1, a2⟩ := blt1 Y o h3
            exact q_max2 o.toXG a1 a2 (okE x Y o kn n2 hl k2 h6) (okE y Y o kn n2 hl k2 h7) (star_of h4) (star_of h5)
          · exact Bool.noConfusion h
        | .nil, h => exact Bool.noConfusion h
        | .cons _ .nil, h => exact Bool.noConfusion h
        | .cons _ (.cons _ (.cons _ _)), h => exact Bool.noConfusion h)
      | min2 => (
        match es, h with
        | .cons x (.cons y .nil), h =>
          rw [ckE.eq_def] at h
          dsimp only at h
          split at h
          · rename_i f p l r p2 _
            simp only [Bool.and_eq_true, decide_eq_true_eq] at h
            obtain ⟨⟨⟨⟨⟨rfl, h3⟩, h4⟩, h5⟩, h6⟩, h7⟩ := h
            obtain ⟨a1, a2⟩ := blt1 Y o h3
            exact q_min2 o.toXG a1 a2 (okE x Y o kn n2 hl k2 h6) (okE y Y o kn n2 hl k2 h7) (star_of h4) (star_of h5)
          · exact Bool.noConfusion h
        | .nil, h => exact Bool.noConfusion h
        | .cons _ .nil, h => exact Bool.noConfusion h
        | .cons _ (.cons _ (.cons _ _)), h => exact Bool.noConfusion h)
      | dict => (
        match es, h with
        | .cons x .nil, h =>
          rw [ckE.eq_def] at h
          dsimp only at h
          split at h
          · rename_i f p l p2 _
            simp only [Bool.and_eq_true, decide_eq_true_eq] at h
            obtain ⟨⟨⟨rfl, h3⟩, h4⟩, h5⟩ := h
            obtain ⟨a1, a2⟩ := blt1 Y o h3
            exact q_dict o.toXG a1 a2 (okE x Y o kn n2 hl k2 h5) (star_of h4)
          · exact Bool.noConfusion h
        | .nil, h => exact Bool.noConfusion h
        | .cons _ (.cons _ _), h => exact Bool.noConfusion h)
      | rev => (
        match es, h with
        | .cons x .nil, h =>
          rw [ckE.eq_def] at h
          dsimp only at h
          split at h
          · exact q_rev o.toXG (okE x Y o kn n2 hl k2 h)
          · exact Bool.noConfusion h
        | .nil, h => exact Bool.noConfusion h
        | .cons _ (.cons _ _), h => exact Bool.noConfusion h)
      | setLen => (
        match es, h with
        | .cons x .nil, h =>
          rw [ckE.eq_def] at h
          dsimp only at h
          split at h
          · rename_i f p f2 p3 l p4 p2 _
            simp only [Bool.and_eq_true, decide_eq_true_eq] at h
            obtain ⟨⟨⟨⟨⟨rfl, h3⟩, rfl⟩, h6⟩, h4⟩, h5⟩ := h
            obtain ⟨a1, a2⟩ := blt1 Y o h3
            obtain ⟨a3, a4⟩ := blt1 Y o h6
            exact q_setLen o.toXG a1 a2 a3 a4 (okE x Y o kn n2 hl k2 h5) (star_of h4)
          · exact Bool.noConfusion h
        | .nil, h => exact Bool.noConfusion h
        | .cons _ (.cons _ _), h => exact Bool.noConfusion h)
  | .mth m b es, G, n, W, X, S, a, Y, o, kn, n2, hl, k2, h => by
    cases m with
      | index => (
        match es, h with
        | .nil, h => exact Bool.noConfusion h
        | .cons _ .nil, h => exact Bool.noConfusion h
        | .cons _ (.cons _ _), h => exact Bool.noConfusion h)
      | append => (
        match es, h with
        | .cons x .nil, h =>
          rw [ckE.eq_def] at h
          dsimp only at h
          split at h
          · rename_i l nm p1 r p2 _
            simp only [Bool.and_eq_true, decide_eq_true_eq] at h
            obtain ⟨⟨⟨⟨⟨rfl, h2⟩, h3⟩, h4⟩, h5⟩, h6⟩ := h
            exact q_append o.toXG (okE b Y o kn n2 hl k2 h5) (okE x Y o kn n2 hl k2 h6) (star_of h4) (base_of h2) (by rw [h3]; exact beq_self_eq_true _)
          · exact Bool.noConfusion h
        | .nil, h => exact Bool.noConfusion h
        | .cons _ (.cons _ _), h => exact Bool.noConfusion h)
      | join => (
        match es, h with
        | .cons x .nil, h =>
          rw [ckE.eq_def] at h
          dsimp only at h
          split at h
          · rename_i l nm p1 r p2 _
            simp only [Bool.and_eq_true, decide_eq_true_eq] at h
            obtain ⟨⟨⟨⟨⟨rfl, h2⟩, h3⟩, h4⟩, h5⟩, h6⟩ := h
            exact q_join o.toXG (okE b Y o kn n2 hl k2 h5) (okE x Y o kn n2 hl k2 h6) (star_of h4) (base_of h2) (by rw [h3]; exact beq_self_eq_true _)
          · exact Bool.noConfusion h
        | .nil, h => exact Bool.noConfusion h
        | .cons _ (.cons _ _), h => exact Bool.noConfusion h)
      | sw => (
        match es, h with
        | .cons x .nil, h =>
          rw [ckE.eq_def] at h
          dsimp only at h
          split at h
          · rename_i l nm p1 r p2 _
            simp only [Bool.and_eq_true, decide_eq_true_eq] at h
            obtain ⟨⟨⟨⟨⟨rfl, h2⟩, h3⟩, h4⟩, h5⟩, h6⟩ := h
            exact q_sw o.toXG (okE b Y o kn n2 hl k2 h5) (okE x Y o kn n2 hl k2 h6) (star_of h4) (base_of h2) (by rw [h3]; exact beq_self_eq_true _)
          · exact Bool.noConfusion h
        | .nil, h => exact Bool.noConfusion h
        | .cons _ (.cons _ _), h => exact Bool.noConfusion h)
      | indexT => (
        match es, h with
        | .cons x .nil, h =>
          rw [ckE.eq_def] at h
          dsimp only at h
          split at h
          · rename_i l nm p1 r p2 _
            simp only [Bool.and_eq_true, decide_eq_true_eq] at h
            obtain ⟨⟨⟨⟨⟨rfl, h2⟩, h3⟩, h4⟩, h5⟩, h6⟩ := h
            exact q_indexT o.toXG (okE b Y o kn n2 hl k2 h5) (okE x Y o kn n2 hl k2 h6) (star_of h4) (base_of h2) (by rw [h3]; exact beq_self_eq_true _)
          · exact Bool.noConfusion h
        | .nil, h => exact Bool.noConfusion h
        | .cons _ (.cons _ _), h => exact Bool.noConfusion h)
      | get2 => (
        match es, h with
        | .cons x (.cons y .nil), h =>
          rw [ckE.eq_def] at h
          dsimp only at h
          split at h
          · rename_i l nm p1 r q p2 _
            simp only [Bool.and_eq_true, decide_eq_true_eq] at h
            obtain ⟨⟨⟨⟨⟨⟨⟨rfl, h2⟩, h3⟩, h4⟩, h5⟩, h6⟩, h7⟩, h8⟩ := h
            have s1 : starEach [r, q] X.env = (false, eval r X.env) :: starEach [q] X.env := star_of h4
            have s2 : starEach [q] X.env = (false, eval q X.env) :: starEach [] X.env := star_of h5
            exact q_get2 o.toXG (okE b Y o kn n2 hl k2 h6) (okE x Y o kn n2 hl k2 h7) (okE y Y o kn n2 hl k2 h8) ⟨base_of h2, by rw [s1, s2]; rfl, by rw [h3]; exact beq_self_eq_true _, by rw [s1, s2]; rfl⟩
          · exact Bool.noConfusion h
        | .nil, h => exact Bool.noConfusion h
        | .cons _ .nil, h => exact Bool.noConfusion h
        | .cons _ (.cons _ (.cons _ _)), h => exact Bool.noConfusion h)
  | .lenSet own tg src elt, G, n, W, X, S, a, Y, o, kn, n2, hl, k2, h => by
    rw [ckE.eq_def] at h
    dsimp only at h
    split at h
    · rename_i f p el tgE iter scope p2 p3
      simp only [Bool.and_eq_true, decide_eq_true_eq] at h
      obtain ⟨⟨⟨⟨⟨⟨⟨rfl, h1⟩, h2⟩, h3⟩, h4⟩, h5⟩, h6⟩, h7⟩ := h
      obtain ⟨a1, a2⟩ := blt1 Y o h1
      have ok : BlkOk X.N X.env.scope scope (ownP S.N own) := by rw [o.hN, o.sc]; exact blkOk_by h2
      have q := q_lenSet (p1 := p) (pos := p2) (p2 := p3) (te := wE Φ elt) o.toXG (by rw [o.hN]; exact o.nd) (okI src Y o kn n2 hl k2 h6) ok (fun s H C cl fp => tg_ok (G := G.hid G.Z) (o.blk' ok.kind G.Z s H C cl fp) h5)
        (fun Z s H C cl fp => okE elt (Y.hid Z) (o.blk' ok.kind Z s H C cl fp) kn n2 (fun z => Bool.noConfusion z) k2 h7) (noSet_of h4) (fun i hi => by
          rw [own_ok]
          have := List.all_eq_true.mp h3 i hi
          simpa using this) a1 a2
      rw [own_ok] at q
      exact q
    · exact Bool.noConfusion h
  | .hof ci e ret, G, n, W, X, S, a, Y, o, kn, n2, hl, k2, h => by
    rw [ckE.eq_def] at h
    dsimp only at h
    split at h
    · rename_i f p body scope p2 p3
      simp only [Bool.and_eq_true, decide_eq_true_eq] at h
      obtain ⟨⟨⟨⟨h1, h2⟩, h3⟩, h4⟩, h5⟩ := h
      obtain ⟨hp, hm, hq⟩ := List.any_eq_true.mp h4
      simp only [Bool.and_eq_true, decide_eq_true_eq] at hq
      obtain ⟨⟨rfl, rfl⟩, rfl⟩ := hq
      obtain ⟨⟨gA, Ng, call, sg, cdv, bg, F⟩, hlen⟩ := Y.hofs hp hm
      obtain ⟨cA, PA', c1, c2, c3, c4⟩ := o.lam h1
      have L : LamX.LamS X.env.scope scope := by rw [o.sc]; exact LamX.lamS_by h3
      exact q_hof (k := k) o.toXG (hl h1) F (o.gl (gl1 h2).1) hlen c2 c1 c3 c4 L rfl (fun _ _ _ _ _ => rfl) fun A outer s H E f c' hr => okE e Y (lamCx_ok o L hr) (Nat.le_refl k) k2 (fun z => Bool.noConfusion z) k2 h5
    · exact Bool.noConfusion h
  | .exc, G, n, W, X, S, a, Y, o, kn, n2, hl, k2, h => Bool.noConfusion h
  | .frz i, G, n, W, X, S, a, Y, o, kn, n2, hl, k2, h => by
    cases a <;> first
      | exact Bool.noConfusion h
      | (rename_i x p
         have h : (decide (S.N[i]? = some x) && visB S.sc x && nmOk x) = true := h
         simp only [Bool.and_eq_true, decide_eq_true_eq] at h
         obtain ⟨⟨h1, h2⟩, h3⟩ := h
         exact q_frz (by rw [o.hN]; exact h1) (o.vis h2) (nm1 h3).1 (nm1 h3).2)
  | .weak e, G, n, W, X, S, a, Y, o, kn, n2, hl, k2, h => q_weak (okE e Y o kn n2 hl k2 h)
  | .gix i ks vs e, G, n, W, X, S, a, Y, o, kn, n2, hl, k2, h => by
    rw [ckE.eq_def] at h
    dsimp only at h
    split at h
    · rename_i x p1 r p
      simp only [Bool.and_eq_true] at h
      obtain ⟨⟨⟨h1, h2⟩, h3⟩, h4⟩ := h
      cases eq : g.dcs[i]? with
      | none => rw [eq] at h4; exact Bool.noConfusion h4
      | some q =>
        obtain ⟨y, ks2, vs2⟩ := q
        rw [eq] at h4
        simp only [Bool.and_eq_true, decide_eq_true_eq] at h4
        obtain ⟨⟨rfl, rfl⟩, h5⟩ := h4
        cases teqs_ok h5
        exact q_gix o.toXG (Y.dcs i x ks vs eq) (o.gl (gl1 h2).1) (gl1 h2).2 (okE e Y o kn n2 hl k2 h3) (plainIx_of h1)
    · exact Bool.noConfusion h
  | .gin neg i ks e, G, n, W, X, S, a, Y, o, kn, n2, hl, k2, h => by
    rw [ckE.eq_def] at h
    dsimp only at h
    split at h
    · rename_i l op x p1 p
      simp only [Bool.and_eq_true] at h
      obtain ⟨⟨⟨h1, h2⟩, h3⟩, h4⟩ := h
      cases eq : g.dcs[i]? with
      | none => rw [eq] at h4; exact Bool.noConfusion h4
      | some q =>
        obtain ⟨y, ks2, vs2⟩ := q
        rw [eq] at h4
        simp only [Bool.and_eq_true, decide_eq_true_eq] at h4
        obtain ⟨rfl, rfl⟩ := h4
        refine c_gin o.toXG (Y.dcs i x ks vs2 eq) (o.gl (gl1 h2).1) (gl1 h2).2 (okE e Y o kn n2 hl k2 h3) ?_
        cases neg <;> cases op <;> first
          | exact Bool.noConfusion h1
          | exact .inl ⟨rfl, rfl⟩
          | exact .inr ⟨rfl, rfl⟩
    · exact Bool.noConfusion h
  | .dsel ks vs e, G, n, W, X, S, a, Y, o, kn, n2, hl, k2, h => by
    rw [ckE.eq_def] at h
    dsimp only at h
    split at h
    · rename_i keys values p1 r p
      simp only [Bool.and_eq_true, Bool.not_eq_true', decide_eq_true_eq] at h
      obtain ⟨⟨⟨⟨⟨h1, h2⟩, h3⟩, h4⟩, h5⟩, h6⟩ := h
      exact q_dsel o.toXG h2 (fun z => by subst z; exact Bool.noConfusion h3) h4 h5 (okE e Y o kn n2 hl k2 h6) (plainIx_of h1)
    · exact Bool.noConfusion h
theorem okEs : ∀ (es : Es) {G : Glob} {n : Nat} {W : WX} {X : Cx} {S : Sx} {as : List Expr}, GOk G g k Φ fa fdt → CxOk G n W X S → k ≤ n → 2 ≤ n → (S.lam = true → k + 2 ≤ n) → 2 ≤ k → ckEs g S as es = true → PA X as (liftL G W as.length (wEs Φ es))
  | .nil, G, n, W, X, S, as, Y, o, kn, n2, hl, k2, h => by
    cases as with
    | nil => exact q_nil
    | cons a as => exact Bool.noConfusion h
  | .cons e es, G, n, W, X, S, as, Y, o, kn, n2, hl, k2, h => by
    cases as with
    | nil => exact Bool.noConfusion h
    | cons a as =>
      have h : (noStar a && ckE g S a e && ckEs g S as es) = true := h
      simp only [Bool.and_eq_true] at h
      exact q_cons (okE e Y o kn n2 hl k2 h.1.2) (okEs es Y o kn n2 hl k2 h.2) (star_of h.1.1)
theorem okKs : ∀ (es : Es) {G : Glob} {n : Nat} {W : WX} {X : Cx} {S : Sx} {ks : List Keyword}, GOk G g k Φ fa fdt → CxOk G n W X S → k ≤ n → 2 ≤ n → (S.lam = true → k + 2 ≤ n) → 2 ≤ k → ckKs g S ks es = true →
    PK X ks (liftL G W ks.length (wEs Φ es)) ∧ (∀ pos, (backToKw pos (keywordEach ks X.env)).all (·.1.isSome) = true) ∧ (∀ pos, (backToKw pos (keywordEach ks X.env)).filterMap (·.1) = ks.filterMap kwName) ∧ ∀ pos, (backToKw pos (keywordEach ks X.env)).any (·.1.isNone) = false
  | .nil, G, n, W, X, S, ks, Y, o, kn, n2, hl, k2, h => by
    cases ks with
    | nil => exact ⟨k_nil, fun _ => rfl, fun _ => rfl, fun _ => rfl⟩
    | cons q ks => exact Bool.noConfusion h
  | .cons e es, G, n, W, X, S, ks, Y, o, kn, n2, hl, k2, h => by
    cases ks with
    | nil => exact Bool.noConfusion h
    | cons q ks =>
      obtain ⟨nm, v, kp⟩ := q
      have h : (nm.isSome && ckE g S v e && ckKs g S ks es) = true := h
      simp only [Bool.and_eq_true] at h
      obtain ⟨⟨h1, h2⟩, h3⟩ := h
      obtain ⟨b1, b2, b3, b4⟩ := okKs es Y o kn n2 hl k2 h3
      obtain ⟨x, rfl⟩ := Option.isSome_iff_exists.mp h1
      exact ⟨k_cons (okE e Y o kn n2 hl k2 h2) b1, fun pos => b2 pos, fun pos => congrArg (x :: ·) (b3 pos), fun pos => b4 pos⟩
theorem okC : ∀ (c : C) {G : Glob} {n : Nat} {W : WX} {X : Cx} {S : Sx} {a : Expr}, GOk G g k Φ fa fdt → CxOk G n W X S → k ≤ n → 2 ≤ n → (S.lam = true → k + 2 ≤ n) → 2 ≤ k → ckC g S a c = true → PTW X a (liftC G W (wC Φ c))
  | .and x y, G, n, W, X, S, a, Y, o, kn, n2, hl, k2, h => by
    rw [ckC.eq_def] at h
    dsimp only at h
    split at h
    · rename_i l r more p
      rw [Bool.and_eq_true] at h
      obtain ⟨h1, h2⟩ := h
      have hb : PW X (.BoolOp .And (r :: more) p) (liftC G W (wC Φ y)) := by
        cases more with
        | nil => exact pw_and1 (okC y Y o kn n2 hl k2 h2).1
        | cons m more => exact (okC y Y o kn n2 hl k2 h2).2 rfl
      have q := c_and (okC x Y o kn n2 hl k2 h1).1 hb
      exact ⟨q.pt, fun _ => q⟩
    · exact Bool.noConfusion h
  | .or x y, G, n, W, X, S, a, Y, o, kn, n2, hl, k2, h => by
    rw [ckC.eq_def] at h
    dsimp only at h
    split at h
    · rename_i l r more p
      rw [Bool.and_eq_true] at h
      obtain ⟨h1, h2⟩ := h
      have hb : PW X (.BoolOp .Or (r :: more) p) (liftC G W (wC Φ y)) := by
        cases more with
        | nil => exact pw_or1 (okC y Y o kn n2 hl k2 h2).1
        | cons m more => exact (okC y Y o kn n2 hl k2 h2).2 rfl
      have q := c_or (okC x Y o kn n2 hl k2 h1).1 hb
      exact ⟨q.pt, fun _ => q⟩
    · exact Bool.noConfusion h
  | .not x, G, n, W, X, S, a, Y, o, kn, n2, hl, k2, h => by
    cases a <;> first
      | exact Bool.noConfusion h
      | (rename_i op l p
         cases op <;> first
           | exact Bool.noConfusion h
           | exact ⟨c_not (okC x Y o kn n2 hl k2 h).1, fun z => Bool.noConfusion z⟩)
  | .val e, G, n, W, X, S, a, Y, o, kn, n2, hl, k2, h => by
    have h : (plainC a && ckE g S a e) = true := h
    rw [Bool.and_eq_true] at h
    exact ⟨c_val (okE e Y o kn n2 hl k2 h.2) o.K (plainC_of h.1), fun z => by cases a <;> first | exact Bool.noConfusion z | exact Bool.noConfusion h.1⟩
  | .cmp b x y, G, n, W, X, S, a, Y, o, kn, n2, hl, k2, h => by
    rw [ckC.eq_def] at h
    dsimp only at h
    split at h
    · rename_i l op r p
      simp only [Bool.and_eq_true, Bool.not_eq_true'] at h
      obtain ⟨⟨⟨h1, h2⟩, h3⟩, h4⟩ := h
      obtain ⟨rr, ho, hs⟩ := cop_ok (X := X) (G := G) (by have := o.room.un; omega) h1
      exact ⟨c_cmp (ok := fun u w η => copG b u w η = true) (g := copV b) ho (hs o.K) (okE x Y o kn n2 hl k2 h3) (okE y Y o kn n2 hl k2 h4) h2, fun z => Bool.noConfusion z⟩
    · exact Bool.noConfusion h
  | .chain o1 o2 x y z, G, n, W, X, S, a, Y, o, kn, n2, hl, k2, h => by
    rw [ckC.eq_def] at h
    dsimp only at h
    split at h
    · rename_i l op op' m r p
      simp only [Bool.and_eq_true, Bool.not_eq_true'] at h
      obtain ⟨⟨⟨⟨⟨h1, h2⟩, h3⟩, h4⟩, h5⟩, h6⟩ := h
      obtain ⟨r1, ho1, hs1⟩ := cop_ok (X := X) (G := G) (by have := o.room.un; omega) h1
      obtain ⟨r2, ho2, hs2⟩ := cop_ok (X := X) (G := G) (by have := o.room.un; omega) h2
      exact ⟨c_chain (ok := fun u w η => copG o1 u w η = true) (g := copV o1) (ok' := fun u w η => copG o2 u w η = true) (g' := copV o2) ho1 ho2 (hs1 o.K) (hs2 o.K) (okE x Y o kn n2 hl k2 h4) (okE y Y o kn n2 hl k2 h5) (okE z Y o kn n2 hl k2 h6) h3, fun z => Bool.noConfusion z⟩
    · exact Bool.noConfusion h
  | .tt, G, n, W, X, S, a, Y, o, kn, n2, hl, k2, h => Bool.noConfusion h
theorem okI : ∀ (it : It) {G : Glob} {n : Nat} {W : WX} {X : Cx} {S : Sx} {tgE a : Expr}, GOk G g k Φ fa fdt → CxOk G n W X S → k ≤ n → 2 ≤ n → (S.lam = true → k + 2 ≤ n) → 2 ≤ k → ckI g S tgE a it = true → PI X tgE a (liftI G W (wI Φ it))
  | .seq e, G, n, W, X, S, tgE, a, Y, o, kn, n2, hl, k2, h => i_seq o.K (okE e Y o kn n2 hl k2 h)
  | .chars e, G, n, W, X, S, tgE, a, Y, o, kn, n2, hl, k2, h => i_chars (okE e Y o kn n2 hl k2 h)
  | .range e, G, n, W, X, S, tgE, a, Y, o, kn, n2, hl, k2, h => by
    rw [ckI.eq_def] at h
    dsimp only at h
    split at h
    · rename_i f p l p2
      simp only [Bool.and_eq_true, decide_eq_true_eq] at h
      obtain ⟨⟨⟨rfl, h3⟩, h4⟩, h5⟩ := h
      obtain ⟨a1, a2⟩ := blt1 Y o h3
      exact i_range a1 a2 (okE e Y o kn n2 hl k2 h5) (star_of h4)
    · exact Bool.noConfusion h
  | .range2 e d, G, n, W, X, S, tgE, a, Y, o, kn, n2, hl, k2, h => by
    rw [ckI.eq_def] at h
    dsimp only at h
    split at h
    · rename_i f p l r p2
      simp only [Bool.and_eq_true, decide_eq_true_eq] at h
      obtain ⟨⟨⟨⟨⟨rfl, h3⟩, h4⟩, h5⟩, h6⟩, h7⟩ := h
      obtain ⟨a1, a2⟩ := blt1 Y o h3
      exact i_range2 a1 a2 (okE e Y o kn n2 hl k2 h6) (okE d Y o kn n2 hl k2 h7) (star_of h4) (star_of h5)
    · exact Bool.noConfusion h
  | .zip e d, G, n, W, X, S, tgE, a, Y, o, kn, n2, hl, k2, h => by
    rw [ckI.eq_def] at h
    dsimp only at h
    split at h
    · rename_i elts kk tpos f p l r p2
      simp only [Bool.and_eq_true, decide_eq_true_eq] at h
      obtain ⟨⟨⟨⟨⟨rfl, h3⟩, h4⟩, h5⟩, h6⟩, h7⟩ := h
      obtain ⟨a1, a2⟩ := blt1 Y o h3
      exact i_zip o.K a1 a2 (okE e Y o kn n2 hl k2 h6) (okE d Y o kn n2 hl k2 h7) (star_of h4) (star_of h5)
    · exact Bool.noConfusion h
  | .enum e, G, n, W, X, S, tgE, a, Y, o, kn, n2, hl, k2, h => by
    rw [ckI.eq_def] at h
    dsimp only at h
    split at h
    · rename_i elts kk tpos f p l p2
      simp only [Bool.and_eq_true, decide_eq_true_eq] at h
      obtain ⟨⟨⟨rfl, h3⟩, h4⟩, h5⟩ := h
      obtain ⟨a1, a2⟩ := blt1 Y o h3
      exact i_enum o.K a1 a2 (okE e Y o kn n2 hl k2 h5) (star_of h4)
    · exact Bool.noConfusion h
theorem okO : ∀ (p : Op) {G : Glob} {n : Nat} {W : WX} {X : Cx} {S : Sx} {a : Option Expr}, GOk G g k Φ fa fdt → CxOk G n W X S → k ≤ n → 2 ≤ n → (S.lam = true → k + 2 ≤ n) → 2 ≤ k → ckO g S a p = true → PO X a (liftO G W (wO Φ p))
  | .no, G, n, W, X, S, a, Y, o, kn, n2, hl, k2, h => by
    cases a with
    | none => exact o_none
    | some a => exact Bool.noConfusion h
  | .some e, G, n, W, X, S, a, Y, o, kn, n2, hl, k2, h => by
    cases a with
    | none => exact Bool.noConfusion h
    | some a => exact o_some (okE e Y o kn n2 hl k2 h)
end
end
end TL

set_option maxHeartbeats 4000000
/-! statements: checker and soundness -/
namespace TL
open PySem PySem.Spec PyProof.Rows L2
def fnK (sc : Scope) : Bool := match sc.kind with
  | .function => true
  | _ => false
theorem fnK_ok {sc : Scope} (h : fnK sc = true) : sc.kind = .function := by
  unfold fnK at h
  split at h
  · assumption
  · exact Bool.noConfusion h
def parB (S : Sx) (i j : Nat) (x y : Str) (px py : Pos) (a b : Expr) : Bool :=
  decide (S.N[i]? = some x) && decide (S.N[j]? = some y) && decide (i ≠ j) && kindIs S.sc x .local && kindIs S.sc y .local && noStar a && noStar b && decide (py.line = px.line) && !(foldedForSure 8 a && foldedForSure 8 b) && !(constantsAlone 8 a && constantsAlone 8 b)
def notTup : Expr → Bool
  | .Tuple .. => false
  | _ => true
def isTup2 : Expr → Bool
  | .Tuple [_, _] _ _ => true
  | _ => false
def noOwn (scope : Scope) (y : Str) : Bool := !(scope.names.any fun (n, k) => n == y && (k == .local || k == .cell))
mutual
def ckS (g : Gs) : Sx → Stmt → S → Bool
  | S, s, .expr e => match s with
    | .Expr a _ => noComp a && ckE g S a e
    | _ => false
  | S, s, .ret e => match s with
    | .Return (some a) _ => ckE g S a e
    | _ => false
  | _, s, .retN => match s with
    | .Return none _ => true
    | _ => false
  | S, s, .set i e => match s with
    | .Assign [.Name x p] a _ => (match noComp a with
      | true => stoB S i x && ckE g S a e
      | false => (match a, e with
        | .ListComp el gens scope lp, .lc own tg src c elt => decide (S.N[i]? = some x) && kindIs S.sc x .local && decide (p.line = lp.line) && noOwn scope x && fnK S.sc && ckE g S (.ListComp el gens scope lp) (.lc own tg src c elt)
        | .ListComp el gens scope lp, .lcM own tg src c elt => decide (S.N[i]? = some x) && kindIs S.sc x .local && decide (p.line = lp.line) && noOwn scope x && fnK S.sc && ckE g S (.ListComp el gens scope lp) (.lcM own tg src c elt)
        | _, _ => false))
    | _ => false
  | S, s, .par i j e d => match s with
    | .Assign [.Tuple [.Name x px, .Name y py] _ _] (.Tuple [a, b] _ _) _ => fnK S.sc && parB S i j x y px py a b && ckE g S a e && ckE g S b d
    | _ => false
  | S, s, .unp tg e => match s with
    | .Assign [t] a _ => isTup2 t && notTup a && noComp a && ckTg S t tg && ckE g S a e
    | _ => false
  | S, s, .setIdx o i e => match s with
    | .Assign [.Subscript l r _] a _ => plainIxB r && noComp a && ckE g S a e && ckE g S l o && ckE g S r i
    | _ => false
  | S, s, .iff c x y => match s with
    | .If t p q _ => ckC g S t c && ckSs g S p x && ckSs g S q y
    | _ => false
  | S, s, .for tg it b => match s with
    | .For t iter body [] _ => noSet iter && ckTg S t tg && ckI g S t iter it && ckSs g S body b
    | _ => false
  | S, s, .while c b => match s with
    | .While t body [] _ => ckC g S t c && ckSs g S body b
    | _ => false
  | _, s, .brk => match s with
    | .Break _ => true
    | _ => false
  | _, s, .cont => match s with
    | .Continue _ => true
    | _ => false
  | _, s, .pass => match s with
    | .Pass _ => true
    | _ => false
  | S, s, .raise c e => match s with
    | .Raise (some (.Call (.Name x _) [a] [] _)) none _ => glB S x && noStar a && ckE g S a e && decide (g.exn[c]? = some x)
    | _ => false
  | _, _, .tryE _ _ _ _ => false
  | _, _, .weak => false
def ckSs (g : Gs) : Sx → List Stmt → Ss → Bool
  | _, ss, .nil => ss.isEmpty
  | S, ss, .cons .weak r => ckSs g S ss r
  | S, ss, .cons st r => match ss with
    | [] => false
    | s :: ss => ckS g S s st && ckSs g S ss r
end
theorem par_swap {x y : Str} {px py pt pt2 : Pos} {kt k2 : Nat} {a b : Expr} {env : PySem.Env} (hk : env.scope.kind = .function) (hx : env.scope.names.lookup x = some .local) (hy : env.scope.names.lookup y = some .local) (hxy : x ≠ y) (hl : py.line = px.line) (ha : noStar a = true) (hb : noStar b = true)
    (h1 : (foldedForSure 8 a && foldedForSure 8 b) = false) (h2 : (constantsAlone 8 a && constantsAlone 8 b) = false) :
    swappedStores [.Tuple [.Name x px, .Name y py] kt pt] (.Tuple [a, b] k2 pt2) env = pure (some [x, y]) := by
  have bk : env.blockKind = .function := by unfold PySem.Env.blockKind; rw [hk]; rfl
  have kx : env.kindOf x = some .local := hx
  have ky : env.kindOf y = some .local := hy
  have hs : ([a, b].any fun | .Starred .. => true | _ => false) = false := by
    cases a <;> first | exact Bool.noConfusion ha | (cases b <;> first | exact Bool.noConfusion hb | rfl)
  have hyx : (y == x) = false := by simpa using hxy.symm
  unfold swappedStores
  simp only [bk, kx, ky, hl, Expr.pos, List.head?_cons, Option.map_some, Option.getD_some, List.filterMap_cons, List.filterMap_nil, List.length_cons, List.length_nil, beq_self_eq_true, Bool.and_self, Bool.true_and, if_true, List.all_cons, List.all_nil, Bool.and_true, h1, h2]
  simp [hxy, List.eraseDups_cons, hyx]
  intro h
  exfalso
  rcases h with h | h
  · cases a <;> first | exact Bool.noConfusion h | exact Bool.noConfusion ha
  · cases b <;> first | exact Bool.noConfusion h | exact Bool.noConfusion hb
section
variable (g : Gs) (k : Nat) (Φ : Nat → List T → Sto → KX → KE → Prop) (fa : Nat → Addr) (fdt : Nat → FuncData)
/-- a comprehension that passed: its parts -/
theorem lc_parts {G : Glob} {n : Nat} {W : WX} {X : Cx} {S : Sx} (Y : GOk G g k Φ fa fdt) (o : CxOk G n W X S) (kn : k ≤ n) (n2 : 2 ≤ n) (hl : S.lam = true → k + 2 ≤ n) (k2 : 2 ≤ k) {own : List Nat} {tg : Tg} {src : It} {c : C} {elt : E} {el : Expr} {gens : List Comprehension} {scope : Scope} {p : Pos}
    (h : ckE g S (.ListComp el gens scope p) (.lc own tg src c elt) = true) : ∃ tgE iter ifs, gens = [⟨tgE, iter, ifs, 0⟩] ∧ LcOk G W X el tgE iter ifs scope (ownP S.N own) tg (wI Φ src) (wC Φ c) (wE Φ elt) := by
  rw [ckE.eq_def] at h
  dsimp only at h
  split at h
  · rename_i el' tgE iter ifs scope' p' heq
    cases heq
    simp only [Bool.and_eq_true] at h
    obtain ⟨⟨⟨⟨⟨⟨h1, h2⟩, h3⟩, h4⟩, h5⟩, h6⟩, h7⟩ := h
    refine ⟨tgE, iter, ifs, rfl, lc_ok Φ o h1 h2 h3 h4 (okI g k Φ fa fdt src Y o kn n2 hl k2 h5) (fun Z X' o' => okE g k Φ fa fdt elt (Y.hid Z) o' kn n2 (fun z => Bool.noConfusion z) k2 h6) fun Z X' o' => ?_⟩
    cases ifs with
    | nil =>
      cases c <;> first
        | exact Bool.noConfusion h7
        | exact pts_nil.imp fun σ H Q ⟨ρ, η, _, K, hρ, hS, ht, hX, hB⟩ => hB true η H hS .refl ht
    | cons i more =>
      rw [Bool.and_eq_true, List.isEmpty_iff] at h7
      obtain ⟨rfl, h7⟩ := h7
      exact pts_one (okC g k Φ fa fdt c (Y.hid Z) o' kn n2 (fun z => Bool.noConfusion z) k2 h7).1
  · exact Bool.noConfusion h
theorem sw_set {X : Cx} {S : Sx} {G : Glob} {n : Nat} {W : WX} (o : CxOk G n W X S) {el : Expr} {gens : List Comprehension} {scope : Scope} {p lp : Pos} {x : Str} {l : Nat} (h2 : kindIs S.sc x .local = true) (h3 : p.line = lp.line) (h4 : noOwn scope x = true) (h5 : fnK S.sc = true) :
    X.env.scope.names.lookup x = some .local ∧ swapsWith (.ListComp el gens scope lp) (some (.Name x p)) l X.env = pure true := by
  have hx : X.env.scope.names.lookup x = some .local := by rw [o.sc]; exact of_decide_eq_true h2
  refine ⟨hx, sw_true (by rw [o.sc]; exact fnK_ok h5) hx (by rw [h3]; exact beq_self_eq_true _) ?_⟩
  unfold noOwn at h4
  simpa using h4
theorem swSole {t a : Expr} {l : Nat} {env : PySem.Env} (h : noComp a = true) : swapsWithSole [t] a l env = pure false := swaps_of h
theorem swStores {t a : Expr} {env : PySem.Env} (h : notTup a = true) : swappedStores [t] a env = pure none := by
  unfold swappedStores
  cases t <;> cases a <;> first | rfl | exact Bool.noConfusion h
theorem swStores2 {l r a : Expr} {p : Pos} {env : PySem.Env} : swappedStores [.Subscript l r p] a env = pure none := by
  unfold swappedStores
  cases a <;> rfl
theorem asgSub {l r : Expr} {p : Pos} {env : PySem.Env} (h : plainIxB r = true) : ∀ v, assign (.Subscript l r p) env v = (do
      let ov ← holding [v] (eval l env)
      let iv ← holding [v, ov] (eval r env)
      standAt p
      holding [v, ov, iv] (setItem ov iv v)
      release [v, ov, iv] []) := by
  intro v
  cases r <;> first | rfl | exact Bool.noConfusion h
mutual
theorem okS : ∀ (s : S) {G : Glob} {n : Nat} {W : WX} {X : Cx} {S : Sx} {a : Stmt}, GOk G g k Φ fa fdt → CxOk G n W X S → PassesOwn (model X.prog X.w) X.A X.env X.xe → k ≤ n → 2 ≤ n → (S.lam = true → k + 2 ≤ n) → 2 ≤ k → ckS g S a s = true → PS X a (liftS G W (wS Φ s))
  | .expr e, G, n, W, X, S, a, Y, o, hp, kn, n2, hl, k2, h => by
    rw [ckS.eq_def] at h
    dsimp only at h
    split at h
    · rw [Bool.and_eq_true] at h
      exact s_expr (okE g k Φ fa fdt e Y o kn n2 hl k2 h.2) (swaps_of h.1)
    · exact Bool.noConfusion h
  | .ret e, G, n, W, X, S, a, Y, o, hp, kn, n2, hl, k2, h => by
    rw [ckS.eq_def] at h
    dsimp only at h
    split at h
    · exact s_ret (okE g k Φ fa fdt e Y o kn n2 hl k2 h)
    · exact Bool.noConfusion h
  | .retN, G, n, W, X, S, a, Y, o, hp, kn, n2, hl, k2, h => by
    rw [ckS.eq_def] at h
    dsimp only at h
    split at h
    · exact s_retN
    · exact Bool.noConfusion h
  | .set i e, G, n, W, X, S, a, Y, o, hp, kn, n2, hl, k2, h => by
    rw [ckS.eq_def] at h
    dsimp only at h
    split at h
    · rename_i x p b q
      split at h
      · rename_i hn
        rw [Bool.and_eq_true] at h
        obtain ⟨h1, h2⟩ := h
        obtain ⟨b1, b2, b3⟩ := sto_ok o h1
        exact s_set (by rw [o.hN]; exact o.nd) b1 b2 (okE g k Φ fa fdt e Y o kn n2 hl k2 h2) (swaps_of hn) b3
      · split at h
        · rename_i el gens scope lp own tg src c elt _
          simp only [Bool.and_eq_true, decide_eq_true_eq] at h
          obtain ⟨⟨⟨⟨⟨h1, h2⟩, h3⟩, h4⟩, h5⟩, h6⟩ := h
          obtain ⟨tgE, iter, ifs, rfl, L⟩ := lc_parts g k Φ fa fdt Y o kn n2 hl k2 h6
          obtain ⟨hx, hsw⟩ := sw_set (l := q.line) o h2 h3 h4 h5
          have r := s_setLc (i := i) L (by rw [o.hN]; exact h1) hx hsw
          rw [own_ok] at r
          exact r
        · rename_i el gens scope lp own tg src c elt _
          simp only [Bool.and_eq_true, decide_eq_true_eq] at h
          obtain ⟨⟨⟨⟨⟨h1, h2⟩, h3⟩, h4⟩, h5⟩, h6⟩ := h
          obtain ⟨tgE, iter, ifs, rfl, L⟩ := lc_parts g k Φ fa fdt Y o kn n2 hl k2 (show ckE g S _ (.lc own tg src c elt) = true from h6)
          obtain ⟨hx, hsw⟩ := sw_set (l := q.line) o h2 h3 h4 h5
          have r := s_setLcM (i := i) L (by rw [o.hN]; exact h1) hx hsw
          rw [own_ok] at r
          exact r
        · exact Bool.noConfusion h
    · exact Bool.noConfusion h
  | .par i j e d, G, n, W, X, S, a, Y, o, hp, kn, n2, hl, k2, h => by
    rw [ckS.eq_def] at h
    dsimp only at h
    split at h
    · rename_i x px y py kt pt b c k2' pt2 q
      simp only [Bool.and_eq_true] at h
      obtain ⟨⟨⟨h0, h1⟩, h2⟩, h3⟩ := h
      unfold parB at h1
      simp only [Bool.and_eq_true, decide_eq_true_eq, Bool.not_eq_true'] at h1
      obtain ⟨⟨⟨⟨⟨⟨⟨⟨⟨a1, a2⟩, a3⟩, a4⟩, a5⟩, a6⟩, a7⟩, a8⟩, a9⟩, a10⟩ := h1
      have hx : X.env.scope.names.lookup x = some .local := by rw [o.sc]; exact of_decide_eq_true a4
      have hy : X.env.scope.names.lookup y = some .local := by rw [o.sc]; exact of_decide_eq_true a5
      have hN : X.N.Nodup := by rw [o.hN]; exact o.nd
      have hi : X.N[i]? = some x := by rw [o.hN]; exact a1
      have hj : X.N[j]? = some y := by rw [o.hN]; exact a2
      have hxy : x ≠ y := fun z => a3 (nodup_ix hN hi (z ▸ hj))
      have P := ps_par (pt := pt) (kt := kt) (k2 := k2') (pt2 := pt2) (pos := q) o.calm hN hi hj a3 hx hy (pa_cons (okE g k Φ fa fdt e Y o kn n2 hl k2 h2) (pa_cons (okE g k Φ fa fdt d Y o kn n2 hl k2 h3) pa_nil (star_of a7)) (star_of a6)) (par_swap (by rw [o.sc]; exact fnK_ok h0) hx hy hxy a8 a6 a7 (by simpa using a9) (by simpa using a10)) rfl
      exact s_par o.calm hN hi hj a3 hx hy P
    · exact Bool.noConfusion h
  | .unp tg e, G, n, W, X, S, a, Y, o, hp, kn, n2, hl, k2, h => by
    rw [ckS.eq_def] at h
    dsimp only at h
    split at h
    · simp only [Bool.and_eq_true] at h
      obtain ⟨⟨⟨⟨h1, h2⟩, h3⟩, h4⟩, h5⟩ := h
      refine s_unp (tg_ok o h4) (okE g k Φ fa fdt e Y o kn n2 hl k2 h5) (swSole h3) (swStores h2) ?_
      rename_i t b q
      cases t <;> first | rfl | exact Bool.noConfusion h1
    · exact Bool.noConfusion h
  | .setIdx oo i e, G, n, W, X, S, a, Y, o, hp, kn, n2, hl, k2, h => by
    rw [ckS.eq_def] at h
    dsimp only at h
    split at h
    · simp only [Bool.and_eq_true] at h
      obtain ⟨⟨⟨⟨h1, h2⟩, h3⟩, h4⟩, h5⟩ := h
      exact s_setIdx (okE g k Φ fa fdt e Y o kn n2 hl k2 h3) (okE g k Φ fa fdt oo Y o kn n2 hl k2 h4) (okE g k Φ fa fdt i Y o kn n2 hl k2 h5) (asgSub h1) (swSole h2) swStores2
    · exact Bool.noConfusion h
  | .iff c x y, G, n, W, X, S, a, Y, o, hp, kn, n2, hl, k2, h => by
    rw [ckS.eq_def] at h
    dsimp only at h
    split at h
    · simp only [Bool.and_eq_true] at h
      exact s_if (okC g k Φ fa fdt c Y o kn n2 hl k2 h.1.1).1 (okSs x Y o hp kn n2 hl k2 h.1.2) (okSs y Y o hp kn n2 hl k2 h.2)
    · exact Bool.noConfusion h
  | .for tg it b, G, n, W, X, S, a, Y, o, hp, kn, n2, hl, k2, h => by
    rw [ckS.eq_def] at h
    dsimp only at h
    split at h
    · simp only [Bool.and_eq_true] at h
      exact s_for hp o.calm (okI g k Φ fa fdt it Y o kn n2 hl k2 h.1.2) (tg_ok o h.1.1.2) (okSs b Y o hp kn n2 hl k2 h.2) (noSet_of h.1.1.1)
    · exact Bool.noConfusion h
  | .while c b, G, n, W, X, S, a, Y, o, hp, kn, n2, hl, k2, h => by
    rw [ckS.eq_def] at h
    dsimp only at h
    split at h
    · simp only [Bool.and_eq_true] at h
      exact s_while hp (okC g k Φ fa fdt c Y o kn n2 hl k2 h.1).1 (okSs b Y o hp kn n2 hl k2 h.2)
    · exact Bool.noConfusion h
  | .brk, G, n, W, X, S, a, Y, o, hp, kn, n2, hl, k2, h => by
    rw [ckS.eq_def] at h
    dsimp only at h
    split at h
    · exact s_brk
    · exact Bool.noConfusion h
  | .cont, G, n, W, X, S, a, Y, o, hp, kn, n2, hl, k2, h => by
    rw [ckS.eq_def] at h
    dsimp only at h
    split at h
    · exact s_cont
    · exact Bool.noConfusion h
  | .pass, G, n, W, X, S, a, Y, o, hp, kn, n2, hl, k2, h => by
    rw [ckS.eq_def] at h
    dsimp only at h
    split at h
    · exact s_pass
    · exact Bool.noConfusion h
  | .raise c e, G, n, W, X, S, a, Y, o, hp, kn, n2, hl, k2, h => by
    rw [ckS.eq_def] at h
    dsimp only at h
    split at h
    · simp only [Bool.and_eq_true, decide_eq_true_eq] at h
      obtain ⟨⟨⟨h1, h2⟩, h3⟩, h4⟩ := h
      obtain ⟨C, fld, F, hm⟩ := Y.exn c _ h4
      exact s_raise o.toXG n2 F (o.gl (gl1 h1).1) (by rw [o.mg]; exact hm) (okE g k Φ fa fdt e Y o kn n2 hl k2 h3) (gl1 h1).2 (star_of h2)
    · exact Bool.noConfusion h
  | .tryE _ _ _ _, G, n, W, X, S, a, Y, o, hp, kn, n2, hl, k2, h => Bool.noConfusion h
  | .weak, G, n, W, X, S, a, Y, o, hp, kn, n2, hl, k2, h => Bool.noConfusion h
theorem okSs : ∀ (ss : Ss) {G : Glob} {n : Nat} {W : WX} {X : Cx} {S : Sx} {as : List Stmt}, GOk G g k Φ fa fdt → CxOk G n W X S → PassesOwn (model X.prog X.w) X.A X.env X.xe → k ≤ n → 2 ≤ n → (S.lam = true → k + 2 ≤ n) → 2 ≤ k → ckSs g S as ss = true → PSs X as (liftS G W (wSs Φ ss))
  | .nil, G, n, W, X, S, as, Y, o, hp, kn, n2, hl, k2, h => by
    cases as with
    | nil => exact s_nil
    | cons a as => exact Bool.noConfusion h
  | .cons st r, G, n, W, X, S, as, Y, o, hp, kn, n2, hl, k2, h => by
    have ih := fun {as} (h : ckSs g S as r = true) => okSs r (as := as) Y o hp kn n2 hl k2 h
    have hs := fun {a} (h : ckS g S a st = true) => okS st (a := a) Y o hp kn n2 hl k2 h
    cases as with
    | nil => cases st <;> first | exact Bool.noConfusion h | exact s_weak (ih h)
    | cons a as =>
      have key : (ckS g S a st && ckSs g S as r) = true → PSs X (a :: as) (liftS G W fun D ρ η => wS Φ st ⟨fun ρ' η' => wSs Φ r D ρ' η', D.rt, D.bk, D.ct, D.X⟩ ρ η) := fun h => by
        rw [Bool.and_eq_true] at h
        exact s_cons (hs h.1) (ih h.2)
      cases st <;> first | exact s_weak (ih h) | exact key h
end
end
end TL

set_option maxHeartbeats 4000000
/-! all defs of a table keep what the small language says -/
namespace TL
open PySem PySem.Spec PyProof.Rows L2
structure DefT where
  nm : Str
  N : List Str
  np : Nat
  st : Stmt
  ir : Ss
  lam : Bool
def DefT.ps (d : DefT) : List Str := d.N.take d.np
def DefT.ok (g : Gs) (d : DefT) : Bool := C8.scC d.N d.ps (defScope d.st) && decide (d.np ≤ d.N.length) && ckSs g ⟨d.N, defScope d.st, none, d.lam⟩ (defBody d.st) d.ir
def fdOf (d : DefT) : Fd := ⟨d.np, d.N.length, d.ir⟩
/-- where the defs stand -/
structure TabOk (G : Glob) (ds : List DefT) (fa : Nat → Addr) (fdt : Nat → FuncData) : Prop where
  fd : ∀ (i : Nat) d, ds[i]? = some d → FunD G.K d.nm d.nm (defArgs d.st) (defBody d.st) (defScope d.st) [] [] (fa i) (fdt i)
  mg : ∀ (i : Nat) d, ds[i]? = some d → G.mg d.nm = some (.ref (fa i))
  bd : ∀ (i : Nat) d, ds[i]? = some d → Binds G.K (fdt i) d.ps []
  lam : ∀ (i : Nat) d, ds[i]? = some d → d.lam = true → ∃ cA PA', (fdt i).code = .ref cA ∧ LamX.TabB G.base G.mg cA PA' ∧ (PA', (d.nm ++ ".<locals>.") ++ "<lambda>") ∈ G.Tb ∧ ∀ p ∈ G.Tb, p.1 = PA' → p.2 = (d.nm ++ ".<locals>.") ++ "<lambda>"
/-- the rest of what the checker leans on -/
structure RestOk (G : Glob) (g : Gs) (fdt : Nat → FuncData) : Prop where
  glb : ∀ (i : Nat) nm t, g.glb[i]? = some (nm, t) → ∃ v u, G.mg nm = some u ∧ RelV v u ∧ ∀ Z, KValR (G.hid Z) t v
  exn : ∀ (i : Nat) nm, g.exn[i]? = some nm → ∃ C fld, ExnC G i C fld ∧ G.mg nm = some (.ref C)
  kws : ∀ p ∈ g.kws, ∀ nm ps, g.fns[p.f]? = some (nm, ps) → KwB G.K (fdt p.f) ps p.n p.ks p.perm
  hofs : ∀ h ∈ g.hofs, (∃ gA Ng call sg cdv bg, HofC G h.nm h.ci h.ret gA Ng call sg cdv bg) ∧ h.ret.length ≤ sizeLine
  blt : ∀ nm ∈ g.blt, G.mg nm = none
  dcs : ∀ (i : Nat) nm ks vs, g.dcs[i]? = some (nm, ks, vs) → DctF G nm ks vs
theorem getElem_app_some {α : Type} {ts : List α} {m i : Nat} {t : α} (h : (ts.map some ++ List.replicate m none)[i]? = some (some t)) : ts[i]? = some t := by
  by_cases hi : i < ts.length
  · rw [List.getElem?_append_left (by simpa using hi), List.getElem?_map] at h
    cases e : ts[i]? with
    | none => rw [e] at h; cases h
    | some u => rw [e] at h; cases h; rfl
  · rw [List.getElem?_append_right (by simpa using hi), List.getElem?_replicate] at h
    split at h <;> cases h
theorem start_env {G : Glob} {H : Hp} {η : Sto} {N : List Str} {ts : List T} {vs : List V} (r : ValsR G H η ts vs) (hl : ts.length ≤ N.length) : EnvR G H η (L2.start N vs) ⟨ts.map some ++ List.replicate (N.length - ts.length) none, none⟩ := by
  refine ⟨?_, fun i t e => ?_⟩
  · show (L2.start N vs).length = (ts.map some ++ List.replicate (N.length - ts.length) none).length
    unfold L2.start
    rw [List.length_append, List.length_append, List.length_map, List.length_map, List.length_replicate, List.length_replicate, r.length]
  · have e := getElem_app_some (nth_get.mp e)
    obtain ⟨v, e2, r2⟩ := r.get e
    refine ⟨v, ?_, r2⟩
    unfold L2.start
    rw [List.getElem?_append_left (by rw [List.length_map]; exact (List.getElem?_eq_some_iff.mp e2).1), List.getElem?_map, e2]
    rfl
theorem fns_ok {G : Glob} {g : Gs} {ds : List DefT} {fa : Nat → Addr} {fdt : Nat → FuncData} (hg : g.fns = ds.map fun d => (d.nm, d.ps)) (hck : ds.all (·.ok g) = true) (T : TabOk G ds fa fdt) (R : RestOk G g fdt) :
    ∀ (n i : Nat) (d : DefT), ds[i]? = some d → ∀ Z, FnOk G.P G.w G.K G.mg G.base (L2.CX G.P G.w) (3 * n + 2) (fa i) (fdt i) d.ps (prom (G.hid Z) d.ps.length (wcall (ds.map fdOf) n i)) := by
  intro n
  induction n with
  | zero => exact fun i d hd Z => ⟨fun vs H Q E h => prom_len h, fun A outer s H args us vs Q E _ _ _ _ ⟨ts, η, X, K, _, _, _, h, _⟩ => h.elim⟩
  | succ n ih =>
    intro i d hd Z
    have hok := List.all_eq_true.mp hck d (List.mem_of_getElem? hd)
    unfold DefT.ok at hok
    simp only [Bool.and_eq_true, decide_eq_true_eq] at hok
    obtain ⟨⟨h1, h2⟩, h3⟩ := hok
    have S := C8.fnScope_by h1
    have hps : d.ps.length = d.np := by unfold DefT.ps; rw [List.length_take]; omega
    have Y : GOk (G.hid Z) g (3 * n + 2) (wcall (ds.map fdOf) n) fa fdt := by
      refine GOk.hid ⟨fun j nm ps hj => ?_, R.glb, R.exn, R.kws, R.hofs, R.blt, R.dcs⟩ Z
      rw [hg, List.getElem?_map] at hj
      cases e : ds[j]? with
      | none => rw [e] at hj; cases hj
      | some d' =>
        rw [e] at hj
        cases hj
        exact ⟨fun Z => ih j d' e Z, T.mg j d' e, (T.fd j d' e).kp, T.bd j d' e⟩
    have lamF := T.lam i d hd
    obtain ⟨oc, od, dV, kV, doc, pm, an, cdv, ct, osl, efd, lk, hcd, _, _⟩ := (T.fd i d hd).ex
    rw [efd] at lk lamF ⊢
    refine fn_of lk hcd S (fun vs H Q E h => prom_len h) fun A outer s H vs Q E hr hsp => ?_
    obtain ⟨ts, η, X, K, hl, rv, hS, hw, hE, hQ⟩ := hsp
    have hF : (ds.map fdOf)[i]? = some (fdOf d) := by rw [List.getElem?_map, hd]; rfl
    have hw' : ts.length = d.np ∧ wSs (wcall (ds.map fdOf) n) d.ir ⟨fun _ η' => K .non η', K, fun _ _ => False, fun _ _ => False, X⟩ ⟨ts.map some ++ List.replicate (d.N.length - d.np) none, none⟩ η := by
      have hw : (match (ds.map fdOf)[i]? with
        | some d => ts.length = d.np ∧ wSs (wcall (ds.map fdOf) n) d.body ⟨fun _ η' => K .non η', K, fun _ _ => False, fun _ _ => False, X⟩ ⟨ts.map some ++ List.replicate (d.nl - d.np) none, none⟩ η
        | none => False) := hw
      rw [hF] at hw
      exact hw
    obtain ⟨hl2, hw⟩ := hw'
    refine ⟨liftS (G.hid Z) (fun cls d _ H' => E cls d H') (wSs (wcall (ds.map fdOf) n) d.ir), ?_, _, η, _, start_env rv (by omega), hS, by rw [hl2]; exact hw, fun σ e η' cls dd H' a b c q => hE e η' cls dd H' a b c q, ?_⟩
    · refine okSs g (3 * n + 2) (wcall (ds.map fdOf) n) fa fdt d.ir (n := 3 * n + 4) (S := ⟨d.N, defScope d.st, none, d.lam⟩) Y ?_ (passes_of rfl) (by omega) (by omega) (fun _ => by omega) (by omega) h3
      exact {
        P := rfl
        w := rfl
        K := rfl
        mg := rfl
        base := rfl
        calm := rfl
        room := hr
        tk := takes_of rfl rfl rfl rfl
        hN := rfl
        nd := S.nd
        sc := rfl
        fn := fun _ _ => rfl
        lam := fun hl => by
          obtain ⟨cA, PA', c1, c2, c3, c4⟩ := lamF hl
          exact ⟨cA, PA', c1, c2, c3, c4⟩ }
    · exact ⟨fun σ' ρ' η' H' _ b c q => hQ .non .non η' H' .non b c q, hQ, fun σ' ρ' η' H' _ b c q => q.elim, fun σ' ρ' η' H' _ b c q => q.elim⟩
end TL

set_option maxHeartbeats 4000000
/-! what the head tells, by Bools -/
namespace TL
open PySem PySem.Spec PyProof.Rows L2
/-! ### constants of the module -/
mutual
def kT (K : PySem.W.Frag) : T → Value → Bool
  | .non, u => match u with
    | .none => true
    | _ => false
  | .bl b, u => match u with
    | .bool c => b == c
    | _ => false
  | .int i, u => match u with
    | .int j _ => decide (i = j)
    | _ => false
  | .str x, u => match u with
    | .str y _ => decide (x = y) && decide (x.length ≤ sizeLine)
    | _ => false
  | .tup ts, u => match u with
    | .ref a => (match K.lookup a with
      | some ⟨.type c, none, .seq its _, _⟩ => decide (c = "tuple") && decide (its.size ≤ sizeLine) && kTs K ts its.toList
      | _ => false)
    | _ => false
  | .cl ts, u => match u with
    | .ref a => (match K.lookup a with
      | some ⟨.type c, none, .seq its _, _⟩ => decide (c = "list") && decide (its.size ≤ sizeLine) && kTs K ts its.toList
      | _ => false)
    | _ => false
  | _, _ => false
def kTs (K : PySem.W.Frag) : List T → List Value → Bool
  | [], us => us.isEmpty
  | t :: ts, us => match us with
    | u :: us => kT K t u && kTs K ts us
    | [] => false
end
mutual
theorem kT_ok {G : Glob} : ∀ {t : T} {u : Value}, kT G.K t u = true → ∃ v, RelV v u ∧ ∀ Z H η, ValR (G.hid Z) H η t v
  | .non, u, h => by cases u <;> first | exact ⟨.non, rfl, fun _ _ _ => .non⟩ | exact Bool.noConfusion h
  | .bl b, u, h => by
    cases u <;> first
      | exact Bool.noConfusion h
      | (have e := eq_of_beq (show (_ == _) = true from h)
         subst e
         exact ⟨.bl _, rfl, fun _ _ _ => .bl _⟩)
  | .int i, u, h => by
    cases u <;> first
      | exact Bool.noConfusion h
      | (have e := of_decide_eq_true (show decide (_ = _) = true from h)
         subst e
         exact ⟨.int _, ⟨_, rfl⟩, fun _ _ _ => .int _⟩)
  | .str x, u, h => by
    cases u <;> first
      | exact Bool.noConfusion h
      | (rename_i y t
         have h : (decide (x = y) && decide (x.length ≤ sizeLine)) = true := h
         simp only [Bool.and_eq_true, decide_eq_true_eq] at h
         obtain ⟨e, h2⟩ := h
         subst e
         exact ⟨.str x, ⟨_, rfl⟩, fun _ _ _ => .str _ h2⟩)
  | .tup ts, u, h => by
    cases u <;> first
      | exact Bool.noConfusion h
      | (rename_i a
         have h : (match G.K.lookup a with
           | some ⟨.type c, none, .seq its _, _⟩ => decide (c = "tuple") && decide (its.size ≤ sizeLine) && kTs G.K ts its.toList
           | _ => false) = true := h
         split at h
         · rename_i c its n sl e
           simp only [Bool.and_eq_true, decide_eq_true_eq] at h
           obtain ⟨⟨rfl, h1⟩, h2⟩ := h
           obtain ⟨vs, r1, r2⟩ := kTs_ok h2
           exact ⟨.ref a, rfl, fun Z H η => .tup (.inr ⟨_, its, n, e, rfl, rfl, rfl, h1, r1⟩) (r2 Z H η)⟩
         · exact Bool.noConfusion h)
  | .cl ts, u, h => by
    cases u <;> first
      | exact Bool.noConfusion h
      | (rename_i a
         have h : (match G.K.lookup a with
           | some ⟨.type c, none, .seq its _, _⟩ => decide (c = "list") && decide (its.size ≤ sizeLine) && kTs G.K ts its.toList
           | _ => false) = true := h
         split at h
         · rename_i c its n sl e
           simp only [Bool.and_eq_true, decide_eq_true_eq] at h
           obtain ⟨⟨rfl, h1⟩, h2⟩ := h
           obtain ⟨vs, r1, r2⟩ := kTs_ok h2
           exact ⟨.ref a, rfl, fun Z H η => .cl (.inr ⟨_, its, n, e, rfl, rfl, rfl, h1, r1⟩) (r2 Z H η)⟩
         · exact Bool.noConfusion h)
  | .dct _ _, u, h => Bool.noConfusion h
  | .ref _, u, h => Bool.noConfusion h
theorem kTs_ok {G : Glob} : ∀ {ts : List T} {us : List Value}, kTs G.K ts us = true → ∃ vs, Vals vs us ∧ ∀ Z H η, ValsR (G.hid Z) H η ts vs
  | [], us, h => by
    cases us with
    | nil => exact ⟨[], .nil, fun _ _ _ => .nil⟩
    | cons _ _ => exact Bool.noConfusion h
  | t :: ts, us, h => by
    cases us with
    | nil => exact Bool.noConfusion h
    | cons u us =>
      have h : (kT G.K t u && kTs G.K ts us) = true := h
      rw [Bool.and_eq_true] at h
      obtain ⟨v, a1, a2⟩ := kT_ok h.1
      obtain ⟨vs, b1, b2⟩ := kTs_ok h.2
      exact ⟨v :: vs, .cons a1 b1, fun Z H η => .cons (a2 Z H η) (b2 Z H η)⟩
end
def glbB (K : PySem.W.Frag) (q : Str × T) : Bool := match PySem.W.nsIn K mainGlobals q.1 with
  | some (some u) => kT K q.2 u
  | _ => false
theorem glbB_ok {G : Glob} {h : Heap} (X : G.K.In h) (N : h.Ns mainGlobals G.mg) {q : Str × T} (e : glbB G.K q = true) : ∃ v u, G.mg q.1 = some u ∧ RelV v u ∧ ∀ Z, KValR (G.hid Z) q.2 v := by
  unfold glbB at e
  split at e
  · rename_i u hu
    obtain ⟨v, a, b⟩ := kT_ok e
    exact ⟨v, u, PySem.W.mg_of X N hu, a, fun Z H η => b Z H η⟩
  · exact Bool.noConfusion e
/-- a table of the module: its values, by key -/
def dvB (K : PySem.W.Frag) (a : Addr) : List Str → List T → Bool
  | k :: ks, t :: ts => (match PySem.W.nsIn K a k with
    | some (some u) => kT K t u
    | _ => false) && dvB K a ks ts
  | [], [] => true
  | _, _ => false
theorem dvB_ok {G : Glob} {a : Addr} {z : Str} {t : T} : ∀ {ks : List Str} {vs : List T}, dvB G.K a ks vs = true → lookS z ks vs = some t → ∃ u v, PySem.W.nsIn G.K a z = some (some u) ∧ RelV v u ∧ ∀ Z, KValR (G.hid Z) t v
  | [], _, _, e => by cases e
  | _ :: _, [], _, e => by cases e
  | k :: ks, v :: vs, h, e => by
    have h : ((match PySem.W.nsIn G.K a k with
      | some (some u) => kT G.K v u
      | _ => false) && dvB G.K a ks vs) = true := h
    rw [Bool.and_eq_true] at h
    have e : (if k = z then some v else lookS z ks vs) = some t := e
    by_cases q : k = z
    · rw [if_pos q] at e
      cases e
      subst q
      have h1 := h.1
      split at h1
      · rename_i u hu
        obtain ⟨w, r1, r2⟩ := kT_ok h1
        exact ⟨u, w, hu, r1, fun Z H η => r2 Z H η⟩
      · exact Bool.noConfusion h1
    · rw [if_neg q] at e
      exact dvB_ok h.2 e
/-- asked for any key -/
theorem keys_has {P : Params} {z : Str} : ∀ {l : List DictEntry} {ks : List Str}, l.map He.keyOf = He.keysIn P ks → (l.find? (·.key.isStr z)).isSome = ks.contains z ∧ l.any (·.refKey) = false
  | [], [], _ => ⟨rfl, rfl⟩
  | [], _ :: _, h => by simp [He.keysIn] at h
  | _ :: _, [], h => by simp [He.keysIn] at h
  | e :: r, k :: ks, h => by
    have h1 : He.keyOf e :: r.map He.keyOf = some (k, PyData.keyHash P k) :: He.keysIn P ks := h
    injection h1 with h2 h3
    obtain ⟨a1, a2⟩ := keys_has (z := z) h3
    unfold He.keyOf at h2
    split at h2
    · rename_i x t q
      obtain ⟨h5, h6⟩ := Prod.mk.inj (Option.some.inj h2)
      subst h5
      have hk : e.key.isStr z = (z == x) ∨ e.key.isStr z = (x == z) := by rw [q]; first | exact .inl rfl | exact .inr rfl
      have hr : e.refKey = false := by unfold DictEntry.refKey; rw [q]
      refine ⟨?_, by rw [List.any_cons, hr, a2]; rfl⟩
      rw [List.find?_cons, List.contains_cons]
      by_cases hz : z = x
      · have : e.key.isStr z = true := by rcases hk with hk | hk <;> rw [hk, hz] <;> exact beq_self_eq_true _
        rw [this]
        simp [hz]
      · have n1 : (z == x) = false := beq_eq_false_iff_ne.mpr hz
        have n2 : (x == z) = false := beq_eq_false_iff_ne.mpr (fun e => hz e.symm)
        have : e.key.isStr z = false := by rcases hk with hk | hk <;> rw [hk] <;> assumption
        rw [this, n1]
        simpa using a1
    · cases h2
theorem dcs_ok {G : Glob} {h : Heap} (X : G.K.In h) (N : h.Ns mainGlobals G.mg) {nm : Str} {ks : List Str} {vs : List T} (hw : He.dicW G.K (He.ga G.K nm) = some (He.keysIn G.w.params ks))
    (e1 : He.eqO (PySem.W.nsIn G.K mainGlobals nm) (some (some (.ref (He.ga G.K nm)))) = true) (e2 : dvB G.K (He.ga G.K nm) ks vs = true) : DctF G nm ks vs := by
  obtain ⟨es, n, D⟩ := He.dicW_ok hw
  refine ⟨He.ga G.K nm, es, n, PySem.W.mg_of X N (He.eqO_ok e1), D, fun z t h => dvB_ok e2 h, fun z => ?_⟩
  have hk : es.toList.map He.keyOf = He.keysIn G.w.params ks := by
    unfold He.dicW at hw
    rw [D.at_] at hw
    dsimp only at hw
    split at hw
    · exact Option.some.inj hw
    · cases hw
  obtain ⟨a1, a2⟩ := keys_has (z := z) hk
  unfold PySem.W.nsIn
  rw [D.at_]
  dsimp only
  cases q : es.toList.find? (·.key.isStr z) with
  | none =>
    rw [q] at a1
    simp only [a2]
    exact ⟨none, rfl, a1⟩
  | some d =>
    rw [q] at a1
    exact ⟨some d.val, rfl, a1⟩
/-! ### exception classes -/
def oexB (K : PySem.W.Frag) (C : Addr) : Bool := match K.lookup C with
  | some ⟨.type ct, _, .cls cd, sl⟩ => decide (ct = "type") && (match cd.mro, sl.toList with
    | .ref C' :: bm, [_, _, _, _, some (.builtin n), _] => decide (C' = C) && PySem.HandSPX.refsVE bm && cd.hasDict && !cd.hasDel && decide (n = "ValueError.__new__")
    | _, _ => false)
  | _ => false
theorem oexB_ok {K : PySem.W.Frag} {C : Addr} (h : oexB K C = true) : ∃ nm q N bs bm sn sub ab col dd k0 k1 k2 k3 k5, K.lookup C = some (excClassObj nm q C N bs bm true sn sub ab col dd k0 k1 k2 k3 k5 "ValueError.__new__") ∧ PySem.HandSPX.refsVE bm = true := by
  unfold oexB at h
  split at h
  · rename_i ct dd cd sl e
    rw [Bool.and_eq_true, decide_eq_true_eq] at h
    obtain ⟨rfl, h⟩ := h
    split at h
    · rename_i C' bm k0 k1 k2 k3 n k5 hm hs
      simp only [Bool.and_eq_true, decide_eq_true_eq, Bool.not_eq_true'] at h
      obtain ⟨⟨⟨⟨rfl, h2⟩, h3⟩, h4⟩, rfl⟩ := h
      obtain ⟨nm, bs, mro, ns, qn, hd, sn, sub, ab, col, del⟩ := cd
      dsimp only at hm h3 h4
      subst hm h3 h4
      have hsl : sl = #[k0, k1, k2, k3, some (.builtin "ValueError.__new__"), k5] := by
        obtain ⟨l⟩ := sl
        simp only at hs
        rw [hs]
      subst hsl
      exact ⟨nm, qn, ns, bs, bm, sn, sub, ab, col, dd, k0, k1, k2, k3, k5, e, h2⟩
    · exact Bool.noConfusion h
  · exact Bool.noConfusion h
def exScB (sc : Scope) (fld : Str) : Bool := fnK sc && !sc.isCoroutine && !sc.isGenerator && kindIs sc "super" .globalImplicit && kindIs sc "__class__" .free && kindIs sc "self" .local && kindIs sc fld .local &&
  (sc.names.all fun y => !decide (y.2 = .cell) && (!decide (y.2 = .free) || decide (y.1 = "__class__"))) && !decide (fld = "self") && nmOk fld
theorem exScB_ok {sc : Scope} {fld : Str} (h : exScB sc fld = true) : ExScope sc fld := by
  unfold exScB kindIs at h
  simp only [Bool.and_eq_true, Bool.not_eq_true', decide_eq_true_eq, decide_eq_false_iff_not, List.all_eq_true, Bool.or_eq_true] at h
  obtain ⟨⟨⟨⟨⟨⟨⟨⟨⟨h1, h2⟩, h3⟩, h4⟩, h5⟩, h6⟩, h7⟩, h8⟩, h9⟩, h10⟩ := h
  exact ⟨fnK_ok h1, h2, h3, h4, h5, h6, h7, fun x hx => (h8 x hx).1, fun x hx e => (h8 x hx).2.elim (fun z => absurd e z) id, h9, (nm1 h10).1, (nm1 h10).2⟩
/-- the body says: super().__init__(f), self.f = f -/
def exBdB (fld : Str) : List Stmt → Bool
  | [.Expr (.Call (.Attribute (.Call (.Name s0 _) [] [] _) i0 p2) [.Name f3 _] [] p4) _, .Assign [.Attribute (.Name s6 _) f7 _] (.Name f8 _) _] =>
    decide (s0 = "super") && decide (i0 = "__init__") && decide (f3 = fld) && decide (s6 = "self") && decide (f7 = fld) && decide (f8 = fld) && decide (p2.endLine = p4.line)
  | _ => false
theorem exBdB_ok {fld : Str} {b : List Stmt} (h : exBdB fld b = true) : ∃ p0 p1 p2 p3 p4 p5 p6 p7 p8 p9, b = exBody fld p0 p1 p2 p3 p4 p5 p6 p7 p8 p9 ∧ (p2.endLine == p4.line) = true := by
  unfold exBdB at h
  split at h
  · simp only [Bool.and_eq_true, decide_eq_true_eq] at h
    obtain ⟨⟨⟨⟨⟨⟨rfl, rfl⟩, rfl⟩, rfl⟩, rfl⟩, rfl⟩, h7⟩ := h
    exact ⟨_, _, _, _, _, _, _, _, _, _, rfl, by rw [h7]; exact beq_self_eq_true _⟩
  · exact Bool.noConfusion h
/-- two plain parameters -/
def twoPs (a : Arguments) (x y : Str) : Bool := match a with
  | ⟨[], [p, q], none, [], [], none, []⟩ => decide (p.arg = x) && decide (q.arg = y)
  | _ => false
def isNoneV : Value → Bool
  | .none => true
  | _ => false
def exnB (P : Program) (K : PySem.W.Frag) (nm fld : Str) : Bool :=
  He.eqO (PySem.W.nsIn K mainGlobals nm) (some (some (.ref (He.ga K nm)))) && oexB K (He.ga K nm) && PySem.W.keepIn K (.ref (He.ga K nm)) &&
  He.eqO (PySem.W.findIn K (.ref (He.ga K nm)) "__setattr__") (some (some (.builtin "object.__setattr__"))) && decide (PySem.W.subIn K (.ref (He.ga K nm)) (.type "BaseException") = some true) && decide (PySem.W.typeIn K (.ref (He.ga K nm)) = some (.type "type")) &&
  He.eqO (PySem.W.findIn K (.ref (He.ga K nm)) "__init__") (some (some (.ref (He.ma K (He.ga K nm) "__init__")))) && decide (PySem.W.typeIn K (.ref (He.ma K (He.ga K nm) "__init__")) = some (.type "function")) &&
  He.eqO (PySem.W.ks_superIn K (He.ga K nm) (He.ga K nm) "__init__") (some (some (.builtin "ValueError.__init__"))) && decide (PySem.W.subIn K (.ref (He.ga K nm)) (.type "ValueError") = some true) && decide (PySem.W.mroIn K (He.ga K nm) (.ref (He.ga K nm)) = some true) &&
  He.eqO (PySem.W.nsIn K cStatics "thirdparty.any") (some none) && He.eqO (PySem.W.nsIn K mainGlobals "super") (some none) && He.eqO (PySem.W.findIn K (.ref (He.ga K nm)) fld) (some none) && !(P.main.scope.names.lookup ("super" : Str)).isSome &&
  xfB K (He.ga K nm) && decide (PySem.W.exmOne K (.ref (He.ga K nm)) (.ref (He.ga K nm)) = some true) &&
  (match K.lookup (He.ma K (He.ga K nm) "__init__") with
  | some ⟨_, _, .func ⟨_, qual, params, .stmts body, scope, gl, [(cn, cc)], dV, _, _, _, _, .ref cda, _, bl⟩, _⟩ =>
    decide (gl = mainGlobals) && decide (bl = builtinsNs) && decide (cn = "__class__") && isNoneV dV && twoPs params "self" fld && exBdB fld body && exScB scope fld && PySem.W.codeIn K (.ref cda) qual &&
    (match K.lookup cc with
    | some ⟨_, _, .cell (some (.ref D)), _⟩ => decide (D = He.ga K nm)
    | _ => false) && (match K.lookup cda with
    | some ⟨_, _, .fields vs, _⟩ => (match (vs[2]? : Option Value) with
      | some (.str file _) => P.main.file == file
      | _ => false)
    | _ => false)
  | _ => false)
theorem exnB_ok {G : Glob} {h : Heap} (X : G.K.In h) (N : h.Ns mainGlobals G.mg) {nm fld : Str} {i : Nat} (hx : G.xs[i]? = some (He.ga G.K nm, fld)) (e : exnB G.P G.K nm fld = true)
    (hb : ∀ (q1 q2 : Arg) name qual body scope kV doc pm an cd ct cc, q1.arg = "self" → q2.arg = fld → ∀ us : List Value, us.length = 2 → bindArgs (PySem.W.ksFn name qual ⟨[], [q1, q2], none, [], [], none, []⟩ body scope .none kV doc pm an cd ct cc) ⟨us, []⟩ = pure ((["self", fld] : List Str).zip us)) :
    ExnC G i (He.ga G.K nm) fld ∧ G.mg nm = some (.ref (He.ga G.K nm)) ∧ XfC G.K (He.ga G.K nm) ∧ PySem.W.findIn G.K (.ref (He.ga G.K nm)) fld = some none ∧ PySem.W.exmOne G.K (.ref (He.ga G.K nm)) (.ref (He.ga G.K nm)) = some true := by
  unfold exnB at e
  simp only [Bool.and_eq_true, decide_eq_true_eq, Bool.not_eq_true'] at e
  obtain ⟨⟨⟨⟨⟨⟨⟨⟨⟨⟨⟨⟨⟨⟨⟨⟨⟨e1, e2⟩, e3⟩, e4⟩, e5⟩, e6⟩, e7⟩, e8⟩, e9⟩, e10⟩, e11⟩, e12⟩, e13⟩, e14⟩, e15⟩, e16⟩, e17⟩, e18⟩ := e
  have hC : OexC G.K (He.ga G.K nm) := ⟨oexB_ok e2, He.eqO_ok e4, e5, e6, e3⟩
  refine ⟨⟨hx, hC, ?_⟩, PySem.W.mg_of X N (He.eqO_ok e1), xfB_ok e16, He.eqO_ok e14, e17⟩
  split at e18
  · rename_i oc od name qual params body scope gl cn cc dV kV doc pm an cda ct bl osl lk
    simp only [Bool.and_eq_true, decide_eq_true_eq] at e18
    obtain ⟨⟨⟨⟨⟨⟨⟨⟨⟨rfl, rfl⟩, rfl⟩, a4⟩, a5⟩, a6⟩, a7⟩, a8⟩, a9⟩, a10⟩ := e18
    split at a9
    · rename_i c1 c2 D c3 lcc
      have a9 := of_decide_eq_true a9
      subst a9
      split at a10
      · rename_i d1 d2 vs d3 lcd
        split at a10
        · rename_i file tf hvs
          obtain ⟨p0, p1, p2, p3, p4, p5, p6, p7, p8, p9, rfl, hline⟩ := exBdB_ok a6
          unfold twoPs at a5
          split at a5
          · rename_i q1 q2
            simp only [Bool.and_eq_true, decide_eq_true_eq] at a5
            obtain ⟨b1, b2⟩ := a5
            cases dV <;> first
              | exact Bool.noConfusion a4
              | (refine ⟨_, _, He.eqO_ok e7, e8, exn_ok (k := 0) lk a8 lcd hvs a10 lcc rfl b1 hC (He.eqO_ok e9) e10 e11 (He.eqO_ok e12) (PySem.W.mg_none_of X N (He.eqO_ok e13)) (exScB_ok a7) (He.eqO_ok e14) e15 hline, ?_⟩
                 refine Binds.all fun us hl => ?_
                 exact hb q1 q2 _ _ _ _ _ _ _ _ _ _ _ b1 b2 us hl)
          · exact Bool.noConfusion a5
        · exact Bool.noConfusion a10
      · exact Bool.noConfusion a10
    · exact Bool.noConfusion a9
  · exact Bool.noConfusion e18
end TL

set_option maxHeartbeats 4000000
/-! the end: a row of defs, its facts, the law's promise -/
namespace TL
open PySem PySem.Spec PyProof.Rows L2
def DefT.D (d : DefT) : He.DefD := ⟨(d.nm, none), d.nm, d.nm, defArgs d.st, defBody d.st, defScope d.st, [], []⟩
/-- a def that catches: try: call() except exn as e: return e.fld / return ret -/
structure HofT where
  h : HofP
  d : DefT
  call : Str
  e : Str
  exn : Str
  fld : Str
def hofBd (call exn e fld ret : Str) : List Stmt → Bool
  | [.Try [.Expr (.Call (.Name c1 _) [] [] _) _] [.ExceptHandler (some (.Name x1 _)) (some e1) [.Return (some (.Attribute (.Name e2 _) f1 _)) _] _] [] [] _, .Return (some (.Constant (.str r) _ _)) _] =>
    decide (c1 = call) && decide (x1 = exn) && decide (e1 = e) && decide (e2 = e) && decide (f1 = fld) && decide (r = ret)
  | _ => false
theorem hofBd_ok {call exn e fld ret : Str} {b : List Stmt} (h : hofBd call exn e fld ret b = true) : ∃ j p1 p2 p3 p4 p5 p6 p7 p8 p9 p10 p11, b = [.Try [.Expr (.Call (.Name call p1) [] [] p2) p3] [.ExceptHandler (some (.Name exn p4)) (some e) [.Return (some (.Attribute (.Name e p5) fld p6)) p7] p8] [] [] p9, .Return (some (.Constant (.str ret) j p10)) p11] := by
  unfold hofBd at h
  split at h
  · simp only [Bool.and_eq_true, decide_eq_true_eq] at h
    obtain ⟨⟨⟨⟨⟨rfl, rfl⟩, rfl⟩, rfl⟩, rfl⟩, rfl⟩ := h
    exact ⟨_, _, _, _, _, _, _, _, _, _, _, _, rfl⟩
  · exact Bool.noConfusion h
def HofT.ok (t : HofT) : Bool := decide (t.d.nm = t.h.nm) && decide (t.d.N = [t.call, t.e]) && decide (t.d.np = 1) && hofBd t.call t.exn t.e t.fld t.h.ret (defBody t.d.st) && C8.scC [t.call, t.e] [t.call] (defScope t.d.st) && visB (defScope t.d.st) t.call && kindIs (defScope t.d.st) t.exn .globalImplicit && kindIs (defScope t.d.st) t.e .local &&
  nmOk t.d.nm && nmOk t.call && nmOk t.e && nmOk t.exn && decide (t.h.ret.length ≤ sizeLine)
structure Row where
  ds : List DefT
  gs : Gs
  exs : List (Str × Str)
  hs : List HofT
  tf : List Str
  dcs : List (Str × List Str × List T) := []
def Row.all (r : Row) : List DefT := r.ds ++ r.hs.map (·.d)
def Row.fn (r : Row) : List He.DefD := r.all.map DefT.D
def Row.fa (r : Row) : List He.Fa := r.all.map (fun d => .glo d.nm) ++ r.gs.blt.map .free
def Row.tfd (r : Row) : List He.Defn := r.tf.map fun x => (x, none)
def dcB (K : PySem.W.Frag) (q : Str × List Str × List T) : Bool := He.eqO (PySem.W.nsIn K mainGlobals q.1) (some (some (.ref (He.ga K q.1)))) && dvB K (He.ga K q.1) q.2.1 q.2.2
def Row.ts (r : Row) : List He.Tab := r.dcs.map fun q => (fun K => He.ga K q.1, q.2.1)
def Row.ex (r : Row) (P : Program) (K : PySem.W.Frag) : Bool := r.dcs.all (dcB K) && r.gs.glb.all (glbB K) && r.exs.all (fun q => exnB P K q.1 q.2) && decide ((r.tfd.map fun p => (He.cT K p).2).Nodup)
def Row.G (r : Row) (P : Program) (w : World) (K : PySem.W.Frag) (mg : Str → Option Value) (base : Heap) : Glob :=
  { P := P, w := w, K := K, mg := mg, base := base, Tb := r.tf.map fun x => ((He.cT K (x, none)).2, (x ++ ".<locals>.") ++ "<lambda>"), xs := r.exs.map fun q => (He.ga K q.1, q.2), cs := [], Z := fun _ => False }
/-! ### the Hook: what the module's names reach, and the machine's own names -/
noncomputable def seenK (g : Addr → Option Obj) (n : Nat) : PySem.W.Frag := He.frT g (cStatics :: He.asD g n)
noncomputable def lookH (n : Nat) (fa : List He.Fa) (fn : List He.DefD) (ts : List He.Tab) (tf : List He.Defn) (ex : PySem.W.Frag → Bool) (g : Addr → Option Obj) : He.AlX := (He.obsT fa fn ts (seenK g n), ex (seenK g n) && He.tabsB g tf (seenK g n))
theorem lookH_says {n : Nat} {fa : List He.Fa} {fn : List He.DefD} {ts : List He.Tab} {tf : List He.Defn} {ex : PySem.W.Frag → Bool} {w : World} {hp : Heap} (e : lookH n fa fn ts tf ex hp.get? = He.valX fn ts w) : He.SaysX fa fn ts tf ex w hp (seenK hp.get? n) := by
  have p1 : He.obsT fa fn ts (seenK hp.get? n) = He.valT fn ts w := congrArg Prod.fst e
  have p2 : (ex (seenK hp.get? n) && He.tabsB hp.get? tf (seenK hp.get? n)) = true := congrArg Prod.snd e
  rw [Bool.and_eq_true] at p2
  have one : ∀ q ∈ tf, PySem.W.codeHdIn (seenK hp.get? n) (He.cT (seenK hp.get? n) q).1 (He.cT (seenK hp.get? n) q).2 = true ∧ ∃ ob, hp.get? (He.cT (seenK hp.get? n) q).2 = some ob ∧ He.emptyTab ob = true := fun q hq => by
    have z := List.all_eq_true.mp p2.2 q hq
    rw [Bool.and_eq_true] at z
    refine ⟨z.1, ?_⟩
    have z2 := z.2
    split at z2
    · rename_i ob eo
      exact ⟨ob, eo, z2⟩
    · exact Bool.noConfusion z2
  refine ⟨p1, p2.1, fun q hq => (one q hq).1, fun q hq => ?_, fun q hq => ?_⟩
  · obtain ⟨_, ob, eo, em⟩ := one q hq
    exact He.frT_none eo em
  · obtain ⟨_, ob, eo, em⟩ := one q hq
    exact eo.trans (congrArg some (He.emptyTab_eq em))
noncomputable def hookS (n : Nat) (fa : List He.Fa) (fn : List He.DefD) (ts : List He.Tab) (tf : List He.Defn) (ex : PySem.W.Frag → Bool) : PySem.W.Hook where
  α := He.AlX
  val := fun w => He.valX fn ts w
  obs := fun st => lookH n fa fn ts tf ex st.heap.get?
  says := fun w hp => ∃ K : PySem.W.Frag, K.In hp ∧ He.SaysX fa fn ts tf ex w hp K
  of := fun _ _ e => ⟨seenK _ n, He.frT_in, lookH_says e⟩
  keeps := fun _ _ _ ⟨K, kin, c⟩ kp => ⟨K, PySem.W.Frag.In.keeps kin kp, ⟨c.t, c.more, c.hd, c.out, fun q hq => kp _ _ (c.empty q hq)⟩⟩
theorem lookH_eq {n : Nat} {fa : List He.Fa} {fn : List He.DefD} {ts : List He.Tab} {tf : List He.Defn} {ex : PySem.W.Frag → Bool} {g : Addr → Option Obj} {st : Shared} (same : ∀ a, g a = st.heap.get? a) : lookH n fa fn ts tf ex g = (hookS n fa fn ts tf ex).obs st := congrArg (lookH n fa fn ts tf ex) (funext same)
noncomputable def Row.hk (r : Row) (n : Nat) (P : Program) : PySem.W.Hook := hookS n r.fa r.fn r.ts r.tfd (r.ex P)
noncomputable def Row.look (r : Row) (n : Nat) (P : Program) (g : Addr → Option Obj) : He.AlX := lookH n r.fa r.fn r.ts r.tfd (r.ex P) g
/-- what the row's text says by itself -/
structure RowOk (r : Row) : Prop where
  fns : r.gs.fns = r.ds.map fun d => (d.nm, d.ps)
  exn : r.gs.exn = r.exs.map (·.1)
  hofs : r.gs.hofs = r.hs.map (·.h)
  dcs : r.gs.dcs = r.dcs
  ck : r.ds.all (·.ok r.gs) = true
  hok : r.hs.all (·.ok) = true
  hx : ∀ t ∈ r.hs, r.exs[t.h.ci]? = some (t.exn, t.fld)
  lam : r.ds.all (fun d => !d.lam || r.tf.contains d.nm) = true
  bd : ∀ d ∈ r.all, ∀ (K : PySem.W.Frag) (f : Addr) (fd : FuncData), FunD K d.nm d.nm (defArgs d.st) (defBody d.st) (defScope d.st) [] [] f fd → Binds K fd d.ps []
  xb : ∀ q ∈ r.exs, ∀ (q1 q2 : Arg) name qual body scope kV doc pm an cd ct cc, q1.arg = "self" → q2.arg = q.2 → ∀ us : List Value, us.length = 2 → bindArgs (PySem.W.ksFn name qual ⟨[], [q1, q2], none, [], [], none, []⟩ body scope .none kV doc pm an cd ct cc) ⟨us, []⟩ = pure ((["self", q.2] : List Str).zip us)
  kw : ∀ p ∈ r.gs.kws, ∀ d, r.ds[p.f]? = some d → ∀ (K : PySem.W.Frag) (f : Addr) (fd : FuncData), FunD K d.nm d.nm (defArgs d.st) (defBody d.st) (defScope d.st) [] [] f fd → KwB K fd d.ps p.n p.ks p.perm
theorem mem_nodup_inj {α β : Type} {f : α → β} : ∀ {l : List α}, (l.map f).Nodup → ∀ x ∈ l, ∀ y ∈ l, f x = f y → x = y
  | [], _, x, hx, _, _, _ => absurd hx (by simp)
  | z :: l, hn, x, hx, y, hy, e => by
    rw [List.map_cons, List.nodup_cons] at hn
    rcases List.mem_cons.mp hx with e1 | h1
    · rcases List.mem_cons.mp hy with e2 | h2
      · rw [e1, e2]
      · exact absurd (List.mem_map.mpr ⟨y, h2, by rw [← e, e1]⟩) hn.1
    · rcases List.mem_cons.mp hy with e2 | h2
      · exact absurd (List.mem_map.mpr ⟨x, h1, by rw [e, e2]⟩) hn.1
      · exact mem_nodup_inj hn.2 x h1 y h2 e
section
variable {r : Row} {P : Program} {w : World} {K : PySem.W.Frag} {mg : Str → Option Value} {h base : Heap}
theorem Row.fdAt (c : He.SaysD r.fa r.fn K) {d : DefT} (hd : d ∈ r.all) : ∃ fd, FunD K d.nm d.nm (defArgs d.st) (defBody d.st) (defScope d.st) [] [] (He.ga K d.nm) fd :=
  He.SaysD.defs c (d := d.D) (List.mem_map.mpr ⟨d, hd, rfl⟩)
theorem Row.mgAt (X : K.In h) (N : h.Ns mainGlobals mg) (c : He.SaysD r.fa r.fn K) {d : DefT} (hd : d ∈ r.all) : mg d.nm = some (.ref (He.ga K d.nm)) :=
  He.glo_ok X N (He.SaysD.facts c (f := .glo d.nm) (List.mem_append_left _ (List.mem_map.mpr ⟨d, hd, rfl⟩)))
theorem Row.bltAt (X : K.In h) (N : h.Ns mainGlobals mg) (c : He.SaysD r.fa r.fn K) {x : Str} (hx : x ∈ r.gs.blt) : mg x = none :=
  He.free_ok X N (He.SaysD.facts c (f := .free x) (List.mem_append_right _ (List.mem_map.mpr ⟨x, hx, rfl⟩)))
open Classical in
/-- the function object of a def -/
noncomputable def fdtOf (r : Row) (K : PySem.W.Frag) (i : Nat) : FuncData := match r.ds[i]? with
  | some d => (if z : ∃ fd, FunD K d.nm d.nm (defArgs d.st) (defBody d.st) (defScope d.st) [] [] (He.ga K d.nm) fd then Classical.choose z else default)
  | none => default
def faOf (r : Row) (K : PySem.W.Frag) (i : Nat) : Addr := match r.ds[i]? with
  | some d => He.ga K d.nm
  | none => 0
open Classical in
theorem Row.fdt (c : He.SaysD r.fa r.fn K) {i : Nat} {d : DefT} (hd : r.ds[i]? = some d) : FunD K d.nm d.nm (defArgs d.st) (defBody d.st) (defScope d.st) [] [] (faOf r K i) (fdtOf r K i) := by
  have z := Row.fdAt c (d := d) (List.mem_append_left _ (List.mem_of_getElem? hd))
  unfold faOf fdtOf
  rw [hd]
  show FunD K d.nm d.nm (defArgs d.st) (defBody d.st) (defScope d.st) [] [] (He.ga K d.nm) (if z : ∃ fd, FunD K d.nm d.nm (defArgs d.st) (defBody d.st) (defScope d.st) [] [] (He.ga K d.nm) fd then Classical.choose z else default)
  rw [dif_pos z]
  exact Classical.choose_spec z
theorem exnAt (R : RowOk r) (X : K.In h) (N : h.Ns mainGlobals mg) (hex : r.ex P K = true) {i : Nat} {q : Str × Str} (hq : r.exs[i]? = some q) :
    ExnC (r.G P w K mg base) i (He.ga K q.1) q.2 ∧ mg q.1 = some (.ref (He.ga K q.1)) ∧ XfC K (He.ga K q.1) ∧ PySem.W.findIn K (.ref (He.ga K q.1)) q.2 = some none ∧ PySem.W.exmOne K (.ref (He.ga K q.1)) (.ref (He.ga K q.1)) = some true := by
  unfold Row.ex at hex
  simp only [Bool.and_eq_true] at hex
  have e := List.all_eq_true.mp hex.1.2 q (List.mem_of_getElem? hq)
  exact exnB_ok (G := r.G P w K mg base) X N (i := i) (by show (r.exs.map fun q => (He.ga K q.1, q.2))[i]? = _; rw [List.getElem?_map, hq]; rfl) e (R.xb q (List.mem_of_getElem? hq))
theorem hofAt (R : RowOk r) (X : K.In h) (N : h.Ns mainGlobals mg) (c : He.SaysD r.fa r.fn K) (hex : r.ex P K = true) {t : HofT} (ht : t ∈ r.hs) :
    (∃ gA Ng call sg cdv bg, HofC (r.G P w K mg base) t.h.nm t.h.ci t.h.ret gA Ng call sg cdv bg) ∧ t.h.ret.length ≤ sizeLine := by
  have ok := List.all_eq_true.mp R.hok t ht
  unfold HofT.ok at ok
  simp only [Bool.and_eq_true, decide_eq_true_eq] at ok
  obtain ⟨⟨⟨⟨⟨⟨⟨⟨⟨⟨⟨⟨o1, o2⟩, o3⟩, o4⟩, o5⟩, o6⟩, o7⟩, o8⟩, o9⟩, o10⟩, o11⟩, o12⟩, o13⟩ := ok
  have hm : t.d ∈ r.all := List.mem_append_right _ (List.mem_map.mpr ⟨t, ht, rfl⟩)
  obtain ⟨fd, F⟩ := Row.fdAt c hm
  have B := R.bd t.d hm K _ fd F
  have hmg := Row.mgAt X N c hm
  have hps : t.d.ps = [t.call] := by unfold DefT.ps; rw [o2, o3]; rfl
  rw [hps] at B
  have kp := F.kp
  obtain ⟨oc, od, dV, kV, doc, pm, an, cdv, ct, osl, rfl, lk, hcd, _, _⟩ := F.ex
  obtain ⟨x1, x2, x3, x4, x5⟩ := exnAt (w := w) (base := base) R X N hex (R.hx t ht)
  have S := C8.fnScope_by o5
  refine ⟨⟨He.ga K t.d.nm, [t.call, t.e], t.call, defScope t.d.st, cdv, defBody t.d.st, ?_⟩, o13⟩
  rw [← o1]
  exact {
    ex := ⟨_, dV, kV, doc, pm, ct, oc, an, od, osl, lk, B⟩
    cd := hcd
    kp := kp
    mg := hmg
    sc := S
    n0 := rfl
    vis := by
      have o6' := o6
      unfold visB kindIs at o6'
      simp only [Bool.or_eq_true, decide_eq_true_eq] at o6'
      rcases o6' with (z | z) | z
      · exact .inl z
      · exact .inr (.inl z)
      · exact .inr (.inr z)
    gives := ⟨He.ga K t.exn, t.fld, x1.xs, fun X q hK hmg' => by
      obtain ⟨j, p1, p2, p3, p4, p5, p6, p7, p8, p9, p10, p11, eb⟩ := hofBd_ok o4
      rw [eb]
      have hK : X.K = K := hK
      have hmg' : X.mg = mg := hmg'
      exact ref_gives (by rw [hK]; exact x3) (by rw [hK]; exact x4) (by rw [hK]; exact x5) (of_decide_eq_true o7) (by rw [hmg']; exact x2) (nm1 o12).1 rfl S.nd (of_decide_eq_true o8) (nm1 o11).1 (nm1 o11).2⟩
    d1 := (nm1 o9).1
    d2 := (nm1 o10).1
    d3 := (nm1 o10).2 }
theorem tabAt (R : RowOk r) (X : K.In h) (N : h.Ns mainGlobals mg) (c : He.SaysD r.fa r.fn K) (hex : r.ex P K = true) (TB : ∀ p ∈ r.tfd.map (He.cT K), LamX.TabB base mg p.1 p.2) : TabOk (r.G P w K mg base) r.ds (faOf r K) (fdtOf r K) where
  fd := fun i d hd => Row.fdt c hd
  mg := fun i d hd => by
    have e := Row.mgAt X N c (d := d) (List.mem_append_left _ (List.mem_of_getElem? hd))
    unfold faOf
    rw [hd]
    exact e
  bd := fun i d hd => R.bd d (List.mem_append_left _ (List.mem_of_getElem? hd)) K _ _ (Row.fdt c hd)
  lam := fun i d hd hl => by
    have z := List.all_eq_true.mp R.lam d (List.mem_of_getElem? hd)
    rw [hl] at z
    have z : d.nm ∈ r.tf := List.contains_iff_mem.mp (by simpa using z)
    have F := Row.fdt c hd
    obtain ⟨oc, od, dV, kV, doc, pm, an, cdv, ct, osl, efd, lk, hcd, _, _⟩ := F.ex
    obtain ⟨cA, rfl⟩ := He.codeIn_ref hcd
    have hfa : faOf r K i = He.fAd K (d.nm, none) := by unfold faOf; rw [hd] <;> rfl
    rw [hfa] at lk
    have hco : He.codeOf K (d.nm, none) = cA := He.codeOf_eq lk (by rw [efd] <;> rfl)
    have hmem : (d.nm, none) ∈ r.tfd := List.mem_map.mpr ⟨d.nm, z, rfl⟩
    have T := TB (He.cT K (d.nm, none)) (List.mem_map.mpr ⟨_, hmem, rfl⟩)
    refine ⟨cA, (He.cT K (d.nm, none)).2, by rw [efd] <;> rfl, ?_, List.mem_map.mpr ⟨d.nm, z, rfl⟩, fun p hp e => ?_⟩
    · have e1 : (He.cT K (d.nm, none)).1 = cA := hco
      rw [← e1]
      exact T
    · obtain ⟨y, hy, rfl⟩ := List.mem_map.mp hp
      unfold Row.ex at hex
      simp only [Bool.and_eq_true] at hex
      have nd := of_decide_eq_true hex.2
      have e2 := mem_nodup_inj (f := fun p => (He.cT K p).2) nd (y, none) (List.mem_map.mpr ⟨y, hy, rfl⟩) (d.nm, none) hmem e
      have e3 : y = d.nm := congrArg Prod.fst e2
      rw [e3]
theorem restAt (R : RowOk r) (X : K.In h) (N : h.Ns mainGlobals mg) (c : He.SaysD r.fa r.fn K) (hex : r.ex P K = true) (ct : He.SaysT r.fa r.fn r.ts w K) : RestOk (r.G P w K mg base) r.gs (fdtOf r K) where
  dcs := fun i nm ks vs hi => by
    rw [R.dcs] at hi
    have hT : r.ts.map (fun t => He.dicW K (t.1 K)) = r.ts.map fun t => some (He.keysIn w.params t.2) := congrArg (fun z : He.AlT => z.2) ct
    have e2 := congrArg (fun l => l[i]?) hT
    simp only [List.getElem?_map, Row.ts, hi, Option.map_some, Option.some.injEq] at e2
    unfold Row.ex at hex
    simp only [Bool.and_eq_true] at hex
    have e3 := List.all_eq_true.mp hex.1.1.1 (nm, ks, vs) (List.mem_of_getElem? hi)
    unfold dcB at e3
    rw [Bool.and_eq_true] at e3
    exact dcs_ok (G := r.G P w K mg base) X N e2 e3.1 e3.2
  glb := fun i nm t hi => by
    unfold Row.ex at hex
    simp only [Bool.and_eq_true] at hex
    exact glbB_ok (G := r.G P w K mg base) X N (List.all_eq_true.mp hex.1.1.2 (nm, t) (List.mem_of_getElem? hi))
  exn := fun i nm hi => by
    rw [R.exn, List.getElem?_map] at hi
    cases e : r.exs[i]? with
    | none => rw [e] at hi; cases hi
    | some q =>
      rw [e] at hi
      cases hi
      obtain ⟨a, b, _⟩ := exnAt (w := w) (base := base) R X N hex e
      exact ⟨_, _, a, b⟩
  kws := fun p hp nm ps hi => by
    rw [R.fns, List.getElem?_map] at hi
    cases e : r.ds[p.f]? with
    | none => rw [e] at hi; cases hi
    | some d =>
      rw [e] at hi
      cases hi
      exact R.kw p hp d e K _ _ (Row.fdt c e)
  hofs := fun t ht => by
    rw [R.hofs] at ht
    obtain ⟨u, hu, rfl⟩ := List.mem_map.mp ht
    exact hofAt R X N c hex hu
  blt := fun nm hn => Row.bltAt X N c hn
/-- all that the walk of the law's row asks -/
theorem lawAt {l : PySem.W.OpenLaw} {n lvl li : Nat} {d : DefT} (R : RowOk r) (hd : r.ds[li]? = some d) (hnm : d.ps = [d.N.getD 0 d.nm])
    (hbA : ∀ (fd : FuncData) (f : Addr), FunD K d.nm d.nm (defArgs d.st) (defBody d.st) (defScope d.st) [] [] f fd → ∀ (s : Shared) (u : Value), BindsTo s fd ⟨[u], []⟩ [(d.N.getD 0 d.nm, u)])
    (X : K.In h) (N : h.Ns mainGlobals mg) (c : He.SaysX r.fa r.fn r.ts r.tfd (r.ex l.prog) w h K)
    (law : ∀ ns : List Int, ns.length ≤ n → (∀ z ∈ ns, Builtin.Int.intBits z ≤ 1048576) → wcall (r.ds.map fdOf) lvl li [.cl (ns.map .int)] [] (fun _ _ => False) fun t _ => t = .bl true) :
    LamX.LawAtS l w K (L2.CX l.prog w) (3 * lvl + 2) n (d.N.getD 0 d.nm) mg (He.ga K d.nm) h := by
  have cd := c.t.d
  have F := Row.fdt cd hd
  have hfa : faOf r K li = He.ga K d.nm := by unfold faOf; rw [hd]
  have cT : ∀ p ∈ r.tfd.map (He.cT K), ∃ q ∈ r.tfd, He.cT K q = p := fun p hp => List.mem_map.mp hp
  refine ⟨fdtOf r K li, r.tfd.map (He.cT K), fun vs H Q E => ∀ b : Heap, prom (r.G l.prog w K mg b) 1 (wcall (r.ds.map fdOf) lvl li) vs H Q E, fun p hp => ?_, fun p hp => ?_, fun p hp => ?_, hbA _ _ F, fun H a ns hl hb hH hS => ?_, fun base KX NX TB => ?_⟩
  · obtain ⟨q, hq, rfl⟩ := cT p hp
    exact c.empty q hq
  · obtain ⟨q, hq, rfl⟩ := cT p hp
    exact c.out q hq
  · obtain ⟨q, hq, rfl⟩ := cT p hp
    exact PySem.W.codeHd_of_K X (c.hd q hq)
  · intro b
    refine ⟨[.cl (ns.map .int)], [], fun _ _ => False, fun t _ => t = .bl true, rfl, .cons (.cl (vs := ns.map V.int) ?_ ?_) .nil, ⟨fun a o e => (by cases e), fun p hp => ?_, fun a z => False.elim z⟩, law ns hl hb, fun e η' cls dd H' _ _ _ z => z.elim, fun t v η' H' rv _ _ e => ?_⟩
    · rcases hS with z | z
      · exact .inl ⟨z, rfl, fun q => q⟩
      · exact .inr z
    · clear hl hb hS
      induction ns with
      | nil => exact .nil
      | cons z zs ih => exact .cons (.int z) ih
    · obtain ⟨x, hx, rfl⟩ := List.mem_map.mp hp
      exact LamX.TabS.nil (hH (He.cT K (x, none)) (List.mem_map.mpr ⟨(x, none), List.mem_map.mpr ⟨x, hx, rfl⟩, rfl⟩))
    · subst e
      cases rv
      rfl
  · have T := tabAt (P := l.prog) (w := w) (base := base) R X N cd c.more TB
    have z := fns_ok (G := r.G l.prog w K mg base) R.fns R.ck T (restAt R X N cd c.more c.t) lvl li d hd (fun _ => False)
    rw [hnm] at z
    rw [hfa] at z
    exact ⟨fun vs H Q E e => z.1 vs H Q E (e base), fun A outer s H args us vs Q E a b c d e => z.2 A outer s H args us vs Q E a b c d (e base)⟩
end
end TL

set_option maxHeartbeats 4000000
/-! an evaluator of the small language over a store that nobody changes -/
namespace TL
open PySem PySem.Spec PyProof.Rows L2
inductive R
  | val (t : T) | exn (c : Nat) (t : T) | bad
inductive RL
  | val (t : List T) | exn (c : Nat) (t : T) | bad
inductive RB
  | val (t : Bool) | exn (c : Nat) (t : T) | bad
inductive RI
  | val (ts : List T) (sr : Option Addr) | exn (c : Nat) (t : T) | bad
inductive RO
  | val (i : Option Int) | exn (c : Nat) (t : T) | bad
inductive RS
  | nx (ρ : Env) | rt (t : T) | bk (ρ : Env) | ct (ρ : Env) | exn (c : Nat) (t : T) | bad
def bopB (o : Bop) (u w : T) : Bool :=
  match o, u, w with
  | .add, .str x, .str y => decide (x.length + y.length ≤ sizeLine)
  | .add, .tup xs, .tup ys => decide (xs.length + ys.length ≤ sizeLine)
  | .mul, .int i, .int j => decide (i.natAbs.log2 + j.natAbs.log2 < 1000000)
  | .fdiv, .int _, .int j => decide (j ≠ 0) && decide (j.natAbs.log2 < 9000)
  | .mod, .int _, .int j => decide (j ≠ 0)
  | .pow, .int i, .int j => decide (0 ≤ j) && decide (j ≤ 1000000) && decide (i.natAbs < 2 ^ 64)
  | _, _, _ => true
theorem bopB_ok {o : Bop} {u w : T} (h : bopB o u w = true) : bopG o u w := by
  cases o <;> cases u <;> cases w <;> first
    | exact True.intro
    | exact of_decide_eq_true h
    | (have h' := h
       simp only [bopB, Bool.and_eq_true, decide_eq_true_eq] at h'
       first
         | exact h'
         | exact ⟨h'.1.1, h'.1.2, h'.2⟩)
def ofO (o : Option T) : R := match o with
  | some t => .val t
  | none => .bad
def mthB (m : Mt) (o : T) (ts : List T) (η : Sto) : Bool :=
  match m, o, ts with
  | .get2, .dct _ _, [k, _] => keyT k
  | .index, t, [u] => match seqOf η t with
    | some xs => inOk u xs
    | none => true
  | .join, .str a, [t] => match (seqOf η t).bind strsL with
    | some ys => decide ((ys.map (·.length)).sum + ys.length * a.length ≤ 16777216) && decide ((Txt.join a ys).length ≤ sizeLine)
    | none => true
  | _, _, _ => true
/-- methods that leave the store -/
def mthP (m : Mt) (o : T) (ts : List T) (η : Sto) : Option T :=
  match m, o, ts with
  | .get2, .dct ks vs, [k, d] => some ((dgetT k ks vs).getD d)
  | .index, t, [u] => ((seqOf η t).bind (ixOf u)).map fun (k : Nat) => .int k
  | .join, .str a, [t] => ((seqOf η t).bind strsL).map fun ys => .str (Txt.join a ys)
  | .sw, .str a, [.str b] => some (.bl (Txt.startswith a b))
  | .indexT, .tup xs, [.str z] => (strsL xs).bind fun _ => (ixOf (.str z) xs).map fun (k : Nat) => .int k
  | _, _, _ => none
/-- what follows -/
def R.to (r : R) (f : T → R) : R := match r with
  | .val t => f t
  | .exn c t => .exn c t
  | .bad => .bad
def R.toL (r : R) (f : T → RL) : RL := match r with
  | .val t => f t
  | .exn c t => .exn c t
  | .bad => .bad
def R.toB (r : R) (f : T → RB) : RB := match r with
  | .val t => f t
  | .exn c t => .exn c t
  | .bad => .bad
def R.toI (r : R) (f : T → RI) : RI := match r with
  | .val t => f t
  | .exn c t => .exn c t
  | .bad => .bad
def R.toO (r : R) (f : T → RO) : RO := match r with
  | .val t => f t
  | .exn c t => .exn c t
  | .bad => .bad
def R.toS (r : R) (f : T → RS) : RS := match r with
  | .val t => f t
  | .exn c t => .exn c t
  | .bad => .bad
def RL.to (r : RL) (f : List T → R) : R := match r with
  | .val t => f t
  | .exn c t => .exn c t
  | .bad => .bad
def RL.toL (r : RL) (f : List T → RL) : RL := match r with
  | .val t => f t
  | .exn c t => .exn c t
  | .bad => .bad
def RB.to (r : RB) (f : Bool → R) : R := match r with
  | .val t => f t
  | .exn c t => .exn c t
  | .bad => .bad
def RB.toB (r : RB) (f : Bool → RB) : RB := match r with
  | .val t => f t
  | .exn c t => .exn c t
  | .bad => .bad
def RB.toS (r : RB) (f : Bool → RS) : RS := match r with
  | .val t => f t
  | .exn c t => .exn c t
  | .bad => .bad
def RI.to (r : RI) (f : List T → R) : R := match r with
  | .val t _ => f t
  | .exn c t => .exn c t
  | .bad => .bad
def RI.toS (r : RI) (f : List T → RS) : RS := match r with
  | .val t _ => f t
  | .exn c t => .exn c t
  | .bad => .bad
def RO.to (r : RO) (f : Option Int → R) : R := match r with
  | .val t => f t
  | .exn c t => .exn c t
  | .bad => .bad
def RS.nxt (r : RS) (f : Env → RS) : RS := match r with
  | .nx ρ => f ρ
  | r => r
def ifR {α : Type} (k : Bool) (a b : α) : α := match k with
  | true => a
  | false => b
def optR {α : Type} (o : Option α) (f : α → R) : R := match o with
  | some t => f t
  | none => .bad
def optB {α : Type} (o : Option α) (f : α → RB) : RB := match o with
  | some t => f t
  | none => .bad
def optI {α : Type} (o : Option α) (f : α → RI) : RI := match o with
  | some t => f t
  | none => .bad
def optO {α : Type} (o : Option α) (f : α → RO) : RO := match o with
  | some t => f t
  | none => .bad
def optL {α : Type} (o : Option α) (f : α → RL) : RL := match o with
  | some t => f t
  | none => .bad
def optS {α : Type} (o : Option α) (f : α → RS) : RS := match o with
  | some t => f t
  | none => .bad
def gR (b : Bool) (r : R) : R := match b with
  | true => r
  | false => .bad
def gL (b : Bool) (r : RL) : RL := match b with
  | true => r
  | false => .bad
def gI (b : Bool) (r : RI) : RI := match b with
  | true => r
  | false => .bad
def gB (b : Bool) (r : RB) : RB := match b with
  | true => r
  | false => .bad
def RL.toL' (r : RL) (f : List T → RL) : RL := match r with
  | .val t => f t
  | _ => .bad
/-- a comprehension: one item or none each -/
def pcomp (f : T → RL) : List T → RL
  | [] => .val []
  | x :: xs => (f x).toL' fun r => (pcomp f xs).toL' fun rs => .val (r ++ rs)
/-- a turn's end -/
def RS.turn (r : RS) (f : Env → RS) : RS := match r with
  | .nx ρ => f ρ
  | .ct ρ => f ρ
  | .bk ρ => .nx ρ
  | .rt t => .rt t
  | .exn c t => .exn c t
  | .bad => .bad
def pfor (tg : Tg) (body : Env → RS) : List T → Env → RS
  | [], ρ => .nx ρ
  | x :: xs, ρ => optS (bindTg tg x ρ.v) fun v => (body ⟨v, ρ.x⟩).turn fun ρ' => pfor tg body xs ρ'
def pwhile (test : Env → RB) (body : Env → RS) : Nat → Env → RS
  | 0, _ => .bad
  | n + 1, ρ => (test ρ).toS fun b => ifR b ((body ρ).turn fun ρ' => pwhile test body n ρ') (.nx ρ)
def pcmp (o : Cop) (u w : T) (η : Sto) (f : Bool → R) : R := gR (copG o u w η) (optR (copV o u w η) f)
def pcmpB (o : Cop) (u w : T) (η : Sto) (f : Bool → RB) : RB := gB (copG o u w η) (optB (copV o u w η) f)
def okRg (n : Int) : Bool := decide (-(2 ^ 62) ≤ n) && decide (n ≤ 16777216)
def RB.toL' (r : RB) (f : Bool → RL) : RL := match r with
  | .val t => f t
  | _ => .bad
def hofR (f : Nat) (ret : Str) (r : R) : R := match r with
  | .val _ => .val (.str ret)
  | .exn c t => if c = f then .val t else .bad
  | .bad => .bad
mutual
def pE (η : Sto) (Φ : Nat → List T → R) : E → Env → R
  | .var i, ρ => ofO (nth ρ.v i)
  | .cst t, _ => .val t
  | .gcst _ t, _ => .val t
  | .tup es, ρ => (pEs η Φ es ρ).to fun ts => .val (.tup ts)
  | .lstV es, ρ => (pEs η Φ es ρ).to fun ts => .val (.cl ts)
  | .bin o a b, ρ => (pE η Φ a ρ).to fun u => (pE η Φ b ρ).to fun w => gR (bopB o u w) (ofO (bopV o u w))
  | .neg a, ρ => (pE η Φ a ρ).to fun u => ofO (negV u)
  | .catV a b, ρ => (pE η Φ a ρ).to fun u => (pE η Φ b ρ).to fun w => optR (lstOf η u) fun xs => optR (lstOf η w) fun ys => gR (decide (xs.length + ys.length ≤ sizeLine)) (.val (.cl (xs ++ ys)))
  | .cmp o a b, ρ => (pE η Φ a ρ).to fun u => (pE η Φ b ρ).to fun w => pcmp o u w η fun k => .val (.bl k)
  | .chain o1 o2 a b c, ρ => (pE η Φ a ρ).to fun u => (pE η Φ b ρ).to fun w => pcmp o1 u w η fun k => ifR k ((pE η Φ c ρ).to fun z => pcmp o2 w z η fun k2 => .val (.bl k2)) (.val (.bl false))
  | .and a b, ρ => (pE η Φ a ρ).to fun u => optR (tru η u) fun k => ifR k (pE η Φ b ρ) (.val u)
  | .or a b, ρ => (pE η Φ a ρ).to fun u => optR (tru η u) fun k => ifR k (.val u) (pE η Φ b ρ)
  | .not a, ρ => (pE η Φ a ρ).to fun u => optR (tru η u) fun k => .val (.bl (!k))
  | .ite c a b, ρ => (pC η Φ c ρ).to fun k => ifR k (pE η Φ a ρ) (pE η Φ b ρ)
  | .idx a i, ρ => (pE η Φ a ρ).to fun u => (pE η Φ i ρ).to fun w => ofO (idxV η u w)
  | .slc a lo hi, ρ => (pE η Φ a ρ).to fun u => (pO η Φ lo ρ).to fun i => (pO η Φ hi ρ).to fun j => ofO (slcV u i j η)
  | .isinst a t, ρ => (pE η Φ a ρ).to fun u => optR (isT η t u) fun b => .val (.bl b)
  | .call f es, ρ => (pEs η Φ es ρ).to fun ts => Φ f ts
  | .callK f es kw perm, ρ => (pEs η Φ es ρ).to fun ts => (pEs η Φ kw ρ).to fun us => Φ f (perm.map fun i => (ts ++ us).getD i .non)
  | .lc own tg src c elt, ρ => (pI η Φ src ρ).to fun ts => (pcomp (fun x => optL (bindTg tg x (setvs ρ.v own)) fun v => (pC η Φ c ⟨v, ρ.x⟩).toL' fun k => ifR k ((pE η Φ elt ⟨v, ρ.x⟩).toL fun u => .val [u]) (.val [])) ts).to fun us => .val (.cl us)
  | .agg g a, ρ => (pE η Φ a ρ).to fun u => optR (aggS g η u) fun ts => ofO (aggV g ts)
  | .blt b es, ρ => (pEs η Φ es ρ).to fun ts => ofO (bltV b ts η)
  | .mth m o es, ρ => (pE η Φ o ρ).to fun u => gR (mthT m u η) ((pEs η Φ es ρ).to fun ts => gR (mthB m u ts η) (ofO (mthP m u ts η)))
  | .lenSet own tg src elt, ρ => (pI η Φ src ρ).to fun ts => gR (decide (ts.length ≤ 1000)) ((pcomp (fun x => optL (bindTg tg x (setvs ρ.v own)) fun v => (pE η Φ elt ⟨v, ρ.x⟩).toL fun u => gL (keyT u) (.val [u])) ts).to fun us => .val (.int (dedup us).length))
  | .hof f e ret, ρ => hofR f ret (pE η Φ e ρ)
  | .exc, ρ => ofO ρ.x
  | _, _ => .bad
def pEs (η : Sto) (Φ : Nat → List T → R) : Es → Env → RL
  | .nil, _ => .val []
  | .cons e es, ρ => (pE η Φ e ρ).toL fun t => (pEs η Φ es ρ).toL fun ts => .val (t :: ts)
def pC (η : Sto) (Φ : Nat → List T → R) : C → Env → RB
  | .and a b, ρ => (pC η Φ a ρ).toB fun k => ifR k (pC η Φ b ρ) (.val false)
  | .or a b, ρ => (pC η Φ a ρ).toB fun k => ifR k (.val true) (pC η Φ b ρ)
  | .not a, ρ => (pC η Φ a ρ).toB fun k => .val (!k)
  | .val e, ρ => (pE η Φ e ρ).toB fun u => optB (tru η u) fun k => .val k
  | .tt, _ => .val true
  | .cmp o a b, ρ => (pE η Φ a ρ).toB fun u => (pE η Φ b ρ).toB fun w => pcmpB o u w η fun k => .val k
  | .chain o1 o2 a b c, ρ => (pE η Φ a ρ).toB fun u => (pE η Φ b ρ).toB fun w => pcmpB o1 u w η fun k => ifR k ((pE η Φ c ρ).toB fun z => pcmpB o2 w z η fun k2 => .val k2) (.val false)
def pI (η : Sto) (Φ : Nat → List T → R) : It → Env → RI
  | .seq e, ρ => (pE η Φ e ρ).toI fun u => optI (seqOf η u) fun ts => .val ts (srcOf u)
  | .chars e, ρ => (pE η Φ e ρ).toI fun u => optI (strV u) fun x => .val (charsL x) none
  | .range a, ρ => (pE η Φ a ρ).toI fun u => optI (intV u) fun n => gI (okRg n) (.val (rangeL 0 n.toNat) none)
  | .range2 a b, ρ => (pE η Φ a ρ).toI fun u => (pE η Φ b ρ).toI fun w => optI (intV u) fun m => optI (intV w) fun n => gI (okRg m && okRg n && decide (n - m ≤ 16777216)) (.val (rangeL m (n - m).toNat) none)
  | .zip a b, ρ => (pE η Φ a ρ).toI fun u => (pE η Φ b ρ).toI fun w => optI (stillV η u) fun xs => optI (stillV η w) fun ys => .val (zipL xs ys) none
  | .enum a, ρ => (pE η Φ a ρ).toI fun u => optI (stillV η u) fun xs => .val (enumL 0 xs) none
def pO (η : Sto) (Φ : Nat → List T → R) : Op → Env → RO
  | .no, _ => .val none
  | .some e, ρ => (pE η Φ e ρ).toO fun u => optO (intV u) fun i => .val (some i)
end
mutual
def pS (η : Sto) (fu : Nat) (Φ : Nat → List T → R) : S → Env → RS
  | .expr e, ρ => (pE η Φ e ρ).toS fun _ => .nx ρ
  | .ret e, ρ => (pE η Φ e ρ).toS fun t => .rt t
  | .retN, _ => .rt .non
  | .set i e, ρ => (pE η Φ e ρ).toS fun t => .nx (ρ.put i t)
  | .par i j a b, ρ => (pE η Φ a ρ).toS fun t => (pE η Φ b ρ).toS fun u => .nx ((ρ.put i t).put j u)
  | .unp tg e, ρ => (pE η Φ e ρ).toS fun t => optS (bindTg tg t ρ.v) fun v => .nx ⟨v, ρ.x⟩
  | .iff c a b, ρ => (pC η Φ c ρ).toS fun k => ifR k (pSs η fu Φ a ρ) (pSs η fu Φ b ρ)
  | .for tg it b, ρ => (pI η Φ it ρ).toS fun ts => pfor tg (fun ρ' => pSs η fu Φ b ρ') ts ρ
  | .while c b, ρ => pwhile (fun ρ' => pC η Φ c ρ') (fun ρ' => pSs η fu Φ b ρ') fu ρ
  | .brk, ρ => .bk ρ
  | .cont, ρ => .ct ρ
  | .pass, ρ => .nx ρ
  | .raise c e, ρ => (pE η Φ e ρ).toS fun u => .exn c u
  | _, _ => .bad
def pSs (η : Sto) (fu : Nat) (Φ : Nat → List T → R) : Ss → Env → RS
  | .nil, ρ => .nx ρ
  | .cons s r, ρ => (pS η fu Φ s ρ).nxt fun ρ' => pSs η fu Φ r ρ'
end
def endR : RS → R
  | .nx _ => .val .non
  | .rt t => .val t
  | .exn c t => .exn c t
  | _ => .bad
def pcall (η : Sto) (fu : Nat) (F : List Fd) : Nat → Nat → List T → R
  | 0, _, _ => .bad
  | n + 1, f, ts => match F[f]? with
    | some d => if ts.length = d.np then endR (pSs η fu (pcall η fu F n) d.body ⟨ts.map some ++ List.replicate (d.nl - d.np) none, none⟩) else .bad
    | none => .bad
end TL

set_option maxHeartbeats 4000000
/-! the evaluator tells the truth -/
namespace TL
open PySem PySem.Spec PyProof.Rows L2
abbrev XP := Nat → T → Prop
def R.P (r : R) (X : XP) (K : T → Prop) : Prop := match r with
  | .val t => K t
  | .exn c t => X c t
  | .bad => False
def RL.P (r : RL) (X : XP) (K : List T → Prop) : Prop := match r with
  | .val t => K t
  | .exn c t => X c t
  | .bad => False
def RB.P (r : RB) (X : XP) (K : Bool → Prop) : Prop := match r with
  | .val t => K t
  | .exn c t => X c t
  | .bad => False
def RI.P (r : RI) (X : XP) (K : List T → Option Addr → Prop) : Prop := match r with
  | .val t s => K t s
  | .exn c t => X c t
  | .bad => False
def RO.P (r : RO) (X : XP) (K : Option Int → Prop) : Prop := match r with
  | .val t => K t
  | .exn c t => X c t
  | .bad => False
section
variable {X : XP} {r : R} {rl : RL} {rb : RB} {ri : RI} {ro : RO}
theorem R.P.imp {K K' : T → Prop} (h : r.P X K) (f : ∀ t, K t → K' t) : r.P X K' := by cases r <;> first | exact f _ h | exact h
theorem RL.P.imp {K K' : List T → Prop} (h : rl.P X K) (f : ∀ t, K t → K' t) : rl.P X K' := by cases rl <;> first | exact f _ h | exact h
theorem RB.P.imp {K K' : Bool → Prop} (h : rb.P X K) (f : ∀ t, K t → K' t) : rb.P X K' := by cases rb <;> first | exact f _ h | exact h
theorem RI.P.imp {K K' : List T → Option Addr → Prop} (h : ri.P X K) (f : ∀ t s, K t s → K' t s) : ri.P X K' := by cases ri <;> first | exact f _ _ h | exact h
theorem RO.P.imp {K K' : Option Int → Prop} (h : ro.P X K) (f : ∀ t, K t → K' t) : ro.P X K' := by cases ro <;> first | exact f _ h | exact h
theorem R.to_P {f : T → R} {K : T → Prop} (h : (r.to f).P X K) : r.P X fun t => (f t).P X K := by cases r <;> exact h
theorem R.toL_P {f : T → RL} {K : List T → Prop} (h : (r.toL f).P X K) : r.P X fun t => (f t).P X K := by cases r <;> exact h
theorem R.toB_P {f : T → RB} {K : Bool → Prop} (h : (r.toB f).P X K) : r.P X fun t => (f t).P X K := by cases r <;> exact h
theorem R.toI_P {f : T → RI} {K : List T → Option Addr → Prop} (h : (r.toI f).P X K) : r.P X fun t => (f t).P X K := by cases r <;> exact h
theorem R.toO_P {f : T → RO} {K : Option Int → Prop} (h : (r.toO f).P X K) : r.P X fun t => (f t).P X K := by cases r <;> exact h
theorem RL.to_P {f : List T → R} {K : T → Prop} (h : (rl.to f).P X K) : rl.P X fun t => (f t).P X K := by cases rl <;> exact h
theorem RL.toL_P {f : List T → RL} {K : List T → Prop} (h : (rl.toL f).P X K) : rl.P X fun t => (f t).P X K := by cases rl <;> exact h
theorem RB.to_P {f : Bool → R} {K : T → Prop} (h : (rb.to f).P X K) : rb.P X fun t => (f t).P X K := by cases rb <;> exact h
theorem RB.toB_P {f : Bool → RB} {K : Bool → Prop} (h : (rb.toB f).P X K) : rb.P X fun t => (f t).P X K := by cases rb <;> exact h
theorem RI.to_P {f : List T → R} {K : T → Prop} (h : (ri.to f).P X K) : ri.P X fun t _ => (f t).P X K := by cases ri <;> exact h
theorem RO.to_P {f : Option Int → R} {K : T → Prop} (h : (ro.to f).P X K) : ro.P X fun t => (f t).P X K := by cases ro <;> exact h
theorem ofO_P {o : Option T} {K : T → Prop} (h : (ofO o).P X K) : optF o K := by cases o <;> exact h
theorem ifR_P {k : Bool} {a b : R} {K : T → Prop} (h : (ifR k a b).P X K) : ifB k (a.P X K) (b.P X K) := by cases k <;> exact h
theorem ifRB_P {k : Bool} {a b : RB} {K : Bool → Prop} (h : (ifR k a b).P X K) : ifB k (a.P X K) (b.P X K) := by cases k <;> exact h
theorem ifB_imp {k : Bool} {A B A' B' : Prop} (h : ifB k A B) (f : A → A') (g : B → B') : ifB k A' B' := by cases k <;> first | exact f h | exact g h
theorem optR_P {α : Type} {o : Option α} {f : α → R} {K : T → Prop} (h : (optR o f).P X K) : optF o fun k => (f k).P X K := by cases o <;> exact h
theorem optB_P {α : Type} {o : Option α} {f : α → RB} {K : Bool → Prop} (h : (optB o f).P X K) : optF o fun k => (f k).P X K := by cases o <;> exact h
theorem optI_P {α : Type} {o : Option α} {f : α → RI} {K : List T → Option Addr → Prop} (h : (optI o f).P X K) : optF o fun k => (f k).P X K := by cases o <;> exact h
theorem optO_P {α : Type} {o : Option α} {f : α → RO} {K : Option Int → Prop} (h : (optO o f).P X K) : optF o fun k => (f k).P X K := by cases o <;> exact h
theorem optL_P {α : Type} {o : Option α} {f : α → RL} {K : List T → Prop} (h : (optL o f).P X K) : optF o fun k => (f k).P X K := by cases o <;> exact h
theorem gR_P {b : Bool} {r : R} {K : T → Prop} (h : (gR b r).P X K) : b = true ∧ r.P X K := by cases b <;> first | exact ⟨rfl, h⟩ | exact h.elim
theorem gL_P {b : Bool} {r : RL} {K : List T → Prop} (h : (gL b r).P X K) : b = true ∧ r.P X K := by cases b <;> first | exact ⟨rfl, h⟩ | exact h.elim
theorem gI_P {b : Bool} {r : RI} {K : List T → Option Addr → Prop} (h : (gI b r).P X K) : b = true ∧ r.P X K := by cases b <;> first | exact ⟨rfl, h⟩ | exact h.elim
theorem gB_P {b : Bool} {r : RB} {K : Bool → Prop} (h : (gB b r).P X K) : b = true ∧ r.P X K := by cases b <;> first | exact ⟨rfl, h⟩ | exact h.elim
theorem optF_imp {α : Type} {o : Option α} {A B : α → Prop} (h : optF o A) (f : ∀ x, A x → B x) : optF o B := by cases o <;> first | exact f _ h | exact h
theorem optF_imp' {α : Type} {o : Option α} {A B : α → Prop} (h : optF o A) (f : ∀ x, o = some x → A x → B x) : optF o B := by cases o <;> first | exact f _ rfl h | exact h
theorem pcmp_P {o : Cop} {u w : T} {η : Sto} {f : Bool → R} {K : T → Prop} (h : (pcmp o u w η f).P X K) : cop o u w η fun k => (f k).P X K := ⟨(gR_P h).1, optR_P (gR_P h).2⟩
theorem pcmpB_P {o : Cop} {u w : T} {η : Sto} {f : Bool → RB} {K : Bool → Prop} (h : (pcmpB o u w η f).P X K) : cop o u w η fun k => (f k).P X K := ⟨(gB_P h).1, optB_P (gB_P h).2⟩
theorem cop_imp {o : Cop} {u w : T} {η : Sto} {A B : Bool → Prop} (h : cop o u w η A) (f : ∀ k, A k → B k) : cop o u w η B := ⟨h.1, optF_imp h.2 f⟩
theorem toL'_P {f : Bool → RL} {K : List T → Prop} (h : (rb.toL' f).P X K) (X' : XP) : rb.P X' fun t => (f t).P X K := by cases rb <;> first | exact h | exact h.elim
theorem toLL_P {f : List T → RL} {K : List T → Prop} (h : (rl.toL' f).P X K) (X' : XP) : rl.P X' fun t => (f t).P X K := by cases rl <;> first | exact h | exact h.elim
theorem hof_P {f : Nat} {ret : Str} {K : T → Prop} (h : (hofR f ret r).P X K) : r.P (fun c t => c = f ∧ K t) fun _ => K (.str ret) := by
  cases r with
  | val t => exact h
  | exn c t =>
    have h : (if c = f then R.val t else .bad).P X K := h
    by_cases z : c = f
    · rw [if_pos z] at h
      exact ⟨z, h⟩
    · rw [if_neg z] at h
      exact h.elim
  | bad => exact h.elim
theorem okRg_ok {n : Int} (h : okRg n = true) : small n := by
  unfold okRg at h
  rw [Bool.and_eq_true] at h
  exact ⟨of_decide_eq_true h.1, of_decide_eq_true h.2⟩
end
theorem seq_stays {η : Sto} {u : T} {ts : List T} (h : seqOf η u = some ts) : stays (srcOf u) ts η := by
  cases u <;> first
    | exact True.intro
    | (rename_i a
       show get η a = some (.lst ts)
       simp only [seqOf] at h
       cases e : get η a with
       | none => rw [e] at h; cases h
       | some o =>
         rw [e] at h
         cases o <;> cases h <;> rfl)
theorem pcomp_ok {η : Sto} {st : Sto → Prop} (hs : st η) {g : T → RL} {f : T → Sto → KL → Prop} (hf : ∀ x (Kr : KL), (g x).P (fun _ _ => False) (fun r => Kr r η) → f x η Kr) {X : XP} : ∀ (xs acc : List T) {K : KL}, (pcomp g xs).P X (fun rs => K (acc ++ rs) η) → wcomp st f xs acc η K
  | [], acc, K, h => ⟨hs, by have h : K (acc ++ []) η := h; rw [List.append_nil] at h; exact h⟩
  | x :: xs, acc, K, h => ⟨hs, hf x _ ((toLL_P (rl := g x) h _).imp fun r h => pcomp_ok hs hf (X := X) xs (acc ++ r) ((toLL_P (rl := pcomp g xs) h X).imp fun rs h => by
      have h : K (acc ++ (r ++ rs)) η := h
      rw [← List.append_assoc] at h
      exact h))⟩
theorem mthB_ok {m : Mt} {o : T} {ts : List T} {η : Sto} {K : T → Prop} (h1 : mthB m o ts η = true) (h2 : optF (mthP m o ts η) K) : mthG m o ts η ∧ optF (mthV m o ts η) fun q => q.2 = η ∧ K q.1 := by
  cases m with
  | append => cases o <;> rcases ts with _ | ⟨t, _ | ⟨u, _ | ⟨w, ws⟩⟩⟩ <;> exact h2.elim
  | get2 =>
    cases o <;> rcases ts with _ | ⟨t, _ | ⟨u, _ | ⟨w, ws⟩⟩⟩ <;> first
      | exact h2.elim
      | exact ⟨h1, rfl, h2⟩
  | index =>
    rcases ts with _ | ⟨t, _ | ⟨u, us⟩⟩
    · cases o <;> exact h2.elim
    · have h2 : optF (((seqOf η o).bind (ixOf t)).map fun (k : Nat) => T.int k) K := by cases o <;> exact h2
      have h1 : (match seqOf η o with | some xs => inOk t xs | none => true) = true := by cases o <;> exact h1
      have g : mthG .index o [t] η = (match seqOf η o with | some xs => inOk t xs = true | none => True) := by cases o <;> rfl
      have e : mthV .index o [t] η = ((seqOf η o).bind (ixOf t)).map fun (k : Nat) => (T.int k, η) := by cases o <;> rfl
      rw [g, e]
      cases q : seqOf η o with
      | none => rw [q] at h2; exact h2.elim
      | some xs =>
        rw [q] at h1 h2
        refine ⟨h1, ?_⟩
        have h2 : optF ((ixOf t xs).map fun (k : Nat) => T.int k) K := h2
        show optF ((ixOf t xs).map fun (k : Nat) => (T.int k, η)) _
        cases q2 : ixOf t xs with
        | none => rw [q2] at h2; exact h2.elim
        | some k => rw [q2] at h2; exact ⟨rfl, h2⟩
    · cases o <;> exact h2.elim
  | join =>
    cases o <;> rcases ts with _ | ⟨t, _ | ⟨u, us⟩⟩ <;> first
      | exact h2.elim
      | (rename_i a
         have h2 : optF (((seqOf η t).bind strsL).map fun ys => T.str (Txt.join a ys)) K := h2
         have h1 : (match (seqOf η t).bind strsL with
           | some ys => decide ((ys.map (·.length)).sum + ys.length * a.length ≤ 16777216) && decide ((Txt.join a ys).length ≤ sizeLine)
           | none => true) = true := h1
         show (match (seqOf η t).bind strsL with
           | some ys => (ys.map (·.length)).sum + ys.length * a.length ≤ 16777216 ∧ (Txt.join a ys).length ≤ sizeLine
           | none => True) ∧ optF (((seqOf η t).bind strsL).map fun ys => (T.str (Txt.join a ys), η)) _
         cases q : (seqOf η t).bind strsL with
         | none => rw [q] at h2; exact h2.elim
         | some ys =>
           rw [q] at h1 h2
           simp only [Bool.and_eq_true, decide_eq_true_eq] at h1
           exact ⟨h1, rfl, h2⟩)
  | sw =>
    cases o <;> rcases ts with _ | ⟨t, _ | ⟨u, us⟩⟩ <;> first
      | exact h2.elim
      | (cases t <;> first
          | exact h2.elim
          | exact ⟨trivial, rfl, h2⟩)
  | indexT =>
    cases o <;> rcases ts with _ | ⟨t, _ | ⟨u, us⟩⟩ <;> first
      | exact h2.elim
      | (cases t <;> first
          | exact h2.elim
          | (rename_i xs z
             have h2 : optF ((strsL xs).bind fun _ => (ixOf (.str z) xs).map fun (k : Nat) => T.int k) K := h2
             refine ⟨trivial, ?_⟩
             show optF ((strsL xs).bind fun _ => (ixOf (.str z) xs).map fun (k : Nat) => (T.int k, η)) _
             cases q : strsL xs with
             | none => rw [q] at h2; exact h2.elim
             | some ys =>
               rw [q] at h2
               have h2 : optF ((ixOf (.str z) xs).map fun (k : Nat) => T.int k) K := h2
               show optF ((ixOf (.str z) xs).map fun (k : Nat) => (T.int k, η)) _
               cases q2 : ixOf (.str z) xs with
               | none => rw [q2] at h2; exact h2.elim
               | some k => rw [q2] at h2; exact ⟨rfl, h2⟩))
section
variable {η : Sto} {Φ : Nat → List T → R} {Ψ : Nat → List T → Sto → KX → KE → Prop} (hΦ : ∀ f ts X K, (Φ f ts).P (fun c t => X ⟨c, t⟩ η) (fun t => K t η) → Ψ f ts η X K)
include hΦ
mutual
theorem okPE : ∀ (e : E) (ρ : Env) {X : KX} {K : KE}, (pE η Φ e ρ).P (fun c t => X ⟨c, t⟩ η) (fun t => K t η) → wE Ψ e ρ η X K
  | .var i, ρ, X, K, h => ofO_P h
  | .cst t, ρ, X, K, h => h
  | .gcst _ t, ρ, X, K, h => h
  | .tup es, ρ, X, K, h => okPEs es ρ (RL.to_P h)
  | .lstV es, ρ, X, K, h => okPEs es ρ (RL.to_P h)
  | .bin o a b, ρ, X, K, h => okPE a ρ ((R.to_P h).imp fun u h => okPE b ρ ((R.to_P h).imp fun w h => ⟨bopB_ok (gR_P h).1, ofO_P (gR_P h).2⟩))
  | .neg a, ρ, X, K, h => okPE a ρ ((R.to_P h).imp fun u h => ofO_P h)
  | .catV a b, ρ, X, K, h => okPE a ρ ((R.to_P h).imp fun u h => okPE b ρ ((R.to_P h).imp fun w h => optF_imp (optR_P h) fun xs h => optF_imp (optR_P h) fun ys h => ⟨of_decide_eq_true (gR_P h).1, (gR_P h).2⟩))
  | .cmp o a b, ρ, X, K, h => okPE a ρ ((R.to_P h).imp fun u h => okPE b ρ ((R.to_P h).imp fun w h => pcmp_P h))
  | .chain o1 o2 a b c, ρ, X, K, h => okPE a ρ ((R.to_P h).imp fun u h => okPE b ρ ((R.to_P h).imp fun w h => cop_imp (pcmp_P h) fun k h => ifB_imp (ifR_P h) (fun h => okPE c ρ ((R.to_P h).imp fun z h => pcmp_P h)) fun h => h))
  | .and a b, ρ, X, K, h => okPE a ρ ((R.to_P h).imp fun u h => optF_imp (optR_P h) fun k h => ifB_imp (ifR_P h) (fun h => okPE b ρ h) fun h => h)
  | .or a b, ρ, X, K, h => okPE a ρ ((R.to_P h).imp fun u h => optF_imp (optR_P h) fun k h => ifB_imp (ifR_P h) (fun h => h) fun h => okPE b ρ h)
  | .not a, ρ, X, K, h => okPE a ρ ((R.to_P h).imp fun u h => optR_P h)
  | .ite c a b, ρ, X, K, h => okPC c ρ ((RB.to_P h).imp fun k h => ifB_imp (ifR_P h) (fun h => okPE a ρ h) fun h => okPE b ρ h)
  | .idx a i, ρ, X, K, h => okPE a ρ ((R.to_P h).imp fun u h => okPE i ρ ((R.to_P h).imp fun w h => ofO_P h))
  | .slc a lo hi, ρ, X, K, h => okPE a ρ ((R.to_P h).imp fun u h => okPO lo ρ ((RO.to_P h).imp fun i h => okPO hi ρ ((RO.to_P h).imp fun j h => ofO_P h)))
  | .isinst a t, ρ, X, K, h => okPE a ρ ((R.to_P h).imp fun u h => optR_P h)
  | .call f es, ρ, X, K, h => okPEs es ρ ((RL.to_P h).imp fun ts h => hΦ f ts X K h)
  | .callK f es kw perm, ρ, X, K, h => okPEs es ρ ((RL.to_P h).imp fun ts h => okPEs kw ρ ((RL.to_P h).imp fun us h => hΦ f _ X K h))
  | .lc own tg src c elt, ρ, X, K, h => okPI src ρ ((RI.to_P h).imp fun ts sr h hs => pcomp_ok hs (fun x Kr h => optF_imp (optL_P h) fun v h => okPC c ⟨v, ρ.x⟩ ((toL'_P h _).imp fun k h => by
      cases k with
      | true => exact okPE elt ⟨v, ρ.x⟩ (R.toL_P h)
      | false => exact h)) ts [] (RL.to_P h))
  | .agg g a, ρ, X, K, h => okPE a ρ ((R.to_P h).imp fun u h => optF_imp (optR_P h) fun ts h => by
      have h := ofO_P h
      cases g <;> first | exact h | exact h.elim)
  | .blt b es, ρ, X, K, h => okPEs es ρ ((RL.to_P h).imp fun ts h => ofO_P h)
  | .mth m o es, ρ, X, K, h => okPE o ρ ((R.to_P h).imp fun u h => ⟨(gR_P h).1, okPEs es ρ ((RL.to_P (gR_P h).2).imp fun ts h => by
      obtain ⟨a1, a2⟩ := mthB_ok (gR_P h).1 (ofO_P (gR_P h).2)
      exact ⟨a1, optF_imp a2 fun q z => by rw [z.1]; exact z.2⟩)⟩)
  | .lenSet own tg src elt, ρ, X, K, h => okPI src ρ ((RI.to_P h).imp fun ts sr h hs => ⟨of_decide_eq_true (gR_P h).1, pcomp_ok hs (fun x Kr h => optF_imp (optL_P h) fun v h => okPE elt ⟨v, ρ.x⟩ ((R.toL_P h).imp fun u h => ⟨(gL_P h).1, (gL_P h).2⟩)) ts [] (RL.to_P (gR_P h).2)⟩)
  | .hof f e ret, ρ, X, K, h => okPE e ρ (hof_P h)
  | .exc, ρ, X, K, h => ofO_P h
  | .lst _, ρ, X, K, h => h.elim
  | .cat _ _, ρ, X, K, h => h.elim
  | .lcM _ _ _ _ _, ρ, X, K, h => h.elim
  | .slcM _ _ _, ρ, X, K, h => h.elim
  | .frz _, ρ, X, K, h => h.elim
  | .weak _, ρ, X, K, h => h.elim
  | .gix _ _ _ _, ρ, X, K, h => h.elim
  | .gin _ _ _ _, ρ, X, K, h => h.elim
  | .dsel _ _ _, ρ, X, K, h => h.elim
theorem okPEs : ∀ (e : Es) (ρ : Env) {X : KX} {K : KL}, (pEs η Φ e ρ).P (fun c t => X ⟨c, t⟩ η) (fun t => K t η) → wEs Ψ e ρ η X K
  | .nil, ρ, X, K, h => h
  | .cons e es, ρ, X, K, h => okPE e ρ ((R.toL_P h).imp fun t h => okPEs es ρ (RL.toL_P h))
theorem okPC : ∀ (e : C) (ρ : Env) {X : KX} {K : Bool → Sto → Prop}, (pC η Φ e ρ).P (fun c t => X ⟨c, t⟩ η) (fun t => K t η) → wC Ψ e ρ η X K
  | .and a b, ρ, X, K, h => okPC a ρ ((RB.toB_P h).imp fun k h => ifB_imp (ifRB_P h) (fun h => okPC b ρ h) fun h => h)
  | .or a b, ρ, X, K, h => okPC a ρ ((RB.toB_P h).imp fun k h => ifB_imp (ifRB_P h) (fun h => h) fun h => okPC b ρ h)
  | .not a, ρ, X, K, h => okPC a ρ ((RB.toB_P h).imp fun k h => h)
  | .val e, ρ, X, K, h => okPE e ρ ((R.toB_P h).imp fun u h => optB_P h)
  | .tt, ρ, X, K, h => h
  | .cmp o a b, ρ, X, K, h => okPE a ρ ((R.toB_P h).imp fun u h => okPE b ρ ((R.toB_P h).imp fun w h => pcmpB_P h))
  | .chain o1 o2 a b c, ρ, X, K, h => okPE a ρ ((R.toB_P h).imp fun u h => okPE b ρ ((R.toB_P h).imp fun w h => cop_imp (pcmpB_P h) fun k h => ifB_imp (ifRB_P h) (fun h => okPE c ρ ((R.toB_P h).imp fun z h => pcmpB_P h)) fun h => h))
theorem okPI : ∀ (e : It) (ρ : Env) {X : KX} {K : List T → Option Addr → Sto → Prop}, (pI η Φ e ρ).P (fun c t => X ⟨c, t⟩ η) (fun ts sr => stays sr ts η → K ts sr η) → wI Ψ e ρ η X K
  | .seq e, ρ, X, K, h => okPE e ρ ((R.toI_P h).imp fun u h => optF_imp' (optI_P h) fun ts e h => (show stays (srcOf u) ts η → K ts (srcOf u) η from h) (seq_stays e))
  | .chars e, ρ, X, K, h => okPE e ρ ((R.toI_P h).imp fun u h => optF_imp (optI_P h) fun x h => (show True → _ from h) True.intro)
  | .range a, ρ, X, K, h => okPE a ρ ((R.toI_P h).imp fun u h => optF_imp (optI_P h) fun n h => ⟨okRg_ok (gI_P h).1, (show True → _ from (gI_P h).2) True.intro⟩)
  | .range2 a b, ρ, X, K, h => okPE a ρ ((R.toI_P h).imp fun u h => okPE b ρ ((R.toI_P h).imp fun w h => optF_imp (optI_P h) fun m h => optF_imp (optI_P h) fun n h => by
      obtain ⟨c, d⟩ := gI_P h
      simp only [Bool.and_eq_true, decide_eq_true_eq] at c
      exact ⟨okRg_ok c.1.1, okRg_ok c.1.2, c.2, (show True → _ from d) True.intro⟩))
  | .zip a b, ρ, X, K, h => okPE a ρ ((R.toI_P h).imp fun u h => okPE b ρ ((R.toI_P h).imp fun w h => optF_imp (optI_P h) fun xs h => optF_imp (optI_P h) fun ys h => (show True → _ from h) True.intro))
  | .enum a, ρ, X, K, h => okPE a ρ ((R.toI_P h).imp fun u h => optF_imp (optI_P h) fun xs h => (show True → _ from h) True.intro)
theorem okPO : ∀ (e : Op) (ρ : Env) {X : KX} {K : Option Int → Sto → Prop}, (pO η Φ e ρ).P (fun c t => X ⟨c, t⟩ η) (fun t => K t η) → wO Ψ e ρ η X K
  | .no, ρ, X, K, h => h
  | .some e, ρ, X, K, h => okPE e ρ ((R.toO_P h).imp fun u h => optO_P h)
end
end
/-! ### statements -/
def RS.P (r : RS) (η : Sto) (D : Dn) : Prop := match r with
  | .nx ρ => D.nx ρ η
  | .rt t => D.rt t η
  | .bk ρ => D.bk ρ η
  | .ct ρ => D.ct ρ η
  | .exn c t => D.X ⟨c, t⟩ η
  | .bad => False
section
variable {η : Sto}
theorem R.toS_P {r : R} {f : T → RS} {D : Dn} (h : (r.toS f).P η D) : r.P (fun c t => D.X ⟨c, t⟩ η) fun t => (f t).P η D := by cases r <;> exact h
theorem RB.toS_P {r : RB} {f : Bool → RS} {D : Dn} (h : (r.toS f).P η D) : r.P (fun c t => D.X ⟨c, t⟩ η) fun t => (f t).P η D := by cases r <;> exact h
theorem RI.toS_P {r : RI} {f : List T → RS} {D : Dn} (h : (r.toS f).P η D) : r.P (fun c t => D.X ⟨c, t⟩ η) fun t _ => (f t).P η D := by cases r <;> exact h
theorem optS_P {α : Type} {o : Option α} {f : α → RS} {D : Dn} (h : (optS o f).P η D) : optF o fun k => (f k).P η D := by cases o <;> exact h
theorem ifRS_P {k : Bool} {a b : RS} {D : Dn} (h : (ifR k a b).P η D) : ifB k (a.P η D) (b.P η D) := by cases k <;> exact h
theorem nxt_P {r : RS} {f : Env → RS} {D : Dn} (h : (r.nxt f).P η D) : r.P η ⟨fun ρ' η' => (f ρ').P η' D, D.rt, D.bk, D.ct, D.X⟩ := by cases r <;> exact h
theorem turn_P {r : RS} {f : Env → RS} {D : Dn} (h : (r.turn f).P η D) : r.P η ⟨fun ρ' η' => (f ρ').P η' D, D.rt, D.nx, fun ρ' η' => (f ρ').P η' D, D.X⟩ := by cases r <;> exact h
/-- only at this store -/
theorem RS.P.imp {r : RS} {D D' : Dn} (h : r.P η D) (a : ∀ ρ, D.nx ρ η → D'.nx ρ η) (b : ∀ t, D.rt t η → D'.rt t η) (c : ∀ ρ, D.bk ρ η → D'.bk ρ η) (d : ∀ ρ, D.ct ρ η → D'.ct ρ η) (e : ∀ x, D.X x η → D'.X x η) : r.P η D' := by
  cases r <;> first | exact a _ h | exact b _ h | exact c _ h | exact d _ h | exact e _ h | exact h
theorem pfor_ok {st : Sto → Prop} (hs : st η) {tg : Tg} {g : Env → RS} {body : Dn → Env → Sto → Prop} (hb : ∀ ρ D, (g ρ).P η D → body D ρ η) {D : Dn} : ∀ (ts : List T) (ρ : Env), (pfor tg g ts ρ).P η D → wfor st tg body D ts ρ η
  | [], ρ, h => ⟨hs, h⟩
  | x :: xs, ρ, h => ⟨hs, optF_imp (optS_P h) fun v h => hb _ _ ((turn_P h).imp (fun ρ' h => pfor_ok hs hb xs ρ' h) (fun _ h => h) (fun _ h => h) (fun ρ' h => pfor_ok hs hb xs ρ' h) fun _ h => h)⟩
theorem pwhile_ok {test : Env → RB} {test' : Env → Sto → (Bool → Sto → Prop) → Prop} {D : Dn} (ht : ∀ ρ (K : Bool → Sto → Prop), (test ρ).P (fun c t => D.X ⟨c, t⟩ η) (fun k => K k η) → test' ρ η K) {g : Env → RS} {body : Dn → Env → Sto → Prop} (hb : ∀ ρ D, (g ρ).P η D → body D ρ η) : ∀ (n : Nat) (ρ : Env), (pwhile test g n ρ).P η D → wwhile test' body D n ρ η
  | 0, ρ, h => h
  | n + 1, ρ, h => ht ρ _ ((RB.toS_P h).imp fun k h => ifB_imp (ifRS_P h) (fun h => hb _ _ ((turn_P h).imp (fun ρ' h => pwhile_ok ht hb n ρ' h) (fun _ h => h) (fun _ h => h) (fun ρ' h => pwhile_ok ht hb n ρ' h) fun _ h => h)) fun h => h)
variable {fu : Nat} {Φ : Nat → List T → R} {Ψ : Nat → List T → Sto → KX → KE → Prop} (hΦ : ∀ f ts X K, (Φ f ts).P (fun c t => X ⟨c, t⟩ η) (fun t => K t η) → Ψ f ts η X K)
include hΦ
mutual
theorem okPS : ∀ (s : S) (ρ : Env) {D : Dn}, (pS η fu Φ s ρ).P η D → wS Ψ s D ρ η
  | .expr e, ρ, D, h => okPE hΦ e ρ ((R.toS_P h).imp fun _ h => h)
  | .ret e, ρ, D, h => okPE hΦ e ρ ((R.toS_P h).imp fun _ h => h)
  | .retN, ρ, D, h => h
  | .set i e, ρ, D, h => okPE hΦ e ρ ((R.toS_P h).imp fun _ h => h)
  | .par i j a b, ρ, D, h => okPE hΦ a ρ ((R.toS_P h).imp fun _ h => okPE hΦ b ρ ((R.toS_P h).imp fun _ h => h))
  | .unp tg e, ρ, D, h => okPE hΦ e ρ ((R.toS_P h).imp fun _ h => optS_P h)
  | .iff c a b, ρ, D, h => okPC hΦ c ρ ((RB.toS_P h).imp fun k h => ifB_imp (ifRS_P h) (fun h => okPSs a ρ h) fun h => okPSs b ρ h)
  | .for tg it b, ρ, D, h => okPI hΦ it ρ ((RI.toS_P h).imp fun ts sr h hs => pfor_ok hs (fun ρ' D' h => okPSs b ρ' h) ts ρ h)
  | .while c b, ρ, D, h => ⟨fu, pwhile_ok (fun ρ' K h => okPC hΦ c ρ' h) (fun ρ' D' h => okPSs b ρ' h) fu ρ h⟩
  | .brk, ρ, D, h => h
  | .cont, ρ, D, h => h
  | .pass, ρ, D, h => h
  | .raise c e, ρ, D, h => okPE hΦ e ρ ((R.toS_P h).imp fun _ h => h)
  | .setIdx _ _ _, ρ, D, h => h.elim
  | .tryE _ _ _ _, ρ, D, h => h.elim
  | .weak, ρ, D, h => h.elim
theorem okPSs : ∀ (s : Ss) (ρ : Env) {D : Dn}, (pSs η fu Φ s ρ).P η D → wSs Ψ s D ρ η
  | .nil, ρ, D, h => h
  | .cons s r, ρ, D, h => okPS s ρ ((nxt_P h).imp (fun ρ' h => okPSs r ρ' h) (fun _ h => h) (fun _ h => h) (fun _ h => h) fun _ h => h)
end
end
theorem pcall_ok {η : Sto} {fu : Nat} {F : List Fd} : ∀ (n f : Nat) (ts : List T) (X : KX) (K : KE), (pcall η fu F n f ts).P (fun c t => X ⟨c, t⟩ η) (fun t => K t η) → wcall F n f ts η X K
  | 0, _, _, _, _, h => h
  | n + 1, f, ts, X, K, h => by
    unfold pcall at h
    show (match F[f]? with
      | some d => ts.length = d.np ∧ wSs (wcall F n) d.body ⟨fun _ η' => K .non η', K, fun _ _ => False, fun _ _ => False, X⟩ ⟨ts.map some ++ List.replicate (d.nl - d.np) none, none⟩ η
      | none => False)
    cases e : F[f]? with
    | none => rw [e] at h; exact h.elim
    | some d =>
      rw [e] at h
      have h : (if ts.length = d.np then endR (pSs η fu (pcall η fu F n) d.body ⟨ts.map some ++ List.replicate (d.nl - d.np) none, none⟩) else .bad).P _ _ := h
      by_cases c : ts.length = d.np
      · rw [if_pos c] at h
        refine ⟨c, okPSs (fu := fu) (Φ := pcall η fu F n) (fun f ts X K h => pcall_ok n f ts X K h) d.body _ ?_⟩
        cases q : pSs η fu (pcall η fu F n) d.body ⟨ts.map some ++ List.replicate (d.nl - d.np) none, none⟩ <;> rw [q] at h <;> first | exact h | exact h.elim
      · rw [if_neg c] at h
        exact h.elim
theorem pcall_val {η : Sto} {fu : Nat} {F : List Fd} {n f : Nat} {ts : List T} {t : T} {X : KX} {K : KE} (h : pcall η fu F n f ts = .val t) (k : K t η) : wcall F n f ts η X K := pcall_ok n f ts X K (by rw [h]; exact k)
theorem pcall_exn {η : Sto} {fu : Nat} {F : List Fd} {n f : Nat} {ts : List T} {c : Nat} {t : T} {X : KX} {K : KE} (h : pcall η fu F n f ts = .exn c t) (k : X ⟨c, t⟩ η) : wcall F n f ts η X K := pcall_ok n f ts X K (by rw [h]; exact k)
/-! ### loops by name (so that a rewriting leaves their bodies alone) -/
section
variable {η : Sto} {fu : Nat} {Φ : Nat → List T → R} {ρ : Env}
def pforS (η : Sto) (fu : Nat) (Φ : Nat → List T → R) (tg : Tg) (b : Ss) (ts : List T) (ρ : Env) : RS := pfor tg (fun ρ' => pSs η fu Φ b ρ') ts ρ
def pcompS (η : Sto) (Φ : Nat → List T → R) (own : List Nat) (tg : Tg) (c : C) (elt : E) (ρ : Env) (ts : List T) : RL :=
  pcomp (fun x => optL (bindTg tg x (setvs ρ.v own)) fun v => (pC η Φ c ⟨v, ρ.x⟩).toL' fun k => ifR k ((pE η Φ elt ⟨v, ρ.x⟩).toL fun u => .val [u]) (.val [])) ts
def psetS (η : Sto) (Φ : Nat → List T → R) (own : List Nat) (tg : Tg) (elt : E) (ρ : Env) (ts : List T) : RL :=
  pcomp (fun x => optL (bindTg tg x (setvs ρ.v own)) fun v => (pE η Φ elt ⟨v, ρ.x⟩).toL fun u => gL (keyT u) (.val [u])) ts
def pwhS (η : Sto) (fu : Nat) (Φ : Nat → List T → R) (c : C) (b : Ss) (n : Nat) (ρ : Env) : RS := pwhile (fun ρ' => pC η Φ c ρ') (fun ρ' => pSs η fu Φ b ρ') n ρ
theorem e_for {tg : Tg} {it : It} {b : Ss} : pS η fu Φ (.for tg it b) ρ = (pI η Φ it ρ).toS fun ts => pforS η fu Φ tg b ts ρ := rfl
theorem e_while {c : C} {b : Ss} : pS η fu Φ (.while c b) ρ = pwhS η fu Φ c b fu ρ := rfl
theorem e_lc {own : List Nat} {tg : Tg} {src : It} {c : C} {elt : E} : pE η Φ (.lc own tg src c elt) ρ = (pI η Φ src ρ).to fun ts => (pcompS η Φ own tg c elt ρ ts).to fun us => .val (.cl us) := rfl
theorem e_lenSet {own : List Nat} {tg : Tg} {src : It} {elt : E} : pE η Φ (.lenSet own tg src elt) ρ = (pI η Φ src ρ).to fun ts => gR (decide (ts.length ≤ 1000)) ((psetS η Φ own tg elt ρ ts).to fun us => .val (.int (dedup us).length)) := rfl
theorem pforS_nil {tg : Tg} {b : Ss} : pforS η fu Φ tg b [] ρ = .nx ρ := rfl
theorem pforS_cons {tg : Tg} {b : Ss} {x : T} {xs : List T} : pforS η fu Φ tg b (x :: xs) ρ = optS (bindTg tg x ρ.v) fun v => (pSs η fu Φ b ⟨v, ρ.x⟩).turn fun ρ' => pforS η fu Φ tg b xs ρ' := rfl
theorem pcompS_nil {own : List Nat} {tg : Tg} {c : C} {elt : E} : pcompS η Φ own tg c elt ρ [] = .val [] := rfl
theorem pcompS_cons {own : List Nat} {tg : Tg} {c : C} {elt : E} {x : T} {xs : List T} : pcompS η Φ own tg c elt ρ (x :: xs) = (optL (bindTg tg x (setvs ρ.v own)) fun v => (pC η Φ c ⟨v, ρ.x⟩).toL' fun k => ifR k ((pE η Φ elt ⟨v, ρ.x⟩).toL fun u => .val [u]) (.val [])).toL' fun r => (pcompS η Φ own tg c elt ρ xs).toL' fun rs => .val (r ++ rs) := rfl
theorem psetS_nil {own : List Nat} {tg : Tg} {elt : E} : psetS η Φ own tg elt ρ [] = .val [] := rfl
theorem psetS_cons {own : List Nat} {tg : Tg} {elt : E} {x : T} {xs : List T} : psetS η Φ own tg elt ρ (x :: xs) = (optL (bindTg tg x (setvs ρ.v own)) fun v => (pE η Φ elt ⟨v, ρ.x⟩).toL fun u => gL (keyT u) (.val [u])).toL' fun r => (psetS η Φ own tg elt ρ xs).toL' fun rs => .val (r ++ rs) := rfl
theorem pwhS_succ {c : C} {b : Ss} {n : Nat} : pwhS η fu Φ c b (n + 1) ρ = (pC η Φ c ρ).toS fun k => ifR k ((pSs η fu Φ b ρ).turn fun ρ' => pwhS η fu Φ c b n ρ') (.nx ρ) := rfl
end
end TL

set_option maxHeartbeats 4000000
/-! an evaluator of the small language in which what a name alone holds is a value that may change -/
namespace TL
open PySem PySem.Spec PyProof.Rows L2
/-- a thing that may change: a flat list, a flat dict, a list of such, a dict of such -/
inductive M
  | vl (xs : List T) | vd (ks vs : List T) | ll (xs : List M) | ld (ks : List T) (xs : List M)
/-- what a name holds: nothing that may be asked for, a value, a thing that it alone holds -/
inductive Sl
  | no | val (t : T) | own (m : M)
abbrev Vn := List Sl
/-- what an expression gives: a value, the thing that a name holds, a thing that nobody holds yet -/
inductive Bv
  | p (t : T) | s (i : Nat) | f (m : M)
inductive Q (α : Type)
  | ok (a : α) (v : Vn) | exn (c : Nat) (t : T) (v : Vn) | bad
/-- what a call gives: the answer, what the parameters hold then -/
inductive QC
  | val (b : Bv) (ps : Vn) | exn (c : Nat) (t : T) (ps : Vn) | bad
inductive QS
  | nx (v : Vn) (x : Option T) | rt (b : Bv) (v : Vn) | bk (v : Vn) (x : Option T) | ct (v : Vn) (x : Option T) | exn (c : Nat) (t : T) (v : Vn) | bad
def Q.to {α β : Type} (r : Q α) (k : α → Vn → Q β) : Q β := match r with
  | .ok a v => k a v
  | .exn c t v => .exn c t v
  | .bad => .bad
def Q.toP {β : Type} (r : Q Bv) (k : T → Vn → Q β) : Q β := match r with
  | .ok (.p t) v => k t v
  | .ok _ _ => .bad
  | .exn c t v => .exn c t v
  | .bad => .bad
def Q.toS {α : Type} (r : Q α) (k : α → Vn → QS) : QS := match r with
  | .ok a v => k a v
  | .exn c t v => .exn c t v
  | .bad => .bad
def Q.toPS (r : Q Bv) (k : T → Vn → QS) : QS := match r with
  | .ok (.p t) v => k t v
  | .ok _ _ => .bad
  | .exn c t v => .exn c t v
  | .bad => .bad
/-- no exception may leave -/
def Q.to' {α β : Type} (r : Q α) (k : α → Vn → Q β) : Q β := match r with
  | .ok a v => k a v
  | _ => .bad
def QC.q (r : QC) (k : Bv → Vn → Q Bv) (x : Vn → Vn) : Q Bv := match r with
  | .val (.p t) ps => k (.p t) ps
  | .val (.f m) ps => k (.f m) ps
  | .val (.s _) _ => .bad
  | .exn c t ps => .exn c t (x ps)
  | .bad => .bad
def QS.nxt (r : QS) (f : Vn → Option T → QS) : QS := match r with
  | .nx v x => f v x
  | .rt b v => .rt b v
  | .bk v x => .bk v x
  | .ct v x => .ct v x
  | .exn c t v => .exn c t v
  | .bad => .bad
def QS.turn (r : QS) (f : Vn → Option T → QS) : QS := match r with
  | .nx v x => f v x
  | .ct v x => f v x
  | .bk v x => .nx v x
  | .rt b v => .rt b v
  | .exn c t v => .exn c t v
  | .bad => .bad
def oQ {α β : Type} (o : Option α) (k : α → Q β) : Q β := match o with
  | some a => k a
  | none => .bad
def oS {α : Type} (o : Option α) (k : α → QS) : QS := match o with
  | some a => k a
  | none => .bad
def bQ {β : Type} (b : Bool) (k : Q β) : Q β := match b with
  | true => k
  | false => .bad
def bS (b : Bool) (k : QS) : QS := match b with
  | true => k
  | false => .bad
def slot : Vn → Nat → Sl
  | [], _ => .no
  | s :: _, 0 => s
  | _ :: r, n + 1 => slot r n
def setS : Vn → Nat → Sl → Vn
  | [], _, _ => []
  | _ :: r, 0, s => s :: r
  | a :: r, n + 1, s => a :: setS r n s
def M.view : M → Option T
  | .vl xs => some (.cl xs)
  | _ => none
def Sl.view : Sl → Option T
  | .own m => m.view
  | _ => none
def Bv.rd (v : Vn) : Bv → Option T
  | .p t => some t
  | .s i => (slot v i).view
  | .f m => m.view
/-- the arguments of a call, taken out of the names -/
def takeA : List Bv → Vn → Option (Vn × Vn)
  | [], v => some ([], v)
  | .p t :: r, v => (takeA r v).map fun q => (.val t :: q.1, q.2)
  | .f m :: r, v => (takeA r v).map fun q => (.own m :: q.1, q.2)
  | .s i :: r, v => match slot v i with
    | .own m => (takeA r (setS v i .no)).map fun q => (.own m :: q.1, q.2)
    | _ => none
/-- .. and laid back -/
def backA : List Bv → Vn → Vn → Vn
  | .s i :: r, .own m :: ps, v => backA r ps (setS v i (.own m))
  | _ :: r, _ :: ps, v => backA r ps v
  | _, _, v => v
def rdAll (v : Vn) : List Bv → Option (List T)
  | [] => some []
  | b :: r => (b.rd v).bind fun t => (rdAll v r).map (t :: ·)
/-- the places that a target stores -/
def tgI : Tg → List Nat
  | .name i => [i]
  | .two i j => [i, j]
def bindV : Tg → T → Vn → Option Vn
  | .name i, t, v => some (setS v i (.val t))
  | .two i j, .tup [t, u], v => some (setS (setS v i (.val t)) j (.val u))
  | _, _, _ => none
def plainS : Sl → Bool
  | .own _ => false
  | _ => true
/-- names of a comprehension's own: empty ahead of each turn, as they were behind -/
def clrs (v : Vn) : List Nat → Vn
  | [] => v
  | i :: r => clrs (setS v i .no) r
def rsts (v0 : Vn) (v : Vn) : List Nat → Vn
  | [] => v
  | i :: r => rsts v0 (setS v i (slot v0 i)) r
/-- what is walked: the items; the name that holds them -/
inductive Src
  | free | own (i : Nat)
def lock (v : Vn) : Src → Vn
  | .free => v
  | .own i => setS v i .no
def unlock (v0 : Vn) (v : Vn) : Src → Vn
  | .free => v
  | .own i => setS v i (slot v0 i)
def lockB (ow : List Nat) : Src → Bool
  | .free => true
  | .own i => !ow.contains i
def pinS (pin : List Nat) : Src → List Nat
  | .free => pin
  | .own i => i :: pin
/-- a comprehension's turns -/
def qcomp (f : T → Vn → Q (List T)) : List T → Vn → Q (List T)
  | [], v => .ok [] v
  | x :: xs, v => (f x v).to' fun r v1 => (qcomp f xs v1).to' fun rs v2 => .ok (r ++ rs) v2
def qfor (pin : List Nat) (tg : Tg) (body : Vn → Option T → QS) : List T → Vn → Option T → QS
  | [], v, x => .nx v x
  | y :: ys, v, x => bS ((tgI tg).all fun i => !pin.contains i) (oS (bindV tg y v) fun v' => (body v' x).turn fun v'' x' => qfor pin tg body ys v'' x')
def qwhile (test : Vn → Option T → Q Bool) (body : Vn → Option T → QS) : Nat → Vn → Option T → QS
  | 0, _, _ => .bad
  | n + 1, v, x => (test v x).toS fun b v' => match b with
    | true => (body v' x).turn fun v'' x' => qwhile test body n v'' x'
    | false => .nx v' x
def Sl.lst : Sl → Option (List T)
  | .own (.vl xs) => some xs
  | _ => none
def mutB : Mt → Bool
  | .append => true
  | _ => false
/-- methods that change a list that a name holds -/
def mthS (m : Mt) (i : Nat) (xs ts : List T) (v : Vn) : Q Bv := match m, ts with
  | .append, [t] => bQ (decide (xs.length < sizeLine)) (.ok (.p .non) (setS v i (.own (.vl (xs ++ [t])))))
  | _, _ => .bad
/-- what stands on the left of in is a value -/
def leftB (o : Cop) (b : Bv) : Bool := match o, b with
  | .inn, .p _ => true
  | .nin, .p _ => true
  | .inn, _ => false
  | .nin, _ => false
  | _, _ => true
/-- a call -/
def qdo (Ψ : Nat → Vn → QC) (f : Nat) (bs : List Bv) (v : Vn) : Q Bv :=
  oQ (takeA bs v) fun q => (Ψ f q.1).q (fun b ps => .ok b (backA bs ps q.2)) fun ps => backA bs ps q.2
mutual
def qE (Ψ : Nat → Vn → QC) : E → Vn → Option T → Q Bv
  | .var i, v, _ => match slot v i with
    | .val t => .ok (.p t) v
    | .own _ => .ok (.s i) v
    | .no => .bad
  | .cst t, v, _ => .ok (.p t) v
  | .gcst _ t, v, _ => .ok (.p t) v
  | .tup es, v, x => (qPs Ψ es v x).to fun ts v1 => .ok (.p (.tup ts)) v1
  | .lst es, v, x => (qPs Ψ es v x).to fun ts v1 => .ok (.f (.vl ts)) v1
  | .lstV es, v, x => (qPs Ψ es v x).to fun ts v1 => .ok (.p (.cl ts)) v1
  | .bin o a b, v, x => (qE Ψ a v x).toP fun u v1 => (qE Ψ b v1 x).toP fun w v2 => bQ (bopB o u w) (oQ (bopV o u w) fun t => .ok (.p t) v2)
  | .neg a, v, x => (qE Ψ a v x).toP fun u v1 => oQ (negV u) fun t => .ok (.p t) v1
  | .cat a b, v, x => (qE Ψ a v x).to fun p v1 => (qE Ψ b v1 x).to fun q v2 => oQ (p.rd v2) fun u => oQ (q.rd v2) fun w => oQ (lstOf [] u) fun xs => oQ (lstOf [] w) fun ys => bQ (decide (xs.length + ys.length ≤ sizeLine)) (.ok (.f (.vl (xs ++ ys))) v2)
  | .catV a b, v, x => (qE Ψ a v x).to fun p v1 => (qE Ψ b v1 x).to fun q v2 => oQ (p.rd v2) fun u => oQ (q.rd v2) fun w => oQ (lstOf [] u) fun xs => oQ (lstOf [] w) fun ys => bQ (decide (xs.length + ys.length ≤ sizeLine)) (.ok (.p (.cl (xs ++ ys))) v2)
  | .cmp o a b, v, x => (qE Ψ a v x).to fun p v1 => (qE Ψ b v1 x).to fun q v2 => oQ (p.rd v2) fun u => oQ (q.rd v2) fun w => bQ (leftB o p && copG o u w []) (oQ (copV o u w []) fun k => .ok (.p (.bl k)) v2)
  | .chain o1 o2 a b c, v, x => (qE Ψ a v x).toP fun u v1 => (qE Ψ b v1 x).toP fun w v2 => bQ (copG o1 u w []) (oQ (copV o1 u w []) fun k => match k with
    | true => (qE Ψ c v2 x).toP fun z v3 => bQ (copG o2 w z []) (oQ (copV o2 w z []) fun k2 => .ok (.p (.bl k2)) v3)
    | false => .ok (.p (.bl false)) v2)
  | .and a b, v, x => (qE Ψ a v x).toP fun u v1 => oQ (tru [] u) fun k => match k with
    | true => qE Ψ b v1 x
    | false => .ok (.p u) v1
  | .or a b, v, x => (qE Ψ a v x).toP fun u v1 => oQ (tru [] u) fun k => match k with
    | true => .ok (.p u) v1
    | false => qE Ψ b v1 x
  | .not a, v, x => (qE Ψ a v x).to fun p v1 => oQ (p.rd v1) fun u => oQ (tru [] u) fun k => .ok (.p (.bl (!k))) v1
  | .ite c a b, v, x => (qC Ψ c v x).to fun k v1 => match k with
    | true => qE Ψ a v1 x
    | false => qE Ψ b v1 x
  | .idx a i, v, x => (qE Ψ a v x).to fun p v1 => (qE Ψ i v1 x).toP fun w v2 => oQ (p.rd v2) fun u => oQ (idxV [] u w) fun t => .ok (.p t) v2
  | .slc a lo hi, v, x => (qE Ψ a v x).to fun p v1 => (qO Ψ lo v1 x).to fun i v2 => (qO Ψ hi v2 x).to fun j v3 => oQ (p.rd v3) fun u => oQ (slcV u i j []) fun t => .ok (.p t) v3
  | .slcM a lo hi, v, x => (qE Ψ a v x).to fun p v1 => (qO Ψ lo v1 x).to fun i v2 => (qO Ψ hi v2 x).to fun j v3 => oQ (p.rd v3) fun u => oQ (slcMV u i j []) fun ts => .ok (.f (.vl ts)) v3
  | .isinst a t, v, x => (qE Ψ a v x).toP fun u v1 => oQ (isT [] t u) fun b => .ok (.p (.bl b)) v1
  | .call f es, v, x => (qRs Ψ es v x).to fun bs v1 => qdo Ψ f bs v1
  | .callK f es kw perm, v, x => (qPs Ψ es v x).to fun ts v1 => (qPs Ψ kw v1 x).to fun us v2 => qdo Ψ f ((perm.map fun i => (ts ++ us).getD i .non).map .p) v2
  | .lc own tg src c elt, v, x => (qI Ψ src v x).to fun q v1 => bQ (own.all (fun i => plainS (slot v1 i)) && (lockB own q.2 && (tgI tg).all fun i => own.contains i))
      ((qcomp (fun y v2 => oQ (bindV tg y (clrs v2 own)) fun v3 => (qC Ψ c v3 x).to' fun k v4 => match k with
        | true => (qE Ψ elt v4 x).toP fun u v5 => .ok [u] (clrs v5 own)
        | false => .ok [] (clrs v4 own)) q.1 (lock v1 q.2)).to' fun us v6 => .ok (.p (.cl us)) (rsts v1 (unlock v1 v6 q.2) own))
  | .lcM own tg src c elt, v, x => (qI Ψ src v x).to fun q v1 => bQ (own.all (fun i => plainS (slot v1 i)) && (lockB own q.2 && (tgI tg).all fun i => own.contains i))
      ((qcomp (fun y v2 => oQ (bindV tg y (clrs v2 own)) fun v3 => (qC Ψ c v3 x).to' fun k v4 => match k with
        | true => (qE Ψ elt v4 x).toP fun u v5 => .ok [u] (clrs v5 own)
        | false => .ok [] (clrs v4 own)) q.1 (lock v1 q.2)).to' fun us v6 => .ok (.f (.vl us)) (rsts v1 (unlock v1 v6 q.2) own))
  | .agg g a, v, x => (qE Ψ a v x).to fun p v1 => oQ (p.rd v1) fun u => oQ (aggS g [] u) fun ts => match g with
    | .listM => .ok (.f (.vl ts)) v1
    | g => oQ (aggV g ts) fun t => .ok (.p t) v1
  | .blt b es, v, x => (qRs Ψ es v x).to fun bs v1 => oQ (rdAll v1 bs) fun us => oQ (bltV b us []) fun t => .ok (.p t) v1
  | .mth m o es, v, x => (qE Ψ o v x).to fun b v1 => match b with
    | .s i => bQ (mutB m) (oQ (slot v1 i).lst fun _ => (qPs Ψ es v1 x).to fun ts v2 => oQ (slot v2 i).lst fun xs => mthS m i xs ts v2)
    | .p u => bQ (mthT m u []) ((qPs Ψ es v1 x).to fun ts v2 => bQ (mthB m u ts []) (oQ (mthP m u ts []) fun t => .ok (.p t) v2))
    | .f _ => .bad
  | .lenSet own tg src elt, v, x => (qI Ψ src v x).to fun q v1 => bQ (decide (q.1.length ≤ 1000) && (own.all (fun i => plainS (slot v1 i)) && (lockB own q.2 && (tgI tg).all fun i => own.contains i)))
      ((qcomp (fun y v2 => oQ (bindV tg y (clrs v2 own)) fun v3 => (qE Ψ elt v3 x).toP fun u v5 => bQ (keyT u) (.ok [u] (clrs v5 own))) q.1 (lock v1 q.2)).to' fun us v6 => .ok (.p (.int (dedup us).length)) (rsts v1 (unlock v1 v6 q.2) own))
  | .hof f e ret, v, x => match qE Ψ e v x with
    | .ok _ v1 => .ok (.p (.str ret)) v1
    | .exn c t v1 => match decide (c = f) with
      | true => .ok (.p t) v1
      | false => .bad
    | .bad => .bad
  | .exc, v, x => oQ x fun t => .ok (.p t) v
  | .frz i, v, _ => oQ (slot v i).lst fun xs => .ok (.p (.cl xs)) (setS v i .no)
  | .weak e, v, x => qE Ψ e v x
  | .gix _ ks vs e, v, x => (qE Ψ e v x).toP fun u v1 => oQ (strV u) fun z => oQ (lookS z ks vs) fun t => .ok (.p t) v1
  | .gin neg _ ks e, v, x => (qE Ψ e v x).toP fun u v1 => oQ (strV u) fun z => .ok (.p (.bl (neg != ks.contains z))) v1
  | .dsel ks vs e, v, x => (qE Ψ e v x).toP fun u v1 => oQ (strV u) fun z => oQ (lookS z ks vs) fun t => .ok (.p t) v1
def qPs (Ψ : Nat → Vn → QC) : Es → Vn → Option T → Q (List T)
  | .nil, v, _ => .ok [] v
  | .cons e es, v, x => (qE Ψ e v x).toP fun t v1 => (qPs Ψ es v1 x).to fun ts v2 => .ok (t :: ts) v2
def qRs (Ψ : Nat → Vn → QC) : Es → Vn → Option T → Q (List Bv)
  | .nil, v, _ => .ok [] v
  | .cons e es, v, x => (qE Ψ e v x).to fun b v1 => (qRs Ψ es v1 x).to fun bs v2 => .ok (b :: bs) v2
def qC (Ψ : Nat → Vn → QC) : C → Vn → Option T → Q Bool
  | .and a b, v, x => (qC Ψ a v x).to fun k v1 => match k with
    | true => qC Ψ b v1 x
    | false => .ok false v1
  | .or a b, v, x => (qC Ψ a v x).to fun k v1 => match k with
    | true => .ok true v1
    | false => qC Ψ b v1 x
  | .not a, v, x => (qC Ψ a v x).to fun k v1 => .ok (!k) v1
  | .val e, v, x => (qE Ψ e v x).to fun p v1 => oQ (p.rd v1) fun u => oQ (tru [] u) fun k => .ok k v1
  | .tt, v, _ => .ok true v
  | .cmp o a b, v, x => (qE Ψ a v x).to fun p v1 => (qE Ψ b v1 x).to fun q v2 => oQ (p.rd v2) fun u => oQ (q.rd v2) fun w => bQ (leftB o p && copG o u w []) (oQ (copV o u w []) fun k => .ok k v2)
  | .chain o1 o2 a b c, v, x => (qE Ψ a v x).toP fun u v1 => (qE Ψ b v1 x).toP fun w v2 => bQ (copG o1 u w []) (oQ (copV o1 u w []) fun k => match k with
    | true => (qE Ψ c v2 x).toP fun z v3 => bQ (copG o2 w z []) (oQ (copV o2 w z []) fun k2 => .ok k2 v3)
    | false => .ok false v2)
def qI (Ψ : Nat → Vn → QC) : It → Vn → Option T → Q (List T × Src)
  | .seq e, v, x => (qE Ψ e v x).to fun p v1 => oQ (p.rd v1) fun u => oQ (seqOf [] u) fun ts => match p with
    | .s i => .ok (ts, .own i) v1
    | .p _ => .ok (ts, .free) v1
    | .f _ => .bad
  | .chars e, v, x => (qE Ψ e v x).toP fun u v1 => oQ (strV u) fun y => .ok (charsL y, .free) v1
  | .range a, v, x => (qE Ψ a v x).toP fun u v1 => oQ (intV u) fun n => bQ (okRg n) (.ok (rangeL 0 n.toNat, .free) v1)
  | .range2 a b, v, x => (qE Ψ a v x).toP fun u v1 => (qE Ψ b v1 x).toP fun w v2 => oQ (intV u) fun m => oQ (intV w) fun n => bQ (okRg m && okRg n && decide (n - m ≤ 16777216)) (.ok (rangeL m (n - m).toNat, .free) v2)
  | .zip a b, v, x => (qE Ψ a v x).toP fun u v1 => (qE Ψ b v1 x).toP fun w v2 => oQ (stillV [] u) fun xs => oQ (stillV [] w) fun ys => .ok (zipL xs ys, .free) v2
  | .enum a, v, x => (qE Ψ a v x).toP fun u v1 => oQ (stillV [] u) fun xs => .ok (enumL 0 xs, .free) v1
def qO (Ψ : Nat → Vn → QC) : Op → Vn → Option T → Q (Option Int)
  | .no, v, _ => .ok none v
  | .some e, v, x => (qE Ψ e v x).toP fun u v1 => oQ (intV u) fun i => .ok (some i) v1
end
/-- a name's new thing: values, what is nobody's, what another name held -/
def stoV (pin : List Nat) (i : Nat) (b : Bv) (v : Vn) : Option Vn := match pin.contains i with
  | true => none
  | false => match b with
    | .p t => some (setS v i (.val t))
    | .f m => some (setS v i (.own m))
    | .s j => match slot v j with
      | .own m => some (setS (setS v j .no) i (.own m))
      | _ => none
/-- what is given back -/
def outV (b : Bv) (v : Vn) : Option (Bv × Vn) := match b with
  | .p t => some (.p t, v)
  | .f m => some (.f m, v)
  | .s j => match slot v j with
    | .own m => some (.f m, setS v j .no)
    | _ => none
mutual
def qS (Ψ : Nat → Vn → QC) (fu : Nat) : List Nat → S → Vn → Option T → QS
  | _, .expr e, v, x => (qE Ψ e v x).toS fun _ v1 => .nx v1 x
  | _, .ret e, v, x => (qE Ψ e v x).toS fun b v1 => oS (outV b v1) fun q => .rt q.1 q.2
  | _, .retN, v, _ => .rt (.p .non) v
  | pin, .set i e, v, x => (qE Ψ e v x).toS fun b v1 => oS (stoV pin i b v1) fun v2 => .nx v2 x
  | pin, .par i j a b, v, x => (qE Ψ a v x).toPS fun t v1 => (qE Ψ b v1 x).toPS fun u v2 => oS (stoV pin i (.p t) v2) fun v3 => oS (stoV pin j (.p u) v3) fun v4 => .nx v4 x
  | pin, .unp tg e, v, x => (qE Ψ e v x).toPS fun t v1 => bS ((tgI tg).all fun i => !pin.contains i) (oS (bindV tg t v1) fun v2 => .nx v2 x)
  | _, .setIdx a i e, v, x => (qE Ψ e v x).toPS fun t v1 => (qE Ψ a v1 x).toS fun b v2 => match b with
    | .s j => oS (slot v2 j).lst fun _ => (qE Ψ i v2 x).toPS fun w v3 => oS (slot v3 j).lst fun xs => oS (intV w) fun k => oS (ixN xs.length k) fun n => .nx (setS v3 j (.own (.vl (xs.set n t)))) x
    | _ => .bad
  | pin, .iff c a b, v, x => (qC Ψ c v x).toS fun k v1 => match k with
    | true => qSs Ψ fu pin a v1 x
    | false => qSs Ψ fu pin b v1 x
  | pin, .for tg it b, v, x => (qI Ψ it v x).toS fun q v1 => (qfor (pinS pin q.2) tg (fun v' x' => qSs Ψ fu (pinS pin q.2) b v' x') q.1 (lock v1 q.2) x).nxt fun v2 x2 => .nx (unlock v1 v2 q.2) x2
  | pin, .while c b, v, x => qwhile (fun v' x' => qC Ψ c v' x') (fun v' x' => qSs Ψ fu pin b v' x') fu v x
  | _, .brk, v, x => .bk v x
  | _, .cont, v, x => .ct v x
  | _, .pass, v, x => .nx v x
  | _, .raise c e, v, x => (qE Ψ e v x).toPS fun u v1 => .exn c u v1
  | pin, .tryE k e c b, v, x => match qE Ψ e v x with
    | .exn c' t v1 => match decide (c' = c) with
      | true => qSs Ψ fu pin b v1 (some t)
      | false => .exn c' t v1
    | .ok r v1 => (match k with
      | 0 => .nx v1 x
      | 1 => oS (outV r v1) fun q => .rt q.1 q.2
      | i + 2 => oS (stoV pin i r v1) fun v2 => .nx v2 x)
    | .bad => .bad
  | _, .weak, v, x => .nx v x
def qSs (Ψ : Nat → Vn → QC) (fu : Nat) : List Nat → Ss → Vn → Option T → QS
  | _, .nil, v, x => .nx v x
  | pin, .cons s r, v, x => (qS Ψ fu pin s v x).nxt fun v1 x1 => qSs Ψ fu pin r v1 x1
end
/-- the parameters that hold a thing of the caller's -/
def pinsOf : Nat → Vn → List Nat
  | _, [] => []
  | k, .own _ :: r => k :: pinsOf (k + 1) r
  | k, _ :: r => pinsOf (k + 1) r
/-- what the pinned parameters hold at the end -/
def keepP (pin : List Nat) : Nat → Nat → Vn → Vn
  | _, 0, _ => []
  | k, n + 1, [] => .no :: keepP pin (k + 1) n []
  | k, n + 1, s :: r => (match pin.contains k with
    | true => s
    | false => .no) :: keepP pin (k + 1) n r
def endQ (pin : List Nat) (np : Nat) : QS → QC
  | .nx v _ => .val (.p .non) (keepP pin 0 np v)
  | .rt b v => .val b (keepP pin 0 np v)
  | .exn c t v => .exn c t (keepP pin 0 np v)
  | _ => .bad
def qcall (fu : Nat) (F : List Fd) : Nat → Nat → Vn → QC
  | 0, _, _ => .bad
  | n + 1, f, ps => match F[f]? with
    | some d => (match decide (ps.length = d.np) with
      | true => endQ (pinsOf 0 ps) d.np (qSs (qcall fu F n) fu (pinsOf 0 ps) d.body (ps ++ List.replicate (d.nl - d.np) .no) none)
      | false => .bad)
    | none => .bad
end TL

set_option maxHeartbeats 1000000
/-! how what names alone hold lies in the store -/
namespace TL
open PySem PySem.Spec PyProof.Rows L2
/-! ### stores -/
def sel (η : Sto) (F : List Addr) : Sto := η.filter fun q => F.contains q.1
def outS (η : Sto) (F : List Addr) : Sto := η.filter fun q => !F.contains q.1
theorem get_sel {η : Sto} {F : List Addr} {a : Addr} : get (sel η F) a = if a ∈ F then get η a else none := by
  induction η with
  | nil => simp [sel, get]
  | cons q r ih =>
    obtain ⟨b, o⟩ := q
    unfold sel at ih ⊢
    by_cases hb : b ∈ F
    · rw [List.filter_cons_of_pos (by simpa using hb), get_cons, get_cons, ih]
      by_cases e : a = b
      · subst e; simp [hb]
      · simp [e]
    · rw [List.filter_cons_of_neg (by simpa using hb), ih, get_cons]
      by_cases e : a = b
      · subst e; simp [hb]
      · simp [e]
theorem get_outS {η : Sto} {F : List Addr} {a : Addr} : get (outS η F) a = if a ∈ F then none else get η a := by
  induction η with
  | nil => simp [outS, get]
  | cons q r ih =>
    obtain ⟨b, o⟩ := q
    unfold outS at ih ⊢
    by_cases hb : b ∈ F
    · rw [List.filter_cons_of_neg (by simpa using hb), ih, get_cons]
      by_cases e : a = b
      · subst e; simp [hb]
      · simp [e]
    · rw [List.filter_cons_of_pos (by simpa using hb), get_cons, get_cons, ih]
      by_cases e : a = b
      · subst e; simp [hb]
      · simp [e]
theorem get_app {A B : Sto} {a : Addr} : get (A ++ B) a = (match get A a with | some o => some o | none => get B a) := by
  induction A with
  | nil => rfl
  | cons q r ih =>
    obtain ⟨b, o⟩ := q
    rw [List.cons_append, get_cons, get_cons, ih]
    by_cases e : a = b
    · simp [e]
    · simp [e]
theorem Sub.trans {A B C : Sto} (h : Sub A B) (k : Sub B C) : Sub A C := fun a o e => k a o (h a o e)
theorem Sub.none {A B : Sto} (h : Sub A B) {a : Addr} (e : get B a = none) : get A a = none := by
  cases q : get A a with
  | none => rfl
  | some o => rw [h a o q] at e; cases e
/-- W and what lies at F besides -/
def plusS (η : Sto) (F : List Addr) (W : Sto) : Sto := sel η F ++ W
theorem get_plus {η W : Sto} {F : List Addr} {a : Addr} (h : ∀ a ∈ F, get W a = none) : get (plusS η F W) a = if a ∈ F then get η a else get W a := by
  unfold plusS
  rw [get_app, get_sel]
  by_cases e : a ∈ F
  · rw [if_pos e, if_pos e]
    cases get η a with
    | none => exact h a e
    | some o => rfl
  · rw [if_neg e, if_neg e]
theorem sub_plus {η W : Sto} {F : List Addr} (h : ∀ a ∈ F, get W a = none) : Sub W (plusS η F W) := fun a o e => by
  rw [get_plus h, if_neg (fun m => by rw [h a m] at e; cases e)]
  exact e
theorem plus_sub {η W : Sto} {F : List Addr} (h : ∀ a ∈ F, get W a = none) (s : Sub W η) : Sub (plusS η F W) η := fun a o e => by
  rw [get_plus h] at e
  split at e
  · exact e
  · exact s a o e
/-! ### things -/
mutual
inductive Mr (η : Sto) : M → T → List Addr → Prop
  | vl {p : Addr} {xs : List T} : get η p = some (.lst xs) → Mr η (.vl xs) (.ref p) [p]
  | vd {p : Addr} {ks vs : List T} : get η p = some (.dict ks vs) → Mr η (.vd ks vs) (.ref p) [p]
  | ll {p : Addr} {ms : List M} {ts : List T} {F : List Addr} : get η p = some (.lst ts) → Mrs η ms ts F → p ∉ F → Mr η (.ll ms) (.ref p) (p :: F)
  | ld {p : Addr} {ks : List T} {ms : List M} {ts : List T} {F : List Addr} : get η p = some (.dict ks ts) → Mrs η ms ts F → p ∉ F → Mr η (.ld ks ms) (.ref p) (p :: F)
inductive Mrs (η : Sto) : List M → List T → List Addr → Prop
  | nil : Mrs η [] [] []
  | cons {m : M} {t : T} {F : List Addr} {ms : List M} {ts : List T} {G : List Addr} : Mr η m t F → Mrs η ms ts G → (∀ a ∈ F, a ∉ G) → Mrs η (m :: ms) (t :: ts) (F ++ G)
end
mutual
theorem Mr.mono {η η' : Sto} {m : M} {t : T} {F : List Addr} (h : Mr η m t F) (k : ∀ a ∈ F, get η' a = get η a) : Mr η' m t F := by
  cases h with
  | vl e => exact .vl ((k _ (by simp)).trans e)
  | vd e => exact .vd ((k _ (by simp)).trans e)
  | ll e r n => exact .ll ((k _ (by simp)).trans e) (r.mono fun a ha => k a (List.mem_cons_of_mem _ ha)) n
  | ld e r n => exact .ld ((k _ (by simp)).trans e) (r.mono fun a ha => k a (List.mem_cons_of_mem _ ha)) n
theorem Mrs.mono {η η' : Sto} {m : List M} {t : List T} {F : List Addr} (h : Mrs η m t F) (k : ∀ a ∈ F, get η' a = get η a) : Mrs η' m t F := by
  cases h with
  | nil => exact .nil
  | cons h r d => exact .cons (h.mono fun a ha => k a (List.mem_append_left _ ha)) (r.mono fun a ha => k a (List.mem_append_right _ ha)) d
end
mutual
theorem Mr.dom {η : Sto} {m : M} {t : T} {F : List Addr} (h : Mr η m t F) : ∀ a ∈ F, ∃ o, get η a = some o := by
  cases h with
  | vl e => intro a ha; rw [List.mem_singleton.mp ha]; exact ⟨_, e⟩
  | vd e => intro a ha; rw [List.mem_singleton.mp ha]; exact ⟨_, e⟩
  | ll e r n => intro a ha; rcases List.mem_cons.mp ha with rfl | ha; exact ⟨_, e⟩; exact r.dom a ha
  | ld e r n => intro a ha; rcases List.mem_cons.mp ha with rfl | ha; exact ⟨_, e⟩; exact r.dom a ha
theorem Mrs.dom {η : Sto} {m : List M} {t : List T} {F : List Addr} (h : Mrs η m t F) : ∀ a ∈ F, ∃ o, get η a = some o := by
  cases h with
  | nil => intro a ha; cases ha
  | cons h r d => intro a ha; rcases List.mem_append.mp ha with ha | ha; exact h.dom a ha; exact r.dom a ha
end
theorem Mr.sub {η η' : Sto} {m : M} {t : T} {F : List Addr} (h : Mr η m t F) (s : Sub η η') : Mr η' m t F := h.mono fun a ha => by
  obtain ⟨o, e⟩ := h.dom a ha
  rw [e]
  exact s a o e
def SlR (η : Sto) (s : Sl) (r : Option T) (F : List Addr) : Prop := match s with
  | .no => F = []
  | .val t => r = some t ∧ F = []
  | .own m => ∃ t', r = some t' ∧ Mr η m t' F
inductive SimL (η : Sto) : Vn → List (Option T) → List Addr → Prop
  | nil : SimL η [] [] []
  | cons {s : Sl} {r : Option T} {F : List Addr} {v : Vn} {ρ : List (Option T)} {G : List Addr} : SlR η s r F → SimL η v ρ G → (∀ a ∈ F, a ∉ G) → SimL η (s :: v) (r :: ρ) (F ++ G)
section
variable {η η' W W1 : Sto} {v : Vn} {ρ : List (Option T)} {G : List Addr} {i : Nat} {m : M} {t : T}
theorem SlR.mono {s : Sl} {r : Option T} {F : List Addr} (h : SlR η s r F) (k : ∀ a ∈ F, get η' a = get η a) : SlR η' s r F := by
  cases s with
  | no => exact h
  | val t => exact h
  | own m => exact let ⟨t', e, q⟩ := h; ⟨t', e, q.mono k⟩
theorem SlR.dom {s : Sl} {r : Option T} {F : List Addr} (h : SlR η s r F) : ∀ a ∈ F, ∃ o, get η a = some o := by
  cases s with
  | no => intro a ha; rw [show F = [] from h] at ha; cases ha
  | val t => intro a ha; rw [show F = [] from h.2] at ha; cases ha
  | own m => exact let ⟨t', e, q⟩ := h; q.dom
theorem SimL.mono (h : SimL η v ρ G) (k : ∀ a ∈ G, get η' a = get η a) : SimL η' v ρ G := by
  induction h with
  | nil => exact .nil
  | cons h r d ih => exact .cons (h.mono fun a ha => k a (List.mem_append_left _ ha)) (ih fun a ha => k a (List.mem_append_right _ ha)) d
theorem SimL.dom (h : SimL η v ρ G) : ∀ a ∈ G, ∃ o, get η a = some o := by
  induction h with
  | nil => intro a ha; cases ha
  | cons h r d ih => intro a ha; rcases List.mem_append.mp ha with ha | ha; exact h.dom a ha; exact ih a ha
theorem SimL.val (h : SimL η v ρ G) : ∀ {i : Nat} {t : T}, slot v i = .val t → nth ρ i = some t := by
  induction h with
  | nil => intro i t e; cases i <;> cases e
  | cons h r d ih =>
    intro i t e
    cases i with
    | zero =>
      have e : _ = Sl.val t := e
      subst e
      exact h.1
    | succ i => exact ih (i := i) e
theorem SimL.take (h : SimL η v ρ G) : ∀ {i : Nat} {m : M}, slot v i = .own m → ∃ t' F G', nth ρ i = some t' ∧ Mr η m t' F ∧ SimL η (setS v i .no) ρ G' ∧ (∀ a ∈ F, a ∉ G') ∧ (∀ a, a ∈ G ↔ a ∈ F ∨ a ∈ G') := by
  induction h with
  | nil => intro i t e; cases i <;> cases e
  | @cons s r F v ρ G h hr d ih =>
    intro i m e
    cases i with
    | zero =>
      have e : s = Sl.own m := e
      subst e
      obtain ⟨t', e1, q⟩ := h
      exact ⟨t', F, G, e1, q, .cons (F := []) (show SlR η .no r [] from rfl) hr (fun a ha => by cases ha), d, fun a => List.mem_append⟩
    | succ i =>
      obtain ⟨t', F', G', a1, a2, a3, a4, a5⟩ := ih (i := i) e
      refine ⟨t', F', F ++ G', a1, a2, .cons h a3 fun a ha hg => d a ha ((a5 a).mpr (.inr hg)), fun a ha hb => ?_, fun a => ?_⟩
      · rcases List.mem_append.mp hb with hb | hb
        · exact d a hb ((a5 a).mpr (.inl ha))
        · exact a4 a ha hb
      · rw [List.mem_append, List.mem_append, a5]
        constructor
        · rintro (x | x | x)
          · exact .inr (.inl x)
          · exact .inl x
          · exact .inr (.inr x)
        · rintro (x | x | x)
          · exact .inr (.inl x)
          · exact .inl x
          · exact .inr (.inr x)
/-- a name told no longer -/
theorem SimL.drop (h : SimL η v ρ G) : ∀ (i : Nat), ∃ G', SimL η (setS v i .no) ρ G' ∧ ∀ a ∈ G', a ∈ G := by
  induction h with
  | nil => intro i; exact ⟨[], by cases i <;> exact .nil, fun a ha => ha⟩
  | @cons s r F v ρ G h hr d ih =>
    intro i
    cases i with
    | zero => exact ⟨[] ++ G, .cons (F := []) (show SlR η .no r [] from rfl) hr (fun a ha => by cases ha), fun a ha => List.mem_append_right _ ha⟩
    | succ i =>
      obtain ⟨G', a1, a2⟩ := ih i
      refine ⟨F ++ G', .cons h a1 fun a ha hg => d a ha (a2 a hg), fun a ha => ?_⟩
      rcases List.mem_append.mp ha with ha | ha
      · exact List.mem_append_left _ ha
      · exact List.mem_append_right _ (a2 a ha)
/-- a name stored that is told no longer -/
theorem SimL.dropS (h : SimL η v ρ G) (t : T) : ∀ (i : Nat), ∃ G', SimL η (setS v i .no) (setv ρ i t) G' ∧ ∀ a ∈ G', a ∈ G := by
  induction h with
  | nil => intro i; exact ⟨[], by cases i <;> exact .nil, fun a ha => ha⟩
  | @cons s r F v ρ G h hr d ih =>
    intro i
    cases i with
    | zero => exact ⟨[] ++ G, .cons (F := []) (show SlR η .no (some t) [] from rfl) hr (fun a ha => by cases ha), fun a ha => List.mem_append_right _ ha⟩
    | succ i =>
      obtain ⟨G', a1, a2⟩ := ih i
      refine ⟨F ++ G', .cons h a1 fun a ha hg => d a ha (a2 a hg), fun a ha => ?_⟩
      rcases List.mem_append.mp ha with ha | ha
      · exact List.mem_append_left _ ha
      · exact List.mem_append_right _ (a2 a ha)
theorem SimL.putV (h : SimL η v ρ G) (t : T) : ∀ (i : Nat), ∃ G', SimL η (setS v i (.val t)) (setv ρ i t) G' ∧ ∀ a ∈ G', a ∈ G := by
  induction h with
  | nil => intro i; exact ⟨[], by cases i <;> exact .nil, fun a ha => ha⟩
  | @cons s r F v ρ G h hr d ih =>
    intro i
    cases i with
    | zero => exact ⟨[] ++ G, .cons (F := []) (show SlR η (.val t) (some t) [] from ⟨rfl, rfl⟩) hr (fun a ha => by cases ha), fun a ha => List.mem_append_right _ ha⟩
    | succ i =>
      obtain ⟨G', a1, a2⟩ := ih i
      refine ⟨F ++ G', .cons h a1 fun a ha hg => d a ha (a2 a hg), fun a ha => ?_⟩
      rcases List.mem_append.mp ha with ha | ha
      · exact List.mem_append_left _ ha
      · exact List.mem_append_right _ (a2 a ha)
/-- a value told again -/
theorem SimL.tellV (h : SimL η v ρ G) : ∀ {i : Nat} {t : T}, nth ρ i = some t → ∃ G', SimL η (setS v i (.val t)) ρ G' ∧ ∀ a ∈ G', a ∈ G := by
  induction h with
  | nil => intro i t e; exact ⟨[], by cases i <;> exact .nil, fun a ha => ha⟩
  | @cons s r F v ρ G h hr d ih =>
    intro i t e
    cases i with
    | zero => exact ⟨[] ++ G, .cons (F := []) (show SlR η (.val t) r [] from ⟨e, rfl⟩) hr (fun a ha => by cases ha), fun a ha => List.mem_append_right _ ha⟩
    | succ i =>
      obtain ⟨G', a1, a2⟩ := ih (i := i) e
      refine ⟨F ++ G', .cons h a1 fun a ha hg => d a ha (a2 a hg), fun a ha => ?_⟩
      rcases List.mem_append.mp ha with ha | ha
      · exact List.mem_append_left _ ha
      · exact List.mem_append_right _ (a2 a ha)
/-- a thing laid at a name that is told no longer -/
theorem SimL.putO (h : SimL η v ρ G) : ∀ {i : Nat} {m : M} {t' : T} {F : List Addr}, slot v i = .no → nth ρ i = some t' → Mr η m t' F → (∀ a ∈ F, a ∉ G) → ∃ G', SimL η (setS v i (.own m)) ρ G' ∧ ∀ a, a ∈ G' ↔ a ∈ F ∨ a ∈ G := by
  induction h with
  | nil => intro i m t' F e e2; cases i <;> cases e2
  | @cons s r F0 v ρ G h hr d ih =>
    intro i m t' F e e2 q dj
    cases i with
    | zero =>
      have e : s = Sl.no := e
      subst e
      have f0 : F0 = [] := h
      subst f0
      exact ⟨F ++ G, .cons (show SlR η (.own m) r F from ⟨t', e2, q⟩) hr dj, fun a => List.mem_append⟩
    | succ i =>
      obtain ⟨G', a1, a2⟩ := ih (i := i) e e2 q fun a ha hg => dj a ha (List.mem_append_right _ hg)
      refine ⟨F0 ++ G', .cons h a1 fun a ha hg => ?_, fun a => ?_⟩
      · rcases (a2 a).mp hg with hg | hg
        · exact dj a hg (List.mem_append_left _ ha)
        · exact d a ha hg
      · rw [List.mem_append, List.mem_append, a2]
        constructor
        · rintro (x | x | x)
          · exact .inr (.inl x)
          · exact .inl x
          · exact .inr (.inr x)
        · rintro (x | x | x)
          · exact .inr (.inl x)
          · exact .inl x
          · exact .inr (.inr x)
theorem SimL.len (h : SimL η v ρ G) : v.length = ρ.length := by
  induction h with
  | nil => rfl
  | cons h r d ih => rw [List.length_cons, List.length_cons, ih]
def Sim (v : Vn) (ρ : List (Option T)) (η W : Sto) : Prop := ∃ G, SimL η v ρ G ∧ (∀ a ∈ G, get W a = none) ∧ Sub W η
theorem Sim.sub (h : Sim v ρ η W1) (s : Sub W W1) : Sim v ρ η W := let ⟨G, a, b, c⟩ := h; ⟨G, a, fun x hx => s.none (b x hx), s.trans c⟩
theorem Sim.of (h : SimL η v ρ G) (d : ∀ a ∈ G, get W a = none) (s : Sub W η) : Sim v ρ η W := ⟨G, h, d, s⟩
/-- a new thing is made -/
theorem Sim.new (h : Sim v ρ η W) {p : Addr} (hp : get η p = none) (o : Ob) : Sim v ρ ((p, o) :: η) ((p, o) :: W) := by
  obtain ⟨G, a, b, c⟩ := h
  have ne : ∀ x ∈ G, x ≠ p := fun x hx e => by
    obtain ⟨u, q⟩ := a.dom x hx
    rw [e, hp] at q; cases q
  exact ⟨G, a.mono fun x hx => by rw [get_cons, if_neg (ne x hx)], fun x hx => by rw [get_cons, if_neg (ne x hx)]; exact b x hx, fun x u e => by
    rw [get_cons] at e ⊢
    split at e
    · rename_i hx; rw [if_pos hx]; exact e
    · rename_i hx; rw [if_neg hx]; exact c x u e⟩
end
/-! ### what an expression gives -/
def BvR (b : Bv) (t' : T) (v : Vn) (ρ : List (Option T)) (η W : Sto) : Prop := match b with
  | .p t => t' = t ∧ Sim v ρ η W
  | .s i => (∃ m, slot v i = .own m) ∧ nth ρ i = some t' ∧ Sim v ρ η W
  | .f m => ∃ W1 F, Sub W W1 ∧ Mr W1 m t' F ∧ (∀ a ∈ F, get W a = none) ∧ Sim v ρ η W1
def View (η : Sto) (u t' : T) : Prop := u = t' ∨ (∃ p xs, u = .cl xs ∧ t' = .ref p ∧ get η p = some (.lst xs))
theorem Mr.view {η : Sto} {m : M} {t' u : T} {F : List Addr} (h : Mr η m t' F) (e : m.view = some u) : View η u t' := by
  cases h with
  | vl q => cases e; exact .inr ⟨_, _, rfl, rfl, q⟩
  | vd q => cases e
  | ll => cases e
  | ld => cases e
/-- what is read of it later -/
def Lat (b : Bv) (t' : T) (ρ : List (Option T)) (W1 : Sto) : Prop := ∀ v2 η2 u, Sim v2 ρ η2 W1 → b.rd v2 = some u → View η2 u t'
theorem BvR.lat {b : Bv} {t' : T} {v : Vn} {ρ : List (Option T)} {η W : Sto} (h : BvR b t' v ρ η W) : ∃ W1, Sub W W1 ∧ Sim v ρ η W1 ∧ Lat b t' ρ W1 := by
  cases b with
  | p t =>
    obtain ⟨e, s⟩ := h
    exact ⟨W, Sub.refl, s, fun v2 η2 u _ e2 => by cases e2; exact .inl e.symm⟩
  | s i =>
    obtain ⟨_, e, s⟩ := h
    refine ⟨W, Sub.refl, s, fun v2 η2 u s2 e2 => ?_⟩
    have e2 : (slot v2 i).view = some u := e2
    cases q : slot v2 i with
    | no => rw [q] at e2; cases e2
    | val t => rw [q] at e2; cases e2
    | own m =>
      rw [q] at e2
      obtain ⟨G, a, _, _⟩ := s2
      obtain ⟨t2, F, G', b1, b2, _⟩ := a.take q
      rw [e] at b1
      cases b1
      exact b2.view e2
  | f m =>
    obtain ⟨W1, F, s, q, _, sm⟩ := h
    exact ⟨W1, s, sm, fun v2 η2 u s2 e2 => (q.sub (let ⟨_, _, _, c⟩ := s2; c)).view e2⟩
theorem BvR.sim {b : Bv} {t' : T} {v : Vn} {ρ : List (Option T)} {η W : Sto} (h : BvR b t' v ρ η W) : Sim v ρ η W := let ⟨_, s, m, _⟩ := h.lat; m.sub s
/-! ### reading by value -/
section
variable {η : Sto} {u t' w w' : T}
theorem seq_v (h : View η u t') {xs : List T} (e : seqOf [] u = some xs) : seqOf η t' = some xs := by
  rcases h with rfl | ⟨p, ys, rfl, rfl, g⟩
  · cases u <;> first | exact e | cases e
  · cases e
    show (match get η p with | some (.lst xs) => some xs | _ => none) = _
    rw [g]
theorem lst_v (h : View η u t') {xs : List T} (e : lstOf [] u = some xs) : lstOf η t' = some xs := by
  rcases h with rfl | ⟨p, ys, rfl, rfl, g⟩
  · cases u <;> first | exact e | cases e
  · cases e
    show (match get η p with | some (.lst xs) => some xs | _ => none) = _
    rw [g]
theorem tru_v (h : View η u t') {k : Bool} (e : tru [] u = some k) : tru η t' = some k := by
  rcases h with rfl | ⟨p, ys, rfl, rfl, g⟩
  · cases u <;> first | exact e | cases e
  · show (match get η p with | some (.lst xs) => some (!xs.isEmpty) | some (.dict ks _) => some (!ks.isEmpty) | _ => none) = _
    rw [g]
    exact e
theorem der_v (h : View η u t') (d : dat (deref [] u) = true) : deref η t' = deref [] u := by
  rcases h with rfl | ⟨p, ys, rfl, rfl, g⟩
  · cases u <;> first | rfl | exact Bool.noConfusion d
  · show (match get η p with | some (.lst xs) => T.cl xs | _ => T.ref p) = _
    rw [g]
    rfl
theorem isN_v (h : View η u t') : isNon t' = isNon u := by
  rcases h with rfl | ⟨p, ys, rfl, rfl, g⟩ <;> rfl
theorem view_int (h : View η u t') {i : Int} (e : u = .int i) : t' = .int i := by
  rcases h with rfl | ⟨p, ys, rfl, rfl, g⟩ <;> first | exact e | cases e
theorem view_non (h : View η u t') (e : u = .non) : t' = .non := by
  rcases h with rfl | ⟨p, ys, rfl, rfl, g⟩ <;> first | exact e | cases e
theorem view_bl (h : View η u t') {b : Bool} (e : u = .bl b) : t' = .bl b := by
  rcases h with rfl | ⟨p, ys, rfl, rfl, g⟩ <;> first | exact e | cases e
theorem view_tup {η : Sto} {u t' : T} {xs : List T} (h : View η u t') (e : u = .tup xs) : t' = .tup xs := by
  subst e
  rcases h with h | ⟨_, _, h, _⟩
  · exact h.symm
  · cases h
theorem view_str (h : View η u t') {s : Str} (e : u = .str s) : t' = .str s := by
  rcases h with rfl | ⟨p, ys, rfl, rfl, g⟩ <;> first | exact e | cases e
theorem len_v (h : View η u t') {n : Nat} (e : lenT [] u = some n) : lenT η t' = some n := by
  rcases h with rfl | ⟨p, ys, rfl, rfl, g⟩
  · cases u <;> first | exact e | cases e
  · cases e
    show (match get η p with | some (.lst xs) => some xs | _ => none).map List.length = _
    rw [g]
    rfl
theorem eqOk_dat {a b : T} (h : eqOk a b = true) : dat a = true ∧ dat b = true := by
  unfold eqOk at h
  simp only [Bool.and_eq_true] at h
  exact ⟨h.1.1, h.1.2⟩
theorem inOk_dat {a : T} {xs : List T} (h : inOk a xs = true) : dat a = true := by
  unfold inOk at h
  simp only [Bool.and_eq_true] at h
  exact h.1.1
theorem in_v (hu : u = t') (hw : View η w w') {k : Bool} (g : copG .inn u w [] = true) (e : copV .inn u w [] = some k) : copG .inn t' w' η = true ∧ copV .inn t' w' η = some k := by
  subst hu
  rcases hw with rfl | ⟨p, ys, rfl, rfl, gp⟩
  · cases w <;> first
      | (cases u <;> exact ⟨g, e⟩)
      | (cases u <;> exact Bool.noConfusion g)
  · cases u <;> simp only [copG, copV, seqOf, gp] at g e ⊢ <;> exact ⟨g, e⟩
theorem nin_v (hu : u = t') (hw : View η w w') {k : Bool} (g : copG .nin u w [] = true) (e : copV .nin u w [] = some k) : copG .nin t' w' η = true ∧ copV .nin t' w' η = some k := by
  subst hu
  rcases hw with rfl | ⟨p, ys, rfl, rfl, gp⟩
  · cases w <;> first
      | (cases u <;> exact ⟨g, e⟩)
      | (cases u <;> exact Bool.noConfusion g)
  · cases u <;> simp only [copG, copV, seqOf, gp] at g e ⊢ <;> exact ⟨g, e⟩
theorem cop_v {o : Cop} {b : Bv} (hl : leftB o b = true) (hb : ∀ t, b = .p t → u = t') (hu : View η u t') (hw : View η w w') {k : Bool} (g : copG o u w [] = true) (e : copV o u w [] = some k) : copG o t' w' η = true ∧ copV o t' w' η = some k := by
  cases o with
  | eq =>
    obtain ⟨a1, a2⟩ := eqOk_dat g
    have e1 := der_v hu a1
    have e2 := der_v hw a2
    refine ⟨?_, ?_⟩
    · show eqOk (deref η t') (deref η w') = true
      rw [e1, e2]; exact g
    · show some (eqv (deref η t') (deref η w')) = some k
      rw [e1, e2]; exact e
  | ne =>
    obtain ⟨a1, a2⟩ := eqOk_dat g
    have e1 := der_v hu a1
    have e2 := der_v hw a2
    refine ⟨?_, ?_⟩
    · show eqOk (deref η t') (deref η w') = true
      rw [e1, e2]; exact g
    · show some (!eqv (deref η t') (deref η w')) = some k
      rw [e1, e2]; exact e
  | isN =>
    refine ⟨rfl, ?_⟩
    cases w with
    | non =>
      cases view_non hw rfl
      have e : some (isNon u) = some k := by cases u <;> exact e
      have g : copV .isN t' .non η = some (isNon t') := by cases t' <;> rfl
      rw [g, isN_v hu]
      exact e
    | bl b =>
      cases view_bl hw rfl
      cases u <;> first
        | (cases e; done)
        | (cases view_bl hu rfl; exact e)
    | _ => cases u <;> cases e
  | notN =>
    refine ⟨rfl, ?_⟩
    cases w with
    | non =>
      cases view_non hw rfl
      have e : some (!isNon u) = some k := by cases u <;> exact e
      have g : copV .notN t' .non η = some (!isNon t') := by cases t' <;> rfl
      rw [g, isN_v hu]
      exact e
    | bl b =>
      cases view_bl hw rfl
      cases u <;> first
        | (cases e; done)
        | (cases view_bl hu rfl; exact e)
    | _ => cases u <;> cases e
  | lt => cases u <;> cases w <;> first
    | (cases e; done)
    | (cases view_int hu rfl; cases view_int hw rfl; exact ⟨rfl, e⟩)
    | (cases view_str hu rfl; cases view_str hw rfl; exact ⟨rfl, e⟩)
    | (cases view_tup hu rfl; cases view_tup hw rfl; exact ⟨g, e⟩)
  | le => cases u <;> cases w <;> first
    | (cases e; done)
    | (cases view_int hu rfl; cases view_int hw rfl; exact ⟨rfl, e⟩)
  | gt => cases u <;> cases w <;> first
    | (cases e; done)
    | (cases view_int hu rfl; cases view_int hw rfl; exact ⟨rfl, e⟩)
  | ge => cases u <;> cases w <;> first
    | (cases e; done)
    | (cases view_int hu rfl; cases view_int hw rfl; exact ⟨rfl, e⟩)
  | inn =>
    cases b with
    | p t => exact in_v (hb t rfl) hw g e
    | s i => exact Bool.noConfusion hl
    | f m => exact Bool.noConfusion hl
  | nin =>
    cases b with
    | p t => exact nin_v (hb t rfl) hw g e
    | s i => exact Bool.noConfusion hl
    | f m => exact Bool.noConfusion hl
theorem idx_v (hu : View η u t') {x r : T} (e : idxV [] u x = some r) : idxV η t' x = some r := by
  rcases hu with rfl | ⟨p, ys, rfl, rfl, gp⟩
  · cases u <;> cases x <;> first
      | exact e
      | (cases e; done)
  · cases x <;> first
      | (cases e; done)
      | (have e : atI ys _ = some r := e
         simp only [idxV, seqOf, gp]
         exact e)
theorem slc_v (hu : View η u t') {i j : Option Int} {r : T} (e : slcV u i j [] = some r) : slcV t' i j η = some r := by
  rcases hu with rfl | ⟨p, ys, rfl, rfl, gp⟩
  · cases u <;> first | exact e | (cases e; done)
  · cases e
    show (match get η p with | some (.lst xs) => some xs | _ => none).map _ = _
    rw [gp]
    rfl
theorem slcM_v (hu : View η u t') {i j : Option Int} {r : List T} (e : slcMV u i j [] = some r) : slcMV t' i j η = some r := by
  rcases hu with rfl | ⟨p, ys, rfl, rfl, gp⟩
  · cases u <;> first | exact e | (cases e; done)
  · cases e
    show (match get η p with | some (.lst xs) => some xs | _ => none).map _ = _
    rw [gp]
    rfl
theorem agg_v {g : Agg} (hu : View η u t') {r : List T} (e : aggS g [] u = some r) : aggS g η t' = some r := by
  cases g <;> first | exact seq_v hu e | exact lst_v hu e
theorem isT_v {ty : Ty} {k : Bool} (e : isT [] ty u = some k) : isT η ty u = some k := by
  cases ty <;> cases u <;> first | exact e | (cases e; done)
inductive Views (η : Sto) : List T → List T → Prop
  | nil : Views η [] []
  | cons {u t' : T} {us ts : List T} : View η u t' → Views η us ts → Views η (u :: us) (t' :: ts)
theorem blt_v {b : Blt} {us ts : List T} (h : Views η us ts) {r : T} (e : bltV b us [] = some r) : bltV b ts η = some r := by
  cases h with
  | nil => cases b <;> cases e
  | @cons u t' us ts hu hr =>
    cases hr with
    | nil =>
      cases b with
      | len =>
        have e : (lenT [] u).map (fun (n : Nat) => T.int n) = some r := e
        show (lenT η t').map (fun (n : Nat) => T.int n) = some r
        cases q : lenT [] u with
        | none => rw [q] at e; cases e
        | some n => rw [q] at e; rw [len_v hu q]; exact e
      | dict =>
        have e : ((seqOf [] u).bind fun ps => dictOf ps [] []).map (fun q => T.dct q.1 q.2) = some r := e
        show ((seqOf η t').bind fun ps => dictOf ps [] []).map (fun q => T.dct q.1 q.2) = some r
        cases q : seqOf [] u with
        | none => rw [q] at e; cases e
        | some n => rw [q] at e; rw [seq_v hu q]; exact e
      | rev =>
        rcases hu with rfl | ⟨p, ys, rfl, rfl, g⟩
        · cases u <;> first | exact e | (cases e; done)
        · cases e
      | setLen =>
        have e : ((seqOf [] u).bind fun ts => if ts.all keyT = true ∧ ts.length ≤ 1000 then some (T.int (dedup ts).length) else none) = some r := e
        show ((seqOf η t').bind fun ts => if ts.all keyT = true ∧ ts.length ≤ 1000 then some (T.int (dedup ts).length) else none) = some r
        cases q : seqOf [] u with
        | none => rw [q] at e; cases e
        | some n => rw [q] at e; rw [seq_v hu q]; exact e
      | abs => cases u <;> first | (cases e; done) | (cases view_int hu rfl; exact e)
      | int => cases u <;> first | (cases e; done) | (cases view_int hu rfl; exact e) | (cases view_bl hu rfl; exact e)
      | max2 => cases u <;> cases e
      | min2 => cases u <;> cases e
    | @cons w w' us ts hw hr =>
      cases hr with
      | nil =>
        cases b with
        | len => cases e
        | dict => cases e
        | setLen => cases e
        | rev => cases u <;> cases e
        | abs => cases u <;> cases e
        | int => cases u <;> cases e
        | max2 => cases u <;> cases w <;> first | (cases e; done) | (cases view_int hu rfl; cases view_int hw rfl; exact e)
        | min2 => cases u <;> cases w <;> first | (cases e; done) | (cases view_int hu rfl; cases view_int hw rfl; exact e)
      | cons h3 hr => cases b <;> cases u <;> first | (cases e; done) | (cases w <;> cases e)
theorem mthT_v {m : Mt} (e : mthT m u [] = true) : mthT m u η = true := by
  cases m <;> cases u <;> first | exact e | exact Bool.noConfusion e
theorem mthB_v {m : Mt} {ts : List T} (hT : mthT m u [] = true) (hP : mthP m u ts [] ≠ none) (e : mthB m u ts [] = true) : mthB m u ts η = true := by
  cases m <;> cases u <;> first
    | exact Bool.noConfusion hT
    | (rcases ts with _ | ⟨a, _ | ⟨b, _ | ⟨c, r⟩⟩⟩ <;> first
        | exact e
        | (rename_i s
           cases q : seqOf [] a with
           | none =>
             refine absurd ?_ hP
             show ((seqOf [] a).bind strsL).map _ = none
             rw [q]
             rfl
           | some xs =>
             have e : (match (seqOf [] a).bind strsL with
               | some ys => decide ((ys.map (·.length)).sum + ys.length * s.length ≤ 16777216) && decide ((Txt.join s ys).length ≤ sizeLine)
               | none => true) = true := e
             show (match (seqOf η a).bind strsL with
               | some ys => decide ((ys.map (·.length)).sum + ys.length * s.length ≤ 16777216) && decide ((Txt.join s ys).length ≤ sizeLine)
               | none => true) = true
             rw [seq_v (η := η) (.inl rfl) q]
             rw [q] at e
             exact e))
theorem mthP_v {m : Mt} {ts : List T} {r : T} (hT : mthT m u [] = true) (e : mthP m u ts [] = some r) : mthP m u ts η = some r := by
  cases m <;> cases u <;> first
    | exact Bool.noConfusion hT
    | (rcases ts with _ | ⟨a, _ | ⟨b, _ | ⟨c, r⟩⟩⟩ <;> first
        | exact e
        | (cases a <;> exact e)
        | (rename_i s
           have e : ((seqOf [] a).bind strsL).map (fun ys => T.str (Txt.join s ys)) = some r := e
           show ((seqOf η a).bind strsL).map (fun ys => T.str (Txt.join s ys)) = some r
           cases q : seqOf [] a with
           | none => rw [q] at e; cases e
           | some xs =>
             rw [seq_v (η := η) (.inl rfl) q]
             rw [q] at e
             exact e))
theorem still_v {xs : List T} (e : stillV [] u = some xs) : stillV η u = some xs := e
end
end TL

set_option maxHeartbeats 1000000
/-! the evaluator tells the truth -/
namespace TL
open PySem PySem.Spec PyProof.Rows L2
abbrev XQ := Nat → T → Vn → Prop
def Q.P {α : Type} (r : Q α) (X : XQ) (K : α → Vn → Prop) : Prop := match r with
  | .ok a v => K a v
  | .exn c t v => X c t v
  | .bad => False
def Q.P0 {α : Type} (r : Q α) (K : α → Vn → Prop) : Prop := match r with
  | .ok a v => K a v
  | _ => False
def QC.P (r : QC) (X : XQ) (K : Bv → Vn → Prop) : Prop := match r with
  | .val a v => K a v
  | .exn c t v => X c t v
  | .bad => False
def Pin (pin : List Nat) (ρ ρ' : List (Option T)) : Prop := ∀ i ∈ pin, nth ρ' i = nth ρ i
def isOut : Bv → Prop
  | .s _ => False
  | _ => True
def QS.P (r : QS) (pin : List Nat) (ρ : List (Option T)) (W : Sto) (D : Dn) : Prop := match r with
  | .nx v x => ∀ ρ' η', Sim v ρ' η' W → Pin pin ρ ρ' → D.nx ⟨ρ', x⟩ η'
  | .bk v x => ∀ ρ' η', Sim v ρ' η' W → Pin pin ρ ρ' → D.bk ⟨ρ', x⟩ η'
  | .ct v x => ∀ ρ' η', Sim v ρ' η' W → Pin pin ρ ρ' → D.ct ⟨ρ', x⟩ η'
  | .rt b v => isOut b ∧ ∀ ρ' t' η', BvR b t' v ρ' η' W → Pin pin ρ ρ' → D.rt t' η'
  | .exn c t v => ∀ ρ' η', Sim v ρ' η' W → Pin pin ρ ρ' → D.X ⟨c, t⟩ η'
  | .bad => False
/-- after an exception -/
def Xq (X : KX) (ρ : List (Option T)) (W : Sto) : XQ := fun c t v => ∀ η', Sim v ρ η' W → X ⟨c, t⟩ η'
def Kq (K : KE) (ρ : List (Option T)) (W : Sto) : Bv → Vn → Prop := fun b v => ∀ t' η', BvR b t' v ρ η' W → K t' η'
section
variable {α β : Type} {X X' : XQ} {r : Q α} {rb : Q Bv}
theorem Q.P.imp {K K' : α → Vn → Prop} (h : r.P X K) (hx : ∀ c t v, X c t v → X' c t v) (f : ∀ a v, K a v → K' a v) : r.P X' K' := by cases r <;> first | exact f _ _ h | exact hx _ _ _ h | exact h
theorem Q.to_P {k : α → Vn → Q β} {K : β → Vn → Prop} (h : (r.to k).P X K) : r.P X fun a v => (k a v).P X K := by cases r <;> exact h
theorem Q.toP_P {k : T → Vn → Q β} {K : β → Vn → Prop} (h : (rb.toP k).P X K) : rb.P X fun b v => ∃ t, b = .p t ∧ (k t v).P X K := by
  cases rb with
  | ok b v => cases b <;> first | exact ⟨_, rfl, h⟩ | exact h.elim
  | exn c t v => exact h
  | bad => exact h
theorem Q.to'_P {k : α → Vn → Q β} {K : β → Vn → Prop} (h : (r.to' k).P X K) : r.P0 fun a v => (k a v).P X K := by cases r <;> first | exact h | exact h.elim
theorem Q.to'_P0 {k : α → Vn → Q β} {K : β → Vn → Prop} (h : (r.to' k).P0 K) : r.P0 fun a v => (k a v).P0 K := by cases r <;> first | exact h | exact h.elim
theorem Q.toP_P0 {k : T → Vn → Q β} {K : β → Vn → Prop} (h : (rb.toP k).P0 K) : rb.P0 fun b v => ∃ t, b = .p t ∧ (k t v).P0 K := by
  cases rb with
  | ok b v => cases b <;> first | exact ⟨_, rfl, h⟩ | exact h.elim
  | exn c t v => exact h.elim
  | bad => exact h
theorem Q.P0.imp {K K' : α → Vn → Prop} (h : r.P0 K) (f : ∀ a v, K a v → K' a v) : r.P0 K' := by cases r <;> first | exact f _ _ h | exact h
theorem Q.P0.P {K : α → Vn → Prop} (h : r.P0 K) : r.P X K := by cases r <;> first | exact h | exact h.elim
theorem oQ_P {o : Option α} {k : α → Q β} {K : β → Vn → Prop} (h : (oQ o k).P X K) : ∃ a, o = some a ∧ (k a).P X K := by cases o <;> first | exact ⟨_, rfl, h⟩ | exact h.elim
theorem bQ_P {b : Bool} {k : Q β} {K : β → Vn → Prop} (h : (bQ b k).P X K) : b = true ∧ k.P X K := by cases b <;> first | exact ⟨rfl, h⟩ | exact h.elim
theorem oQ_P0 {o : Option α} {k : α → Q β} {K : β → Vn → Prop} (h : (oQ o k).P0 K) : ∃ a, o = some a ∧ (k a).P0 K := by cases o <;> first | exact ⟨_, rfl, h⟩ | exact h.elim
theorem bQ_P0 {b : Bool} {k : Q β} {K : β → Vn → Prop} (h : (bQ b k).P0 K) : b = true ∧ k.P0 K := by cases b <;> first | exact ⟨rfl, h⟩ | exact h.elim
end
section
variable {ρ : List (Option T)} {W W1 : Sto} {X : KX} {K : KE}
theorem Xq.up (s : Sub W W1) : ∀ c t v, Xq X ρ W c t v → Xq X ρ W1 c t v := fun c t v h η' hS => h η' (hS.sub s)
theorem BvR.up {b : Bv} {t' : T} {v : Vn} {η : Sto} (s : Sub W W1) (h : BvR b t' v ρ η W1) : BvR b t' v ρ η W := by
  cases b with
  | p t => exact ⟨h.1, h.2.sub s⟩
  | s i => exact ⟨h.1, h.2.1, h.2.2.sub s⟩
  | f m =>
    obtain ⟨W2, F, a, b, c, d⟩ := h
    exact ⟨W2, F, s.trans a, b, fun x hx => s.none (c x hx), d⟩
theorem Kq.up (s : Sub W W1) : ∀ b v, Kq K ρ W b v → Kq K ρ W1 b v := fun b v h t' η' hB => h t' η' (hB.up s)
theorem new_list {v : Vn} {η : Sto} {p : Addr} (h : Sim v ρ η W) (hp : get η p = none) (ts : List T) : BvR (.f (.vl ts)) (.ref p) v ρ ((p, .lst ts) :: η) W := by
  have wp : get W p = none := by
    obtain ⟨_, _, _, q⟩ := h
    exact q.none hp
  exact ⟨(p, .lst ts) :: W, [p], Sub.cons wp, .vl (by rw [get_cons, if_pos rfl]), fun a ha => by rw [List.mem_singleton.mp ha]; exact wp, h.new hp _⟩
end
/-- the things that stand for the parts of a list of expressions -/
inductive BvsR (ρ : List (Option T)) : Sto → List Bv → List T → Sto → Prop
  | nil {W : Sto} : BvsR ρ W [] [] W
  | p {W W1 : Sto} {t : T} {bs : List Bv} {ts : List T} : BvsR ρ W bs ts W1 → BvsR ρ W (.p t :: bs) (t :: ts) W1
  | s {W W1 : Sto} {i : Nat} {t' : T} {bs : List Bv} {ts : List T} : nth ρ i = some t' → BvsR ρ W bs ts W1 → BvsR ρ W (.s i :: bs) (t' :: ts) W1
  | f {W Wn W1 : Sto} {m : M} {t' : T} {F : List Addr} {bs : List Bv} {ts : List T} : Sub W Wn → Mr Wn m t' F → (∀ a ∈ F, get W a = none) → BvsR ρ Wn bs ts W1 → BvsR ρ W (.f m :: bs) (t' :: ts) W1
theorem BvsR.sub {ρ : List (Option T)} {W W1 : Sto} {bs : List Bv} {ts : List T} (h : BvsR ρ W bs ts W1) : Sub W W1 := by
  induction h with
  | nil => exact Sub.refl
  | p _ ih => exact ih
  | s _ _ ih => exact ih
  | f s _ _ _ ih => exact s.trans ih
theorem BvsR.ps {ρ : List (Option T)} {W : Sto} : ∀ ts : List T, BvsR ρ W (ts.map .p) ts W
  | [] => .nil
  | _ :: ts => .p (BvsR.ps ts)
theorem BvsR.views {ρ : List (Option T)} {W W1 : Sto} {bs : List Bv} {ts : List T} (h : BvsR ρ W bs ts W1) {v : Vn} {η : Sto} (hS : Sim v ρ η W1) : ∀ {us : List T}, rdAll v bs = some us → Views η us ts := by
  have hs : Sub W1 η := by
    obtain ⟨_, _, _, q⟩ := hS
    exact q
  induction h with
  | nil => intro us e; cases e; exact .nil
  | @p W W1 t bs ts _ ih =>
    intro us e
    have e : (rdAll v bs).map (t :: ·) = some us := e
    cases q : rdAll v bs with
    | none => rw [q] at e; cases e
    | some us' => rw [q] at e; cases e; exact .cons (.inl rfl) (ih hS hs q)
  | @s W W1 i t' bs ts hn _ ih =>
    intro us e
    have e : ((slot v i).view).bind (fun t => (rdAll v bs).map (t :: ·)) = some us := e
    cases q0 : (slot v i).view with
    | none => rw [q0] at e; cases e
    | some u =>
      rw [q0] at e
      have e : (rdAll v bs).map (u :: ·) = some us := e
      cases q : rdAll v bs with
      | none => rw [q] at e; cases e
      | some us' =>
        rw [q] at e; cases e
        refine .cons ?_ (ih hS hs q)
        cases q1 : slot v i with
        | no => rw [q1] at q0; cases q0
        | val t => rw [q1] at q0; cases q0
        | own m =>
          rw [q1] at q0
          obtain ⟨G, a, _, _⟩ := hS
          obtain ⟨t2, F, G', b1, b2, _⟩ := a.take q1
          rw [hn] at b1
          cases b1
          exact b2.view q0
  | @f W Wn W1 m t' F bs ts s1 hm hd hr ih =>
    intro us e
    have e : (m.view).bind (fun t => (rdAll v bs).map (t :: ·)) = some us := e
    cases q0 : m.view with
    | none => rw [q0] at e; cases e
    | some u =>
      rw [q0] at e
      have e : (rdAll v bs).map (u :: ·) = some us := e
      cases q : rdAll v bs with
      | none => rw [q] at e; cases e
      | some us' =>
        rw [q] at e; cases e
        exact .cons ((hm.sub (hr.sub.trans hs)).view q0) (ih hS hs q)
/-! ### names laid and taken -/
theorem slot_setS_ne : ∀ {v : Vn} {i j : Nat} {s : Sl}, i ≠ j → slot (setS v i s) j = slot v j
  | [], i, j, s, h => by cases i <;> rfl
  | _ :: _, 0, 0, s, h => absurd rfl h
  | _ :: _, 0, j + 1, s, h => rfl
  | _ :: _, i + 1, 0, s, h => rfl
  | _ :: v, i + 1, j + 1, s, h => slot_setS_ne (v := v) (i := i) (j := j) (by omega)
theorem setS_setS : ∀ {v : Vn} {i : Nat} {s u : Sl}, setS (setS v i s) i u = setS v i u
  | [], i, s, u => by cases i <;> rfl
  | _ :: _, 0, s, u => rfl
  | a :: v, i + 1, s, u => congrArg (a :: ·) (setS_setS (v := v) (i := i))
theorem slot_no : ∀ {v : Vn} {i : Nat}, slot (setS v i .no) i = .no
  | [], i => by cases i <;> rfl
  | _ :: _, 0 => rfl
  | _ :: v, i + 1 => slot_no (v := v) (i := i)
theorem slot_clrs_no : ∀ {own : List Nat} {v : Vn} {i : Nat}, slot v i = .no → slot (clrs v own) i = .no
  | [], v, i, h => h
  | j :: r, v, i, h => slot_clrs_no (own := r) (by
    by_cases e : j = i
    · subst e; exact slot_no
    · rw [slot_setS_ne e]; exact h)
theorem slot_clrs : ∀ {own : List Nat} {v : Vn} {i : Nat}, i ∈ own → slot (clrs v own) i = .no
  | j :: r, v, i, h => by
    rcases List.mem_cons.mp h with rfl | h
    · exact slot_clrs_no (own := r) slot_no
    · exact slot_clrs (own := r) h
theorem nth_setv_ne : ∀ {ρ : List (Option T)} {i j : Nat} {t : T}, i ≠ j → nth (setv ρ i t) j = nth ρ j
  | [], i, j, t, h => by cases i <;> rfl
  | _ :: _, 0, 0, t, h => absurd rfl h
  | _ :: _, 0, j + 1, t, h => rfl
  | _ :: _, i + 1, 0, t, h => rfl
  | _ :: ρ, i + 1, j + 1, t, h => nth_setv_ne (ρ := ρ) (i := i) (j := j) (by omega)
theorem nth_set_ne : ∀ {ρ : List (Option T)} {i j : Nat}, i ≠ j → nth (ρ.set i none) j = nth ρ j
  | [], i, j, h => rfl
  | _ :: _, 0, 0, h => absurd rfl h
  | _ :: _, 0, j + 1, h => rfl
  | _ :: _, i + 1, 0, h => rfl
  | _ :: ρ, i + 1, j + 1, h => nth_set_ne (ρ := ρ) (i := i) (j := j) (by omega)
theorem nth_setvsV : ∀ {own : List Nat} {ρ : List (Option T)} {i : Nat}, i ∉ own → nth (setvs ρ own) i = nth ρ i
  | [], ρ, i, h => rfl
  | j :: r, ρ, i, h => by
    show nth (setvs (ρ.set j none) r) i = _
    rw [nth_setvsV (own := r) (fun m => h (List.mem_cons_of_mem _ m)), nth_set_ne (by rintro rfl; exact h List.mem_cons_self)]
theorem len_setv : ∀ {ρ : List (Option T)} {i : Nat} {t : T}, (setv ρ i t).length = ρ.length
  | [], i, t => by cases i <;> rfl
  | _ :: _, 0, t => rfl
  | _ :: ρ, i + 1, t => congrArg (· + 1) (len_setv (ρ := ρ))
theorem len_setvs : ∀ {own : List Nat} {ρ : List (Option T)}, (setvs ρ own).length = ρ.length
  | [], ρ => rfl
  | j :: r, ρ => by
    show (setvs (ρ.set j none) r).length = _
    rw [len_setvs (own := r), List.length_set]
theorem SimL.agree {η : Sto} {v : Vn} {ρ : List (Option T)} {G : List Addr} (h : SimL η v ρ G) : ∀ {ρ2 : List (Option T)}, ρ.length = ρ2.length → (∀ i, slot v i ≠ .no → nth ρ2 i = nth ρ i) → SimL η v ρ2 G := by
  induction h with
  | nil => intro ρ2 l _; cases ρ2 with
    | nil => exact .nil
    | cons _ _ => cases l
  | @cons s r F v ρ G h hr d ih =>
    intro ρ2 l k
    cases ρ2 with
    | nil => cases l
    | cons r2 ρ2 =>
      refine .cons ?_ (ih (by simpa using l) fun i hi => k (i + 1) hi) d
      have k0 := k 0
      cases s with
      | no => exact h
      | val t => exact ⟨(k0 (fun e => by cases e)).trans h.1, h.2⟩
      | own m => exact let ⟨t', a, b⟩ := h; ⟨t', (k0 (fun e => by cases e)).trans a, b⟩
section
variable {η η' W W1 : Sto} {v : Vn} {ρ : List (Option T)}
theorem Sim.agree (h : Sim v ρ η W) {ρ2 : List (Option T)} (l : ρ.length = ρ2.length) (k : ∀ i, slot v i ≠ .no → nth ρ2 i = nth ρ i) : Sim v ρ2 η W := let ⟨G, a, b, c⟩ := h; ⟨G, a.agree l k, b, c⟩
theorem Sim.drop (h : Sim v ρ η W) (i : Nat) : Sim (setS v i .no) ρ η W := let ⟨G, a, b, c⟩ := h; let ⟨G', q, s⟩ := a.drop i; ⟨G', q, fun x hx => b x (s x hx), c⟩
theorem Sim.clrs (h : Sim v ρ η W) : ∀ {own : List Nat}, Sim (clrs v own) ρ η W := by
  intro own
  induction own generalizing v with
  | nil => exact h
  | cons i r ih => exact ih (h.drop i)
theorem Sim.putV (h : Sim v ρ η W) (i : Nat) (t : T) : Sim (setS v i (.val t)) (setv ρ i t) η W := let ⟨G, a, b, c⟩ := h; let ⟨G', q, s⟩ := a.putV t i; ⟨G', q, fun x hx => b x (s x hx), c⟩
theorem Sim.dropS (h : Sim v ρ η W) (i : Nat) (t : T) : Sim (setS v i .no) (setv ρ i t) η W := let ⟨G, a, b, c⟩ := h; let ⟨G', q, s⟩ := a.dropS t i; ⟨G', q, fun x hx => b x (s x hx), c⟩
theorem Sim.tellV (h : Sim v ρ η W) {i : Nat} {t : T} (e : nth ρ i = some t) : Sim (setS v i (.val t)) ρ η W := let ⟨G, a, b, c⟩ := h; let ⟨G', q, s⟩ := a.tellV e; ⟨G', q, fun x hx => b x (s x hx), c⟩
theorem Sim.val (h : Sim v ρ η W) {i : Nat} {t : T} (e : slot v i = .val t) : nth ρ i = some t := let ⟨_, a, _, _⟩ := h; a.val e
theorem Sim.ss (h : Sim v ρ η W) : Sub W η := let ⟨_, _, _, s⟩ := h; s
theorem Sim.bind (h : Sim v ρ η W) {tg : Tg} {y : T} {v' : Vn} (e : bindV tg y v = some v') : ∃ ρ', bindTg tg y ρ = some ρ' ∧ Sim v' ρ' η W ∧ ρ'.length = ρ.length ∧ ∀ i, i ∉ tgI tg → nth ρ' i = nth ρ i := by
  cases tg with
  | name i =>
    cases e
    exact ⟨_, rfl, h.putV i y, len_setv, fun j hj => nth_setv_ne (by rintro rfl; exact hj List.mem_cons_self)⟩
  | two i j =>
    match y, e with
    | .tup [t, u], e =>
      cases e
      refine ⟨_, rfl, (h.putV i t).putV j u, by rw [len_setv, len_setv], fun k hk => ?_⟩
      rw [nth_setv_ne (by rintro rfl; exact hk (List.mem_cons_of_mem _ List.mem_cons_self)), nth_setv_ne (by rintro rfl; exact hk List.mem_cons_self)]
/-- a list that a name holds: taken out, laid back -/
theorem Sim.takeL (h : Sim v ρ η W) {i : Nat} {xs : List T} (e : slot v i = .own (.vl xs)) : ∃ p, nth ρ i = some (.ref p) ∧ get η p = some (.lst xs) ∧ get W p = none ∧ Sim (setS v i .no) ρ η ((p, .lst xs) :: W) := by
  obtain ⟨G, a, b, c⟩ := h
  obtain ⟨t', F, G', a1, a2, a3, a4, a5⟩ := a.take e
  cases a2 with
  | @vl p _ g =>
    have wp : get W p = none := b p ((a5 p).mpr (.inl (by simp)))
    refine ⟨p, a1, g, wp, G', a3, fun x hx => ?_, fun x o e => ?_⟩
    · rw [get_cons, if_neg (by rintro rfl; exact a4 x (by simp) hx)]
      exact b x ((a5 x).mpr (.inr hx))
    · rw [get_cons] at e
      split at e
      · rename_i hx; cases e; rw [hx]; exact g
      · exact c x o e
theorem Sim.layL {i : Nat} {p : Addr} {xs : List T} (h : Sim v ρ η ((p, .lst xs) :: W)) (wp : get W p = none) (e : nth ρ i = some (.ref p)) : Sim (setS v i (.own (.vl xs))) ρ η W := by
  obtain ⟨G, a, b, c⟩ := h
  obtain ⟨G1, a1, s1⟩ := a.drop i
  have gp : get η p = some (.lst xs) := c p _ (by rw [get_cons, if_pos rfl])
  have np : p ∉ G := fun m => by
    have := b p m
    rw [get_cons, if_pos rfl] at this
    cases this
  obtain ⟨G2, a2, s2⟩ := a1.putO slot_no e (.vl gp) fun x hx hg => by
    rw [List.mem_singleton.mp hx] at hg
    exact np (s1 p hg)
  rw [setS_setS] at a2
  refine ⟨G2, a2, fun x hx => ?_, fun x o q => c x o ?_⟩
  · rcases (s2 x).mp hx with hx | hx
    · rw [List.mem_singleton.mp hx]; exact wp
    · have := b x (s1 x hx)
      rw [get_cons] at this
      split at this
      · cases this
      · exact this
  · rw [get_cons, if_neg (fun e => by rw [e, wp] at q; cases q)]
    exact q
/-- .. changed -/
theorem Sim.chgL (h : Sim v ρ η W) {i : Nat} {xs : List T} (e : slot v i = .own (.vl xs)) : ∃ p, nth ρ i = some (.ref p) ∧ get η p = some (.lst xs) ∧ ∀ ys, Sim (setS v i (.own (.vl ys))) ρ (put η p (.lst ys)) W := by
  obtain ⟨p, e1, g, wp, s⟩ := h.takeL e
  refine ⟨p, e1, g, fun ys => ?_⟩
  rw [← setS_setS (s := .no)]
  refine Sim.layL (p := p) ?_ wp e1
  obtain ⟨G, a, b, c⟩ := s
  have np : p ∉ G := fun m => by
    have := b p m
    rw [get_cons, if_pos rfl] at this
    cases this
  refine ⟨G, a.mono fun x hx => ?_, fun x hx => ?_, fun x o q => ?_⟩
  · rw [get_put, if_neg (by rintro rfl; exact np hx)]
  · have := b x hx
    rw [get_cons] at this ⊢
    split at this
    · cases this
    · rename_i hn; rw [if_neg hn]; exact this
  · rw [get_cons] at q
    rw [get_put]
    split at q
    · rename_i hx; cases q; rw [if_pos hx, g]; rfl
    · rename_i hx; rw [if_neg hx]
      exact c x o (by rw [get_cons, if_neg hx]; exact q)
end
end TL

set_option maxHeartbeats 1000000
/-! the evaluator tells the truth: calls, walks -/
namespace TL
open PySem PySem.Spec PyProof.Rows L2
/-- calls are told rightly -/
def CallOk (Φ : Nat → List T → Sto → KX → KE → Prop) (Ψ : Nat → Vn → QC) : Prop :=
  ∀ (f : Nat) (ps : Vn) (ts : List T) (η W : Sto) (X : KX) (K : KE), Sim ps (ts.map some) η W → (Ψ f ps).P (Xq X (ts.map some) W) (fun b ps' => isOut b ∧ Kq K (ts.map some) W b ps') → Φ f ts η X K
/-- the arguments are taken out -/
theorem takeA_ok {ρ : List (Option T)} {η : Sto} {W W1 : Sto} {bs : List Bv} {ts : List T} (h : BvsR ρ W bs ts W1) (hs : Sub W1 η) : ∀ {v : Vn} {G : List Addr} {ps v0 : Vn}, SimL η v ρ G → (∀ a ∈ G, get W1 a = none) → takeA bs v = some (ps, v0) →
    ∃ FA G0, SimL η ps (ts.map some) FA ∧ SimL η v0 ρ G0 ∧ (∀ a ∈ FA, a ∉ G0) ∧ (∀ a ∈ FA, get W a = none) ∧ (∀ a ∈ G0, a ∈ G) ∧ (∀ a ∈ FA, a ∈ G ∨ ∃ o, get W1 a = some o) := by
  induction h with
  | nil =>
    intro v G ps v0 hv hd e
    cases e
    exact ⟨[], G, .nil, hv, (fun a ha => by cases ha), (fun a ha => by cases ha), (fun a ha => ha), (fun a ha => by cases ha)⟩
  | @p W W1 t bs ts hr ih =>
    intro v G ps v0 hv hd e
    have e : (takeA bs v).map (fun q => (Sl.val t :: q.1, q.2)) = some (ps, v0) := e
    cases q : takeA bs v with
    | none => rw [q] at e; cases e
    | some q0 =>
      obtain ⟨ps', v0'⟩ := q0
      rw [q] at e
      cases e
      obtain ⟨FA, G0, a1, a2, a3, a4, a5, a6⟩ := ih hs hv hd q
      exact ⟨[] ++ FA, G0, .cons (F := []) (show SlR η (.val t) (some t) [] from ⟨rfl, rfl⟩) a1 (fun a ha => by cases ha), a2, a3, a4, a5, a6⟩
  | @s W W1 i t' bs ts hn hr ih =>
    intro v G ps v0 hv hd e
    cases q1 : slot v i with
    | no => simp only [takeA, q1] at e; cases e
    | val t => simp only [takeA, q1] at e; cases e
    | own m =>
      simp only [takeA, q1] at e
      obtain ⟨t2, F, G', b1, b2, b3, b4, b5⟩ := hv.take q1
      rw [hn] at b1
      cases b1
      cases q : takeA bs (setS v i .no) with
      | none => rw [q] at e; cases e
      | some q0 =>
        obtain ⟨ps', v0'⟩ := q0
        rw [q] at e
        cases e
        obtain ⟨FA, G0, a1, a2, a3, a4, a5, a6⟩ := ih hs b3 (fun a ha => hd a ((b5 a).mpr (.inr ha))) q
        have fG : ∀ a ∈ F, a ∈ G := fun a ha => (b5 a).mpr (.inl ha)
        refine ⟨F ++ FA, G0, .cons (show SlR η (.own m) (some t') F from ⟨t', rfl, b2⟩) a1 fun a ha hb => ?_, a2, fun a ha hb => ?_, fun a ha => ?_, fun a ha => (b5 a).mpr (.inr (a5 a ha)), fun a ha => ?_⟩
        · rcases a6 a hb with h | ⟨o, h⟩
          · exact b4 a ha h
          · rw [hd a (fG a ha)] at h; cases h
        · rcases List.mem_append.mp ha with ha | ha
          · exact b4 a ha (a5 a hb)
          · exact a3 a ha hb
        · rcases List.mem_append.mp ha with ha | ha
          · exact hr.sub.none (hd a (fG a ha))
          · exact a4 a ha
        · rcases List.mem_append.mp ha with ha | ha
          · exact .inl (fG a ha)
          · rcases a6 a ha with h | h
            · exact .inl ((b5 a).mpr (.inr h))
            · exact .inr h
  | @f W Wn W1 m t' F bs ts s1 hm hF hr ih =>
    intro v G ps v0 hv hd e
    have e : (takeA bs v).map (fun q => (Sl.own m :: q.1, q.2)) = some (ps, v0) := e
    cases q : takeA bs v with
    | none => rw [q] at e; cases e
    | some q0 =>
      obtain ⟨ps', v0'⟩ := q0
      rw [q] at e
      cases e
      obtain ⟨FA, G0, a1, a2, a3, a4, a5, a6⟩ := ih hs hv hd q
      have fW : ∀ a ∈ F, ∃ o, get W1 a = some o := fun a ha => let ⟨o, h⟩ := hm.dom a ha; ⟨o, hr.sub a o h⟩
      refine ⟨F ++ FA, G0, .cons (show SlR η (.own m) (some t') F from ⟨t', rfl, hm.sub (hr.sub.trans hs)⟩) a1 fun a ha hb => ?_, a2, fun a ha hb => ?_, fun a ha => ?_, a5, fun a ha => ?_⟩
      · obtain ⟨o, h⟩ := hm.dom a ha
        rw [a4 a hb] at h
        cases h
      · rcases List.mem_append.mp ha with ha | ha
        · obtain ⟨o, h⟩ := fW a ha
          rw [hd a (a5 a hb)] at h
          cases h
        · exact a3 a ha hb
      · rcases List.mem_append.mp ha with ha | ha
        · exact hF a ha
        · exact s1.none (a4 a ha)
      · rcases List.mem_append.mp ha with ha | ha
        · exact .inr (fW a ha)
        · exact a6 a ha
/-- .. and laid back -/
theorem backA_ok {ρ : List (Option T)} {η : Sto} : ∀ {bs : List Bv} {ts : List T} {W W1 : Sto}, BvsR ρ W bs ts W1 → ∀ {ps v0 : Vn} {FA G0 : List Addr}, SimL η ps (ts.map some) FA → SimL η v0 ρ G0 → (∀ a ∈ FA, a ∉ G0) → ∃ G', SimL η (backA bs ps v0) ρ G' ∧ ∀ a ∈ G', a ∈ FA ∨ a ∈ G0 := by
  intro bs ts W W1 h
  induction h with
  | nil => intro ps v0 FA G0 hp hv hd; exact ⟨G0, by cases ps <;> exact hv, fun a ha => .inr ha⟩
  | @p W W1 t bs ts hr ih =>
    intro ps v0 FA G0 hp hv hd
    cases hp with
    | @cons s r F ps' ρ' FA' h1 h2 h3 =>
      obtain ⟨G', a1, a2⟩ := ih h2 hv fun a ha => hd a (List.mem_append_right _ ha)
      exact ⟨G', a1, fun a ha => (a2 a ha).imp (List.mem_append_right _) id⟩
  | @f W Wn W1 m t' F bs ts s1 hm hF hr ih =>
    intro ps v0 FA G0 hp hv hd
    cases hp with
    | @cons s r F ps' ρ' FA' h1 h2 h3 =>
      obtain ⟨G', a1, a2⟩ := ih h2 hv fun a ha => hd a (List.mem_append_right _ ha)
      exact ⟨G', a1, fun a ha => (a2 a ha).imp (List.mem_append_right _) id⟩
  | @s W W1 i t' bs ts hn hr ih =>
    intro ps v0 FA G0 hp hv hd
    cases hp with
    | @cons s r F ps' ρ' FA' h1 h2 h3 =>
      cases s with
      | no =>
        obtain ⟨G', a1, a2⟩ := ih h2 hv fun a ha => hd a (List.mem_append_right _ ha)
        exact ⟨G', a1, fun a ha => (a2 a ha).imp (List.mem_append_right _) id⟩
      | val t =>
        obtain ⟨G', a1, a2⟩ := ih h2 hv fun a ha => hd a (List.mem_append_right _ ha)
        exact ⟨G', a1, fun a ha => (a2 a ha).imp (List.mem_append_right _) id⟩
      | own m =>
        obtain ⟨t2, e2, q2⟩ := h1
        cases e2
        obtain ⟨G1, c1, c2⟩ := hv.drop i
        obtain ⟨G2, d1, d2⟩ := c1.putO slot_no hn q2 fun a ha hg => hd a (List.mem_append_left _ ha) (c2 a hg)
        rw [setS_setS] at d1
        obtain ⟨G', a1, a2⟩ := ih (FA := FA') h2 d1 fun a ha hg => by
          rcases (d2 a).mp hg with hg | hg
          · exact h3 a hg ha
          · exact hd a (List.mem_append_right _ ha) (c2 a hg)
        refine ⟨G', a1, fun a ha => ?_⟩
        rcases a2 a ha with h | h
        · exact .inl (List.mem_append_right _ h)
        · rcases (d2 a).mp h with h | h
          · exact .inl (List.mem_append_left _ h)
          · exact .inr (c2 a h)
/-- a call's outcome, seen by the caller -/
theorem back_sim {ρ : List (Option T)} {η η' W W1 Wc : Sto} {bs : List Bv} {ts : List T} {ps v0 : Vn} {FA G0 : List Addr} (h : BvsR ρ W bs ts W1) (hs : Sub W1 η) (hv0 : SimL η v0 ρ G0) (hG : ∀ a ∈ G0, get W1 a = none) (hd : ∀ a ∈ FA, a ∉ G0) (hW : ∀ a ∈ FA, get W a = none)
    (hc : Sub (outS η FA) Wc) (hp : Sim ps (ts.map some) η' Wc) : ∃ G', SimL η' (backA bs ps v0) ρ G' ∧ (∀ a ∈ G', (get Wc a = none ∨ a ∈ G0)) ∧ Sub W (outS η FA) := by
  obtain ⟨FA', a, b, c⟩ := hp
  have g0 : ∀ a ∈ G0, get η' a = get η a := fun x hx => by
    obtain ⟨o, e⟩ := hv0.dom x hx
    rw [e]
    exact c x o (hc x o (by rw [get_outS, if_neg (fun m => hd x m hx)]; exact e))
  obtain ⟨G', d1, d2⟩ := backA_ok h a (hv0.mono g0) fun x hx hg => by
    obtain ⟨o, e⟩ := hv0.dom x hg
    have := hc x o (by rw [get_outS, if_neg (fun m => hd x m hg)]; exact e)
    rw [b x hx] at this
    cases this
  refine ⟨G', d1, fun x hx => (d2 x hx).imp (b x) id, fun x o e => ?_⟩
  rw [get_outS, if_neg (fun m => by rw [hW x m] at e; cases e)]
  exact hs x o (h.sub x o e)
theorem qdo_ok {Φ : Nat → List T → Sto → KX → KE → Prop} {Ψ : Nat → Vn → QC} (hΦ : CallOk Φ Ψ) {f : Nat} {bs : List Bv} {ts : List T} {v : Vn} {ρ : List (Option T)} {η W W1 : Sto} {X : KX} {K : KE} (h : BvsR ρ W bs ts W1) (hS : Sim v ρ η W1) (hq : (qdo Ψ f bs v).P (Xq X ρ W) (Kq K ρ W)) : Φ f ts η X K := by
  obtain ⟨⟨ps, v0⟩, e, hq⟩ := oQ_P hq
  obtain ⟨G, a, b, c⟩ := hS
  obtain ⟨FA, G0, a1, a2, a3, a4, a5, a6⟩ := takeA_ok h c a b e
  have hG0 : ∀ a ∈ G0, get W1 a = none := fun x hx => b x (a5 x hx)
  have sO : Sub (outS η FA) η := fun x o q => by
    rw [get_outS] at q
    split at q
    · cases q
    · exact q
  have hps : Sim ps (ts.map some) η (outS η FA) := ⟨FA, a1, fun x hx => by rw [get_outS, if_pos hx], sO⟩
  refine hΦ f ps ts η (outS η FA) X K hps ?_
  have toW : ∀ {vb : Vn} {η' : Sto} {G' : List Addr}, SimL η' vb ρ G' → (∀ a ∈ G', (get (outS η FA) a = none ∨ a ∈ G0)) → Sub W (outS η FA) → Sub (outS η FA) η' → Sim vb ρ η' W := fun {vb η' G'} s1 s2 s3 s4 => ⟨G', s1, fun x hx => by
    rcases s2 x hx with h1 | h1
    · exact s3.none h1
    · exact h.sub.none (hG0 x h1), s3.trans s4⟩
  cases r : Ψ f ps with
  | bad => rw [r] at hq; exact hq.elim
  | exn c' t ps' =>
    rw [r] at hq
    intro η' hp
    obtain ⟨G', s1, s2, s3⟩ := back_sim h c a2 hG0 a3 a4 Sub.refl hp
    exact hq η' (toW s1 s2 s3 hp.ss)
  | val bv ps' =>
    rw [r] at hq
    cases bv with
    | s i => exact hq.elim
    | p t =>
      refine ⟨trivial, fun t' η' ⟨e, hp⟩ => ?_⟩
      obtain ⟨G', s1, s2, s3⟩ := back_sim h c a2 hG0 a3 a4 Sub.refl hp
      exact hq t' η' ⟨e, toW s1 s2 s3 hp.ss⟩
    | f m =>
      refine ⟨trivial, fun t' η' ⟨Wc, F, c1, c2, c3, hp⟩ => ?_⟩
      obtain ⟨G', s1, s2, s3⟩ := back_sim h c a2 hG0 a3 a4 c1 hp
      have fW : ∀ x ∈ F, get W x = none := fun x hx => s3.none (c3 x hx)
      refine hq t' η' ⟨plusS Wc F W, F, sub_plus fW, c2.mono (fun x hx => by rw [get_plus fW, if_pos hx]), fW, G', s1, fun x hx => ?_, fun x o e => ?_⟩
      · have nF : x ∉ F := fun m => by
          obtain ⟨o, e⟩ := c2.dom x m
          rcases s2 x hx with h1 | h1
          · rw [h1] at e; cases e
          · obtain ⟨o2, e2⟩ := a2.dom x h1
            have := c3 x m
            rw [get_outS, if_neg (fun m2 => a3 x m2 h1), e2] at this
            cases this
        rw [get_plus fW, if_neg nF]
        rcases s2 x hx with h1 | h1
        · exact s3.none (c1.none h1)
        · exact h.sub.none (hG0 x h1)
      · rw [get_plus fW] at e
        split at e
        · exact hp.ss x o e
        · exact hp.ss x o (c1 x o (s3 x o e))
/-! ### walks -/
/-- what is walked and what holds it -/
def SrcR (s : Src) (sr : Option Addr) (ts : List T) (v : Vn) (ρ : List (Option T)) : Prop := match s with
  | .free => sr = none
  | .own i => slot v i = .own (.vl ts) ∧ ∀ p, nth ρ i = some (.ref p) → sr = some p
theorem lock_ok {s : Src} {sr : Option Addr} {ts : List T} {v : Vn} {ρ : List (Option T)} {η W : Sto} (h : SrcR s sr ts v ρ) (hS : Sim v ρ η W) : ∃ W1, Sub W W1 ∧ Sim (lock v s) ρ η W1 ∧ (∀ η', Sub W1 η' → stays sr ts η') ∧
    ∀ v' ρ' η', Sim v' ρ' η' W1 → (∀ i, s = .own i → nth ρ' i = nth ρ i) → Sim (unlock v v' s) ρ' η' W := by
  cases s with
  | free =>
    have h : sr = none := h
    subst h
    exact ⟨W, Sub.refl, hS, fun _ _ => trivial, fun _ _ _ h _ => h⟩
  | own i =>
    obtain ⟨e, hp⟩ := h
    obtain ⟨p, e1, g, wp, s⟩ := hS.takeL e
    have hsr := hp p e1
    subst hsr
    refine ⟨(p, .lst ts) :: W, Sub.cons wp, s, fun η' sb => sb p _ (by rw [get_cons, if_pos rfl]), fun v' ρ' η' h k => ?_⟩
    show Sim (setS v' i (slot v i)) ρ' η' W
    rw [e]
    exact h.layL wp ((k i rfl).trans e1)
theorem qcomp_ok {st : Sto → Prop} {R : Vn → Sto → Prop} {f : T → Sto → KL → Prop} {fq : T → Vn → Q (List T)} (hst : ∀ v η, R v η → st η) (hf : ∀ y v η (Kr : KL), R v η → (fq y v).P0 (fun r v' => ∀ η', R v' η' → Kr r η') → f y η Kr) :
    ∀ (ts acc : List T) (v : Vn) (η : Sto) (K : KL), R v η → (qcomp fq ts v).P0 (fun us v' => ∀ η', R v' η' → K (acc ++ us) η') → wcomp st f ts acc η K
  | [], acc, v, η, K, hR, h => ⟨hst v η hR, by
    have h := h η hR
    rw [List.append_nil] at h
    exact h⟩
  | y :: ys, acc, v, η, K, hR, h => ⟨hst v η hR, hf y v η _ hR ((Q.to'_P0 h).imp fun r v1 h η1 hR1 => qcomp_ok hst hf ys (acc ++ r) v1 η1 K hR1 ((Q.to'_P0 h).imp fun rs v2 h η2 hR2 => by
      have h := h η2 hR2
      rw [List.append_assoc]
      exact h))⟩
theorem rsts_ok {ρ : List (Option T)} {η W : Sto} {v0 : Vn} (h0 : ∀ i t, slot v0 i = .val t → nth ρ i = some t) : ∀ {own : List Nat} {v : Vn}, own.all (fun i => plainS (slot v0 i)) = true → Sim v ρ η W → Sim (rsts v0 v own) ρ η W
  | [], v, _, h => h
  | i :: r, v, hp, h => by
    rw [List.all_cons, Bool.and_eq_true] at hp
    refine rsts_ok h0 (own := r) (v := setS v i (slot v0 i)) hp.2 ?_
    cases e : slot v0 i with
    | no => exact h.drop i
    | val t => exact h.tellV (h0 i t e)
    | own m =>
      have := hp.1
      rw [e] at this
      exact Bool.noConfusion this
end TL

set_option maxHeartbeats 4000000
/-! the evaluator tells the truth: expressions -/
namespace TL
open PySem PySem.Spec PyProof.Rows L2
section
variable {β : Type} {ρ : List (Option T)} {W : Sto} {X : KX} {Kb : β → Vn → Prop}
theorem useP {r : Q Bv} {k : T → Vn → Q β} {C : T → Sto → Prop} (h : (r.toP k).P (Xq X ρ W) Kb) (f : ∀ t v' η', Sim v' ρ η' W → (k t v').P (Xq X ρ W) Kb → C t η') : r.P (Xq X ρ W) (Kq C ρ W) :=
  (Q.toP_P h).imp (fun _ _ _ h => h) fun b v' ⟨t, e, h⟩ t' η' hB => by
    subst e
    obtain ⟨rfl, hS⟩ := hB
    exact f _ v' η' hS h
theorem useB {r : Q Bv} {k : Bv → Vn → Q β} {C : T → Sto → Prop} (h : (r.to k).P (Xq X ρ W) Kb) (f : ∀ b v' t' η', BvR b t' v' ρ η' W → (k b v').P (Xq X ρ W) Kb → C t' η') : r.P (Xq X ρ W) (Kq C ρ W) :=
  (Q.to_P h).imp (fun _ _ _ h => h) fun b v' h t' η' hB => f b v' t' η' hB h
theorem upX {α : Type} {r : Q α} {K : α → Vn → Prop} {W1 : Sto} (s : Sub W W1) (h : r.P (Xq X ρ W) K) : r.P (Xq X ρ W1) K := h.imp (Xq.up s) fun _ _ h => h
end
theorem left_p {o : Cop} {u : T} : leftB o (.p u) = true := by cases o <;> rfl
theorem left_of {p : Bv} {t1 u : T} {v v1 : Vn} {ρ : List (Option T)} {η W : Sto} (hB : BvR p t1 v1 ρ η W) (e : p.rd v = some u) : ∀ t, p = .p t → u = t1 := fun t q => by
  subst q
  cases e
  exact hB.1.symm
theorem lst_slot {s : Sl} {xs : List T} (h : s.lst = some xs) : s = .own (.vl xs) := by
  cases s with
  | no => cases h
  | val t => cases h
  | own m => cases m <;> first | (cases h; rfl) | cases h
theorem bodyC {own : List Nat} {tg : Tg} {y : T} {v2 v3 : Vn} {ρ : List (Option T)} {η2 W1 : Sto} (htg : (tgI tg).all (fun i => own.contains i) = true) (hR : Sim v2 ρ η2 W1) (e : bindV tg y (clrs v2 own) = some v3) :
    ∃ vv, bindTg tg y (setvs ρ own) = some vv ∧ Sim v3 vv η2 W1 ∧ ∀ v5 η5, Sim v5 vv η5 W1 → Sim (clrs v5 own) ρ η5 W1 := by
  have hC : Sim (clrs v2 own) (setvs ρ own) η2 W1 := hR.clrs.agree len_setvs.symm fun i hi => nth_setvsV fun m => hi (slot_clrs m)
  obtain ⟨vv, e2, hS3, hl, hn⟩ := hC.bind e
  refine ⟨vv, e2, hS3, fun v5 η5 hS5 => hS5.clrs.agree (by rw [hl, len_setvs]) fun i hi => ?_⟩
  have io : i ∉ own := fun m => hi (slot_clrs m)
  rw [hn i fun m => io (by simpa using List.all_eq_true.mp htg i m), nth_setvsV io]
section
variable {Φ : Nat → List T → Sto → KX → KE → Prop} {Ψ : Nat → Vn → QC} (hΦ : CallOk Φ Ψ)
include hΦ
mutual
theorem okQE : ∀ (e : E) {v : Vn} {x : Option T} {ρ : List (Option T)} {η W : Sto} {X : KX} {K : KE}, Sim v ρ η W → (qE Ψ e v x).P (Xq X ρ W) (Kq K ρ W) → wE Φ e ⟨ρ, x⟩ η X K
  | .var i, v, x, ρ, η, W, X, K, hS, h => by
    unfold qE at h
    cases e : slot v i with
    | no => rw [e] at h; exact h.elim
    | val t =>
      rw [e] at h
      show optF (nth ρ i) _
      rw [hS.val e]
      exact h t η ⟨rfl, hS⟩
    | own m =>
      rw [e] at h
      obtain ⟨G, a, b, c⟩ := id hS
      obtain ⟨t', F, G', a1, _⟩ := a.take e
      show optF (nth ρ i) _
      rw [a1]
      exact h t' η ⟨⟨m, e⟩, a1, hS⟩
  | .cst t, v, x, ρ, η, W, X, K, hS, h => h t η ⟨rfl, hS⟩
  | .gcst _ t, v, x, ρ, η, W, X, K, hS, h => h t η ⟨rfl, hS⟩
  | .tup es, v, x, ρ, η, W, X, K, hS, h => okQPs es hS ((Q.to_P h).imp (fun _ _ _ h => h) fun ts v1 h η1 hS1 => h _ η1 ⟨rfl, hS1⟩)
  | .lst es, v, x, ρ, η, W, X, K, hS, h => okQPs es hS ((Q.to_P h).imp (fun _ _ _ h => h) fun ts v1 h η1 hS1 p hp => h _ _ (new_list hS1 hp ts))
  | .lstV es, v, x, ρ, η, W, X, K, hS, h => okQPs es hS ((Q.to_P h).imp (fun _ _ _ h => h) fun ts v1 h η1 hS1 => h _ η1 ⟨rfl, hS1⟩)
  | .bin o a b, v, x, ρ, η, W, X, K, hS, h => okQE a hS (useP h fun u v1 η1 hS1 h => okQE b hS1 (useP h fun w v2 η2 hS2 h => by
      obtain ⟨hb, h⟩ := bQ_P h
      obtain ⟨t, e, h⟩ := oQ_P h
      refine ⟨bopB_ok hb, ?_⟩
      rw [e]
      exact h t η2 ⟨rfl, hS2⟩))
  | .neg a, v, x, ρ, η, W, X, K, hS, h => okQE a hS (useP h fun u v1 η1 hS1 h => by
      obtain ⟨t, e, h⟩ := oQ_P h
      show optF _ _
      rw [e]
      exact h t η1 ⟨rfl, hS1⟩)
  | .cat a b, v, x, ρ, η, W, X, K, hS, h => okQE a hS (useB h fun p v1 t1 η1 hB h => by
      obtain ⟨W1, s1, hS1, l1⟩ := hB.lat
      refine okQE b hS1 (useB (upX s1 h) fun q v2 t2 η2 hB2 h => ?_)
      obtain ⟨W2, s2, hS2, l2⟩ := hB2.lat
      obtain ⟨u, e1, h⟩ := oQ_P h
      obtain ⟨w, e2, h⟩ := oQ_P h
      obtain ⟨xs, e3, h⟩ := oQ_P h
      obtain ⟨ys, e4, h⟩ := oQ_P h
      obtain ⟨hb, h⟩ := bQ_P h
      show optF _ _
      rw [lst_v (l1 v2 η2 u (hS2.sub s2) e1) e3]
      show optF _ _
      rw [lst_v (l2 v2 η2 w hS2 e2) e4]
      exact ⟨of_decide_eq_true hb, fun p hp => h _ _ (new_list (hS2.sub (s1.trans s2)) hp _)⟩)
  | .catV a b, v, x, ρ, η, W, X, K, hS, h => okQE a hS (useB h fun p v1 t1 η1 hB h => by
      obtain ⟨W1, s1, hS1, l1⟩ := hB.lat
      refine okQE b hS1 (useB (upX s1 h) fun q v2 t2 η2 hB2 h => ?_)
      obtain ⟨W2, s2, hS2, l2⟩ := hB2.lat
      obtain ⟨u, e1, h⟩ := oQ_P h
      obtain ⟨w, e2, h⟩ := oQ_P h
      obtain ⟨xs, e3, h⟩ := oQ_P h
      obtain ⟨ys, e4, h⟩ := oQ_P h
      obtain ⟨hb, h⟩ := bQ_P h
      show optF _ _
      rw [lst_v (l1 v2 η2 u (hS2.sub s2) e1) e3]
      show optF _ _
      rw [lst_v (l2 v2 η2 w hS2 e2) e4]
      exact ⟨of_decide_eq_true hb, h _ _ ⟨rfl, hS2.sub (s1.trans s2)⟩⟩)
  | .cmp o a b, v, x, ρ, η, W, X, K, hS, h => okQE a hS (useB h fun p v1 t1 η1 hB h => by
      obtain ⟨W1, s1, hS1, l1⟩ := hB.lat
      refine okQE b hS1 (useB (upX s1 h) fun q v2 t2 η2 hB2 h => ?_)
      obtain ⟨W2, s2, hS2, l2⟩ := hB2.lat
      obtain ⟨u, e1, h⟩ := oQ_P h
      obtain ⟨w, e2, h⟩ := oQ_P h
      obtain ⟨hb, h⟩ := bQ_P h
      obtain ⟨k, e3, h⟩ := oQ_P h
      rw [Bool.and_eq_true] at hb
      obtain ⟨c1, c2⟩ := cop_v hb.1 (left_of hB e1) (l1 v2 η2 u (hS2.sub s2) e1) (l2 v2 η2 w hS2 e2) hb.2 e3
      refine ⟨c1, ?_⟩
      rw [c2]
      exact h _ η2 ⟨rfl, hS2.sub (s1.trans s2)⟩)
  | .chain o1 o2 a b c, v, x, ρ, η, W, X, K, hS, h => okQE a hS (useP h fun u v1 η1 hS1 h => okQE b hS1 (useP h fun w v2 η2 hS2 h => by
      obtain ⟨hb, h⟩ := bQ_P h
      obtain ⟨k, e, h⟩ := oQ_P h
      obtain ⟨c1, c2⟩ := cop_v (b := .p u) (η := η2) left_p (fun t q => by cases q; rfl) (.inl rfl) (.inl rfl) hb e
      refine ⟨c1, ?_⟩
      rw [c2]
      cases k with
      | false => exact h _ η2 ⟨rfl, hS2⟩
      | true => exact okQE c hS2 (useP h fun z v3 η3 hS3 h => by
          obtain ⟨hb, h⟩ := bQ_P h
          obtain ⟨k, e, h⟩ := oQ_P h
          obtain ⟨c1, c2⟩ := cop_v (b := .p w) (η := η3) left_p (fun t q => by cases q; rfl) (.inl rfl) (.inl rfl) hb e
          refine ⟨c1, ?_⟩
          rw [c2]
          exact h _ η3 ⟨rfl, hS3⟩)))
  | .and a b, v, x, ρ, η, W, X, K, hS, h => okQE a hS (useP h fun u v1 η1 hS1 h => by
      obtain ⟨k, e, h⟩ := oQ_P h
      show optF _ _
      rw [tru_v (η := η1) (.inl rfl) e]
      cases k with
      | true => exact okQE b hS1 h
      | false => exact h _ η1 ⟨rfl, hS1⟩)
  | .or a b, v, x, ρ, η, W, X, K, hS, h => okQE a hS (useP h fun u v1 η1 hS1 h => by
      obtain ⟨k, e, h⟩ := oQ_P h
      show optF _ _
      rw [tru_v (η := η1) (.inl rfl) e]
      cases k with
      | true => exact h _ η1 ⟨rfl, hS1⟩
      | false => exact okQE b hS1 h)
  | .not a, v, x, ρ, η, W, X, K, hS, h => okQE a hS (useB h fun p v1 t1 η1 hB h => by
      obtain ⟨W1, s1, hS1, l1⟩ := hB.lat
      obtain ⟨u, e1, h⟩ := oQ_P h
      obtain ⟨k, e, h⟩ := oQ_P h
      show optF _ _
      rw [tru_v (l1 v1 η1 u hS1 e1) e]
      exact h _ η1 ⟨rfl, hS1.sub s1⟩)
  | .ite c a b, v, x, ρ, η, W, X, K, hS, h => okQC c hS ((Q.to_P h).imp (fun _ _ _ h => h) fun k v1 h η1 hS1 => by
      cases k with
      | true => exact okQE a hS1 h
      | false => exact okQE b hS1 h)
  | .idx a i, v, x, ρ, η, W, X, K, hS, h => okQE a hS (useB h fun p v1 t1 η1 hB h => by
      obtain ⟨W1, s1, hS1, l1⟩ := hB.lat
      refine okQE i hS1 (useP (upX s1 h) fun w v2 η2 hS2 h => ?_)
      obtain ⟨u, e1, h⟩ := oQ_P h
      obtain ⟨t, e2, h⟩ := oQ_P h
      show optF _ _
      rw [idx_v (l1 v2 η2 u hS2 e1) e2]
      exact h _ η2 ⟨rfl, hS2.sub s1⟩)
  | .slc a lo hi, v, x, ρ, η, W, X, K, hS, h => okQE a hS (useB h fun p v1 t1 η1 hB h => by
      obtain ⟨W1, s1, hS1, l1⟩ := hB.lat
      refine okQO lo hS1 ((Q.to_P (upX s1 h)).imp (fun _ _ _ h => h) fun i v2 h η2 hS2 => ?_)
      refine okQO hi hS2 ((Q.to_P h).imp (fun _ _ _ h => h) fun j v3 h η3 hS3 => ?_)
      obtain ⟨u, e1, h⟩ := oQ_P h
      obtain ⟨t, e2, h⟩ := oQ_P h
      show optF _ _
      rw [slc_v (l1 v3 η3 u hS3 e1) e2]
      exact h _ η3 ⟨rfl, hS3.sub s1⟩)
  | .slcM a lo hi, v, x, ρ, η, W, X, K, hS, h => okQE a hS (useB h fun p v1 t1 η1 hB h => by
      obtain ⟨W1, s1, hS1, l1⟩ := hB.lat
      refine okQO lo hS1 ((Q.to_P (upX s1 h)).imp (fun _ _ _ h => h) fun i v2 h η2 hS2 => ?_)
      refine okQO hi hS2 ((Q.to_P h).imp (fun _ _ _ h => h) fun j v3 h η3 hS3 => ?_)
      obtain ⟨u, e1, h⟩ := oQ_P h
      obtain ⟨t, e2, h⟩ := oQ_P h
      show optF _ _
      rw [slcM_v (l1 v3 η3 u hS3 e1) e2]
      exact fun p hp => h _ _ (new_list (hS3.sub s1) hp _))
  | .isinst a t, v, x, ρ, η, W, X, K, hS, h => okQE a hS (useP h fun u v1 η1 hS1 h => by
      obtain ⟨k, e, h⟩ := oQ_P h
      show optF _ _
      rw [isT_v e]
      exact h _ η1 ⟨rfl, hS1⟩)
  | .call f es, v, x, ρ, η, W, X, K, hS, h => okQRs es hS ((Q.to_P h).imp (fun _ _ _ h => h) fun bs v1 h ts η1 W1 hb hS1 => qdo_ok hΦ hb hS1 h)
  | .callK f es kw perm, v, x, ρ, η, W, X, K, hS, h => okQPs es hS ((Q.to_P h).imp (fun _ _ _ h => h) fun ts v1 h η1 hS1 => okQPs kw hS1 ((Q.to_P h).imp (fun _ _ _ h => h) fun us v2 h η2 hS2 => qdo_ok hΦ (BvsR.ps _) hS2 h))
  | .lc own tg src c elt, v, x, ρ, η, W, X, K, hS, h => okQI src hS ((Q.to_P h).imp (fun _ _ _ h => h) fun q v1 h sr η1 hsr hS1 => by
      obtain ⟨hb, h⟩ := bQ_P h
      simp only [Bool.and_eq_true] at hb
      obtain ⟨ho, hlk, htg⟩ := hb
      obtain ⟨W1, s1, hL, hst, unl⟩ := lock_ok hsr hS1
      refine qcomp_ok (R := fun v η => Sim v ρ η W1) (fun v η hR => hst η hR.ss) (fun y v2 η2 Kr hR h => ?_) q.1 [] (lock v1 q.2) η1 _ hL ((Q.to'_P h).imp fun us v6 h η6 hS6 => ?_)
      · obtain ⟨v3, e, h⟩ := oQ_P0 h
        obtain ⟨vv, e2, hS3, bk⟩ := bodyC htg hR e
        show optF (bindTg tg y (setvs ρ own)) _
        rw [e2]
        refine okQC c hS3 ((Q.to'_P0 h).P.imp (fun _ _ _ h => h) fun k v4 h η4 hS4 => ?_)
        cases k with
        | true => exact okQE elt hS4 ((Q.toP_P0 h).P.imp (fun _ _ _ h => h) fun b v5 ⟨u, eb, h⟩ t' η5 hB => by
            subst eb
            obtain ⟨rfl, hS5⟩ := hB
            exact h η5 (bk v5 η5 hS5))
        | false => exact h η4 (bk v4 η4 hS4)
      · rw [List.nil_append]
        exact h _ η6 ⟨rfl, rsts_ok (fun i t e => hS1.val e) ho (unl v6 ρ η6 hS6 fun _ _ => rfl)⟩)
  | .lcM own tg src c elt, v, x, ρ, η, W, X, K, hS, h => okQI src hS ((Q.to_P h).imp (fun _ _ _ h => h) fun q v1 h sr η1 hsr hS1 => by
      obtain ⟨hb, h⟩ := bQ_P h
      simp only [Bool.and_eq_true] at hb
      obtain ⟨ho, hlk, htg⟩ := hb
      obtain ⟨W1, s1, hL, hst, unl⟩ := lock_ok hsr hS1
      refine qcomp_ok (R := fun v η => Sim v ρ η W1) (fun v η hR => hst η hR.ss) (fun y v2 η2 Kr hR h => ?_) q.1 [] (lock v1 q.2) η1 _ hL ((Q.to'_P h).imp fun us v6 h η6 hS6 => ?_)
      · obtain ⟨v3, e, h⟩ := oQ_P0 h
        obtain ⟨vv, e2, hS3, bk⟩ := bodyC htg hR e
        show optF (bindTg tg y (setvs ρ own)) _
        rw [e2]
        refine okQC c hS3 ((Q.to'_P0 h).P.imp (fun _ _ _ h => h) fun k v4 h η4 hS4 => ?_)
        cases k with
        | true => exact okQE elt hS4 ((Q.toP_P0 h).P.imp (fun _ _ _ h => h) fun b v5 ⟨u, eb, h⟩ t' η5 hB => by
            subst eb
            obtain ⟨rfl, hS5⟩ := hB
            exact h η5 (bk v5 η5 hS5))
        | false => exact h η4 (bk v4 η4 hS4)
      · rw [List.nil_append]
        exact fun p hp => h _ _ (new_list (rsts_ok (fun i t e => hS1.val e) ho (unl v6 ρ η6 hS6 fun _ _ => rfl)) hp us))
  | .agg g a, v, x, ρ, η, W, X, K, hS, h => okQE a hS (useB h fun p v1 t1 η1 hB h => by
      obtain ⟨W1, s1, hS1, l1⟩ := hB.lat
      obtain ⟨u, e1, h⟩ := oQ_P h
      obtain ⟨ts, e2, h⟩ := oQ_P h
      show optF _ _
      rw [agg_v (l1 v1 η1 u hS1 e1) e2]
      cases g <;> first
        | exact fun p hp => h _ _ (new_list (hS1.sub s1) hp ts)
        | (obtain ⟨t, e, h⟩ := oQ_P h
           rw [optF_some, f_agg (by intro z; cases z), e]
           exact h _ η1 ⟨rfl, hS1.sub s1⟩))
  | .blt b es, v, x, ρ, η, W, X, K, hS, h => okQRs es hS ((Q.to_P h).imp (fun _ _ _ h => h) fun bs v1 h ts η1 W1 hb hS1 => by
      obtain ⟨us, e1, h⟩ := oQ_P h
      obtain ⟨t, e2, h⟩ := oQ_P h
      show optF _ _
      rw [blt_v (hb.views hS1 e1) e2]
      exact h _ η1 ⟨rfl, hS1.sub hb.sub⟩)
  | .mth m o es, v, x, ρ, η, W, X, K, hS, h => okQE o hS (useB h fun b v1 t1 η1 hB h => by
      cases b with
      | f m => exact h.elim
      | p u =>
        obtain ⟨rfl, hS1⟩ := hB
        obtain ⟨hT, h⟩ := bQ_P h
        refine ⟨mthT_v hT, okQPs es hS1 ((Q.to_P h).imp (fun _ _ _ h => h) fun ts v2 h η2 hS2 => ?_)⟩
        obtain ⟨hb, h⟩ := bQ_P h
        obtain ⟨t, e, h⟩ := oQ_P h
        obtain ⟨a1, a2⟩ := mthB_ok (η := η2) (K := fun t => K t η2) (mthB_v hT (by rw [e]; exact fun z => by cases z) hb) (by rw [mthP_v hT e]; exact h _ η2 ⟨rfl, hS2⟩)
        exact ⟨a1, optF_imp a2 fun q hq => by rw [hq.1]; exact hq.2⟩
      | s i =>
        obtain ⟨_, en, hS1⟩ := hB
        obtain ⟨hm, h⟩ := bQ_P h
        obtain ⟨xs0, ex0, h⟩ := oQ_P h
        obtain ⟨p0, ep0, g0, _⟩ := hS1.chgL (lst_slot ex0)
        rw [en] at ep0
        cases ep0
        cases m <;> first
          | exact Bool.noConfusion hm
          | (refine ⟨by show (match get η1 p0 with | some (.lst _) => true | _ => false) = true; rw [g0], okQPs es hS1 ((Q.to_P h).imp (fun _ _ _ h => h) fun ts v2 h η2 hS2 => ?_)⟩
             obtain ⟨xs, ex, h⟩ := oQ_P h
             obtain ⟨p1, ep1, g1, chg⟩ := hS2.chgL (lst_slot ex)
             rw [en] at ep1
             cases ep1
             match ts, h with
             | [t], h =>
               obtain ⟨hb, h⟩ := bQ_P h
               refine ⟨?_, ?_⟩
               · show match get η2 p0 with
                   | some (.lst xs) => xs.length < sizeLine
                   | _ => True
                 rw [g1]
                 exact of_decide_eq_true hb
               · show optF (match get η2 p0 with
                   | some (.lst xs) => some (T.non, put η2 p0 (.lst (xs ++ [t])))
                   | _ => none) _
                 rw [g1]
                 exact h _ _ ⟨rfl, chg _⟩))
  | .lenSet own tg src elt, v, x, ρ, η, W, X, K, hS, h => okQI src hS ((Q.to_P h).imp (fun _ _ _ h => h) fun q v1 h sr η1 hsr hS1 => by
      obtain ⟨hb, h⟩ := bQ_P h
      simp only [Bool.and_eq_true] at hb
      obtain ⟨hn, ho, hlk, htg⟩ := hb
      obtain ⟨W1, s1, hL, hst, unl⟩ := lock_ok hsr hS1
      refine ⟨of_decide_eq_true hn, qcomp_ok (R := fun v η => Sim v ρ η W1) (fun v η hR => hst η hR.ss) (fun y v2 η2 Kr hR h => ?_) q.1 [] (lock v1 q.2) η1 _ hL ((Q.to'_P h).imp fun us v6 h η6 hS6 => ?_)⟩
      · obtain ⟨v3, e, h⟩ := oQ_P0 h
        obtain ⟨vv, e2, hS3, bk⟩ := bodyC htg hR e
        show optF (bindTg tg y (setvs ρ own)) _
        rw [e2]
        exact okQE elt hS3 ((Q.toP_P0 h).P.imp (fun _ _ _ h => h) fun b v5 ⟨u, eb, h⟩ t' η5 hB => by
            subst eb
            obtain ⟨rfl, hS5⟩ := hB
            obtain ⟨hk, h⟩ := bQ_P0 h
            exact ⟨hk, h η5 (bk v5 η5 hS5)⟩)
      · rw [List.nil_append]
        exact h _ η6 ⟨rfl, rsts_ok (fun i t e => hS1.val e) ho (unl v6 ρ η6 hS6 fun _ _ => rfl)⟩)
  | .hof f e ret, v, x, ρ, η, W, X, K, hS, h => by
    unfold qE at h
    refine okQE e (X := fun x η' => x.cls = f ∧ K x.arg η') (K := fun _ η' => K (.str ret) η') hS ?_
    cases r : qE Ψ e v x with
    | bad => rw [r] at h; exact h.elim
    | ok b v1 =>
      rw [r] at h
      exact fun t' η' hB => h _ η' ⟨rfl, hB.sim⟩
    | exn c t v1 =>
      rw [r] at h
      intro η' hS'
      by_cases hc : c = f
      · have h : (match decide (c = f) with
          | true => Q.ok (Bv.p t) v1
          | false => Q.bad).P (Xq X ρ W) (Kq K ρ W) := h
        rw [decide_eq_true hc] at h
        exact ⟨hc, h _ η' ⟨rfl, hS'⟩⟩
      · have h : (match decide (c = f) with
          | true => Q.ok (Bv.p t) v1
          | false => Q.bad).P (Xq X ρ W) (Kq K ρ W) := h
        rw [decide_eq_false hc] at h
        exact h.elim
  | .exc, v, x, ρ, η, W, X, K, hS, h => by
    unfold qE at h
    obtain ⟨t, e, h⟩ := oQ_P h
    show optF x _
    rw [e]
    exact h _ η ⟨rfl, hS⟩
  | .frz i, v, x, ρ, η, W, X, K, hS, h => by
    unfold qE at h
    obtain ⟨xs, ex, h⟩ := oQ_P h
    obtain ⟨p, e1, g, wp, s⟩ := hS.takeL (lst_slot ex)
    show optF (frzV (nth ρ i) η) _
    have e2 : frzV (nth ρ i) η = some (xs, p) := by
      rw [e1]
      show (match get η p with | some (.lst xs) => some (xs, p) | _ => none) = _
      rw [g]
    rw [e2]
    refine h _ _ ⟨rfl, ?_⟩
    obtain ⟨G, a, b, c⟩ := s
    have np : ∀ y ∈ G, y ≠ p := fun y hy q => by
      have := b y hy
      rw [q, get_cons, if_pos rfl] at this
      cases this
    refine ⟨G, a.mono fun y hy => by rw [get_del, if_neg (np y hy)], fun y hy => ?_, fun y o q => ?_⟩
    · have := b y hy
      rw [get_cons, if_neg (np y hy)] at this
      exact this
    · rw [get_del, if_neg (fun z => by rw [z, wp] at q; cases q)]
      exact c y o (by rw [get_cons, if_neg (fun z => by rw [z, wp] at q; cases q)]; exact q)
  | .weak e, v, x, ρ, η, W, X, K, hS, h => okQE e hS (h.imp (fun _ _ _ h => h) fun b v' h t' η' hB => ⟨η', Sub.refl, h t' η' hB⟩)
  | .gix _ ks vs e, v, x, ρ, η, W, X, K, hS, h => okQE e hS (useP h fun u v1 η1 hS1 h => by
      obtain ⟨z, e1, h⟩ := oQ_P h
      obtain ⟨t, e2, h⟩ := oQ_P h
      show optF _ _
      rw [e1]
      show optF (lookS z ks vs) _
      rw [e2]
      exact h t η1 ⟨rfl, hS1⟩)
  | .gin neg _ ks e, v, x, ρ, η, W, X, K, hS, h => okQE e hS (useP h fun u v1 η1 hS1 h => by
      obtain ⟨z, e1, h⟩ := oQ_P h
      show optF _ _
      rw [e1]
      exact h _ η1 ⟨rfl, hS1⟩)
  | .dsel ks vs e, v, x, ρ, η, W, X, K, hS, h => okQE e hS (useP h fun u v1 η1 hS1 h => by
      obtain ⟨z, e1, h⟩ := oQ_P h
      obtain ⟨t, e2, h⟩ := oQ_P h
      show optF _ _
      rw [e1]
      show optF (lookS z ks vs) _
      rw [e2]
      exact h t η1 ⟨rfl, hS1⟩)
theorem okQPs : ∀ (es : Es) {v : Vn} {x : Option T} {ρ : List (Option T)} {η W : Sto} {X : KX} {K : KL}, Sim v ρ η W → (qPs Ψ es v x).P (Xq X ρ W) (fun ts v' => ∀ η', Sim v' ρ η' W → K ts η') → wEs Φ es ⟨ρ, x⟩ η X K
  | .nil, v, x, ρ, η, W, X, K, hS, h => h η hS
  | .cons e es, v, x, ρ, η, W, X, K, hS, h => okQE e hS (useP h fun t v1 η1 hS1 h => okQPs es hS1 ((Q.to_P h).imp (fun _ _ _ h => h) fun ts v2 h η2 hS2 => h η2 hS2))
theorem okQRs : ∀ (es : Es) {v : Vn} {x : Option T} {ρ : List (Option T)} {η W : Sto} {X : KX} {K : KL}, Sim v ρ η W → (qRs Ψ es v x).P (Xq X ρ W) (fun bs v' => ∀ ts η' W1, BvsR ρ W bs ts W1 → Sim v' ρ η' W1 → K ts η') → wEs Φ es ⟨ρ, x⟩ η X K
  | .nil, v, x, ρ, η, W, X, K, hS, h => h [] η W .nil hS
  | .cons e es, v, x, ρ, η, W, X, K, hS, h => okQE e hS (useB h fun b v1 t1 η1 hB h => by
      cases b with
      | p t =>
        obtain ⟨rfl, hS1⟩ := hB
        exact okQRs es hS1 ((Q.to_P h).imp (fun _ _ _ h => h) fun bs v2 h ts η2 W1 hb hS2 => h _ η2 W1 (.p hb) hS2)
      | s i =>
        obtain ⟨_, en, hS1⟩ := hB
        exact okQRs es hS1 ((Q.to_P h).imp (fun _ _ _ h => h) fun bs v2 h ts η2 W1 hb hS2 => h _ η2 W1 (.s en hb) hS2)
      | f m =>
        obtain ⟨Wn, F, s1, hm, hF, hS1⟩ := hB
        exact okQRs es hS1 ((Q.to_P (upX s1 h)).imp (fun _ _ _ h => h) fun bs v2 h ts η2 W1 hb hS2 => h _ η2 W1 (.f s1 hm hF hb) hS2))
theorem okQC : ∀ (c : C) {v : Vn} {x : Option T} {ρ : List (Option T)} {η W : Sto} {X : KX} {K : Bool → Sto → Prop}, Sim v ρ η W → (qC Ψ c v x).P (Xq X ρ W) (fun k v' => ∀ η', Sim v' ρ η' W → K k η') → wC Φ c ⟨ρ, x⟩ η X K
  | .and a b, v, x, ρ, η, W, X, K, hS, h => okQC a hS ((Q.to_P h).imp (fun _ _ _ h => h) fun k v1 h η1 hS1 => by
      cases k with
      | true => exact okQC b hS1 h
      | false => exact h η1 hS1)
  | .or a b, v, x, ρ, η, W, X, K, hS, h => okQC a hS ((Q.to_P h).imp (fun _ _ _ h => h) fun k v1 h η1 hS1 => by
      cases k with
      | true => exact h η1 hS1
      | false => exact okQC b hS1 h)
  | .not a, v, x, ρ, η, W, X, K, hS, h => okQC a hS ((Q.to_P h).imp (fun _ _ _ h => h) fun k v1 h η1 hS1 => h η1 hS1)
  | .val e, v, x, ρ, η, W, X, K, hS, h => okQE e hS (useB h fun p v1 t1 η1 hB h => by
      obtain ⟨W1, s1, hS1, l1⟩ := hB.lat
      obtain ⟨u, e1, h⟩ := oQ_P h
      obtain ⟨k, e, h⟩ := oQ_P h
      show optF _ _
      rw [tru_v (l1 v1 η1 u hS1 e1) e]
      exact h η1 (hS1.sub s1))
  | .tt, v, x, ρ, η, W, X, K, hS, h => h η hS
  | .cmp o a b, v, x, ρ, η, W, X, K, hS, h => okQE a hS (useB h fun p v1 t1 η1 hB h => by
      obtain ⟨W1, s1, hS1, l1⟩ := hB.lat
      refine okQE b hS1 (useB (upX s1 h) fun q v2 t2 η2 hB2 h => ?_)
      obtain ⟨W2, s2, hS2, l2⟩ := hB2.lat
      obtain ⟨u, e1, h⟩ := oQ_P h
      obtain ⟨w, e2, h⟩ := oQ_P h
      obtain ⟨hb, h⟩ := bQ_P h
      obtain ⟨k, e3, h⟩ := oQ_P h
      rw [Bool.and_eq_true] at hb
      obtain ⟨c1, c2⟩ := cop_v hb.1 (left_of hB e1) (l1 v2 η2 u (hS2.sub s2) e1) (l2 v2 η2 w hS2 e2) hb.2 e3
      refine ⟨c1, ?_⟩
      rw [c2]
      exact h η2 (hS2.sub (s1.trans s2)))
  | .chain o1 o2 a b c, v, x, ρ, η, W, X, K, hS, h => okQE a hS (useP h fun u v1 η1 hS1 h => okQE b hS1 (useP h fun w v2 η2 hS2 h => by
      obtain ⟨hb, h⟩ := bQ_P h
      obtain ⟨k, e, h⟩ := oQ_P h
      obtain ⟨c1, c2⟩ := cop_v (b := .p u) (η := η2) left_p (fun t q => by cases q; rfl) (.inl rfl) (.inl rfl) hb e
      refine ⟨c1, ?_⟩
      rw [c2]
      cases k with
      | false => exact h η2 hS2
      | true => exact okQE c hS2 (useP h fun z v3 η3 hS3 h => by
          obtain ⟨hb, h⟩ := bQ_P h
          obtain ⟨k, e, h⟩ := oQ_P h
          obtain ⟨c1, c2⟩ := cop_v (b := .p w) (η := η3) left_p (fun t q => by cases q; rfl) (.inl rfl) (.inl rfl) hb e
          refine ⟨c1, ?_⟩
          rw [c2]
          exact h η3 hS3)))
theorem okQI : ∀ (it : It) {v : Vn} {x : Option T} {ρ : List (Option T)} {η W : Sto} {X : KX} {K : List T → Option Addr → Sto → Prop}, Sim v ρ η W → (qI Ψ it v x).P (Xq X ρ W) (fun q v' => ∀ sr η', SrcR q.2 sr q.1 v' ρ → Sim v' ρ η' W → K q.1 sr η') → wI Φ it ⟨ρ, x⟩ η X K
  | .seq e, v, x, ρ, η, W, X, K, hS, h => okQE e hS (useB h fun p v1 t1 η1 hB h => by
      obtain ⟨W1, s1, hS1, l1⟩ := hB.lat
      obtain ⟨u, e1, h2⟩ := oQ_P h
      obtain ⟨ts, e, h3⟩ := oQ_P h2
      clear h h2
      show optF _ _
      rw [seq_v (l1 v1 η1 u hS1 e1) e]
      cases p with
      | f m => exact h3.elim
      | p t =>
        obtain ⟨rfl, _⟩ := hB
        have e1 : some t1 = some u := e1
        injection e1 with e1
        refine h3 _ η1 ?_ (hS1.sub s1)
        subst e1
        cases t1 <;> first | rfl | (cases e; done)
      | s i =>
        obtain ⟨⟨m, em⟩, en, _⟩ := hB
        have e1 : (slot v1 i).view = some u := e1
        rw [em] at e1
        refine h3 _ η1 ⟨?_, fun p ep => ?_⟩ (hS1.sub s1)
        · cases m <;> first
            | (cases e1; cases e; exact em)
            | cases e1
        · rw [en] at ep
          cases ep
          rfl)
  | .chars e, v, x, ρ, η, W, X, K, hS, h => okQE e hS (useP h fun u v1 η1 hS1 h => by
      obtain ⟨y, e, h⟩ := oQ_P h
      show optF _ _
      rw [e]
      exact h _ η1 rfl hS1)
  | .range a, v, x, ρ, η, W, X, K, hS, h => okQE a hS (useP h fun u v1 η1 hS1 h => by
      obtain ⟨y, e, h⟩ := oQ_P h
      obtain ⟨hb, h⟩ := bQ_P h
      show optF _ _
      rw [e]
      refine ⟨?_, h _ η1 rfl hS1⟩
      unfold okRg at hb
      simp only [Bool.and_eq_true, decide_eq_true_eq] at hb
      exact hb)
  | .range2 a b, v, x, ρ, η, W, X, K, hS, h => okQE a hS (useP h fun u v1 η1 hS1 h => okQE b hS1 (useP h fun w v2 η2 hS2 h => by
      obtain ⟨m, e1, h⟩ := oQ_P h
      obtain ⟨n, e2, h⟩ := oQ_P h
      obtain ⟨hb, h⟩ := bQ_P h
      show optF _ _
      rw [e1]
      show optF _ _
      rw [e2]
      unfold okRg at hb
      simp only [Bool.and_eq_true, decide_eq_true_eq] at hb
      exact ⟨hb.1.1, hb.1.2, hb.2, h _ η2 rfl hS2⟩))
  | .zip a b, v, x, ρ, η, W, X, K, hS, h => okQE a hS (useP h fun u v1 η1 hS1 h => okQE b hS1 (useP h fun w v2 η2 hS2 h => by
      obtain ⟨m, e1, h⟩ := oQ_P h
      obtain ⟨n, e2, h⟩ := oQ_P h
      show optF _ _
      rw [still_v (η := η2) e1]
      show optF _ _
      rw [still_v (η := η2) e2]
      exact h _ η2 rfl hS2))
  | .enum a, v, x, ρ, η, W, X, K, hS, h => okQE a hS (useP h fun u v1 η1 hS1 h => by
      obtain ⟨y, e, h⟩ := oQ_P h
      show optF _ _
      rw [still_v (η := η1) e]
      exact h _ η1 rfl hS1)
theorem okQO : ∀ (o : Op) {v : Vn} {x : Option T} {ρ : List (Option T)} {η W : Sto} {X : KX} {K : Option Int → Sto → Prop}, Sim v ρ η W → (qO Ψ o v x).P (Xq X ρ W) (fun i v' => ∀ η', Sim v' ρ η' W → K i η') → wO Φ o ⟨ρ, x⟩ η X K
  | .no, v, x, ρ, η, W, X, K, hS, h => h η hS
  | .some e, v, x, ρ, η, W, X, K, hS, h => okQE e hS (useP h fun u v1 η1 hS1 h => by
      obtain ⟨y, e, h⟩ := oQ_P h
      show optF _ _
      rw [e]
      exact h η1 hS1)
end
end
end TL

set_option maxHeartbeats 4000000
/-! the evaluator tells the truth: statements, calls -/
namespace TL
open PySem PySem.Spec PyProof.Rows L2
section
variable {α : Type} {pin pin' : List Nat} {ρ ρ0 : List (Option T)} {W W1 : Sto} {D : Dn}
theorem Pin.refl : Pin pin ρ ρ := fun _ _ => rfl
theorem Pin.trans {ρ1 ρ2 : List (Option T)} (h : Pin pin ρ ρ1) (k : Pin pin ρ1 ρ2) : Pin pin ρ ρ2 := fun i hi => (k i hi).trans (h i hi)
/-- from the names as they are now -/
theorem QS.P.now {r : QS} (h : r.P pin ρ0 W D) (k : Pin pin ρ0 ρ) : r.P pin ρ W D := by
  cases r with
  | nx v x => exact fun ρ' η' s p => h ρ' η' s (k.trans p)
  | bk v x => exact fun ρ' η' s p => h ρ' η' s (k.trans p)
  | ct v x => exact fun ρ' η' s p => h ρ' η' s (k.trans p)
  | rt b v => exact ⟨h.1, fun ρ' t' η' s p => h.2 ρ' t' η' s (k.trans p)⟩
  | exn c t v => exact fun ρ' η' s p => h ρ' η' s (k.trans p)
  | bad => exact h
theorem Q.toS_P {r : Q α} {k : α → Vn → QS} (h : (r.toS k).P pin ρ W D) : r.P (Xq D.X ρ W) fun a v => (k a v).P pin ρ W D := by
  cases r with
  | ok a v => exact h
  | exn c t v => exact fun η' s => h ρ η' s Pin.refl
  | bad => exact h
theorem Q.toPS_P {r : Q Bv} {k : T → Vn → QS} (h : (r.toPS k).P pin ρ W D) : r.P (Xq D.X ρ W) fun b v => ∃ t, b = .p t ∧ (k t v).P pin ρ W D := by
  cases r with
  | ok b v => cases b <;> first | exact ⟨_, rfl, h⟩ | exact h.elim
  | exn c t v => exact fun η' s => h ρ η' s Pin.refl
  | bad => exact h
theorem usePS {r : Q Bv} {k : T → Vn → QS} {C : T → Sto → Prop} (h : (r.toPS k).P pin ρ W D) (f : ∀ t v' η', Sim v' ρ η' W → (k t v').P pin ρ W D → C t η') : r.P (Xq D.X ρ W) (Kq C ρ W) :=
  (Q.toPS_P h).imp (fun _ _ _ h => h) fun b v' ⟨t, e, h⟩ t' η' hB => by
    subst e
    obtain ⟨rfl, hS⟩ := hB
    exact f _ v' η' hS h
theorem useBS {r : Q Bv} {k : Bv → Vn → QS} {C : T → Sto → Prop} (h : (r.toS k).P pin ρ W D) (f : ∀ b v' t' η', BvR b t' v' ρ η' W → (k b v').P pin ρ W D → C t' η') : r.P (Xq D.X ρ W) (Kq C ρ W) :=
  (Q.toS_P h).imp (fun _ _ _ h => h) fun b v' h t' η' hB => f b v' t' η' hB h
theorem oS_P {o : Option α} {k : α → QS} (h : (oS o k).P pin ρ W D) : ∃ a, o = some a ∧ (k a).P pin ρ W D := by cases o <;> first | exact ⟨_, rfl, h⟩ | exact h.elim
theorem bS_P {b : Bool} {k : QS} (h : (bS b k).P pin ρ W D) : b = true ∧ k.P pin ρ W D := by cases b <;> first | exact ⟨rfl, h⟩ | exact h.elim
theorem QS.nxt_P {r : QS} {f : Vn → Option T → QS} (h : (r.nxt f).P pin ρ W D) {N : Env → Sto → Prop} (k : ∀ v x ρ' η', Sim v ρ' η' W → Pin pin ρ ρ' → (f v x).P pin ρ' W D → N ⟨ρ', x⟩ η') : r.P pin ρ W ⟨N, D.rt, D.bk, D.ct, D.X⟩ := by
  cases r with
  | nx v x => exact fun ρ' η' s p => k v x ρ' η' s p (QS.P.now h p)
  | bk v x => exact h
  | ct v x => exact h
  | rt b v => exact h
  | exn c t v => exact h
  | bad => exact h
theorem QS.turn_P {r : QS} {f : Vn → Option T → QS} (h : (r.turn f).P pin ρ W D) {N : Env → Sto → Prop} (k : ∀ v x ρ' η', Sim v ρ' η' W → Pin pin ρ ρ' → (f v x).P pin ρ' W D → N ⟨ρ', x⟩ η') : r.P pin ρ W ⟨N, D.rt, D.nx, N, D.X⟩ := by
  cases r with
  | nx v x => exact fun ρ' η' s p => k v x ρ' η' s p (QS.P.now h p)
  | bk v x => exact h
  | ct v x => exact fun ρ' η' s p => k v x ρ' η' s p (QS.P.now h p)
  | rt b v => exact h
  | exn c t v => exact h
  | bad => exact h
theorem qfor_ok {st : Sto → Prop} {tg : Tg} {body : Dn → Env → Sto → Prop} {qb : Vn → Option T → QS} (hst : ∀ v ρ η, Sim v ρ η W → st η)
    (hb : ∀ (D : Dn) v x ρ η, Sim v ρ η W → (qb v x).P pin ρ W D → body D ⟨ρ, x⟩ η) : ∀ (ts : List T) (D : Dn) (v : Vn) (x : Option T) (ρ : List (Option T)) (η : Sto), Sim v ρ η W → (qfor pin tg qb ts v x).P pin ρ W D → wfor st tg body D ts ⟨ρ, x⟩ η
  | [], D, v, x, ρ, η, hS, h => ⟨hst v ρ η hS, h ρ η hS Pin.refl⟩
  | y :: ys, D, v, x, ρ, η, hS, h => by
    refine ⟨hst v ρ η hS, ?_⟩
    obtain ⟨hp, h⟩ := bS_P h
    obtain ⟨v', e, h⟩ := oS_P h
    obtain ⟨ρ', e2, hS2, hl, hn⟩ := hS.bind e
    show optF (bindTg tg y ρ) _
    rw [e2]
    have pn : Pin pin ρ ρ' := fun i hi => hn i fun m => by
      have := List.all_eq_true.mp hp i m
      simp at this
      exact this hi
    exact hb _ v' x ρ' η hS2 (QS.turn_P (h.now pn) fun v2 x2 ρ2 η2 hS3 _ h => qfor_ok hst hb ys D v2 x2 ρ2 η2 hS3 h)
theorem qwhile_ok {test : Env → Sto → (Bool → Sto → Prop) → Prop} {body : Dn → Env → Sto → Prop} {qt : Vn → Option T → Q Bool} {qb : Vn → Option T → QS} {D : Dn} 
    (ht : ∀ v x ρ η K, Sim v ρ η W → (qt v x).P (Xq D.X ρ W) (fun k v' => ∀ η', Sim v' ρ η' W → K k η') → test ⟨ρ, x⟩ η K)
    (hb : ∀ (D : Dn) v x ρ η, Sim v ρ η W → (qb v x).P pin ρ W D → body D ⟨ρ, x⟩ η) : ∀ (n : Nat) (v : Vn) (x : Option T) (ρ : List (Option T)) (η : Sto), Sim v ρ η W → (qwhile qt qb n v x).P pin ρ W D → wwhile test body D n ⟨ρ, x⟩ η
  | 0, v, x, ρ, η, hS, h => h.elim
  | n + 1, v, x, ρ, η, hS, h => by
    refine ht v x ρ η _ hS ((Q.toS_P h).imp (fun _ _ _ h => h) fun k v1 h η1 hS1 => ?_)
    cases k with
    | false => exact h ρ η1 hS1 Pin.refl
    | true => exact hb _ v1 x ρ η1 hS1 (QS.turn_P h fun v2 x2 ρ2 η2 hS2 _ h => qwhile_ok ht hb n v2 x2 ρ2 η2 hS2 h)
theorem nth_setv_same : ∀ {ρ : List (Option T)} {i : Nat} {t : T}, i < ρ.length → nth (setv ρ i t) i = some t
  | _ :: _, 0, t, _ => rfl
  | _ :: ρ, i + 1, t, h => nth_setv_same (ρ := ρ) (i := i) (Nat.lt_of_succ_lt_succ h)
theorem setv_out : ∀ {ρ : List (Option T)} {i : Nat} {t : T}, ρ.length ≤ i → setv ρ i t = ρ
  | [], i, t, h => by cases i <;> rfl
  | _ :: _, 0, t, h => by cases h
  | a :: ρ, i + 1, t, h => congrArg (a :: ·) (setv_out (ρ := ρ) (i := i) (Nat.le_of_succ_le_succ h))
theorem setS_out : ∀ {v : Vn} {i : Nat} {s : Sl}, v.length ≤ i → setS v i s = v
  | [], i, s, h => by cases i <;> rfl
  | _ :: _, 0, s, h => by cases h
  | a :: v, i + 1, s, h => congrArg (a :: ·) (setS_out (v := v) (i := i) (Nat.le_of_succ_le_succ h))
/-- a thing laid at a name -/
theorem layO {i : Nat} {t' : T} {η : Sto} {v0 : Vn} {m : M} {F G : List Addr} (hv : SimL η v0 ρ G) (hd : ∀ a ∈ G, get W a = none) (hm : Mr η m t' F) (hF : ∀ a ∈ F, get W a = none) (hx : ∀ a ∈ F, a ∉ G) (hs : Sub W η) : Sim (setS v0 i (.own m)) (setv ρ i t') η W := by
  by_cases hi : i < ρ.length
  · obtain ⟨G1, a1, s1⟩ := hv.dropS t' i
    obtain ⟨G2, a2, s2⟩ := a1.putO slot_no (nth_setv_same hi) hm fun a ha hg => hx a ha (s1 a hg)
    rw [setS_setS] at a2
    exact ⟨G2, a2, fun a ha => ((s2 a).mp ha).elim (hF a) fun h => hd a (s1 a h), hs⟩
  · rw [setv_out (by omega), setS_out (by rw [hv.len]; omega)]
    exact ⟨G, hv, hd, hs⟩
/-- a name stored -/
theorem stoV_ok {i : Nat} {b : Bv} {t' : T} {v v2 : Vn} {η : Sto} (hB : BvR b t' v ρ η W) (e : stoV pin i b v = some v2) : Sim v2 (setv ρ i t') η W ∧ Pin pin ρ (setv ρ i t') := by
  unfold stoV at e
  cases hp : pin.contains i with
  | true => rw [hp] at e; cases e
  | false =>
    rw [hp] at e
    have pn : Pin pin ρ (setv ρ i t') := fun j hj => nth_setv_ne (by
      rintro rfl
      have : pin.contains i = true := by simpa using hj
      rw [hp] at this
      cases this)
    refine ⟨?_, pn⟩
    cases b with
    | p t =>
      cases e
      obtain ⟨rfl, hS⟩ := hB
      exact hS.putV i _
    | f m =>
      cases e
      obtain ⟨W1, F, s1, hm, hF, G, a, b, c⟩ := hB
      exact layO a (fun x hx => s1.none (b x hx)) (hm.sub c) hF (fun x hx hg => by
        obtain ⟨o, q⟩ := hm.dom x hx
        rw [b x hg] at q
        cases q) (s1.trans c)
    | s j =>
      obtain ⟨_, en, G, a, b, c⟩ := hB
      cases q : slot v j with
      | no => simp only [q] at e; cases e
      | val t => simp only [q] at e; cases e
      | own m =>
        simp only [q] at e
        cases e
        obtain ⟨t2, F, G', b1, b2, b3, b4, b5⟩ := a.take q
        rw [en] at b1
        cases b1
        exact layO b3 (fun x hx => b x ((b5 x).mpr (.inr hx))) b2 (fun x hx => b x ((b5 x).mpr (.inl hx))) b4 c
/-- what is given back -/
theorem outV_ok {b : Bv} {t' : T} {v : Vn} {η : Sto} {q : Bv × Vn} (hB : BvR b t' v ρ η W) (e : outV b v = some q) : isOut q.1 ∧ BvR q.1 t' q.2 ρ η W := by
  cases b with
  | p t => cases e; exact ⟨trivial, hB⟩
  | f m => cases e; exact ⟨trivial, hB⟩
  | s j =>
    obtain ⟨_, en, G, a, b, c⟩ := hB
    cases q0 : slot v j with
    | no => simp only [outV, q0] at e; cases e
    | val t => simp only [outV, q0] at e; cases e
    | own m =>
      simp only [outV, q0] at e
      cases e
      obtain ⟨t2, F, G', b1, b2, b3, b4, b5⟩ := a.take q0
      rw [en] at b1
      cases b1
      have hF : ∀ x ∈ F, get W x = none := fun x hx => b x ((b5 x).mpr (.inl hx))
      refine ⟨trivial, plusS η F W, F, sub_plus hF, b2.mono (fun x hx => by rw [get_plus hF, if_pos hx]), hF, G', b3, fun x hx => ?_, plus_sub hF c⟩
      rw [get_plus hF, if_neg (fun m => b4 x m hx)]
      exact b x ((b5 x).mpr (.inr hx))
end
section
variable {Φ : Nat → List T → Sto → KX → KE → Prop} {Ψ : Nat → Vn → QC} {fu : Nat} (hΦ : CallOk Φ Ψ)
include hΦ
mutual
theorem okQS : ∀ (s : S) {pin : List Nat} {v : Vn} {x : Option T} {ρ : List (Option T)} {η W : Sto} {D : Dn}, Sim v ρ η W → (qS Ψ fu pin s v x).P pin ρ W D → wS Φ s D ⟨ρ, x⟩ η
  | .expr e, pin, v, x, ρ, η, W, D, hS, h => okQE hΦ e hS (useBS h fun b v1 t' η1 hB h => h ρ η1 hB.sim Pin.refl)
  | .ret e, pin, v, x, ρ, η, W, D, hS, h => okQE hΦ e hS (useBS h fun b v1 t' η1 hB h => by
      obtain ⟨q, e, h⟩ := oS_P h
      obtain ⟨_, hB⟩ := outV_ok hB e
      exact h.2 ρ t' η1 hB Pin.refl)
  | .retN, pin, v, x, ρ, η, W, D, hS, h => h.2 ρ .non η ⟨rfl, hS⟩ Pin.refl
  | .set i e, pin, v, x, ρ, η, W, D, hS, h => okQE hΦ e hS (useBS h fun b v1 t' η1 hB h => by
      obtain ⟨v2, e, h⟩ := oS_P h
      obtain ⟨hS2, p⟩ := stoV_ok hB e
      exact h _ η1 hS2 p)
  | .par i j a b, pin, v, x, ρ, η, W, D, hS, h => okQE hΦ a hS (usePS h fun t v1 η1 hS1 h => okQE hΦ b hS1 (usePS h fun u v2 η2 hS2 h => by
      obtain ⟨v3, e3, h⟩ := oS_P h
      obtain ⟨v4, e4, h⟩ := oS_P h
      obtain ⟨hS3, p3⟩ := stoV_ok (b := .p t) (t' := t) ⟨rfl, hS2⟩ e3
      obtain ⟨hS4, p4⟩ := stoV_ok (b := .p u) (t' := u) ⟨rfl, hS3⟩ e4
      exact h _ η2 hS4 (p3.trans p4)))
  | .unp tg e, pin, v, x, ρ, η, W, D, hS, h => okQE hΦ e hS (usePS h fun t v1 η1 hS1 h => by
      obtain ⟨hp, h⟩ := bS_P h
      obtain ⟨v2, e, h⟩ := oS_P h
      obtain ⟨ρ', e2, hS2, hl, hn⟩ := hS1.bind e
      show optF (bindTg tg t ρ) _
      rw [e2]
      exact h ρ' η1 hS2 fun i hi => hn i fun m => by
        have := List.all_eq_true.mp hp i m
        simp at this
        exact this hi)
  | .setIdx a i e, pin, v, x, ρ, η, W, D, hS, h => okQE hΦ e hS (usePS h fun t v1 η1 hS1 h => okQE hΦ a hS1 (useBS h fun b v2 t2 η2 hB h => by
      cases b with
      | p u => exact h.elim
      | f m => exact h.elim
      | s j =>
        obtain ⟨_, en, hS2⟩ := hB
        obtain ⟨xs0, ex0, h⟩ := oS_P h
        refine okQE hΦ i hS2 (usePS h fun w v3 η3 hS3 h => ?_)
        obtain ⟨xs, ex, h1⟩ := oS_P h
        obtain ⟨k, ek, h2⟩ := oS_P h1
        obtain ⟨n, en2, h3⟩ := oS_P h2
        clear h h1 h2
        obtain ⟨p, ep, g, chg⟩ := hS3.chgL (lst_slot ex)
        rw [en] at ep
        injection ep with ep
        subst ep
        have ew : w = .int k := by cases w <;> cases ek; rfl
        subst ew
        show optF (match get η3 p with
          | some (.lst xs) => (ixN xs.length k).map fun j => TL.put η3 p (.lst (xs.set j t))
          | _ => none) _
        rw [g]
        show optF ((ixN xs.length k).map fun j => TL.put η3 p (.lst (xs.set j t))) _
        rw [en2]
        exact h3 ρ _ (chg _) Pin.refl))
  | .iff c a b, pin, v, x, ρ, η, W, D, hS, h => okQC hΦ c hS ((Q.toS_P h).imp (fun _ _ _ h => h) fun k v1 h η1 hS1 => by
      cases k with
      | true => exact okQSs a hS1 h
      | false => exact okQSs b hS1 h)
  | .for tg it b, pin, v, x, ρ, η, W, D, hS, h => okQI hΦ it hS ((Q.toS_P h).imp (fun _ _ _ h => h) fun q v1 h sr η1 hsr hS1 => by
      obtain ⟨W1, s1, hL, hst, unl⟩ := lock_ok hsr hS1
      have pinW : ∀ {ρ' : List (Option T)}, Pin (pinS pin q.2) ρ ρ' → Pin pin ρ ρ' ∧ ∀ i, q.2 = .own i → nth ρ' i = nth ρ i := fun {ρ'} p => by
        cases e : q.2 with
        | free => rw [e] at p; exact ⟨p, fun i z => by cases z⟩
        | own j =>
          rw [e] at p
          exact ⟨fun i hi => p i (List.mem_cons_of_mem _ hi), fun i z => by cases z; exact p j List.mem_cons_self⟩
      refine qfor_ok (pin := pinS pin q.2) (W := W1) (fun v ρ η hR => hst η hR.ss) (fun D' v' x' ρ' η' hS' h' => okQSs b hS' h') q.1 D (lock v1 q.2) x ρ η1 hL ?_
      cases r : qfor (pinS pin q.2) tg (fun v' x' => qSs Ψ fu (pinS pin q.2) b v' x') q.1 (lock v1 q.2) x with
      | nx v2 x2 =>
        rw [r] at h
        intro ρ' η' s p
        obtain ⟨p1, p2⟩ := pinW p
        exact h ρ' η' (unl v2 ρ' η' s p2) p1
      | bk v2 x2 =>
        rw [r] at h
        exact fun ρ' η' s p => h ρ' η' (s.sub s1) (pinW p).1
      | ct v2 x2 =>
        rw [r] at h
        exact fun ρ' η' s p => h ρ' η' (s.sub s1) (pinW p).1
      | rt b v2 =>
        rw [r] at h
        exact ⟨h.1, fun ρ' t' η' s p => h.2 ρ' t' η' (s.up s1) (pinW p).1⟩
      | exn c t v2 =>
        rw [r] at h
        exact fun ρ' η' s p => h ρ' η' (s.sub s1) (pinW p).1
      | bad => rw [r] at h; exact h.elim)
  | .while c b, pin, v, x, ρ, η, W, D, hS, h => ⟨fu, qwhile_ok (fun v x ρ η K hS h => okQC hΦ c hS h) (fun D v x ρ η hS h => okQSs b hS h) fu v x ρ η hS h⟩
  | .brk, pin, v, x, ρ, η, W, D, hS, h => h ρ η hS Pin.refl
  | .cont, pin, v, x, ρ, η, W, D, hS, h => h ρ η hS Pin.refl
  | .pass, pin, v, x, ρ, η, W, D, hS, h => h ρ η hS Pin.refl
  | .raise c e, pin, v, x, ρ, η, W, D, hS, h => okQE hΦ e hS (usePS h fun t v1 η1 hS1 h => h ρ η1 hS1 Pin.refl)
  | .tryE k e c b, pin, v, x, ρ, η, W, D, hS, h => by
    unfold qS at h
    refine okQE hΦ e (X := fun y η' => if y.cls = c then wSs Φ b D ⟨ρ, some y.arg⟩ η' else D.X y η') hS ?_
    cases r : qE Ψ e v x with
    | bad => rw [r] at h; exact h.elim
    | exn c' t v1 =>
      rw [r] at h
      have h : (match decide (c' = c) with
        | true => qSs Ψ fu pin b v1 (some t)
        | false => QS.exn c' t v1).P pin ρ W D := h
      intro η' hS'
      show if c' = c then _ else _
      by_cases hc : c' = c
      · rw [if_pos hc]
        rw [decide_eq_true hc] at h
        exact okQSs b hS' h
      · rw [if_neg hc]
        rw [decide_eq_false hc] at h
        exact h ρ η' hS' Pin.refl
    | ok bv v1 =>
      rw [r] at h
      intro t' η' hB
      match k, h with
      | 0, h => exact h ρ η' hB.sim Pin.refl
      | 1, h =>
        obtain ⟨q, e, h⟩ := oS_P h
        obtain ⟨_, hB⟩ := outV_ok hB e
        exact h.2 ρ t' η' hB Pin.refl
      | i + 2, h =>
        obtain ⟨v2, e, h⟩ := oS_P h
        obtain ⟨hS2, p⟩ := stoV_ok hB e
        exact h _ η' hS2 p
  | .weak, pin, v, x, ρ, η, W, D, hS, h => ⟨η, Sub.refl, h ρ η hS Pin.refl⟩
theorem okQSs : ∀ (s : Ss) {pin : List Nat} {v : Vn} {x : Option T} {ρ : List (Option T)} {η W : Sto} {D : Dn}, Sim v ρ η W → (qSs Ψ fu pin s v x).P pin ρ W D → wSs Φ s D ⟨ρ, x⟩ η
  | .nil, pin, v, x, ρ, η, W, D, hS, h => h ρ η hS Pin.refl
  | .cons s r, pin, v, x, ρ, η, W, D, hS, h => okQS s hS (QS.nxt_P h fun v1 x1 ρ1 η1 hS1 _ h => okQSs r hS1 h)
end
end
/-! ### calls -/
theorem keepP_ok {η : Sto} {pin : List Nat} {v : Vn} {ρ : List (Option T)} {G : List Addr} (h : SimL η v ρ G) : ∀ {k : Nat} {ts : List T}, (∀ j, j < ts.length → pin.contains (k + j) = true → nth ρ j = nth (ts.map some) j) → ∃ G', SimL η (keepP pin k ts.length v) (ts.map some) G' ∧ ∀ a ∈ G', a ∈ G := by
  induction h with
  | nil =>
    intro k ts
    induction ts generalizing k with
    | nil => intro _; exact ⟨[], .nil, fun a ha => ha⟩
    | cons t ts ih =>
      intro hk
      obtain ⟨G', a, b⟩ := ih (k := k + 1) fun j hj hp => by
        have := hk (j + 1) (by simpa using hj) (by rw [show k + (j + 1) = k + 1 + j by omega]; exact hp)
        exact this
      exact ⟨[] ++ G', .cons (F := []) (show SlR η .no (some t) [] from rfl) a (fun a ha => by cases ha), b⟩
  | @cons s r F v ρ G h hr d ih =>
    intro k ts hk
    cases ts with
    | nil => exact ⟨[], .nil, fun a ha => by cases ha⟩
    | cons t ts =>
      obtain ⟨G', a, b⟩ := ih (k := k + 1) (ts := ts) fun j hj hp => by
        have := hk (j + 1) (by simpa using hj) (by rw [show k + (j + 1) = k + 1 + j by omega]; exact hp)
        exact this
      cases hp : pin.contains k with
      | false =>
        refine ⟨[] ++ G', ?_, fun a ha => List.mem_append_right _ (b a ha)⟩
        show SimL η ((match pin.contains k with | true => s | false => Sl.no) :: keepP pin (k + 1) ts.length v) (some t :: ts.map some) _
        rw [hp]
        exact .cons (F := []) (show SlR η .no (some t) [] from rfl) a (fun a ha => by cases ha)
      | true =>
        have e0 : r = some t := hk 0 (by simp) (by simpa using hp)
        refine ⟨F ++ G', ?_, fun a ha => ?_⟩
        · show SimL η ((match pin.contains k with | true => s | false => Sl.no) :: keepP pin (k + 1) ts.length v) (some t :: ts.map some) _
          rw [hp, ← e0]
          exact .cons h a fun x hx hg => d x hx (b x hg)
        · rcases List.mem_append.mp ha with ha | ha
          · exact List.mem_append_left _ ha
          · exact List.mem_append_right _ (b a ha)
theorem keep_sim {η W : Sto} {pin : List Nat} {v : Vn} {ρ : List (Option T)} {ts : List T} (h : Sim v ρ η W) (hp : ∀ j, j < ts.length → pin.contains j = true → nth ρ j = nth (ts.map some) j) : Sim (keepP pin 0 ts.length v) (ts.map some) η W := by
  obtain ⟨G, a, b, c⟩ := h
  obtain ⟨G', a', b'⟩ := keepP_ok a (k := 0) (ts := ts) fun j hj hq => hp j hj (by simpa using hq)
  exact ⟨G', a', fun x hx => b x (b' x hx), c⟩
theorem nth_app : ∀ {ts : List T} {r : List (Option T)} {j : Nat}, j < ts.length → nth (ts.map some ++ r) j = nth (ts.map some) j
  | _ :: _, r, 0, _ => rfl
  | _ :: ts, r, j + 1, h => nth_app (ts := ts) (r := r) (j := j) (Nat.lt_of_succ_lt_succ h)
theorem simL_app {η : Sto} {v : Vn} {ρ : List (Option T)} {G : List Addr} (h : SimL η v ρ G) (n : Nat) : SimL η (v ++ List.replicate n Sl.no) (ρ ++ List.replicate n none) G := by
  induction h with
  | nil =>
    induction n with
    | zero => exact .nil
    | succ n ih => exact .cons (F := []) (show SlR η .no none [] from rfl) ih (fun a ha => by cases ha)
  | cons h r d ih => exact .cons h ih d
theorem qcall_ok {fu : Nat} {F : List Fd} : ∀ n, CallOk (wcall F n) (qcall fu F n)
  | 0 => fun f ps ts η W X K hS h => h.elim
  | n + 1 => fun f ps ts η W X K hS h => by
    unfold qcall at h
    show (match F[f]? with
      | some d => ts.length = d.np ∧ wSs (wcall F n) d.body ⟨fun _ η' => K .non η', K, fun _ _ => False, fun _ _ => False, X⟩ ⟨ts.map some ++ List.replicate (d.nl - d.np) none, none⟩ η
      | none => False)
    cases e : F[f]? with
    | none => rw [e] at h; exact h.elim
    | some d =>
      rw [e] at h
      have h : (match decide (ps.length = d.np) with
        | true => endQ (pinsOf 0 ps) d.np (qSs (qcall fu F n) fu (pinsOf 0 ps) d.body (ps ++ List.replicate (d.nl - d.np) Sl.no) none)
        | false => QC.bad).P (Xq X (ts.map some) W) (fun b ps' => isOut b ∧ Kq K (ts.map some) W b ps') := h
      by_cases hl : ps.length = d.np
      · rw [decide_eq_true hl] at h
        have hlen : ts.length = d.np := by
          obtain ⟨G, a, _, _⟩ := id hS
          have := a.len
          rw [List.length_map] at this
          omega
        refine ⟨hlen, okQSs (qcall_ok (fu := fu) n) (fu := fu) (pin := pinsOf 0 ps) d.body (v := ps ++ List.replicate (d.nl - d.np) Sl.no) (W := W) ?_ ?_⟩
        · obtain ⟨G, a, b, c⟩ := hS
          exact ⟨G, simL_app a _, b, c⟩
        · have kp : ∀ {ρ' : List (Option T)}, Pin (pinsOf 0 ps) (ts.map some ++ List.replicate (d.nl - d.np) none) ρ' → ∀ j, j < ts.length → (pinsOf 0 ps).contains j = true → nth ρ' j = nth (ts.map some) j := fun {ρ'} p j hj hc => by
            rw [p j (by simpa using hc), nth_app hj]
          cases r : qSs (qcall fu F n) fu (pinsOf 0 ps) d.body (ps ++ List.replicate (d.nl - d.np) Sl.no) none with
          | nx v x =>
            rw [r] at h
            intro ρ' η' s p
            rw [← hlen] at h
            exact h.2 .non η' ⟨rfl, keep_sim s (kp p)⟩
          | rt b v =>
            rw [r] at h
            rw [← hlen] at h
            refine ⟨h.1, fun ρ' t' η' hB p => h.2 t' η' ?_⟩
            cases b with
            | p t => exact ⟨hB.1, keep_sim hB.2 (kp p)⟩
            | s i => exact h.1.elim
            | f m => exact let ⟨W1, F, a1, a2, a3, a4⟩ := hB; ⟨W1, F, a1, a2, a3, keep_sim a4 (kp p)⟩
          | exn c t v =>
            rw [r] at h
            rw [← hlen] at h
            exact fun ρ' η' s p => h η' (keep_sim s (kp p))
          | bk v x => rw [r] at h; exact h.elim
          | ct v x => rw [r] at h; exact h.elim
          | bad => rw [r] at h; exact h.elim
      · rw [decide_eq_false hl] at h
        exact h.elim
/-- a call by values: what the evaluator says is so -/
theorem qcall_val {fu : Nat} {F : List Fd} {n f : Nat} {ts : List T} {t : T} {ps : Vn} {η : Sto} {X : KX} {K : KE} (h : qcall fu F n f (ts.map .val) = .val (.p t) ps) (k : ∀ η', K t η') : wcall F n f ts η X K := by
  refine qcall_ok (fu := fu) n f (ts.map .val) ts η [] X K ?_ ?_
  · refine ⟨[], ?_, (fun a ha => by cases ha), (fun a o e => by cases e)⟩
    clear h
    induction ts with
    | nil => exact .nil
    | cons t ts ih => exact .cons (F := []) (show SlR η (.val t) (some t) [] from ⟨rfl, rfl⟩) ih (fun a ha => by cases ha)
  · rw [h]
    exact ⟨trivial, fun t' η' hB => by rw [hB.1]; exact k η'⟩
end TL

set_option maxHeartbeats 4000000
/-! the evaluator by rewriting: what follows stands in instances, which the simplifier leaves alone -/
namespace TL
open PySem PySem.Spec PyProof.Rows L2
class QK (α : Type) where
  ex : XQ
  run : α → Vn → Prop
def Q.G {α : Type} (r : Q α) [k : QK α] : Prop := r.P k.ex k.run
class SK where
  nx : Vn → Option T → Prop
  rt : Bv → Vn → Prop
  bk : Vn → Option T → Prop
  ct : Vn → Option T → Prop
  ex : XQ
def QS.G (r : QS) [k : SK] : Prop := match r with
  | .nx v x => k.nx v x
  | .rt b v => k.rt b v
  | .bk v x => k.bk v x
  | .ct v x => k.ct v x
  | .exn c t v => k.ex c t v
  | .bad => False
def QC.G (r : QC) [k : QK Bv] : Prop := r.P k.ex k.run
class K1 (α : Type) where
  run : α → Prop
/-! the pieces -/
def bm {α : Type} (k : Bool) (a b : α) : α := match k with
  | true => a
  | false => b
def varQ (s : Sl) (i : Nat) (v : Vn) : Q Bv := match s with
  | .val t => .ok (.p t) v
  | .own _ => .ok (.s i) v
  | .no => .bad
def aggQ (g : Agg) (ts : List T) (v : Vn) : Q Bv := match g with
  | .listM => .ok (.f (.vl ts)) v
  | g => oQ (aggV g ts) fun t => .ok (.p t) v
def Bv.ps {β : Type} (b : Bv) (f : T → Q β) (g : Nat → Q β) : Q β := match b with
  | .s i => g i
  | .p u => f u
  | .f _ => .bad
def Bv.sS (b : Bv) (g : Nat → QS) : QS := match b with
  | .s i => g i
  | _ => .bad
def hofQ (f : Nat) (ret : Str) (r : Q Bv) : Q Bv := match r with
  | .ok _ v1 => .ok (.p (.str ret)) v1
  | .exn c t v1 => bm (decide (c = f)) (.ok (.p t) v1) .bad
  | .bad => .bad
def srcQ (p : Bv) (ts : List T) (v : Vn) : Q (List T × Src) := match p with
  | .s i => .ok (ts, .own i) v
  | .p _ => .ok (ts, .free) v
  | .f _ => .bad
def tryQ (r : Q Bv) (c : Nat) (f : T → Vn → QS) (g : Bv → Vn → QS) : QS := match r with
  | .exn c' t v1 => bm (decide (c' = c)) (f t v1) (.exn c' t v1)
  | .ok r v1 => g r v1
  | .bad => .bad
def tryK (pin : List Nat) (k : Nat) (r : Bv) (v : Vn) (x : Option T) : QS := match k with
  | 0 => .nx v x
  | 1 => oS (outV r v) fun q => .rt q.1 q.2
  | i + 2 => oS (stoV pin i r v) fun v2 => .nx v2 x
section
variable {Ψ : Nat → Vn → QC} {fu : Nat} {pin : List Nat} {v : Vn} {x : Option T}
/-- one turn of a comprehension -/
def tlc (Ψ : Nat → Vn → QC) (own : List Nat) (tg : Tg) (c : C) (elt : E) (x : Option T) (y : T) (v2 : Vn) : Q (List T) := oQ (bindV tg y (clrs v2 own)) fun v3 => (qC Ψ c v3 x).to' fun k v4 => bm k ((qE Ψ elt v4 x).toP fun u v5 => .ok [u] (clrs v5 own)) (.ok [] (clrs v4 own))
def qlc (Ψ : Nat → Vn → QC) (own : List Nat) (tg : Tg) (c : C) (elt : E) (x : Option T) (ts : List T) (v : Vn) : Q (List T) := qcomp (fun y v2 => oQ (bindV tg y (clrs v2 own)) fun v3 => (qC Ψ c v3 x).to' fun k v4 => match k with
  | true => (qE Ψ elt v4 x).toP fun u v5 => .ok [u] (clrs v5 own)
  | false => .ok [] (clrs v4 own)) ts v
def tsc (Ψ : Nat → Vn → QC) (own : List Nat) (tg : Tg) (elt : E) (x : Option T) (y : T) (v2 : Vn) : Q (List T) := oQ (bindV tg y (clrs v2 own)) fun v3 => (qE Ψ elt v3 x).toP fun u v5 => bQ (keyT u) (.ok [u] (clrs v5 own))
def qsc (Ψ : Nat → Vn → QC) (own : List Nat) (tg : Tg) (elt : E) (x : Option T) (ts : List T) (v : Vn) : Q (List T) := qcomp (tsc Ψ own tg elt x) ts v
/-- one turn of a for -/
def qforS (Ψ : Nat → Vn → QC) (fu : Nat) (pin : List Nat) (tg : Tg) (b : Ss) (ts : List T) (v : Vn) (x : Option T) : QS := qfor pin tg (fun v' x' => qSs Ψ fu pin b v' x') ts v x
def qwhileS (Ψ : Nat → Vn → QC) (fu : Nat) (pin : List Nat) (c : C) (b : Ss) (n : Nat) (v : Vn) (x : Option T) : QS := qwhile (fun v' x' => qC Ψ c v' x') (fun v' x' => qSs Ψ fu pin b v' x') n v x
theorem tlc_eq {own : List Nat} {tg : Tg} {c : C} {elt : E} {y : T} {v2 : Vn} : (oQ (bindV tg y (clrs v2 own)) fun v3 => (qC Ψ c v3 x).to' fun k v4 => match k with
  | true => (qE Ψ elt v4 x).toP fun u v5 => .ok [u] (clrs v5 own)
  | false => .ok [] (clrs v4 own)) = tlc Ψ own tg c elt x y v2 := rfl
theorem g_qE_var {i : Nat} {kk : QK (Bv)} : @Q.G _ (qE Ψ (.var i) v x) kk = @Q.G (Bv) (varQ (slot v i) i v) kk := id rfl
theorem g_qE_cst {t : T} {kk : QK (Bv)} : @Q.G _ (qE Ψ (.cst t) v x) kk = @Q.G (Bv) (.ok (.p t) v) kk := id rfl
theorem g_qE_gcst {z0 : Nat} {t : T} {kk : QK (Bv)} : @Q.G _ (qE Ψ (.gcst z0 t) v x) kk = @Q.G (Bv) (.ok (.p t) v) kk := id rfl
theorem g_qE_tup {es : Es} {kk : QK (Bv)} : @Q.G _ (qE Ψ (.tup es) v x) kk = @Q.G (Bv) ((qPs Ψ es v x).to fun ts v1 => .ok (.p (.tup ts)) v1) kk := id rfl
theorem g_qE_lst {es : Es} {kk : QK (Bv)} : @Q.G _ (qE Ψ (.lst es) v x) kk = @Q.G (Bv) ((qPs Ψ es v x).to fun ts v1 => .ok (.f (.vl ts)) v1) kk := id rfl
theorem g_qE_lstV {es : Es} {kk : QK (Bv)} : @Q.G _ (qE Ψ (.lstV es) v x) kk = @Q.G (Bv) ((qPs Ψ es v x).to fun ts v1 => .ok (.p (.cl ts)) v1) kk := id rfl
theorem g_qE_bin {o : Bop} {a : E} {b : E} {kk : QK (Bv)} : @Q.G _ (qE Ψ (.bin o a b) v x) kk = @Q.G (Bv) ((qE Ψ a v x).toP fun u v1 => (qE Ψ b v1 x).toP fun w v2 => bQ (bopB o u w) (oQ (bopV o u w) fun t => .ok (.p t) v2)) kk := id rfl
theorem g_qE_neg {a : E} {kk : QK (Bv)} : @Q.G _ (qE Ψ (.neg a) v x) kk = @Q.G (Bv) ((qE Ψ a v x).toP fun u v1 => oQ (negV u) fun t => .ok (.p t) v1) kk := id rfl
theorem g_qE_cat {a : E} {b : E} {kk : QK (Bv)} : @Q.G _ (qE Ψ (.cat a b) v x) kk = @Q.G (Bv) ((qE Ψ a v x).to fun p v1 => (qE Ψ b v1 x).to fun q v2 => oQ (p.rd v2) fun u => oQ (q.rd v2) fun w => oQ (lstOf [] u) fun xs => oQ (lstOf [] w) fun ys => bQ (decide (xs.length + ys.length ≤ sizeLine)) (.ok (.f (.vl (xs ++ ys))) v2)) kk := id rfl
theorem g_qE_catV {a : E} {b : E} {kk : QK (Bv)} : @Q.G _ (qE Ψ (.catV a b) v x) kk = @Q.G (Bv) ((qE Ψ a v x).to fun p v1 => (qE Ψ b v1 x).to fun q v2 => oQ (p.rd v2) fun u => oQ (q.rd v2) fun w => oQ (lstOf [] u) fun xs => oQ (lstOf [] w) fun ys => bQ (decide (xs.length + ys.length ≤ sizeLine)) (.ok (.p (.cl (xs ++ ys))) v2)) kk := id rfl
theorem g_qE_cmp {o : Cop} {a : E} {b : E} {kk : QK (Bv)} : @Q.G _ (qE Ψ (.cmp o a b) v x) kk = @Q.G (Bv) ((qE Ψ a v x).to fun p v1 => (qE Ψ b v1 x).to fun q v2 => oQ (p.rd v2) fun u => oQ (q.rd v2) fun w => bQ (leftB o p && copG o u w []) (oQ (copV o u w []) fun k => .ok (.p (.bl k)) v2)) kk := id rfl
theorem g_qE_chain {o1 : Cop} {o2 : Cop} {a : E} {b : E} {c : E} {kk : QK (Bv)} : @Q.G _ (qE Ψ (.chain o1 o2 a b c) v x) kk = @Q.G (Bv) ((qE Ψ a v x).toP fun u v1 => (qE Ψ b v1 x).toP fun w v2 => bQ (copG o1 u w []) (oQ (copV o1 u w []) fun k => bm (k) ((qE Ψ c v2 x).toP fun z v3 => bQ (copG o2 w z []) (oQ (copV o2 w z []) fun k2 => .ok (.p (.bl k2)) v3)) (.ok (.p (.bl false)) v2))) kk := id rfl
theorem g_qE_and {a : E} {b : E} {kk : QK (Bv)} : @Q.G _ (qE Ψ (.and a b) v x) kk = @Q.G (Bv) ((qE Ψ a v x).toP fun u v1 => oQ (tru [] u) fun k => bm (k) (qE Ψ b v1 x) (.ok (.p u) v1)) kk := id rfl
theorem g_qE_or {a : E} {b : E} {kk : QK (Bv)} : @Q.G _ (qE Ψ (.or a b) v x) kk = @Q.G (Bv) ((qE Ψ a v x).toP fun u v1 => oQ (tru [] u) fun k => bm (k) (.ok (.p u) v1) (qE Ψ b v1 x)) kk := id rfl
theorem g_qE_not {a : E} {kk : QK (Bv)} : @Q.G _ (qE Ψ (.not a) v x) kk = @Q.G (Bv) ((qE Ψ a v x).to fun p v1 => oQ (p.rd v1) fun u => oQ (tru [] u) fun k => .ok (.p (.bl (!k))) v1) kk := id rfl
theorem g_qE_ite {c : C} {a : E} {b : E} {kk : QK (Bv)} : @Q.G _ (qE Ψ (.ite c a b) v x) kk = @Q.G (Bv) ((qC Ψ c v x).to fun k v1 => bm (k) (qE Ψ a v1 x) (qE Ψ b v1 x)) kk := id rfl
theorem g_qE_idx {a : E} {i : E} {kk : QK (Bv)} : @Q.G _ (qE Ψ (.idx a i) v x) kk = @Q.G (Bv) ((qE Ψ a v x).to fun p v1 => (qE Ψ i v1 x).toP fun w v2 => oQ (p.rd v2) fun u => oQ (idxV [] u w) fun t => .ok (.p t) v2) kk := id rfl
theorem g_qE_slc {a : E} {lo : Op} {hi : Op} {kk : QK (Bv)} : @Q.G _ (qE Ψ (.slc a lo hi) v x) kk = @Q.G (Bv) ((qE Ψ a v x).to fun p v1 => (qO Ψ lo v1 x).to fun i v2 => (qO Ψ hi v2 x).to fun j v3 => oQ (p.rd v3) fun u => oQ (slcV u i j []) fun t => .ok (.p t) v3) kk := id rfl
theorem g_qE_slcM {a : E} {lo : Op} {hi : Op} {kk : QK (Bv)} : @Q.G _ (qE Ψ (.slcM a lo hi) v x) kk = @Q.G (Bv) ((qE Ψ a v x).to fun p v1 => (qO Ψ lo v1 x).to fun i v2 => (qO Ψ hi v2 x).to fun j v3 => oQ (p.rd v3) fun u => oQ (slcMV u i j []) fun ts => .ok (.f (.vl ts)) v3) kk := id rfl
theorem g_qE_isinst {a : E} {t : Ty} {kk : QK (Bv)} : @Q.G _ (qE Ψ (.isinst a t) v x) kk = @Q.G (Bv) ((qE Ψ a v x).toP fun u v1 => oQ (isT [] t u) fun b => .ok (.p (.bl b)) v1) kk := id rfl
theorem g_qE_call {f : Nat} {es : Es} {kk : QK (Bv)} : @Q.G _ (qE Ψ (.call f es) v x) kk = @Q.G (Bv) ((qRs Ψ es v x).to fun bs v1 => qdo Ψ f bs v1) kk := id rfl
theorem g_qE_callK {f : Nat} {es : Es} {kw : Es} {perm : List Nat} {kk : QK (Bv)} : @Q.G _ (qE Ψ (.callK f es kw perm) v x) kk = @Q.G (Bv) ((qPs Ψ es v x).to fun ts v1 => (qPs Ψ kw v1 x).to fun us v2 => qdo Ψ f ((perm.map fun i => (ts ++ us).getD i .non).map .p) v2) kk := id rfl
theorem g_qE_lc {own : List Nat} {tg : Tg} {src : It} {c : C} {elt : E} {kk : QK (Bv)} : @Q.G _ (qE Ψ (.lc own tg src c elt) v x) kk = @Q.G (Bv) ((qI Ψ src v x).to fun q v1 => bQ (own.all (fun i => plainS (slot v1 i)) && (lockB own q.2 && (tgI tg).all fun i => own.contains i)) ((qlc Ψ own tg c elt x q.1 (lock v1 q.2)).to' fun us v6 => .ok (.p (.cl us)) (rsts v1 (unlock v1 v6 q.2) own))) kk := id rfl
theorem g_qE_lcM {own : List Nat} {tg : Tg} {src : It} {c : C} {elt : E} {kk : QK (Bv)} : @Q.G _ (qE Ψ (.lcM own tg src c elt) v x) kk = @Q.G (Bv) ((qI Ψ src v x).to fun q v1 => bQ (own.all (fun i => plainS (slot v1 i)) && (lockB own q.2 && (tgI tg).all fun i => own.contains i)) ((qlc Ψ own tg c elt x q.1 (lock v1 q.2)).to' fun us v6 => .ok (.f (.vl us)) (rsts v1 (unlock v1 v6 q.2) own))) kk := id rfl
theorem g_qE_agg {g : Agg} {a : E} {kk : QK (Bv)} : @Q.G _ (qE Ψ (.agg g a) v x) kk = @Q.G (Bv) ((qE Ψ a v x).to fun p v1 => oQ (p.rd v1) fun u => oQ (aggS g [] u) fun ts => aggQ g ts v1) kk := id rfl
theorem g_qE_blt {b : Blt} {es : Es} {kk : QK (Bv)} : @Q.G _ (qE Ψ (.blt b es) v x) kk = @Q.G (Bv) ((qRs Ψ es v x).to fun bs v1 => oQ (rdAll v1 bs) fun us => oQ (bltV b us []) fun t => .ok (.p t) v1) kk := id rfl
theorem g_qE_mth {m : Mt} {o : E} {es : Es} {kk : QK (Bv)} : @Q.G _ (qE Ψ (.mth m o es) v x) kk = @Q.G (Bv) ((qE Ψ o v x).to fun b v1 => Bv.ps b (fun u => bQ (mthT m u []) ((qPs Ψ es v1 x).to fun ts v2 => bQ (mthB m u ts []) (oQ (mthP m u ts []) fun t => .ok (.p t) v2))) fun i => bQ (mutB m) (oQ (slot v1 i).lst fun _ => (qPs Ψ es v1 x).to fun ts v2 => oQ (slot v2 i).lst fun xs => mthS m i xs ts v2)) kk := id rfl
theorem g_qE_lenSet {own : List Nat} {tg : Tg} {src : It} {elt : E} {kk : QK (Bv)} : @Q.G _ (qE Ψ (.lenSet own tg src elt) v x) kk = @Q.G (Bv) ((qI Ψ src v x).to fun q v1 => bQ (decide (q.1.length ≤ 1000) && (own.all (fun i => plainS (slot v1 i)) && (lockB own q.2 && (tgI tg).all fun i => own.contains i))) ((qsc Ψ own tg elt x q.1 (lock v1 q.2)).to' fun us v6 => .ok (.p (.int (dedup us).length)) (rsts v1 (unlock v1 v6 q.2) own))) kk := id rfl
theorem g_qE_hof {f : Nat} {e : E} {ret : Str} {kk : QK (Bv)} : @Q.G _ (qE Ψ (.hof f e ret) v x) kk = @Q.G (Bv) (hofQ f ret (qE Ψ e v x)) kk := id rfl
theorem g_qE_exc  {kk : QK (Bv)} : @Q.G _ (qE Ψ (.exc) v x) kk = @Q.G (Bv) (oQ x fun t => .ok (.p t) v) kk := id rfl
theorem g_qE_frz {i : Nat} {kk : QK (Bv)} : @Q.G _ (qE Ψ (.frz i) v x) kk = @Q.G (Bv) (oQ (slot v i).lst fun xs => .ok (.p (.cl xs)) (setS v i .no)) kk := id rfl
theorem g_qE_weak {e : E} {kk : QK (Bv)} : @Q.G _ (qE Ψ (.weak e) v x) kk = @Q.G (Bv) (qE Ψ e v x) kk := id rfl
theorem g_qE_gix {z0 : Nat} {ks : List Str} {vs : List T} {e : E} {kk : QK (Bv)} : @Q.G _ (qE Ψ (.gix z0 ks vs e) v x) kk = @Q.G (Bv) ((qE Ψ e v x).toP fun u v1 => oQ (strV u) fun z => oQ (lookS z ks vs) fun t => .ok (.p t) v1) kk := id rfl
theorem g_qE_gin {neg : Bool} {z1 : Nat} {ks : List Str} {e : E} {kk : QK (Bv)} : @Q.G _ (qE Ψ (.gin neg z1 ks e) v x) kk = @Q.G (Bv) ((qE Ψ e v x).toP fun u v1 => oQ (strV u) fun z => .ok (.p (.bl (neg != ks.contains z))) v1) kk := id rfl
theorem g_qE_dsel {ks : List Str} {vs : List T} {e : E} {kk : QK (Bv)} : @Q.G _ (qE Ψ (.dsel ks vs e) v x) kk = @Q.G (Bv) ((qE Ψ e v x).toP fun u v1 => oQ (strV u) fun z => oQ (lookS z ks vs) fun t => .ok (.p t) v1) kk := id rfl
theorem g_qPs_nil  {kk : QK (List T)} : @Q.G _ (qPs Ψ (.nil) v x) kk = @Q.G (List T) (.ok [] v) kk := id rfl
theorem g_qPs_cons {e : E} {es : Es} {kk : QK (List T)} : @Q.G _ (qPs Ψ (.cons e es) v x) kk = @Q.G (List T) ((qE Ψ e v x).toP fun t v1 => (qPs Ψ es v1 x).to fun ts v2 => .ok (t :: ts) v2) kk := id rfl
theorem g_qRs_nil  {kk : QK (List Bv)} : @Q.G _ (qRs Ψ (.nil) v x) kk = @Q.G (List Bv) (.ok [] v) kk := id rfl
theorem g_qRs_cons {e : E} {es : Es} {kk : QK (List Bv)} : @Q.G _ (qRs Ψ (.cons e es) v x) kk = @Q.G (List Bv) ((qE Ψ e v x).to fun b v1 => (qRs Ψ es v1 x).to fun bs v2 => .ok (b :: bs) v2) kk := id rfl
theorem g_qC_and {a : C} {b : C} {kk : QK (Bool)} : @Q.G _ (qC Ψ (.and a b) v x) kk = @Q.G (Bool) ((qC Ψ a v x).to fun k v1 => bm (k) (qC Ψ b v1 x) (.ok false v1)) kk := id rfl
theorem g_qC_or {a : C} {b : C} {kk : QK (Bool)} : @Q.G _ (qC Ψ (.or a b) v x) kk = @Q.G (Bool) ((qC Ψ a v x).to fun k v1 => bm (k) (.ok true v1) (qC Ψ b v1 x)) kk := id rfl
theorem g_qC_not {a : C} {kk : QK (Bool)} : @Q.G _ (qC Ψ (.not a) v x) kk = @Q.G (Bool) ((qC Ψ a v x).to fun k v1 => .ok (!k) v1) kk := id rfl
theorem g_qC_val {e : E} {kk : QK (Bool)} : @Q.G _ (qC Ψ (.val e) v x) kk = @Q.G (Bool) ((qE Ψ e v x).to fun p v1 => oQ (p.rd v1) fun u => oQ (tru [] u) fun k => .ok k v1) kk := id rfl
theorem g_qC_tt  {kk : QK (Bool)} : @Q.G _ (qC Ψ (.tt) v x) kk = @Q.G (Bool) (.ok true v) kk := id rfl
theorem g_qC_cmp {o : Cop} {a : E} {b : E} {kk : QK (Bool)} : @Q.G _ (qC Ψ (.cmp o a b) v x) kk = @Q.G (Bool) ((qE Ψ a v x).to fun p v1 => (qE Ψ b v1 x).to fun q v2 => oQ (p.rd v2) fun u => oQ (q.rd v2) fun w => bQ (leftB o p && copG o u w []) (oQ (copV o u w []) fun k => .ok k v2)) kk := id rfl
theorem g_qC_chain {o1 : Cop} {o2 : Cop} {a : E} {b : E} {c : E} {kk : QK (Bool)} : @Q.G _ (qC Ψ (.chain o1 o2 a b c) v x) kk = @Q.G (Bool) ((qE Ψ a v x).toP fun u v1 => (qE Ψ b v1 x).toP fun w v2 => bQ (copG o1 u w []) (oQ (copV o1 u w []) fun k => bm (k) ((qE Ψ c v2 x).toP fun z v3 => bQ (copG o2 w z []) (oQ (copV o2 w z []) fun k2 => .ok k2 v3)) (.ok false v2))) kk := id rfl
theorem g_qI_seq {e : E} {kk : QK (List T × Src)} : @Q.G _ (qI Ψ (.seq e) v x) kk = @Q.G (List T × Src) ((qE Ψ e v x).to fun p v1 => oQ (p.rd v1) fun u => oQ (seqOf [] u) fun ts => srcQ p ts v1) kk := id rfl
theorem g_qI_chars {e : E} {kk : QK (List T × Src)} : @Q.G _ (qI Ψ (.chars e) v x) kk = @Q.G (List T × Src) ((qE Ψ e v x).toP fun u v1 => oQ (strV u) fun y => .ok (charsL y, .free) v1) kk := id rfl
theorem g_qI_range {a : E} {kk : QK (List T × Src)} : @Q.G _ (qI Ψ (.range a) v x) kk = @Q.G (List T × Src) ((qE Ψ a v x).toP fun u v1 => oQ (intV u) fun n => bQ (okRg n) (.ok (rangeL 0 n.toNat, .free) v1)) kk := id rfl
theorem g_qI_range2 {a : E} {b : E} {kk : QK (List T × Src)} : @Q.G _ (qI Ψ (.range2 a b) v x) kk = @Q.G (List T × Src) ((qE Ψ a v x).toP fun u v1 => (qE Ψ b v1 x).toP fun w v2 => oQ (intV u) fun m => oQ (intV w) fun n => bQ (okRg m && okRg n && decide (n - m ≤ 16777216)) (.ok (rangeL m (n - m).toNat, .free) v2)) kk := id rfl
theorem g_qI_zip {a : E} {b : E} {kk : QK (List T × Src)} : @Q.G _ (qI Ψ (.zip a b) v x) kk = @Q.G (List T × Src) ((qE Ψ a v x).toP fun u v1 => (qE Ψ b v1 x).toP fun w v2 => oQ (stillV [] u) fun xs => oQ (stillV [] w) fun ys => .ok (zipL xs ys, .free) v2) kk := id rfl
theorem g_qI_enum {a : E} {kk : QK (List T × Src)} : @Q.G _ (qI Ψ (.enum a) v x) kk = @Q.G (List T × Src) ((qE Ψ a v x).toP fun u v1 => oQ (stillV [] u) fun xs => .ok (enumL 0 xs, .free) v1) kk := id rfl
theorem g_qO_no  {kk : QK (Option Int)} : @Q.G _ (qO Ψ (.no) v x) kk = @Q.G (Option Int) (.ok none v) kk := id rfl
theorem g_qO_some {e : E} {kk : QK (Option Int)} : @Q.G _ (qO Ψ (.some e) v x) kk = @Q.G (Option Int) ((qE Ψ e v x).toP fun u v1 => oQ (intV u) fun i => .ok (some i) v1) kk := id rfl
theorem g_qS_expr {e : E} {kk : SK} : @QS.G (qS Ψ fu pin (.expr e) v x) kk = @QS.G ((qE Ψ e v x).toS fun _ v1 => .nx v1 x) kk := id rfl
theorem g_qS_ret {e : E} {kk : SK} : @QS.G (qS Ψ fu pin (.ret e) v x) kk = @QS.G ((qE Ψ e v x).toS fun b v1 => oS (outV b v1) fun q => .rt q.1 q.2) kk := id rfl
theorem g_qS_retN  {kk : SK} : @QS.G (qS Ψ fu pin (.retN) v x) kk = @QS.G (.rt (.p .non) v) kk := id rfl
theorem g_qS_set {i : Nat} {e : E} {kk : SK} : @QS.G (qS Ψ fu pin (.set i e) v x) kk = @QS.G ((qE Ψ e v x).toS fun b v1 => oS (stoV pin i b v1) fun v2 => .nx v2 x) kk := id rfl
theorem g_qS_par {i : Nat} {j : Nat} {a : E} {b : E} {kk : SK} : @QS.G (qS Ψ fu pin (.par i j a b) v x) kk = @QS.G ((qE Ψ a v x).toPS fun t v1 => (qE Ψ b v1 x).toPS fun u v2 => oS (stoV pin i (.p t) v2) fun v3 => oS (stoV pin j (.p u) v3) fun v4 => .nx v4 x) kk := id rfl
theorem g_qS_unp {tg : Tg} {e : E} {kk : SK} : @QS.G (qS Ψ fu pin (.unp tg e) v x) kk = @QS.G ((qE Ψ e v x).toPS fun t v1 => bS ((tgI tg).all fun i => !pin.contains i) (oS (bindV tg t v1) fun v2 => .nx v2 x)) kk := id rfl
theorem g_qS_setIdx {a : E} {i : E} {e : E} {kk : SK} : @QS.G (qS Ψ fu pin (.setIdx a i e) v x) kk = @QS.G ((qE Ψ e v x).toPS fun t v1 => (qE Ψ a v1 x).toS fun b v2 => Bv.sS b fun j => oS (slot v2 j).lst fun _ => (qE Ψ i v2 x).toPS fun w v3 => oS (slot v3 j).lst fun xs => oS (intV w) fun k => oS (ixN xs.length k) fun n => .nx (setS v3 j (.own (.vl (xs.set n t)))) x) kk := id rfl
theorem g_qS_iff {c : C} {a : Ss} {b : Ss} {kk : SK} : @QS.G (qS Ψ fu pin (.iff c a b) v x) kk = @QS.G ((qC Ψ c v x).toS fun k v1 => bm (k) (qSs Ψ fu pin a v1 x) (qSs Ψ fu pin b v1 x)) kk := id rfl
theorem g_qS_for {tg : Tg} {it : It} {b : Ss} {kk : SK} : @QS.G (qS Ψ fu pin (.for tg it b) v x) kk = @QS.G ((qI Ψ it v x).toS fun q v1 => (qforS Ψ fu (pinS pin q.2) tg b q.1 (lock v1 q.2) x).nxt fun v2 x2 => .nx (unlock v1 v2 q.2) x2) kk := id rfl
theorem g_qS_while {c : C} {b : Ss} {kk : SK} : @QS.G (qS Ψ fu pin (.while c b) v x) kk = @QS.G (qwhileS Ψ fu pin c b fu v x) kk := id rfl
theorem g_qS_brk  {kk : SK} : @QS.G (qS Ψ fu pin (.brk) v x) kk = @QS.G (.bk v x) kk := id rfl
theorem g_qS_cont  {kk : SK} : @QS.G (qS Ψ fu pin (.cont) v x) kk = @QS.G (.ct v x) kk := id rfl
theorem g_qS_pass  {kk : SK} : @QS.G (qS Ψ fu pin (.pass) v x) kk = @QS.G (.nx v x) kk := id rfl
theorem g_qS_raise {c : Nat} {e : E} {kk : SK} : @QS.G (qS Ψ fu pin (.raise c e) v x) kk = @QS.G ((qE Ψ e v x).toPS fun u v1 => .exn c u v1) kk := id rfl
theorem g_qS_tryE {k : Nat} {e : E} {c : Nat} {b : Ss} {kk : SK} : @QS.G (qS Ψ fu pin (.tryE k e c b) v x) kk = @QS.G (tryQ (qE Ψ e v x) c (fun t v1 => qSs Ψ fu pin b v1 (some t)) fun r v1 => tryK pin k r v1 x) kk := id rfl
theorem g_qS_weak  {kk : SK} : @QS.G (qS Ψ fu pin (.weak) v x) kk = @QS.G (.nx v x) kk := id rfl
theorem g_qSs_nil  {kk : SK} : @QS.G (qSs Ψ fu pin (.nil) v x) kk = @QS.G (.nx v x) kk := id rfl
theorem g_qSs_cons {s : S} {r : Ss} {kk : SK} : @QS.G (qSs Ψ fu pin (.cons s r) v x) kk = @QS.G ((qS Ψ fu pin s v x).nxt fun v1 x1 => qSs Ψ fu pin r v1 x1) kk := id rfl
end
/-! what follows -/
section
variable {α β : Type}
def slG (s : Sl) (i : Nat) [k : K1 Bv] : Prop := match s with
  | .val t => k.run (.p t)
  | .own _ => k.run (.s i)
  | .no => False
def onG (b : Bv) [k : K1 T] : Prop := match b with
  | .p t => k.run t
  | _ => False
class KP where
  p : T → Prop
  s : Nat → Prop
def psG (b : Bv) [k : KP] : Prop := match b with
  | .p t => k.p t
  | .s i => k.s i
  | .f _ => False
theorem G_ok {a : α} {v : Vn} {X : XQ} {K : α → Vn → Prop} : @Q.G α (.ok a v) ⟨X, K⟩ = K a v := id rfl
theorem G_exn {c : Nat} {t : T} {v : Vn} {X : XQ} {K : α → Vn → Prop} : @Q.G α (.exn c t v) ⟨X, K⟩ = X c t v := id rfl
theorem G_bad {k : QK α} : @Q.G α .bad k = False := id rfl
theorem G_to {r : Q α} {f : α → Vn → Q β} {X : XQ} {K : β → Vn → Prop} : @Q.G β (r.to f) ⟨X, K⟩ = @Q.G α r ⟨X, fun a v => @Q.G β (f a v) ⟨X, K⟩⟩ := by cases r <;> rfl
theorem G_to' {r : Q α} {f : α → Vn → Q β} {X : XQ} {K : β → Vn → Prop} : @Q.G β (r.to' f) ⟨X, K⟩ = @Q.G α r ⟨fun _ _ _ => False, fun a v => @Q.G β (f a v) ⟨X, K⟩⟩ := by cases r <;> rfl
theorem G_toP {r : Q Bv} {f : T → Vn → Q β} {X : XQ} {K : β → Vn → Prop} : @Q.G β (r.toP f) ⟨X, K⟩ = @Q.G Bv r ⟨X, fun b v => @onG b ⟨fun t => @Q.G β (f t v) ⟨X, K⟩⟩⟩ := by
  cases r with
  | ok b v => cases b <;> rfl
  | _ => rfl
theorem G_oQ {o : Option α} {f : α → Q β} {k : QK β} : @Q.G β (oQ o f) k = @optQ α o ⟨fun a => @Q.G β (f a) k⟩ := by cases o <;> rfl
theorem G_bQ {b : Bool} {f : Q β} {k : QK β} : @Q.G β (bQ b f) k = @ifQ b ⟨@Q.G β f k, False⟩ := by cases b <;> rfl
theorem G_bm {b : Bool} {f g : Q β} {k : QK β} : @Q.G β (bm b f g) k = @ifQ b ⟨@Q.G β f k, @Q.G β g k⟩ := by cases b <;> rfl
theorem G_var {s : Sl} {i : Nat} {v : Vn} {X : XQ} {K : Bv → Vn → Prop} : @Q.G Bv (varQ s i v) ⟨X, K⟩ = @slG s i ⟨fun b => K b v⟩ := by cases s <;> rfl
theorem G_ps {b : Bv} {f : T → Q β} {g : Nat → Q β} {k : QK β} : @Q.G β (Bv.ps b f g) k = @psG b ⟨fun t => @Q.G β (f t) k, fun i => @Q.G β (g i) k⟩ := by cases b <;> rfl
theorem G_aggM {ts : List T} {v : Vn} {k : QK Bv} : @Q.G Bv (aggQ .listM ts v) k = @Q.G Bv (.ok (.f (.vl ts)) v) k := id rfl
theorem G_agg {g : Agg} (h : g ≠ .listM) {ts : List T} {v : Vn} {k : QK Bv} : @Q.G Bv (aggQ g ts v) k = @optQ T (aggV g ts) ⟨fun t => @Q.G Bv (.ok (.p t) v) k⟩ := by
  have e : aggQ g ts v = oQ (aggV g ts) fun t => .ok (.p t) v := by cases g <;> first | rfl | exact absurd rfl h
  rw [e, G_oQ]
theorem G_hof {f : Nat} {ret : Str} {r : Q Bv} {X : XQ} {K : Bv → Vn → Prop} : @Q.G Bv (hofQ f ret r) ⟨X, K⟩ = @Q.G Bv r ⟨fun c t v => @ifQ (decide (c = f)) ⟨K (.p t) v, False⟩, fun _ v => K (.p (.str ret)) v⟩ := by
  cases r with
  | exn c t v => show @Q.G Bv (bm (decide (c = f)) (.ok (.p t) v) .bad) ⟨X, K⟩ = _; rw [G_bm]; rfl
  | _ => rfl
theorem G_src {b : Bv} {ts : List T} {v : Vn} {X : XQ} {K : List T × Src → Vn → Prop} : @Q.G (List T × Src) (srcQ b ts v) ⟨X, K⟩ = @psG b ⟨fun _ => K (ts, .free) v, fun i => K (ts, .own i) v⟩ := by cases b <;> rfl
theorem sl_val {t : T} {i : Nat} {K : Bv → Prop} : @slG (.val t) i ⟨K⟩ = K (.p t) := id rfl
theorem sl_own {m : M} {i : Nat} {K : Bv → Prop} : @slG (.own m) i ⟨K⟩ = K (.s i) := id rfl
theorem on_p {t : T} {K : T → Prop} : @onG (.p t) ⟨K⟩ = K t := id rfl
theorem ps_p {t : T} {K : T → Prop} {L : Nat → Prop} : @psG (.p t) ⟨K, L⟩ = K t := id rfl
theorem ps_s {i : Nat} {K : T → Prop} {L : Nat → Prop} : @psG (.s i) ⟨K, L⟩ = L i := id rfl
/-! statements -/
theorem S_nx {v : Vn} {x : Option T} {nx rt bk ct ex} : @QS.G (.nx v x) ⟨nx, rt, bk, ct, ex⟩ = nx v x := id rfl
theorem S_rt {b : Bv} {v : Vn} {nx rt bk ct ex} : @QS.G (.rt b v) ⟨nx, rt, bk, ct, ex⟩ = rt b v := id rfl
theorem S_bk {v : Vn} {x : Option T} {nx rt bk ct ex} : @QS.G (.bk v x) ⟨nx, rt, bk, ct, ex⟩ = bk v x := id rfl
theorem S_ct {v : Vn} {x : Option T} {nx rt bk ct ex} : @QS.G (.ct v x) ⟨nx, rt, bk, ct, ex⟩ = ct v x := id rfl
theorem S_exn {c : Nat} {t : T} {v : Vn} {nx rt bk ct ex} : @QS.G (.exn c t v) ⟨nx, rt, bk, ct, ex⟩ = ex c t v := id rfl
theorem S_bad {k : SK} : @QS.G .bad k = False := id rfl
theorem S_nxt {r : QS} {f : Vn → Option T → QS} {nx rt bk ct ex} : @QS.G (r.nxt f) ⟨nx, rt, bk, ct, ex⟩ = @QS.G r ⟨fun v x => @QS.G (f v x) ⟨nx, rt, bk, ct, ex⟩, rt, bk, ct, ex⟩ := by cases r <;> rfl
theorem S_to {r : Q α} {f : α → Vn → QS} {nx rt bk ct ex} : @QS.G (r.toS f) ⟨nx, rt, bk, ct, ex⟩ = @Q.G α r ⟨ex, fun a v => @QS.G (f a v) ⟨nx, rt, bk, ct, ex⟩⟩ := by cases r <;> rfl
theorem S_toP {r : Q Bv} {f : T → Vn → QS} {nx rt bk ct ex} : @QS.G (r.toPS f) ⟨nx, rt, bk, ct, ex⟩ = @Q.G Bv r ⟨ex, fun b v => @onG b ⟨fun t => @QS.G (f t v) ⟨nx, rt, bk, ct, ex⟩⟩⟩ := by
  cases r with
  | ok b v => cases b <;> rfl
  | _ => rfl
theorem S_oS {o : Option α} {f : α → QS} {k : SK} : @QS.G (oS o f) k = @optQ α o ⟨fun a => @QS.G (f a) k⟩ := by cases o <;> rfl
theorem S_bS {b : Bool} {f : QS} {k : SK} : @QS.G (bS b f) k = @ifQ b ⟨@QS.G f k, False⟩ := by cases b <;> rfl
theorem S_bm {b : Bool} {f g : QS} {k : SK} : @QS.G (bm b f g) k = @ifQ b ⟨@QS.G f k, @QS.G g k⟩ := by cases b <;> rfl
theorem S_sS {b : Bv} {g : Nat → QS} {k : SK} : @QS.G (Bv.sS b g) k = @psG b ⟨fun _ => False, fun i => @QS.G (g i) k⟩ := by cases b <;> rfl
theorem S_try {r : Q Bv} {c : Nat} {f : T → Vn → QS} {g : Bv → Vn → QS} {nx rt bk ct ex} : @QS.G (tryQ r c f g) ⟨nx, rt, bk, ct, ex⟩ = @Q.G Bv r ⟨fun c' t v => @ifQ (decide (c' = c)) ⟨@QS.G (f t v) ⟨nx, rt, bk, ct, ex⟩, ex c' t v⟩, fun b v => @QS.G (g b v) ⟨nx, rt, bk, ct, ex⟩⟩ := by
  cases r with
  | exn c' t v =>
    show @QS.G (bm (decide (c' = c)) (f t v) (.exn c' t v)) ⟨nx, rt, bk, ct, ex⟩ = _
    rw [S_bm]
    rfl
  | _ => rfl
/-! calls -/
theorem C_val {b : Bv} {ps : Vn} {X : XQ} {K : Bv → Vn → Prop} : @QC.G (.val b ps) ⟨X, K⟩ = K b ps := id rfl
theorem C_exn {c : Nat} {t : T} {ps : Vn} {X : XQ} {K : Bv → Vn → Prop} : @QC.G (.exn c t ps) ⟨X, K⟩ = X c t ps := id rfl
/-- what a call gives: no name of the callee -/
def outG (b : Bv) [k : K1 Bv] : Prop := match b with
  | .p t => k.run (.p t)
  | .f m => k.run (.f m)
  | .s _ => False
theorem out_p {t : T} {K : Bv → Prop} : @outG (.p t) ⟨K⟩ = K (.p t) := id rfl
theorem out_f {m : M} {K : Bv → Prop} : @outG (.f m) ⟨K⟩ = K (.f m) := id rfl
theorem G_do {Ψ : Nat → Vn → QC} {f : Nat} {bs : List Bv} {v : Vn} {X : XQ} {K : Bv → Vn → Prop} : @Q.G Bv (qdo Ψ f bs v) ⟨X, K⟩ = @optQ (Vn × Vn) (takeA bs v) ⟨fun q => @QC.G (Ψ f q.1) ⟨fun c t ps => X c t (backA bs ps q.2), fun b ps => @outG b ⟨fun b => K b (backA bs ps q.2)⟩⟩⟩ := by
  show @Q.G Bv (oQ (takeA bs v) fun q => (Ψ f q.1).q (fun b ps => .ok b (backA bs ps q.2)) fun ps => backA bs ps q.2) ⟨X, K⟩ = _
  rw [G_oQ]
  congr 2
  funext q
  cases Ψ f q.1 with
  | val b ps => cases b <;> rfl
  | _ => rfl
/-- an equation by what follows -/
theorem QC.eq_of {r : QC} {b : Bv} {ps : Vn} (h : @QC.G r ⟨fun _ _ _ => False, fun b' ps' => b' = b ∧ ps' = ps⟩) : r = .val b ps := by
  cases r with
  | val b' ps' => obtain ⟨rfl, rfl⟩ := h; rfl
  | _ => exact h.elim
theorem QC.exn_of {r : QC} {c : Nat} {t : T} {ps : Vn} (h : @QC.G r ⟨fun c' t' ps' => c' = c ∧ t' = t ∧ ps' = ps, fun _ _ => False⟩) : r = .exn c t ps := by
  cases r with
  | exn c' t' ps' => obtain ⟨rfl, rfl, rfl⟩ := h; rfl
  | _ => exact h.elim
theorem Q.eq_of {r : Q α} {a : α} {v : Vn} (h : @Q.G α r ⟨fun _ _ _ => False, fun b' v' => b' = a ∧ v' = v⟩) : r = .ok a v := by
  cases r with
  | ok b' ps' => obtain ⟨rfl, rfl⟩ := h; rfl
  | _ => exact h.elim
/-- a call's body -/
theorem C_call {fu : Nat} {F : List Fd} {n f : Nat} {ps : Vn} {d : Fd} (hF : F[f]? = some d) (hl : ps.length = d.np) {X : XQ} {K : Bv → Vn → Prop} : @QC.G (qcall fu F (n + 1) f ps) ⟨X, K⟩ =
    @QS.G (qSs (qcall fu F n) fu (pinsOf 0 ps) d.body (ps ++ List.replicate (d.nl - d.np) .no) none) ⟨fun v _ => K (.p .non) (keepP (pinsOf 0 ps) 0 d.np v), fun b v => K b (keepP (pinsOf 0 ps) 0 d.np v), fun _ _ => False, fun _ _ => False, fun c t v => X c t (keepP (pinsOf 0 ps) 0 d.np v)⟩ := by
  have e : qcall fu F (n + 1) f ps = endQ (pinsOf 0 ps) d.np (qSs (qcall fu F n) fu (pinsOf 0 ps) d.body (ps ++ List.replicate (d.nl - d.np) .no) none) := by
    unfold qcall
    rw [hF]
    dsimp only
    rw [decide_eq_true hl]
  rw [e]
  cases qSs (qcall fu F n) fu (pinsOf 0 ps) d.body (ps ++ List.replicate (d.nl - d.np) .no) none <;> rfl
end
/-! loops -/
section
variable {Ψ : Nat → Vn → QC} {fu : Nat} {pin : List Nat} {own : List Nat} {tg : Tg} {c : C} {elt : E} {x : Option T}
theorem qlc_nil {v : Vn} : qlc Ψ own tg c elt x [] v = .ok [] v := id rfl
theorem qlc_cons {y : T} {ys : List T} {v : Vn} : qlc Ψ own tg c elt x (y :: ys) v = (tlc Ψ own tg c elt x y v).to' fun r v1 => (qlc Ψ own tg c elt x ys v1).to' fun rs v2 => .ok (r ++ rs) v2 := id rfl
theorem qsc_nil {v : Vn} : qsc Ψ own tg elt x [] v = .ok [] v := id rfl
theorem qsc_cons {y : T} {ys : List T} {v : Vn} : qsc Ψ own tg elt x (y :: ys) v = (tsc Ψ own tg elt x y v).to' fun r v1 => (qsc Ψ own tg elt x ys v1).to' fun rs v2 => .ok (r ++ rs) v2 := id rfl
/-- a comprehension that leaves the names -/
theorem lc_of (g : T → List T) : ∀ {ys : List T} {v : Vn}, (∀ y ∈ ys, @Q.G _ (tlc Ψ own tg c elt x y v) ⟨fun _ _ _ => False, fun r v' => r = g y ∧ v' = v⟩) → qlc Ψ own tg c elt x ys v = .ok (ys.flatMap g) v
  | [], v, _ => rfl
  | y :: ys, v, h => by
    have e := Q.eq_of (h y List.mem_cons_self)
    rw [qlc_cons, e]
    show (qlc Ψ own tg c elt x ys v).to' _ = _
    rw [lc_of g fun z hz => h z (List.mem_cons_of_mem _ hz)]
    rfl
theorem flat1 {g : T → T} {ys : List T} : (ys.flatMap fun y => [g y]) = ys.map g := by
  induction ys with
  | nil => rfl
  | cons y ys ih => rw [List.flatMap_cons, ih]; rfl
theorem flatIf {p : T → Bool} {g : T → T} {ys : List T} : (ys.flatMap fun y => if p y = true then [g y] else []) = (ys.filter p).map g := by
  induction ys with
  | nil => rfl
  | cons y ys ih =>
    rw [List.flatMap_cons, ih, List.filter_cons]
    cases p y <;> rfl
theorem lc_map (g : T → T) {ys : List T} {v : Vn} (h : ∀ y ∈ ys, @Q.G _ (tlc Ψ own tg c elt x y v) ⟨fun _ _ _ => False, fun r v' => r = [g y] ∧ v' = v⟩) : qlc Ψ own tg c elt x ys v = .ok (ys.map g) v := by
  rw [lc_of (fun y => [g y]) h, flat1]
theorem lc_filter (p : T → Bool) (g : T → T) {ys : List T} {v : Vn} (h : ∀ y ∈ ys, @Q.G _ (tlc Ψ own tg c elt x y v) ⟨fun _ _ _ => False, fun r v' => r = (if p y = true then [g y] else []) ∧ v' = v⟩) : qlc Ψ own tg c elt x ys v = .ok ((ys.filter p).map g) v := by
  rw [lc_of (fun y => if p y = true then [g y] else []) h, flatIf]
/-- with an invariant of what is made and what the names hold -/
theorem lc_inv (I : List T → List T → Vn → Prop) {ys : List T} (step : ∀ y zs acc v, I (y :: zs) acc v → @Q.G _ (tlc Ψ own tg c elt x y v) ⟨fun _ _ _ => False, fun r v' => I zs (acc ++ r) v'⟩) : ∀ {acc : List T} {v : Vn}, I ys acc v → ∃ us v', qlc Ψ own tg c elt x ys v = .ok us v' ∧ I [] (acc ++ us) v' := by
  induction ys with
  | nil => exact fun {acc v} h => ⟨[], v, rfl, by rw [List.append_nil]; exact h⟩
  | cons y ys ih =>
    intro acc v h
    have s := step y ys acc v h
    rw [qlc_cons]
    cases e : tlc Ψ own tg c elt x y v with
    | ok r v1 =>
      rw [e] at s
      obtain ⟨us, v', e2, h2⟩ := ih (acc := acc ++ r) (v := v1) s
      refine ⟨r ++ us, v', ?_, by rw [← List.append_assoc]; exact h2⟩
      show (qlc Ψ own tg c elt x ys v1).to' _ = _
      rw [e2]
      rfl
    | exn => rw [e] at s; exact s.elim
    | bad => rw [e] at s; exact s.elim
theorem sc_map (g : T → T) : ∀ {ys : List T} {v : Vn}, (∀ y ∈ ys, @Q.G _ (tsc Ψ own tg elt x y v) ⟨fun _ _ _ => False, fun r v' => r = [g y] ∧ v' = v⟩) → qsc Ψ own tg elt x ys v = .ok (ys.map g) v
  | [], v, _ => rfl
  | y :: ys, v, h => by
    have e := Q.eq_of (h y List.mem_cons_self)
    rw [qsc_cons, e]
    show (qsc Ψ own tg elt x ys v).to' _ = _
    rw [sc_map g fun z hz => h z (List.mem_cons_of_mem _ hz)]
    rfl
theorem G_lc_nil {X : XQ} {K : List T → Vn → Prop} {v : Vn} : @Q.G (List T) (qlc Ψ own tg c elt x [] v) ⟨X, K⟩ = K [] v := id rfl
theorem G_lc_cons {X : XQ} {K : List T → Vn → Prop} {y : T} {ys : List T} {v : Vn} : @Q.G (List T) (qlc Ψ own tg c elt x (y :: ys) v) ⟨X, K⟩ = @Q.G (List T) (tlc Ψ own tg c elt x y v) ⟨fun _ _ _ => False, fun r v1 => @Q.G (List T) (qlc Ψ own tg c elt x ys v1) ⟨fun _ _ _ => False, fun rs v2 => K (r ++ rs) v2⟩⟩ := by
  rw [qlc_cons, G_to']
  congr 2
  funext r v1
  rw [G_to']
  rfl
theorem S_for_nil {v : Vn} {b : Ss} {nx rt bk ct ex} : @QS.G (qforS Ψ fu pin tg b [] v x) ⟨nx, rt, bk, ct, ex⟩ = nx v x := id rfl
theorem S_for_cons {v : Vn} {b : Ss} {y : T} {ys : List T} {nx rt bk ct ex} : @QS.G (qforS Ψ fu pin tg b (y :: ys) v x) ⟨nx, rt, bk, ct, ex⟩ = @ifQ ((tgI tg).all fun i => !pin.contains i) ⟨@optQ Vn (bindV tg y v) ⟨fun v' => @QS.G (qSs Ψ fu pin b v' x) ⟨fun v2 x2 => @QS.G (qforS Ψ fu pin tg b ys v2 x2) ⟨nx, rt, bk, ct, ex⟩, rt, nx, fun v2 x2 => @QS.G (qforS Ψ fu pin tg b ys v2 x2) ⟨nx, rt, bk, ct, ex⟩, ex⟩⟩, False⟩ := by
  show @QS.G (bS ((tgI tg).all fun i => !pin.contains i) (oS (bindV tg y v) fun v' => (qSs Ψ fu pin b v' x).turn fun v'' x' => qforS Ψ fu pin tg b ys v'' x')) ⟨nx, rt, bk, ct, ex⟩ = _
  rw [S_bS, S_oS]
  have e : ∀ v', @QS.G ((qSs Ψ fu pin b v' x).turn fun v'' x' => qforS Ψ fu pin tg b ys v'' x') ⟨nx, rt, bk, ct, ex⟩ = @QS.G (qSs Ψ fu pin b v' x) ⟨fun v2 x2 => @QS.G (qforS Ψ fu pin tg b ys v2 x2) ⟨nx, rt, bk, ct, ex⟩, rt, nx, fun v2 x2 => @QS.G (qforS Ψ fu pin tg b ys v2 x2) ⟨nx, rt, bk, ct, ex⟩, ex⟩ := fun v' => by cases qSs Ψ fu pin b v' x <;> rfl
  rw [show (fun v' => @QS.G ((qSs Ψ fu pin b v' x).turn fun v'' x' => qforS Ψ fu pin tg b ys v'' x') ⟨nx, rt, bk, ct, ex⟩) = _ from funext e]
theorem G_lc {X : XQ} {K : List T → Vn → Prop} (g : T → T) {ys : List T} {v : Vn} (h : ∀ y ∈ ys, @Q.G _ (tlc Ψ own tg c elt x y v) ⟨fun _ _ _ => False, fun r v' => r = [g y] ∧ v' = v⟩) (k : K (ys.map g) v) : @Q.G (List T) (qlc Ψ own tg c elt x ys v) ⟨X, K⟩ := by
  rw [lc_map g h]; exact k
theorem G_lcf {X : XQ} {K : List T → Vn → Prop} (p : T → Bool) (g : T → T) {ys : List T} {v : Vn} (h : ∀ y ∈ ys, @Q.G _ (tlc Ψ own tg c elt x y v) ⟨fun _ _ _ => False, fun r v' => r = (if p y = true then [g y] else []) ∧ v' = v⟩) (k : K ((ys.filter p).map g) v) : @Q.G (List T) (qlc Ψ own tg c elt x ys v) ⟨X, K⟩ := by
  rw [lc_filter p g h]; exact k
theorem G_lci {X : XQ} {K : List T → Vn → Prop} (I : List T → List T → Vn → Prop) {ys : List T} {v : Vn} (h : I ys [] v) (step : ∀ y zs acc v, I (y :: zs) acc v → @Q.G _ (tlc Ψ own tg c elt x y v) ⟨fun _ _ _ => False, fun r v' => I zs (acc ++ r) v'⟩) (k : ∀ us v', I [] us v' → K us v') : @Q.G (List T) (qlc Ψ own tg c elt x ys v) ⟨X, K⟩ := by
  obtain ⟨us, v', e, h2⟩ := lc_inv I step h
  rw [e]; exact k us v' h2
theorem G_sc {X : XQ} {K : List T → Vn → Prop} (g : T → T) {ys : List T} {v : Vn} (h : ∀ y ∈ ys, @Q.G _ (tsc Ψ own tg elt x y v) ⟨fun _ _ _ => False, fun r v' => r = [g y] ∧ v' = v⟩) (k : K (ys.map g) v) : @Q.G (List T) (qsc Ψ own tg elt x ys v) ⟨X, K⟩ := by
  rw [sc_map g h]; exact k
/-- a for: an invariant of what is left to walk and what the names hold -/
theorem for_inv {b : Ss} {K : SK} (I : List T → Vn → Option T → Prop) (step : ∀ y ys v x, I (y :: ys) v x → ((tgI tg).all fun i => !pin.contains i) = true ∧ ∃ v', bindV tg y v = some v' ∧ @QS.G (qSs Ψ fu pin b v' x) ⟨fun v x => I ys v x, K.rt, K.nx, fun v x => I ys v x, K.ex⟩)
    (last : ∀ v x, I [] v x → K.nx v x) : ∀ {ys : List T} {v : Vn} {x : Option T}, I ys v x → @QS.G (qforS Ψ fu pin tg b ys v x) K
  | [], v, x, h => last v x h
  | y :: ys, v, x, h => by
    obtain ⟨h1, v', e, s⟩ := step y ys v x h
    show @QS.G (bS ((tgI tg).all fun i => !pin.contains i) (oS (bindV tg y v) fun v' => (qSs Ψ fu pin b v' x).turn fun v'' x' => qforS Ψ fu pin tg b ys v'' x')) K
    rw [S_bS, h1]
    show @QS.G (oS (bindV tg y v) fun v' => (qSs Ψ fu pin b v' x).turn fun v'' x' => qforS Ψ fu pin tg b ys v'' x') K
    rw [S_oS, e]
    show @QS.G ((qSs Ψ fu pin b v' x).turn fun v'' x' => qforS Ψ fu pin tg b ys v'' x') K
    cases q : qSs Ψ fu pin b v' x with
    | nx v2 x2 => rw [q] at s; exact for_inv I step last s
    | ct v2 x2 => rw [q] at s; exact for_inv I step last s
    | bk v2 x2 => rw [q] at s; exact s
    | rt b2 v2 => rw [q] at s; exact s
    | exn c t v2 => rw [q] at s; exact s
    | bad => rw [q] at s; exact s.elim
/-- a while: a measure and an invariant -/
theorem while_inv {b : Ss} {K : SK} (I : Nat → Vn → Option T → Prop) (step : ∀ n v x, I n v x → @Q.G Bool (qC Ψ c v x) ⟨K.ex, fun k v' => @ifQ k ⟨∃ m, n = m + 1 ∧ @QS.G (qSs Ψ fu pin b v' x) ⟨fun v x => I m v x, K.rt, K.nx, fun v x => I m v x, K.ex⟩, K.nx v' x⟩⟩) :
    ∀ {n : Nat} {v : Vn} {x : Option T}, I n v x → @QS.G (qwhileS Ψ fu pin c b (n + 1) v x) K := by
  intro n
  induction n with
  | zero =>
    intro v x h
    have s := step 0 v x h
    show @QS.G ((qC Ψ c v x).toS fun k v' => match k with
      | true => (qSs Ψ fu pin b v' x).turn fun v'' x' => qwhileS Ψ fu pin c b 0 v'' x'
      | false => .nx v' x) K
    cases q : qC Ψ c v x with
    | ok k v1 =>
      rw [q] at s
      cases k with
      | true => obtain ⟨m, e, _⟩ := s; exact absurd e (by omega)
      | false => exact s
    | exn c t v1 => rw [q] at s; exact s
    | bad => rw [q] at s; exact s.elim
  | succ n ih =>
    intro v x h
    have s := step (n + 1) v x h
    show @QS.G ((qC Ψ c v x).toS fun k v' => match k with
      | true => (qSs Ψ fu pin b v' x).turn fun v'' x' => qwhileS Ψ fu pin c b (n + 1) v'' x'
      | false => .nx v' x) K
    cases q : qC Ψ c v x with
    | ok k v1 =>
      rw [q] at s
      cases k with
      | false => exact s
      | true =>
        obtain ⟨m, e, s⟩ := s
        have em : m = n := by omega
        subst em
        show @QS.G ((qSs Ψ fu pin b v1 x).turn fun v'' x' => qwhileS Ψ fu pin c b (m + 1) v'' x') K
        cases q2 : qSs Ψ fu pin b v1 x with
        | nx v2 x2 => rw [q2] at s; exact ih s
        | ct v2 x2 => rw [q2] at s; exact ih s
        | bk v2 x2 => rw [q2] at s; exact s
        | rt b2 v2 => rw [q2] at s; exact s
        | exn c t v2 => rw [q2] at s; exact s
        | bad => rw [q2] at s; exact s.elim
    | exn c t v1 => rw [q] at s; exact s
    | bad => rw [q] at s; exact s.elim
end
end TL

/-! the defs that many laws have -/
namespace TLP
open PySem PySem.Spec PyProof.Rows L2 TL
def ir_demand : Ss :=
  (.cons (.iff (.not (.val (.var 0)))
   (.cons (.raise 0 (.var 1))
    .nil)
   .nil)
  .nil)
def ir_is_in : Ss :=
  (.cons (.ret (.and (.isinst (.var 0) .int) (.and (.not (.isinst (.var 0) .bool)) (.chain .le .le (.var 1) (.var 0) (.var 2)))))
  .nil)
def ir_is_tuple : Ss :=
  (.cons (.ret (.and (.isinst (.var 0) .tuple) (.chain .le .le (.var 1) (.blt .len (.cons (.var 0) .nil)) (.var 2))))
  .nil)
def ir_is_signs : Ss :=
  (.cons (.ret (.and (.isinst (.var 0) .str) (.and (.chain .le .le (.var 1) (.blt .len (.cons (.var 0) .nil)) (.var 2)) (.agg .all (.lc [3] (.name 3) (.chars (.var 0)) .tt (.cmp .inn (.var 3) (.gcst 7 (.str " !\"#$&'()*+,-./0123456789:;<=>?@ABCDEFGHIJKLMNOPQRSTUVWXYZ[\\]^_`abcdefghijklmnopqrstuvwxyz{|}~"))))))))
  .nil)
def ir_is_value : Ss :=
  (.cons (.ret (.or (.cmp .isN (.var 0) (.cst .non)) (.or (.call 1 (.cons (.var 0) (.cons (.gcst 0 (.int (-1000000))) (.cons (.gcst 1 (.int 1000000)) .nil)))) (.call 3 (.cons (.var 0) (.cons (.cst (.int 1)) (.cons (.gcst 2 (.int 12)) .nil)))))))
  .nil)
def ir_is_name : Ss :=
  (.cons (.ret (.and (.isinst (.var 0) .str) (.and (.chain .le .le (.cst (.int 1)) (.blt .len (.cons (.var 0) .nil)) (.gcst 3 (.int 10))) (.agg .all (.lc [1] (.name 1) (.chars (.var 0)) .tt (.cmp .inn (.var 1) (.gcst 6 (.str "abcdefghijklmnopqrstuvwxyz"))))))))
  .nil)
def ir_are_names : Ss :=
  (.cons (.ret (.and (.call 2 (.cons (.var 0) (.cons (.var 1) (.cons (.var 2) .nil)))) (.and (.agg .all (.lc [3] (.name 3) (.seq (.var 0)) .tt (.call 5 (.cons (.var 3) .nil)))) (.cmp .eq (.blt .setLen (.cons (.var 0) .nil)) (.blt .len (.cons (.var 0) .nil))))))
  .nil)
def ir_rank : Ss :=
  (.cons (.iff (.cmp .isN (.var 0) (.cst .non))
   (.cons (.ret (.tup (.cons (.cst (.int 0)) (.cons (.cst (.int 0)) (.cons (.cst (.str "")) .nil)))))
    .nil)
   .nil)
  (.cons (.iff (.val (.isinst (.var 0) .int))
   (.cons (.ret (.tup (.cons (.cst (.int 1)) (.cons (.var 0) (.cons (.cst (.str "")) .nil)))))
    .nil)
   .nil)
  (.cons (.ret (.tup (.cons (.cst (.int 2)) (.cons (.cst (.int 0)) (.cons (.var 0) .nil)))))
  .nil)))
def ir_ranks : Ss :=
  (.cons (.ret (.agg .tuple (.lc [1] (.name 1) (.seq (.var 0)) .tt (.call 7 (.cons (.var 1) .nil)))))
  .nil)
def ir_is_before : Ss :=
  (.cons (.ret (.cmp .lt (.call 7 (.cons (.var 0) .nil)) (.call 7 (.cons (.var 1) .nil))))
  .nil)
def ir_is_row : Ss :=
  (.cons (.ret (.and (.call 2 (.cons (.var 0) (.cons (.var 1) (.cons (.var 1) .nil)))) (.agg .all (.lc [2] (.name 2) (.seq (.var 0)) .tt (.call 4 (.cons (.var 2) .nil))))))
  .nil)
def ir_is_table : Ss :=
  (.cons (.iff (.or (.not (.val (.call 2 (.cons (.var 0) (.cons (.cst (.int 2)) (.cons (.cst (.int 2)) .nil)))))) (.or (.not (.val (.call 6 (.cons (.idx (.var 0) (.cst (.int 0))) (.cons (.cst (.int 1)) (.cons (.gcst 8 (.int 8)) .nil)))))) (.not (.val (.call 2 (.cons (.idx (.var 0) (.cst (.int 1))) (.cons (.cst (.int 0)) (.cons (.gcst 9 (.int 200)) .nil))))))))
   (.cons (.ret (.cst (.bl false)))
    .nil)
   .nil)
  (.cons (.ret (.agg .all (.lc [1] (.name 1) (.seq (.idx (.var 0) (.cst (.int 1)))) .tt (.call 10 (.cons (.var 1) (.cons (.blt .len (.cons (.idx (.var 0) (.cst (.int 0))) .nil)) .nil))))))
  .nil))
def ir_demand_table : Ss :=
  (.cons (.expr (.call 0 (.cons (.call 11 (.cons (.var 0) .nil)) (.cons (.cst (.str "table")) .nil))))
  .nil)
def ir_at_name : Ss :=
  (.cons (.ret (.idx (.var 0) (.mth .indexT (.var 1) (.cons (.var 2) .nil))))
  .nil)
def ir_parts_of : Ss :=
  (.cons (.ret (.agg .tuple (.lc [3] (.name 3) (.seq (.var 2)) .tt (.call 13 (.cons (.var 0) (.cons (.var 1) (.cons (.var 3) .nil)))))))
  .nil)
def ir_are_own_names : Ss :=
  (.cons (.ret (.and (.call 6 (.cons (.var 1) (.cons (.var 2) (.cons (.gcst 8 (.int 8)) .nil)))) (.agg .all (.lc [3] (.name 3) (.seq (.var 1)) .tt (.cmp .inn (.var 3) (.idx (.var 0) (.cst (.int 0))))))))
  .nil)
def ir_integers_of : Ss :=
  (.cons (.ret (.lc [1] (.name 1) (.seq (.var 0)) (.val (.isinst (.var 1) .int)) (.var 1)))
  .nil)
def ir_common : Ss :=
  (.cons (.par 0 1 (.blt .abs (.cons (.var 0) .nil)) (.blt .abs (.cons (.var 1) .nil)))
  (.cons (.while (.cmp .gt (.var 1) (.cst (.int 0)))
   (.cons (.par 0 1 (.var 1) (.bin .mod (.var 0) (.var 1)))
    .nil))
  (.cons (.ret (.var 0))
  .nil)))
def ir_fraction : Ss :=
  (.cons (.iff (.cmp .lt (.var 1) (.cst (.int 0)))
   (.cons (.par 0 1 (.neg (.var 0)) (.neg (.var 1)))
    .nil)
   .nil)
  (.cons (.set 2 (.call 17 (.cons (.var 0) (.cons (.var 1) .nil))))
  (.cons (.ret (.tup (.cons (.bin .fdiv (.var 0) (.var 2)) (.cons (.bin .fdiv (.var 1) (.var 2)) .nil))))
  .nil)))
def ir__law_dice : Ss :=
  (.cons (.set 2 (.ite (.cmp .lt (.var 1) (.blt .len (.cons (.var 0) .nil))) (.idx (.var 0) (.var 1)) (.bin .add (.bin .mul (.cst (.int 811)) (.var 1)) (.cst (.int 37)))))
  (.cons (.set 3 (.bin .add (.cst (.int 700001)) (.bin .mul (.cst (.int 6947)) (.var 1))))
  (.cons (.for (.name 4) (.seq (.catV (.slc (.var 0) .no (.some (.cst (.int 6)))) (.lstV (.cons (.var 2) .nil))))
   (.cons (.set 3 (.bin .mod (.blt .int (.cons (.bin .add (.bin .mul (.var 3) (.cst (.int 69621))) (.bin .mod (.blt .int (.cons (.var 4) .nil)) (.cst (.int 2147480009)))) .nil)) (.cst (.int 2147480009))))
    .nil))
  (.cons (.ret (.lst (.cons (.ite (.or (.cmp .lt (.var 2) (.cst (.int 0))) (.cmp .ge (.var 2) (.bin .pow (.cst (.int 10)) (.cst (.int 16))))) (.blt .abs (.cons (.var 2) .nil)) (.cst (.int 0))) (.cons (.var 3) (.cons (.cst (.int 0)) .nil)))))
  .nil))))
def ir__law_roll : Ss :=
  (.cons (.iff (.cmp .gt (.idx (.var 0) (.cst (.int 0))) (.cst (.int 0)))
   (.cons (.set 2 (.bin .mod (.blt .int (.cons (.idx (.var 0) (.cst (.int 0))) .nil)) (.var 1)))
    (.cons (.setIdx (.var 0) (.cst (.int 0)) (.bin .fdiv (.idx (.var 0) (.cst (.int 0))) (.var 1)))
    (.cons (.ret (.var 2))
    .nil)))
   .nil)
  (.cons (.setIdx (.var 0) (.cst (.int 2)) (.bin .add (.idx (.var 0) (.cst (.int 2))) (.cst (.int 1))))
  (.cons (.setIdx (.var 0) (.cst (.int 1)) (.bin .mod (.blt .int (.cons (.bin .add (.bin .add (.bin .mul (.idx (.var 0) (.cst (.int 1))) (.cst (.int 48271))) (.bin .mul (.bin .mul (.idx (.var 0) (.cst (.int 2))) (.idx (.var 0) (.cst (.int 2)))) (.cst (.int 2003)))) (.cst (.int 91))) .nil)) (.cst (.int 2147480009))))
  (.cons (.ret (.bin .mod (.blt .int (.cons (.bin .fdiv (.idx (.var 0) (.cst (.int 1))) (.cst (.int 197))) .nil)) (.var 1)))
  .nil))))
def ir__law_pick : Ss :=
  (.cons (.ret (.idx (.var 1) (.call 20 (.cons (.var 0) (.cons (.blt .len (.cons (.var 1) .nil)) .nil)))))
  .nil)
def ir__law_value : Ss :=
  (.cons (.set 1 (.call 20 (.cons (.var 0) (.cons (.cst (.int 10)) .nil))))
  (.cons (.iff (.cmp .eq (.var 1) (.cst (.int 0)))
   (.cons (.ret (.cst .non))
    .nil)
   .nil)
  (.cons (.iff (.cmp .lt (.var 1) (.cst (.int 6)))
   (.cons (.ret (.bin .sub (.call 20 (.cons (.var 0) (.cons (.cst (.int 9)) .nil))) (.cst (.int 3))))
    .nil)
   .nil)
  (.cons (.iff (.cmp .eq (.var 1) (.cst (.int 6)))
   (.cons (.ret (.bin .sub (.call 20 (.cons (.var 0) (.cons (.cst (.int 2000001)) .nil))) (.cst (.int 1000000))))
    .nil)
   .nil)
  (.cons (.iff (.cmp .lt (.var 1) (.cst (.int 9)))
   (.cons (.ret (.call 21 (.cons (.var 0) (.cons (.lstV (.cons (.cst (.str "a")) (.cons (.cst (.str "ab")) (.cons (.cst (.str "b")) (.cons (.cst (.str "north")) (.cons (.cst (.str "south")) (.cons (.cst (.str "c d")) .nil))))))) .nil))))
    .nil)
   .nil)
  (.cons (.ret (.mth .join (.cst (.str "")) (.cons (.lc [2] (.name 2) (.range (.bin .add (.cst (.int 1)) (.call 20 (.cons (.var 0) (.cons (.cst (.int 12)) .nil))))) .tt (.call 21 (.cons (.var 0) (.cons (.lstV (.cons (.cst (.str "a")) (.cons (.cst (.str "z")) (.cons (.cst (.str " ")) (.cons (.cst (.str "~")) (.cons (.cst (.str "0")) (.cons (.cst (.str "Q")) .nil))))))) .nil)))) .nil)))
  .nil))))))
def ir__law_table : Ss :=
  (.cons (.set 3 (.slc (.tup (.cons (.cst (.str "kind")) (.cons (.cst (.str "place")) (.cons (.cst (.str "cost")) (.cons (.cst (.str "month")) (.cons (.cst (.str "who")) (.cons (.cst (.str "x")) (.cons (.cst (.str "yy")) (.cons (.cst (.str "zzz")) .nil))))))))) .no (.some (.var 1))))
  (.cons (.iff (.cmp .eq (.call 20 (.cons (.var 0) (.cons (.cst (.int 2)) .nil))) (.cst (.int 0)))
   (.cons (.set 3 (.blt .rev (.cons (.var 3) .nil)))
    .nil)
   .nil)
  (.cons (.ret (.tup (.cons (.var 3) (.cons (.agg .tuple (.lc [4] (.name 4) (.range (.var 2)) .tt (.agg .tuple (.lc [5] (.name 5) (.seq (.var 3)) .tt (.call 22 (.cons (.var 0) .nil)))))) .nil))))
  .nil)))
def ir__law_kind : Ss :=
  (.cons (.ret (.ite (.cmp .isN (.var 0) (.cst .non)) (.cst (.int 0)) (.ite (.val (.isinst (.var 0) .int)) (.cst (.int 1)) (.cst (.int 2)))))
  .nil)
def ir__law_before : Ss :=
  (.cons (.iff (.cmp .ne (.call 24 (.cons (.var 0) .nil)) (.call 24 (.cons (.var 1) .nil)))
   (.cons (.ret (.cmp .lt (.call 24 (.cons (.var 0) .nil)) (.call 24 (.cons (.var 1) .nil))))
    .nil)
   .nil)
  (.cons (.ret (.ite (.cmp .isN (.var 0) (.cst .non)) (.cst (.bl false)) (.cmp .lt (.var 0) (.var 1))))
  .nil))
def ir__law_row_before : Ss :=
  (.cons (.for (.two 2 3) (.zip (.var 0) (.var 1))
   (.cons (.iff (.or (.cmp .ne (.var 2) (.var 3)) (.cmp .ne (.call 24 (.cons (.var 2) .nil)) (.call 24 (.cons (.var 3) .nil))))
     (.cons (.ret (.call 25 (.cons (.var 2) (.cons (.var 3) .nil))))
      .nil)
     .nil)
    .nil))
  (.cons (.ret (.cmp .lt (.blt .len (.cons (.var 0) .nil)) (.blt .len (.cons (.var 1) .nil))))
  .nil))
def Lib : List Fd := [⟨2, 2, ir_demand⟩, ⟨3, 3, ir_is_in⟩, ⟨3, 3, ir_is_tuple⟩, ⟨3, 4, ir_is_signs⟩, ⟨1, 1, ir_is_value⟩, ⟨1, 2, ir_is_name⟩, ⟨3, 4, ir_are_names⟩, ⟨1, 1, ir_rank⟩, ⟨1, 2, ir_ranks⟩, ⟨2, 2, ir_is_before⟩, ⟨2, 3, ir_is_row⟩, ⟨1, 2, ir_is_table⟩, ⟨1, 1, ir_demand_table⟩, ⟨3, 3, ir_at_name⟩, ⟨3, 4, ir_parts_of⟩, ⟨3, 4, ir_are_own_names⟩, ⟨1, 2, ir_integers_of⟩, ⟨2, 2, ir_common⟩, ⟨2, 3, ir_fraction⟩, ⟨2, 5, ir__law_dice⟩, ⟨2, 3, ir__law_roll⟩, ⟨2, 2, ir__law_pick⟩, ⟨1, 3, ir__law_value⟩, ⟨3, 6, ir__law_table⟩, ⟨1, 1, ir__law_kind⟩, ⟨2, 2, ir__law_before⟩, ⟨2, 4, ir__law_row_before⟩, ⟨0, 0, .nil⟩, ⟨0, 0, .nil⟩]
/-- the defs at these places are the shared ones -/
def Has (F : List Fd) (is : List Nat) : Prop := ∀ i ∈ is, F[i]? = Lib[i]?
theorem Has.sub {F : List Fd} {is js : List Nat} (h : Has F is) (k : ∀ i ∈ js, i ∈ is) : Has F js := fun i hi => h i (k i hi)
end TLP

set_option maxHeartbeats 4000000
namespace TL
open PySem PySem.Spec PyProof.Rows L2
theorem x_slcC {xs : List T} {i j : Option Int} {η : Sto} : slcV (.cl xs) i j η = some (.cl (cutT xs i j)) := id rfl
theorem x_slcT {xs : List T} {i j : Option Int} {η : Sto} : slcV (.tup xs) i j η = some (.tup (cutT xs i j)) := id rfl
theorem x_lstC {xs : List T} {η : Sto} : lstOf η (.cl xs) = some xs := id rfl
theorem x_inT {u : T} {xs : List T} {η : Sto} : copV .inn u (.tup xs) η = some (inT u xs) := by cases u <;> rfl
theorem x_inC {u : T} {xs : List T} {η : Sto} : copV .inn u (.cl xs) η = some (inT u xs) := by cases u <;> rfl
theorem x_ginT {u : T} {xs : List T} {η : Sto} : copG .inn u (.tup xs) η = inOk u xs := by cases u <;> rfl
theorem x_ginC {u : T} {xs : List T} {η : Sto} : copG .inn u (.cl xs) η = inOk u xs := by cases u <;> rfl
theorem x_ninT {u : T} {xs : List T} {η : Sto} : copV .nin u (.tup xs) η = some (!inT u xs) := by cases u <;> rfl
theorem x_ninC {u : T} {xs : List T} {η : Sto} : copV .nin u (.cl xs) η = some (!inT u xs) := by cases u <;> rfl
theorem x_gninT {u : T} {xs : List T} {η : Sto} : copG .nin u (.tup xs) η = inOk u xs := by cases u <;> rfl
theorem x_gninC {u : T} {xs : List T} {η : Sto} : copG .nin u (.cl xs) η = inOk u xs := by cases u <;> rfl
theorem yq_str {x y : Str} : eqv (.str x) (.str y) = decide (x = y) := by
  show (x == y) = _
  cases e : (x == y) with
  | true => rw [eq_of_beq e]; simp
  | false =>
    symm
    rw [decide_eq_false_iff_not]
    intro h
    rw [h] at e
    simp at e
theorem yq_int {x y : Int} : eqv (.int x) (.int y) = decide (x = y) := by
  show (x == y) = _
  rw [Bool.eq_iff_iff, beq_iff_eq, decide_eq_true_eq]
theorem yq_bl {x y : Bool} : eqv (.bl x) (.bl y) = (x == y) := id rfl
theorem yq_si {x : Str} {y : Int} : eqv (.str x) (.int y) = false := id rfl
theorem yq_is {x : Int} {y : Str} : eqv (.int x) (.str y) = false := id rfl
theorem yq_sn {x : Str} : eqv (.str x) .non = false := id rfl
theorem yq_ns {x : Str} : eqv .non (.str x) = false := id rfl
theorem yq_in {x : Int} : eqv (.int x) .non = false := id rfl
theorem yq_ni {x : Int} : eqv .non (.int x) = false := id rfl
theorem yq_nn : eqv .non .non = true := id rfl
theorem yq_tt {xs ys : List T} : eqv (.tup xs) (.tup ys) = eqvs xs ys := id rfl
theorem yq_cc {xs ys : List T} : eqv (.cl xs) (.cl ys) = eqvs xs ys := id rfl
theorem yqs_nil : eqvs [] [] = true := id rfl
theorem yqs_cons {x y : T} {xs ys : List T} : eqvs (x :: xs) (y :: ys) = (eqv x y && eqvs xs ys) := id rfl
theorem eo_ss {x y : Str} : eqOk (.str x) (.str y) = true := id rfl
theorem eo_ii {x y : Int} : eqOk (.int x) (.int y) = true := id rfl
theorem eo_si {x : Str} {y : Int} : eqOk (.str x) (.int y) = true := id rfl
theorem eo_is {x : Int} {y : Str} : eqOk (.int x) (.str y) = true := id rfl
theorem eo_nn : eqOk .non .non = true := id rfl
theorem eo_in {x : Int} : eqOk (.int x) .non = true := id rfl
theorem eo_ni {x : Int} : eqOk .non (.int x) = true := id rfl
theorem eo_sn {x : Str} : eqOk (.str x) .non = true := id rfl
theorem eo_ns {x : Str} : eqOk .non (.str x) = true := id rfl
theorem eo_bb {x y : Bool} : eqOk (.bl x) (.bl y) = true := id rfl
theorem nn_non : isNon .non = true := id rfl
theorem nn_int {i : Int} : isNon (.int i) = false := id rfl
theorem nn_bl {i : Bool} : isNon (.bl i) = false := id rfl
theorem nn_str {i : Str} : isNon (.str i) = false := id rfl
theorem nn_tup {i : List T} : isNon (.tup i) = false := id rfl
theorem nn_cl {i : List T} : isNon (.cl i) = false := id rfl
theorem at_cast {α : Type} {xs : List α} {k : Nat} : atI xs (k : Int) = xs[k]? := by
  unfold atI ixN
  rw [if_pos (by omega)]
  by_cases h : k < xs.length
  · rw [if_pos (by omega)]; simp
  · rw [if_neg (by omega), List.getElem?_eq_none (by omega)]; rfl
theorem at_0 {α : Type} {xs : List α} : atI xs 0 = xs[0]? := at_cast (k := 0)
theorem at_1 {α : Type} {xs : List α} : atI xs 1 = xs[1]? := at_cast (k := 1)
theorem at_2 {α : Type} {xs : List α} : atI xs 2 = xs[2]? := at_cast (k := 2)
theorem at_3 {α : Type} {xs : List α} : atI xs 3 = xs[3]? := at_cast (k := 3)
theorem at_4 {α : Type} {xs : List α} : atI xs 4 = xs[4]? := at_cast (k := 4)
theorem at_5 {α : Type} {xs : List α} : atI xs 5 = xs[5]? := at_cast (k := 5)
theorem at_6 {α : Type} {xs : List α} : atI xs 6 = xs[6]? := at_cast (k := 6)
theorem at_7 {α : Type} {xs : List α} : atI xs 7 = xs[7]? := at_cast (k := 7)
theorem at_8 {α : Type} {xs : List α} : atI xs 8 = xs[8]? := at_cast (k := 8)
theorem at_9 {α : Type} {xs : List α} : atI xs 9 = xs[9]? := at_cast (k := 9)
theorem at_neg1 {α : Type} {xs : List α} : atI xs (-1) = xs.getLast? := by
  unfold atI ixN
  rw [if_neg (by omega), List.getLast?_eq_getElem?]
  by_cases h : xs = []
  · subst h; rfl
  · have : 0 < xs.length := List.length_pos_iff.mpr h
    rw [if_pos (by omega)]
    show xs[_]? = _
    congr 1
    omega
theorem strs_map2 {xs : List Str} : strsL (xs.map .str) = some xs := by
  induction xs with
  | nil => rfl
  | cons x xs ih => show (strsL (xs.map .str)).map (x :: ·) = _; rw [ih]; rfl
theorem b_rev {xs : List T} {η : Sto} : bltV .rev [.tup xs] η = some (.tup xs.reverse) := id rfl
theorem n_in {u x : T} {xs : List T} : inT u (x :: xs) = (eqv x u || inT u xs) := id rfl
theorem n_nil {u : T} : inT u [] = false := id rfl
theorem dats_all {xs : List T} : dats xs = xs.all dat := by
  induction xs with
  | nil => rfl
  | cons x xs ih => show (dat x && dats xs) = _; rw [ih]; rfl
theorem inT_strs {s : Str} {ns : List Str} : inT (.str s) (ns.map .str) = decide (s ∈ ns) := by
  induction ns with
  | nil => rfl
  | cons x xs ih =>
    show (eqv (.str x) (.str s) || inT (.str s) (xs.map .str)) = _
    rw [ih, yq_str]
    by_cases e : x = s
    · subst e; simp
    · have e2 : ¬ s = x := fun z => e z.symm
      simp [e, e2]
theorem dats_strs {ns : List Str} : dats (ns.map .str) = true := by
  rw [dats_all, List.all_map]
  exact List.all_eq_true.mpr fun _ _ => rfl
theorem deps_strs {ns : List Str} : deps (ns.map .str) = 0 := by
  induction ns with
  | nil => rfl
  | cons x xs ih => show max 0 (deps (xs.map .str)) = 0; rw [ih]; rfl
theorem inOk_strs {s : Str} {ns : List Str} : inOk (.str s) (ns.map .str) = true := by
  unfold inOk
  rw [dats_strs, deps_strs]
  rfl
theorem ok_str {z : Str} {xs : List T} : inOk (.str z) xs = dats xs := by
  unfold inOk
  show (true && dats xs && decide (min (deps xs) 0 ≤ 64)) = _
  simp
theorem ok_int {z : Int} {xs : List T} : inOk (.int z) xs = dats xs := by
  unfold inOk
  show (true && dats xs && decide (min (deps xs) 0 ≤ 64)) = _
  simp
theorem ok_non {xs : List T} : inOk .non xs = dats xs := by
  unfold inOk
  show (true && dats xs && decide (min (deps xs) 0 ≤ 64)) = _
  simp
theorem ok_bl {z : Bool} {xs : List T} : inOk (.bl z) xs = dats xs := by
  unfold inOk
  show (true && dats xs && decide (min (deps xs) 0 ≤ 64)) = _
  simp
theorem da_non : dat .non = true := id rfl
theorem da_int {i : Int} : dat (.int i) = true := id rfl
theorem da_bl {i : Bool} : dat (.bl i) = true := id rfl
theorem da_str {i : Str} : dat (.str i) = true := id rfl
theorem da_tup {i : List T} : dat (.tup i) = dats i := id rfl
theorem da_cl {i : List T} : dat (.cl i) = dats i := id rfl
theorem das_nil : dats [] = true := id rfl
theorem das_cons {x : T} {xs : List T} : dats (x :: xs) = (dat x && dats xs) := id rfl
end TL
local macro_rules | `(tactic| walk_at "qv") => `(tactic| simp only [↓TL.g_qE_var, ↓TL.g_qE_cst, ↓TL.g_qE_gcst, ↓TL.g_qE_tup, ↓TL.g_qE_lst, ↓TL.g_qE_lstV, ↓TL.g_qE_bin, ↓TL.g_qE_neg, ↓TL.g_qE_cat, ↓TL.g_qE_catV, ↓TL.g_qE_cmp, ↓TL.g_qE_chain, ↓TL.g_qE_and, ↓TL.g_qE_or, ↓TL.g_qE_not, ↓TL.g_qE_ite, ↓TL.g_qE_idx, ↓TL.g_qE_slc, ↓TL.g_qE_slcM, ↓TL.g_qE_isinst, ↓TL.g_qE_call, ↓TL.g_qE_callK, ↓TL.g_qE_lc, ↓TL.g_qE_lcM, ↓TL.g_qE_agg, ↓TL.g_qE_blt, ↓TL.g_qE_mth, ↓TL.g_qE_lenSet, ↓TL.g_qE_hof, ↓TL.g_qE_exc, ↓TL.g_qE_frz, ↓TL.g_qE_weak, ↓TL.g_qE_gix, ↓TL.g_qE_gin, ↓TL.g_qE_dsel, ↓TL.g_qPs_nil, ↓TL.g_qPs_cons, ↓TL.g_qRs_nil, ↓TL.g_qRs_cons, ↓TL.g_qC_and, ↓TL.g_qC_or, ↓TL.g_qC_not, ↓TL.g_qC_val, ↓TL.g_qC_tt, ↓TL.g_qC_cmp, ↓TL.g_qC_chain, ↓TL.g_qI_seq, ↓TL.g_qI_chars, ↓TL.g_qI_range, ↓TL.g_qI_range2, ↓TL.g_qI_zip, ↓TL.g_qI_enum, ↓TL.g_qO_no, ↓TL.g_qO_some, ↓TL.g_qS_expr, ↓TL.g_qS_ret, ↓TL.g_qS_retN, ↓TL.g_qS_set, ↓TL.g_qS_par, ↓TL.g_qS_unp, ↓TL.g_qS_setIdx, ↓TL.g_qS_iff, ↓TL.g_qS_for, ↓TL.g_qS_while, ↓TL.g_qS_brk, ↓TL.g_qS_cont, ↓TL.g_qS_pass, ↓TL.g_qS_raise, ↓TL.g_qS_tryE, ↓TL.g_qS_weak, ↓TL.g_qSs_nil, ↓TL.g_qSs_cons, ↓TL.G_ok, ↓TL.G_exn, ↓TL.G_bad, ↓TL.G_to, ↓TL.G_to', ↓TL.G_toP, ↓TL.G_oQ, ↓TL.G_bQ, ↓TL.G_bm, ↓TL.G_var, ↓TL.G_ps, ↓TL.G_aggM, ↓TL.G_hof, ↓TL.G_src, ↓TL.G_do, ↓TL.S_nx, ↓TL.S_rt, ↓TL.S_bk, ↓TL.S_ct, ↓TL.S_exn, ↓TL.S_bad, ↓TL.S_nxt, ↓TL.S_to, ↓TL.S_toP, ↓TL.S_oS, ↓TL.S_bS, ↓TL.S_bm, ↓TL.S_sS, ↓TL.S_try, ↓TL.C_val, ↓TL.C_exn, ↓TL.G_lc_nil, ↓TL.G_lc_cons, ↓TL.S_for_nil, ↓TL.S_for_cons, TL.sl_val, TL.sl_own, TL.on_p, TL.ps_p, TL.ps_s, TL.out_p, TL.out_f, TL.optQ_some, TL.optQ_none, TL.ifQ_true, TL.ifQ_false, TL.lookS, TL.slot, TL.setS, TL.M.view, TL.Sl.view, TL.Bv.rd, TL.Sl.lst, TL.takeA, TL.backA, TL.rdAll, TL.tgI, TL.bindV, TL.plainS, TL.clrs, TL.rsts, TL.lock, TL.unlock, TL.lockB, TL.pinS, TL.mutB, TL.mthS, TL.leftB, TL.stoV, TL.outV, TL.pinsOf, TL.keepP, TL.tryK, TL.mthT, TL.mthP, TL.mthB, TL.tlc, TL.tsc, TL.aggS, TL.aggV, TL.aggQ, TL.negV, TL.isT, TL.intV, TL.strV, TL.intsOf, TL.blsOf, TL.bopB, TL.strsL, TL.keyT, TL.stillV, TL.v_addI, TL.v_subI, TL.v_mulI, TL.v_fdivI, TL.v_modI, TL.v_powI, TL.g_addI, TL.g_sub, TL.g_mulI, TL.g_fdivI, TL.g_modI, TL.g_powI, TL.c_gtI, TL.c_ltI, TL.c_leI, TL.c_geI, TL.c_eq, TL.c_ne, TL.c_isN, TL.c_notN, TL.c_inS, TL.c_ninS, TL.cg_gt, TL.cg_lt, TL.cg_ltS, TL.cg_ltT, TL.c_ltT, TL.cg_le, TL.cg_ge, TL.cg_isN, TL.cg_notN, TL.cg_eq, TL.cg_ne, TL.cg_inS, TL.cg_ninS, TL.b_intI, TL.b_intB, TL.b_abs, TL.b_len, TL.b_max2, TL.b_min2, TL.l_str, TL.l_tup, TL.l_cl, TL.i_tup, TL.i_cl, TL.i_str, TL.s_str, TL.c_ltS, TL.c_isB, TL.c_notB, TL.t_non, TL.t_bl, TL.t_int, TL.t_tup, TL.t_cl, TL.seq_tup, TL.seq_cl, TL.get_cons, TL.d_non, TL.d_bl, TL.d_int, TL.d_str, TL.d_tup, TL.d_cl, TL.x_slcC, TL.x_slcT, TL.x_lstC, TL.x_inT, TL.x_inC, TL.x_ginT, TL.x_ginC, TL.x_ninT, TL.x_ninC, TL.x_gninT, TL.x_gninC, TL.yq_str, TL.yq_int, TL.yq_si, TL.yq_is, TL.yq_sn, TL.yq_ns, TL.yq_in, TL.yq_ni, TL.yq_nn, TL.eo_ss, TL.eo_ii, TL.eo_si, TL.eo_is, TL.eo_nn, TL.eo_in, TL.eo_ni, TL.eo_sn, TL.eo_ns, TL.n_in, TL.n_nil, TL.nn_non, TL.nn_int, TL.nn_bl, TL.nn_str, TL.nn_tup, TL.nn_cl, TL.yq_bl, TL.yq_tt, TL.yq_cc, TL.yqs_nil, TL.yqs_cons, TL.eo_bb, TL.at_0, TL.at_1, TL.at_2, TL.at_3, TL.at_4, TL.at_5, TL.at_6, TL.at_7, TL.at_8, TL.at_9, TL.at_cast, TL.at_neg1, TL.strs_map2, TL.b_rev, TL.ok_str, TL.ok_int, TL.ok_non, TL.ok_bl, TL.da_non, TL.da_int, TL.da_bl, TL.da_str, TL.da_tup, TL.da_cl, TL.das_nil, TL.das_cons, TL.dats_strs, Int.cast_ofNat_Int, Int.natCast_zero, Int.natCast_one, List.length_cons, List.length_nil, List.length_map, List.map_cons, List.map_nil, List.replicate, List.cons_append, List.nil_append, Nat.reduceAdd, Nat.reduceSub, Nat.reduceLT, Nat.reduceBEq, Nat.reduceEqDiff, Int.reduceLE, Int.reduceLT, Int.reduceNeg, Int.reduceToNat, Nat.reduceLeDiff, Int.reduceEq, Nat.zero_add, if_true, if_false, ite_true, ite_false, Option.map_some, Option.map_none, Option.bind_some, Option.bind_none, true_and, and_true, and_self, ne_eq, not_false_eq_true, not_true_eq_false, reduceCtorEq, L2.ixN, decide_true, decide_false, Bool.not_true, Bool.not_false, Bool.true_and, Bool.and_true, Bool.false_and, Bool.and_false, Bool.or_false, Bool.false_or, Bool.or_true, Bool.true_or, List.sum_cons, List.sum_nil, List.append_nil, List.isEmpty, List.all_cons, List.all_nil, List.contains_cons, List.contains_nil, List.elem_nil, List.elem_cons, decide_eq_true_eq, Nat.zero_le, List.set_cons_zero, List.set_cons_succ, List.getElem?_cons_zero, List.getElem?_cons_succ, *])
local macro_rules | `(tactic| walk_at "qd") => `(tactic| simp (decide := true) only [↓TL.g_qE_var, ↓TL.g_qE_cst, ↓TL.g_qE_gcst, ↓TL.g_qE_tup, ↓TL.g_qE_lst, ↓TL.g_qE_lstV, ↓TL.g_qE_bin, ↓TL.g_qE_neg, ↓TL.g_qE_cat, ↓TL.g_qE_catV, ↓TL.g_qE_cmp, ↓TL.g_qE_chain, ↓TL.g_qE_and, ↓TL.g_qE_or, ↓TL.g_qE_not, ↓TL.g_qE_ite, ↓TL.g_qE_idx, ↓TL.g_qE_slc, ↓TL.g_qE_slcM, ↓TL.g_qE_isinst, ↓TL.g_qE_call, ↓TL.g_qE_callK, ↓TL.g_qE_lc, ↓TL.g_qE_lcM, ↓TL.g_qE_agg, ↓TL.g_qE_blt, ↓TL.g_qE_mth, ↓TL.g_qE_lenSet, ↓TL.g_qE_hof, ↓TL.g_qE_exc, ↓TL.g_qE_frz, ↓TL.g_qE_weak, ↓TL.g_qE_gix, ↓TL.g_qE_gin, ↓TL.g_qE_dsel, ↓TL.g_qPs_nil, ↓TL.g_qPs_cons, ↓TL.g_qRs_nil, ↓TL.g_qRs_cons, ↓TL.g_qC_and, ↓TL.g_qC_or, ↓TL.g_qC_not, ↓TL.g_qC_val, ↓TL.g_qC_tt, ↓TL.g_qC_cmp, ↓TL.g_qC_chain, ↓TL.g_qI_seq, ↓TL.g_qI_chars, ↓TL.g_qI_range, ↓TL.g_qI_range2, ↓TL.g_qI_zip, ↓TL.g_qI_enum, ↓TL.g_qO_no, ↓TL.g_qO_some, ↓TL.g_qS_expr, ↓TL.g_qS_ret, ↓TL.g_qS_retN, ↓TL.g_qS_set, ↓TL.g_qS_par, ↓TL.g_qS_unp, ↓TL.g_qS_setIdx, ↓TL.g_qS_iff, ↓TL.g_qS_for, ↓TL.g_qS_while, ↓TL.g_qS_brk, ↓TL.g_qS_cont, ↓TL.g_qS_pass, ↓TL.g_qS_raise, ↓TL.g_qS_tryE, ↓TL.g_qS_weak, ↓TL.g_qSs_nil, ↓TL.g_qSs_cons, ↓TL.G_ok, ↓TL.G_exn, ↓TL.G_bad, ↓TL.G_to, ↓TL.G_to', ↓TL.G_toP, ↓TL.G_oQ, ↓TL.G_bQ, ↓TL.G_bm, ↓TL.G_var, ↓TL.G_ps, ↓TL.G_aggM, ↓TL.G_hof, ↓TL.G_src, ↓TL.G_do, ↓TL.S_nx, ↓TL.S_rt, ↓TL.S_bk, ↓TL.S_ct, ↓TL.S_exn, ↓TL.S_bad, ↓TL.S_nxt, ↓TL.S_to, ↓TL.S_toP, ↓TL.S_oS, ↓TL.S_bS, ↓TL.S_bm, ↓TL.S_sS, ↓TL.S_try, ↓TL.C_val, ↓TL.C_exn, ↓TL.G_lc_nil, ↓TL.G_lc_cons, ↓TL.S_for_nil, ↓TL.S_for_cons, TL.sl_val, TL.sl_own, TL.on_p, TL.ps_p, TL.ps_s, TL.out_p, TL.out_f, TL.optQ_some, TL.optQ_none, TL.ifQ_true, TL.ifQ_false, TL.lookS, TL.slot, TL.setS, TL.M.view, TL.Sl.view, TL.Bv.rd, TL.Sl.lst, TL.takeA, TL.backA, TL.rdAll, TL.tgI, TL.bindV, TL.plainS, TL.clrs, TL.rsts, TL.lock, TL.unlock, TL.lockB, TL.pinS, TL.mutB, TL.mthS, TL.leftB, TL.stoV, TL.outV, TL.pinsOf, TL.keepP, TL.tryK, TL.mthT, TL.mthP, TL.mthB, TL.tlc, TL.tsc, TL.aggS, TL.aggV, TL.aggQ, TL.negV, TL.isT, TL.intV, TL.strV, TL.intsOf, TL.blsOf, TL.bopB, TL.strsL, TL.keyT, TL.stillV, TL.v_addI, TL.v_subI, TL.v_mulI, TL.v_fdivI, TL.v_modI, TL.v_powI, TL.g_addI, TL.g_sub, TL.g_mulI, TL.g_fdivI, TL.g_modI, TL.g_powI, TL.c_gtI, TL.c_ltI, TL.c_leI, TL.c_geI, TL.c_eq, TL.c_ne, TL.c_isN, TL.c_notN, TL.c_inS, TL.c_ninS, TL.cg_gt, TL.cg_lt, TL.cg_ltS, TL.cg_ltT, TL.c_ltT, TL.cg_le, TL.cg_ge, TL.cg_isN, TL.cg_notN, TL.cg_eq, TL.cg_ne, TL.cg_inS, TL.cg_ninS, TL.b_intI, TL.b_intB, TL.b_abs, TL.b_len, TL.b_max2, TL.b_min2, TL.l_str, TL.l_tup, TL.l_cl, TL.i_tup, TL.i_cl, TL.i_str, TL.s_str, TL.c_ltS, TL.c_isB, TL.c_notB, TL.t_non, TL.t_bl, TL.t_int, TL.t_tup, TL.t_cl, TL.seq_tup, TL.seq_cl, TL.get_cons, TL.d_non, TL.d_bl, TL.d_int, TL.d_str, TL.d_tup, TL.d_cl, TL.x_slcC, TL.x_slcT, TL.x_lstC, TL.x_inT, TL.x_inC, TL.x_ginT, TL.x_ginC, TL.x_ninT, TL.x_ninC, TL.x_gninT, TL.x_gninC, TL.yq_str, TL.yq_int, TL.yq_si, TL.yq_is, TL.yq_sn, TL.yq_ns, TL.yq_in, TL.yq_ni, TL.yq_nn, TL.eo_ss, TL.eo_ii, TL.eo_si, TL.eo_is, TL.eo_nn, TL.eo_in, TL.eo_ni, TL.eo_sn, TL.eo_ns, TL.n_in, TL.n_nil, TL.nn_non, TL.nn_int, TL.nn_bl, TL.nn_str, TL.nn_tup, TL.nn_cl, TL.yq_bl, TL.yq_tt, TL.yq_cc, TL.yqs_nil, TL.yqs_cons, TL.eo_bb, TL.at_0, TL.at_1, TL.at_2, TL.at_3, TL.at_4, TL.at_5, TL.at_6, TL.at_7, TL.at_8, TL.at_9, TL.at_cast, TL.at_neg1, TL.strs_map2, TL.b_rev, TL.ok_str, TL.ok_int, TL.ok_non, TL.ok_bl, TL.da_non, TL.da_int, TL.da_bl, TL.da_str, TL.da_tup, TL.da_cl, TL.das_nil, TL.das_cons, TL.dats_strs, Int.cast_ofNat_Int, Int.natCast_zero, Int.natCast_one, List.length_cons, List.length_nil, List.length_map, List.map_cons, List.map_nil, List.replicate, List.cons_append, List.nil_append, Nat.reduceAdd, Nat.reduceSub, Nat.reduceLT, Nat.reduceBEq, Nat.reduceEqDiff, Int.reduceLE, Int.reduceLT, Int.reduceNeg, Int.reduceToNat, Nat.reduceLeDiff, Int.reduceEq, Nat.zero_add, if_true, if_false, ite_true, ite_false, Option.map_some, Option.map_none, Option.bind_some, Option.bind_none, true_and, and_true, and_self, ne_eq, not_false_eq_true, not_true_eq_false, reduceCtorEq, L2.ixN, decide_true, decide_false, Bool.not_true, Bool.not_false, Bool.true_and, Bool.and_true, Bool.false_and, Bool.and_false, Bool.or_false, Bool.false_or, Bool.or_true, Bool.true_or, List.sum_cons, List.sum_nil, List.append_nil, List.isEmpty, List.all_cons, List.all_nil, List.contains_cons, List.contains_nil, List.elem_nil, List.elem_cons, decide_eq_true_eq, Nat.zero_le, List.set_cons_zero, List.set_cons_succ, List.getElem?_cons_zero, List.getElem?_cons_succ, *])
namespace TLP
open PySem PySem.Spec PyProof.Rows L2 TL
section
variable {F : List Fd} {fu n : Nat}
/-- the answer of a call that leaves k parameters untold -/
abbrev ret (t : T) (k : Nat) : QC := .val (.p t) (List.replicate k .no)
abbrev exc (c : Nat) (t : T) (k : Nat) : QC := .exn c t (List.replicate k .no)
theorem demand_t (h : Has F [0]) (s : Str) : qcall fu F (n + 1) 0 [.val (.bl true), .val (.str s)] = ret .non 2 := by
  refine QC.eq_of ?_
  rw [C_call (d := ⟨2, 2, ir_demand⟩) (h 0 (by simp)) rfl]
  unfold ir_demand
  walk_at "qv"
theorem demand_f (h : Has F [0]) (s : Str) : qcall fu F (n + 1) 0 [.val (.bl false), .val (.str s)] = exc 0 (.str s) 2 := by
  refine QC.exn_of ?_
  rw [C_call (d := ⟨2, 2, ir_demand⟩) (h 0 (by simp)) rfl]
  unfold ir_demand
  walk_at "qv"
def isInT (lo hi : Int) : T → Bool
  | .int i => decide (lo ≤ i) && decide (i ≤ hi)
  | _ => false
theorem is_in_ok (h : Has F [1]) {t : T} (d : dat t = true) (lo hi : Int) : qcall fu F (n + 1) 1 [.val t, .val (.int lo), .val (.int hi)] = ret (.bl (isInT lo hi t)) 3 := by
  refine QC.eq_of ?_
  rw [C_call (d := ⟨3, 3, ir_is_in⟩) (h 1 (by simp)) rfl]
  generalize qcall fu F n = Ψ
  unfold ir_is_in
  cases t with
  | int i =>
    walk_at "qv"
    by_cases h1 : lo ≤ i
    · walk_at "qv"
      simp [isInT, h1]
    · walk_at "qv"
      simp [isInT, h1]
  | dct => exact Bool.noConfusion d
  | ref => exact Bool.noConfusion d
  | _ =>
    walk_at "qv"
    rfl
def isTupT (lo hi : Int) : T → Bool
  | .tup xs => decide (lo ≤ xs.length) && decide ((xs.length : Int) ≤ hi)
  | _ => false
theorem is_tuple_ok (h : Has F [2]) {t : T} (d : dat t = true) (lo hi : Int) : qcall fu F (n + 1) 2 [.val t, .val (.int lo), .val (.int hi)] = ret (.bl (isTupT lo hi t)) 3 := by
  refine QC.eq_of ?_
  rw [C_call (d := ⟨3, 3, ir_is_tuple⟩) (h 2 (by simp)) rfl]
  generalize qcall fu F n = Ψ
  unfold ir_is_tuple
  cases t with
  | tup xs =>
    walk_at "qv"
    by_cases h1 : lo ≤ xs.length
    · walk_at "qv"
      simp [isTupT, h1]
    · walk_at "qv"
      simp [isTupT, h1]
  | dct => exact Bool.noConfusion d
  | ref => exact Bool.noConfusion d
  | _ =>
    walk_at "qv"
    rfl
abbrev SIGNSs : Str := " !\"#$&'()*+,-./0123456789:;<=>?@ABCDEFGHIJKLMNOPQRSTUVWXYZ[\\]^_`abcdefghijklmnopqrstuvwxyz{|}~"
abbrev LETTERSs : Str := "abcdefghijklmnopqrstuvwxyz"
def signB (c : Nat) : Bool := inStr ⟨#[c]⟩ SIGNSs
def letB (c : Nat) : Bool := inStr ⟨#[c]⟩ LETTERSs
def isSignsT (lo hi : Int) : T → Bool
  | .str s => decide (lo ≤ s.length) && (decide ((s.length : Int) ≤ hi) && s.cps.toList.all signB)
  | _ => false
theorem bls_map {α : Type} {l : List α} (g : α → Bool) : blsOf (l.map fun y => .bl (g y)) = some (l.map g) := by
  induction l with
  | nil => rfl
  | cons y l ih => show (blsOf (l.map fun y => T.bl (g y))).map (g y :: ·) = _; rw [ih]; rfl
theorem all_map_id {α : Type} {l : List α} (g : α → Bool) : (l.map g).all id = l.all g := by rw [List.all_map]; rfl
theorem charsL_map {s : Str} {α : Type} (g : Nat → α) : (charsL s).map (fun y => g (match y with | .str z => z.cps.toList.headD 0 | _ => 0)) = s.cps.toList.map g := by
  unfold charsL
  rw [List.map_map]
  rfl
theorem mem_charsL {s : Str} {y : T} (h : y ∈ charsL s) : ∃ c ∈ s.cps.toList, y = .str ⟨#[c]⟩ := by
  obtain ⟨c, hc, e⟩ := List.mem_map.mp h
  exact ⟨c, hc, e.symm⟩
/-- the sign of a text of one sign -/
def cpOf : T → Nat
  | .str z => z.cps.toList.headD 0
  | _ => 0
theorem chars_all {s : Str} (g : Nat → Bool) : blsOf ((charsL s).map fun y => .bl (g (cpOf y))) = some (s.cps.toList.map g) := by
  unfold charsL
  rw [List.map_map]
  exact bls_map (l := s.cps.toList) g
theorem is_signs_ok (h : Has F [3]) {t : T} (d : dat t = true) (lo hi : Int) : qcall fu F (n + 1) 3 [.val t, .val (.int lo), .val (.int hi)] = ret (.bl (isSignsT lo hi t)) 3 := by
  refine QC.eq_of ?_
  rw [C_call (d := ⟨3, 4, ir_is_signs⟩) (h 3 (by simp)) rfl]
  generalize qcall fu F n = Ψ
  unfold ir_is_signs
  cases t with
  | str s =>
    walk_at "qv"
    by_cases h1 : lo ≤ s.length
    · by_cases h2 : (s.length : Int) ≤ hi
      · walk_at "qv"
        refine G_lc (fun y => .bl (signB (cpOf y))) (fun y hy => ?_) ?_
        · obtain ⟨c, _, rfl⟩ := mem_charsL hy
          walk_at "qv"
          rfl
        · have e := chars_all (s := s) signB
          walk_at "qv"
          simp [isSignsT, h1, h2]
      · walk_at "qv"
        simp [isSignsT, h1, h2]
    · walk_at "qv"
      simp [isSignsT, h1]
  | dct => exact Bool.noConfusion d
  | ref => exact Bool.noConfusion d
  | _ =>
    walk_at "qv"
    rfl
def valT (t : T) : Bool := isNon t || (isInT (-1000000) 1000000 t || isSignsT 1 12 t)
theorem is_value_ok (h : Has F [1, 3, 4]) {t : T} (d : dat t = true) : qcall fu F (n + 2) 4 [.val t] = ret (.bl (valT t)) 1 := by
  have h1 := is_in_ok (fu := fu) (n := n) (h.sub (by simp)) d (-1000000) 1000000
  have h3 := is_signs_ok (fu := fu) (n := n) (h.sub (by simp)) d 1 12
  refine QC.eq_of ?_
  rw [C_call (d := ⟨1, 1, ir_is_value⟩) (h 4 (by simp)) rfl]
  generalize qcall fu F (n + 1) = Ψ at *
  unfold ir_is_value
  unfold valT
  cases e1 : isNon t with
  | true => walk_at "qv"
  | false =>
    cases e2 : isInT (-1000000) 1000000 t with
    | true => walk_at "qv"
    | false => walk_at "qv"
def nameT : T → Bool
  | .str s => decide (1 ≤ s.length) && (decide (s.length ≤ 10) && s.cps.toList.all letB)
  | _ => false
theorem is_name_ok (h : Has F [5]) {t : T} (d : dat t = true) : qcall fu F (n + 1) 5 [.val t] = ret (.bl (nameT t)) 1 := by
  refine QC.eq_of ?_
  rw [C_call (d := ⟨1, 2, ir_is_name⟩) (h 5 (by simp)) rfl]
  generalize qcall fu F n = Ψ
  unfold ir_is_name
  cases t with
  | str s =>
    walk_at "qv"
    by_cases h1 : 1 ≤ s.length
    · have h1' : (1 : Int) ≤ s.length := by omega
      by_cases h2 : s.length ≤ 10
      · have h2' : (s.length : Int) ≤ 10 := by omega
        walk_at "qv"
        refine G_lc (fun y => .bl (letB (cpOf y))) (fun y hy => ?_) ?_
        · obtain ⟨c, _, rfl⟩ := mem_charsL hy
          walk_at "qv"
          rfl
        · have e := chars_all (s := s) letB
          walk_at "qv"
          simp [nameT, h1, h2]
      · have h2' : ¬ (s.length : Int) ≤ 10 := by omega
        walk_at "qv"
        simp [nameT, h1, h2]
    · have h1' : ¬ (1 : Int) ≤ s.length := by omega
      walk_at "qv"
      simp [nameT, h1]
  | dct => exact Bool.noConfusion d
  | ref => exact Bool.noConfusion d
  | _ =>
    walk_at "qv"
    rfl
theorem dat_mem {xs : List T} (d : dats xs = true) {y : T} (h : y ∈ xs) : dat y = true := by
  rw [dats_all] at d
  exact List.all_eq_true.mp d y h
def namesT (lo hi : Int) : T → Bool
  | .tup xs => isTupT lo hi (.tup xs) && (xs.all nameT && decide ((dedup xs).length = xs.length))
  | _ => false
theorem nameT_key {t : T} (h : nameT t = true) : keyT t = true := by cases t <;> first | rfl | exact Bool.noConfusion h
theorem are_names_ok (h : Has F [2, 5, 6]) {t : T} (d : dat t = true) (lo hi : Int) (hh : hi ≤ 1000) : qcall fu F (n + 2) 6 [.val t, .val (.int lo), .val (.int hi)] = ret (.bl (namesT lo hi t)) 3 := by
  have h2 := is_tuple_ok (fu := fu) (n := n) (h.sub (by simp)) d lo hi
  have h5 := fun t d => is_name_ok (fu := fu) (n := n) (h.sub (by simp)) (t := t) d
  refine QC.eq_of ?_
  rw [C_call (d := ⟨3, 4, ir_are_names⟩) (h 6 (by simp)) rfl]
  generalize qcall fu F (n + 1) = Ψ at *
  unfold ir_are_names
  cases t with
  | tup xs =>
    unfold namesT
    cases e1 : isTupT lo hi (.tup xs) with
    | false => walk_at "qv"
    | true =>
      have hl : xs.length ≤ 1000 := by
        simp only [isTupT, Bool.and_eq_true, decide_eq_true_eq] at e1
        omega
      walk_at "qv"
      refine G_lc (fun y => .bl (nameT y)) (fun y hy => ?_) ?_
      · have e5 := h5 y (dat_mem d hy)
        clear h5
        walk_at "qv"
      · have e := bls_map (l := xs) nameT
        cases e2 : xs.all nameT with
        | false =>
          have e3 : (xs.map nameT).all id = false := by rw [all_map_id]; exact e2
          clear h5
          walk_at "qv"
        | true =>
          have e3 : (xs.map nameT).all id = true := by rw [all_map_id]; exact e2
          have e4 : xs.all keyT = true := List.all_eq_true.mpr fun y hy => nameT_key (List.all_eq_true.mp e2 y hy)
          have e6 : bltV .setLen [.tup xs] [] = some (.int (dedup xs).length) := by
            show (if xs.all keyT = true ∧ xs.length ≤ 1000 then some (T.int (dedup xs).length) else none) = _
            rw [if_pos ⟨e4, hl⟩]
          clear h5
          walk_at "qv"
          by_cases e7 : (dedup xs).length = xs.length
          · simp [e7]
          · have : ¬ ((dedup xs).length : Int) = xs.length := by omega
            simp [e7, this]
  | dct => exact Bool.noConfusion d
  | ref => exact Bool.noConfusion d
  | _ =>
    clear h5
    have e : ∀ t : T, (∀ xs, t ≠ .tup xs) → isTupT lo hi t = false := fun t h => by cases t <;> first | rfl | exact absurd rfl (h _)
    rw [e _ (fun xs z => by cases z)] at h2
    walk_at "qv"
    rfl
def rowT (m : Int) : T → Bool
  | .tup xs => isTupT m m (.tup xs) && xs.all valT
  | _ => false
theorem is_row_ok (h : Has F [1, 2, 3, 4, 10]) {t : T} (d : dat t = true) (m : Int) : qcall fu F (n + 3) 10 [.val t, .val (.int m)] = ret (.bl (rowT m t)) 2 := by
  have h2 := is_tuple_ok (fu := fu) (n := n + 1) (h.sub (by simp)) d m m
  have h5 := fun t d => is_value_ok (fu := fu) (n := n) (h.sub (by simp)) (t := t) d
  refine QC.eq_of ?_
  rw [C_call (d := ⟨2, 3, ir_is_row⟩) (h 10 (by simp)) rfl]
  generalize qcall fu F (n + 2) = Ψ at *
  unfold ir_is_row
  cases t with
  | tup xs =>
    unfold rowT
    cases e1 : isTupT m m (.tup xs) with
    | false => walk_at "qv"
    | true =>
      walk_at "qv"
      refine G_lc (fun y => .bl (valT y)) (fun y hy => ?_) ?_
      · have e5 := h5 y (dat_mem d hy)
        clear h5
        walk_at "qv"
      · have e := bls_map (l := xs) valT
        have e3 := all_map_id (l := xs) valT
        clear h5
        walk_at "qv"
  | dct => exact Bool.noConfusion d
  | ref => exact Bool.noConfusion d
  | _ =>
    clear h5
    have e : ∀ t : T, (∀ xs, t ≠ .tup xs) → isTupT m m t = false := fun t h => by cases t <;> first | rfl | exact absurd rfl (h _)
    rw [e _ (fun xs z => by cases z)] at h2
    walk_at "qv"
    rfl
def tableT : T → Bool
  | .tup [a, b] => namesT 1 8 a && (isTupT 0 200 b && match a, b with
    | .tup ns, .tup rs => rs.all (rowT ns.length)
    | _, _ => false)
  | _ => false
theorem namesT_tup {lo hi : Int} {a : T} (h : namesT lo hi a = true) : ∃ ns, a = .tup ns := by cases a <;> first | exact ⟨_, rfl⟩ | exact Bool.noConfusion h
theorem tup2_len {xs : List T} (h : isTupT 2 2 (.tup xs) = true) : ∃ a b, xs = [a, b] := by
  simp only [isTupT, Bool.and_eq_true, decide_eq_true_eq] at h
  match xs, h with
  | [a, b], _ => exact ⟨a, b, rfl⟩
  | [], h => simp at h
  | [_], h => simp at h
  | _ :: _ :: _ :: _, h => simp at h; omega
theorem is_table_ok (h : Has F [1, 2, 3, 4, 5, 6, 10, 11]) {t : T} (d : dat t = true) : qcall fu F (n + 4) 11 [.val t] = ret (.bl (tableT t)) 1 := by
  have h2 := fun (t : T) d a b => is_tuple_ok (fu := fu) (n := n + 2) (h.sub (by simp)) (t := t) d a b
  have h6 := fun (t : T) d => are_names_ok (fu := fu) (n := n + 1) (h.sub (by simp)) (t := t) d 1 8 (by omega)
  have h10 := fun (t : T) d m => is_row_ok (fu := fu) (n := n) (h.sub (by simp)) (t := t) d m
  refine QC.eq_of ?_
  rw [C_call (d := ⟨1, 2, ir_is_table⟩) (h 11 (by simp)) rfl]
  generalize qcall fu F (n + 3) = Ψ at *
  unfold ir_is_table
  have t0 := h2 t d 2 2
  cases e0 : isTupT 2 2 t with
  | false =>
    have e : tableT t = false := by
      cases t with
      | tup xs =>
        match xs with
        | [a, b] => exact Bool.noConfusion e0
        | [] => rfl
        | [_] => rfl
        | _ :: _ :: _ :: _ => rfl
      | _ => rfl
    clear h2 h6 h10
    walk_at "qv"
  | true =>
    cases t with
    | tup xs =>
      obtain ⟨a, b, rfl⟩ := tup2_len e0
      have d : (dat a && (dat b && true)) = true := d
      simp only [Bool.and_true, Bool.and_eq_true] at d
      have t1 := h6 a d.1
      have t2 := h2 b d.2 0 200
      unfold tableT
      cases e1 : namesT 1 8 a with
      | false =>
        clear h2 h6 h10
        walk_at "qv"
      | true =>
        cases e2 : isTupT 0 200 b with
        | false =>
          clear h2 h6 h10
          walk_at "qv"
        | true =>
          obtain ⟨ns, rfl⟩ := namesT_tup e1
          cases b with
          | tup rs =>
            have db : dats rs = true := d.2
            have e := bls_map (l := rs) (rowT ns.length)
            have e3 := all_map_id (l := rs) (rowT ns.length)
            have h10' := fun y hy => h10 y (dat_mem db hy) ns.length
            clear h2 h6 h10
            walk_at "qv"
            refine G_lc (fun y => .bl (rowT ns.length y)) (fun y hy => ?_) ?_
            · have e5 := h10' y hy
              clear h10'
              walk_at "qv"
            · clear h10'
              walk_at "qv"
          | _ => exact Bool.noConfusion e2
    | _ => exact Bool.noConfusion e0
theorem demand_table_t (h : Has F [0, 1, 2, 3, 4, 5, 6, 10, 11, 12]) {t : T} (d : dat t = true) (g : tableT t = true) : qcall fu F (n + 5) 12 [.val t] = ret .non 1 := by
  have h1 := is_table_ok (fu := fu) (n := n) (h.sub (by simp)) d
  have h2 := demand_t (fu := fu) (n := n + 3) (h.sub (by simp)) "table"
  refine QC.eq_of ?_
  rw [C_call (d := ⟨1, 1, ir_demand_table⟩) (h 12 (by simp)) rfl]
  generalize qcall fu F (n + 4) = Ψ at *
  unfold ir_demand_table
  walk_at "qv"
theorem demand_table_f (h : Has F [0, 1, 2, 3, 4, 5, 6, 10, 11, 12]) {t : T} (d : dat t = true) (g : tableT t = false) : qcall fu F (n + 5) 12 [.val t] = exc 0 (.str "table") 1 := by
  have h1 := is_table_ok (fu := fu) (n := n) (h.sub (by simp)) d
  have h2 := demand_f (fu := fu) (n := n + 3) (h.sub (by simp)) "table"
  refine QC.exn_of ?_
  rw [C_call (d := ⟨1, 1, ir_demand_table⟩) (h 12 (by simp)) rfl]
  generalize qcall fu F (n + 4) = Ψ at *
  unfold ir_demand_table
  walk_at "qv"
/-! ### rows by names -/
def posS (s : Str) : List Str → Nat
  | [] => 0
  | x :: xs => if x = s then 0 else posS s xs + 1
theorem posS_lt {s : Str} : ∀ {ns : List Str}, s ∈ ns → posS s ns < ns.length
  | x :: xs, h => by
    unfold posS
    by_cases e : x = s
    · rw [if_pos e]; exact Nat.succ_pos _
    · rw [if_neg e]
      rcases List.mem_cons.mp h with z | z
      · exact absurd z.symm e
      · exact Nat.succ_lt_succ (posS_lt z)
theorem ixOf_pos {s : Str} : ∀ {ns : List Str}, s ∈ ns → ixOf (.str s) (ns.map .str) = some (posS s ns)
  | x :: xs, h => by
    show (if eqv (.str x) (.str s) = true then some 0 else (ixOf (.str s) (xs.map .str)).map (· + 1)) = some (if x = s then 0 else posS s xs + 1)
    rw [yq_str]
    by_cases e : x = s
    · rw [if_pos e, decide_eq_true e]; rfl
    · rw [if_neg e, decide_eq_false e]
      rcases List.mem_cons.mp h with z | z
      · exact absurd z.symm e
      · rw [ixOf_pos z]; rfl
theorem posS_get {s : Str} : ∀ {ns : List Str}, s ∈ ns → ns[posS s ns]? = some s
  | x :: xs, h => by
    unfold posS
    by_cases e : x = s
    · rw [if_pos e, e]; rfl
    · rw [if_neg e]
      rcases List.mem_cons.mp h with z | z
      · exact absurd z.symm e
      · exact posS_get z
abbrev nmT (ns : List Str) : T := .tup (ns.map .str)
abbrev rsT (rs : List (List T)) : T := .tup (rs.map .tup)
abbrev tbT (ns : List Str) (rs : List (List T)) : T := .tup [nmT ns, rsT rs]
/-- the value of a row in a column -/
def atN (ns : List Str) (r : List T) (s : Str) : T := r.getD (posS s ns) .non
theorem atN_get {ns : List Str} {r : List T} {s : Str} (hs : s ∈ ns) (hl : r.length = ns.length) : r[posS s ns]? = some (atN ns r s) := by
  have h : posS s ns < r.length := by rw [hl]; exact posS_lt hs
  unfold atN
  rw [List.getD_eq_getElem?_getD, List.getElem?_eq_getElem h]
  rfl
theorem at_name_ok (h : Has F [13]) {ns : List Str} {r : List T} {s : Str} (hs : s ∈ ns) (hl : r.length = ns.length) : qcall fu F (n + 1) 13 [.val (.tup r), .val (nmT ns), .val (.str s)] = ret (atN ns r s) 3 := by
  refine QC.eq_of ?_
  rw [C_call (d := ⟨3, 3, ir_at_name⟩) (h 13 (by simp)) rfl]
  generalize qcall fu F n = Ψ at *
  unfold ir_at_name
  have e1 := ixOf_pos hs
  have e2 := atN_get hs hl
  walk_at "qv"
theorem map_parts {cs : List Str} {f : Str → T} {g : T → T} (h : ∀ s, g (.str s) = f s) : (cs.map T.str).map g = cs.map f := by
  rw [List.map_map]
  exact List.map_congr_left fun s _ => h s
def strOf : T → Str
  | .str s => s
  | _ => ""
theorem parts_of_ok (h : Has F [13, 14]) {ns cs : List Str} {r : List T} {u : T} (hu : u = .tup (cs.map .str) ∨ u = .cl (cs.map .str)) (hs : ∀ s ∈ cs, s ∈ ns) (hl : r.length = ns.length) : qcall fu F (n + 2) 14 [.val (.tup r), .val (nmT ns), .val u] = ret (.tup (cs.map (atN ns r))) 3 := by
  have h1 := fun (s : Str) hs => at_name_ok (fu := fu) (n := n) (h.sub (by simp)) (s := s) hs hl
  refine QC.eq_of ?_
  rw [C_call (d := ⟨3, 4, ir_parts_of⟩) (h 14 (by simp)) rfl]
  generalize qcall fu F (n + 1) = Ψ at *
  unfold ir_parts_of
  have e := map_parts (cs := cs) (f := atN ns r) (g := fun y => atN ns r (strOf y)) fun s => rfl
  rcases hu with rfl | rfl <;> walk_at "qv"
  all_goals
    refine G_lc (fun y => atN ns r (strOf y)) (fun y hy => ?_) ?_
    · obtain ⟨s, hs2, rfl⟩ := List.mem_map.mp hy
      have e1 := h1 s (hs s hs2)
      clear h1
      walk_at "qv"
      rfl
    · clear h1
      walk_at "qv"
/-- columns of a table -/
def ownT (ns : List Str) (lo : Int) : T → Bool
  | .tup xs => namesT lo 8 (.tup xs) && xs.all fun x => inT x (ns.map .str)
  | _ => false
theorem dep_le {xs : List T} {k : Nat} (h : ∀ x ∈ xs, dep x ≤ k) : deps xs ≤ k := by
  induction xs with
  | nil => exact Nat.zero_le _
  | cons x xs ih => exact Nat.max_le.mpr ⟨h x List.mem_cons_self, ih fun y hy => h y (List.mem_cons_of_mem _ hy)⟩
theorem are_own_ok (h : Has F [2, 5, 6, 15]) {ns : List Str} {rs : List (List T)} {t : T} (d : dat t = true) (lo : Int) : qcall fu F (n + 3) 15 [.val (tbT ns rs), .val t, .val (.int lo)] = ret (.bl (ownT ns lo t)) 3 := by
  have h6 := are_names_ok (fu := fu) (n := n) (h.sub (by simp)) d lo 8 (by omega)
  refine QC.eq_of ?_
  rw [C_call (d := ⟨3, 4, ir_are_own_names⟩) (h 15 (by simp)) rfl]
  generalize qcall fu F (n + 2) = Ψ at *
  unfold ir_are_own_names
  cases e1 : namesT lo 8 t with
  | false =>
    have e : ownT ns lo t = false := by
      cases t with
      | tup xs => show (namesT lo 8 (.tup xs) && _) = false; rw [e1]; rfl
      | _ => rfl
    walk_at "qv"
  | true =>
    obtain ⟨xs, rfl⟩ := namesT_tup e1
    unfold ownT
    walk_at "qv"
    have e := bls_map (l := xs) fun x => inT x (ns.map .str)
    have e3 := all_map_id (l := xs) fun x => inT x (ns.map .str)
    refine G_lc (fun y => .bl (inT y (ns.map .str))) (fun y hy => ?_) ?_
    · have ok : inOk y (ns.map .str) = true := by
        unfold inOk
        rw [dats_strs, deps_strs, dat_mem d hy]
        simp
      have sy : ∃ s, y = .str s := by
        simp only [namesT, Bool.and_eq_true] at e1
        have z := List.all_eq_true.mp e1.2.1 y hy
        cases y <;> first | exact ⟨_, rfl⟩ | exact Bool.noConfusion z
      obtain ⟨s, rfl⟩ := sy
      walk_at "qv"
    · walk_at "qv"
/-! ### the order of values -/
def rankT : T → T
  | .non => .tup [.int 0, .int 0, .str ""]
  | .int i => .tup [.int 1, .int i, .str ""]
  | .str s => .tup [.int 2, .int 0, .str s]
  | _ => .non
/-- blank, whole number, text -/
def flatT : T → Bool
  | .non => true
  | .int _ => true
  | .str _ => true
  | _ => false
theorem valT_flat {t : T} (h : valT t = true) : flatT t = true := by cases t <;> first | rfl | exact Bool.noConfusion h
theorem flat_dat {t : T} (h : flatT t = true) : dat t = true := by cases t <;> first | rfl | exact Bool.noConfusion h
theorem flat_dep {t : T} (h : flatT t = true) : dep t = 0 := by cases t <;> first | rfl | exact Bool.noConfusion h
theorem rank_ok (h : Has F [7]) {t : T} (d : flatT t = true) : qcall fu F (n + 1) 7 [.val t] = ret (rankT t) 1 := by
  refine QC.eq_of ?_
  rw [C_call (d := ⟨1, 1, ir_rank⟩) (h 7 (by simp)) rfl]
  generalize qcall fu F n = Ψ at *
  unfold ir_rank
  cases t <;> first
    | exact Bool.noConfusion d
    | (walk_at "qv"; rfl)
theorem ranks_ok (h : Has F [7, 8]) {xs : List T} (d : xs.all flatT = true) {u : T} (hu : u = .tup xs ∨ u = .cl xs) : qcall fu F (n + 2) 8 [.val u] = ret (.tup (xs.map rankT)) 1 := by
  have h1 := fun (t : T) d => rank_ok (fu := fu) (n := n) (h.sub (by simp)) (t := t) d
  refine QC.eq_of ?_
  rw [C_call (d := ⟨1, 2, ir_ranks⟩) (h 8 (by simp)) rfl]
  generalize qcall fu F (n + 1) = Ψ at *
  unfold ir_ranks
  rcases hu with rfl | rfl <;> walk_at "qv"
  all_goals
    refine G_lc rankT (fun y hy => ?_) ?_
    · have e1 := h1 y (List.all_eq_true.mp d y hy)
      clear h1
      walk_at "qv"
    · clear h1
      walk_at "qv"
/-- before, of values -/
def befT : T → T → Bool
  | .non, .non => false
  | .non, _ => true
  | .int i, .int j => decide (i < j)
  | .int _, .str _ => true
  | .str x, .str y => decide (x.cps.toList < y.cps.toList)
  | _, _ => false
theorem bef_rank {a b : T} (ha : flatT a = true) (hb : flatT b = true) : ltV (rankT a) (rankT b) = befT a b := by
  cases a <;> first | exact Bool.noConfusion ha | skip
  all_goals cases b <;> first | exact Bool.noConfusion hb | skip
  · rfl
  · rfl
  · rfl
  · rfl
  · rename_i i j
    show ltVs [.int 1, .int i, .str ""] [.int 1, .int j, .str ""] = decide (i < j)
    show (if eqv (.int 1) (.int 1) = true then (if eqv (.int i) (.int j) = true then (if eqv (.str "") (.str "") = true then false else ltV (.str "") (.str "")) else decide (i < j)) else decide ((1 : Int) < 1)) = _
    rw [yq_int, yq_int, yq_str]
    by_cases e : i = j
    · subst e; simp
    · simp [e]
  · rfl
  · rfl
  · rfl
  · rename_i x y
    show (if eqv (.int 2) (.int 2) = true then (if eqv (.int 0) (.int 0) = true then (if eqv (.str x) (.str y) = true then false else ltV (.str x) (.str y)) else decide ((0 : Int) < 0)) else decide ((2 : Int) < 2)) = decide (x.cps.toList < y.cps.toList)
    rw [yq_int, yq_int, yq_str]
    by_cases e : x = y
    · subst e; simp
    · have e2 : ltV (.str x) (.str y) = decide (x.cps.toList < y.cps.toList) := rfl
      simp [e, e2]
theorem rank_alk {a b : T} (ha : flatT a = true) (hb : flatT b = true) : alk (rankT a) (rankT b) = true := by
  cases a <;> first | exact Bool.noConfusion ha | skip
  all_goals cases b <;> first | exact Bool.noConfusion hb | rfl
theorem rank_tup {a : T} (ha : flatT a = true) : ∃ xs, rankT a = .tup xs ∧ dats xs = true ∧ deps xs = 0 := by
  cases a <;> first | exact Bool.noConfusion ha | exact ⟨_, rfl, rfl, rfl⟩
theorem is_before_ok (h : Has F [7, 9]) {a b : T} (ha : flatT a = true) (hb : flatT b = true) : qcall fu F (n + 2) 9 [.val a, .val b] = ret (.bl (befT a b)) 2 := by
  have h1 := rank_ok (fu := fu) (n := n) (h.sub (by simp)) ha
  have h2 := rank_ok (fu := fu) (n := n) (h.sub (by simp)) hb
  refine QC.eq_of ?_
  rw [C_call (d := ⟨2, 2, ir_is_before⟩) (h 9 (by simp)) rfl]
  generalize qcall fu F (n + 1) = Ψ at *
  unfold ir_is_before
  have e1 := bef_rank ha hb
  have e2 := rank_alk ha hb
  obtain ⟨xs, q1, q2, q3⟩ := rank_tup ha
  obtain ⟨ys, q4, q5, q6⟩ := rank_tup hb
  rw [q1, q4] at e1 e2
  rw [q1] at h1
  rw [q4] at h2
  have e1 : ltVs xs ys = befT a b := e1
  have e3 : (dat (.tup xs) && dat (.tup ys) && alk (.tup xs) (.tup ys) && decide (min (dep (.tup xs)) (dep (.tup ys)) ≤ 64)) = true := by
    have z1 : dep (.tup xs) = 1 := by show deps xs + 1 = 1; rw [q3]
    have z2 : dep (.tup ys) = 1 := by show deps ys + 1 = 1; rw [q6]
    have z3 : dat (.tup xs) = true := q2
    have z4 : dat (.tup ys) = true := q5
    rw [z1, z2, z3, z4, e2]
    rfl
  have e4 : copG .lt (.tup xs) (.tup ys) [] = true := e3
  clear q1 q4
  walk_at "qv"
theorem integers_of_ok (h : Has F [16]) {xs : List T} (d : dats xs = true) {u : T} (hu : u = .tup xs ∨ u = .cl xs) : qcall fu F (n + 1) 16 [.val u] = ret (.cl (xs.filter fun t => match t with | .int _ => true | .bl _ => true | _ => false)) 1 := by
  refine QC.eq_of ?_
  rw [C_call (d := ⟨1, 2, ir_integers_of⟩) (h 16 (by simp)) rfl]
  generalize qcall fu F n = Ψ at *
  unfold ir_integers_of
  rcases hu with rfl | rfl <;> walk_at "qv"
  all_goals
    refine G_lcf (fun t => match t with | .int _ => true | .bl _ => true | _ => false) id (fun y hy => ?_) ?_
    · have dy := dat_mem d hy
      cases y <;> first
        | exact Bool.noConfusion dy
        | (walk_at "qv"; done)
        | (walk_at "qv"; rfl)
    · rw [List.map_id]
      walk_at "qv"
/-! ### the laws' helpers -/
def kindT : T → Int
  | .non => 0
  | .int _ => 1
  | _ => 2
theorem law_kind_ok (h : Has F [24]) {t : T} (d : flatT t = true) : qcall fu F (n + 1) 24 [.val t] = ret (.int (kindT t)) 1 := by
  refine QC.eq_of ?_
  rw [C_call (d := ⟨1, 1, ir__law_kind⟩) (h 24 (by simp)) rfl]
  generalize qcall fu F n = Ψ at *
  unfold ir__law_kind
  cases t <;> first
    | exact Bool.noConfusion d
    | (walk_at "qv"; rfl)
theorem law_before_ok (h : Has F [24, 25]) {a b : T} (ha : flatT a = true) (hb : flatT b = true) : qcall fu F (n + 2) 25 [.val a, .val b] = ret (.bl (befT a b)) 2 := by
  have h1 := law_kind_ok (fu := fu) (n := n) (h.sub (by simp)) ha
  have h2 := law_kind_ok (fu := fu) (n := n) (h.sub (by simp)) hb
  refine QC.eq_of ?_
  rw [C_call (d := ⟨2, 2, ir__law_before⟩) (h 25 (by simp)) rfl]
  generalize qcall fu F (n + 1) = Ψ at *
  unfold ir__law_before
  cases a <;> first | exact Bool.noConfusion ha | skip
  all_goals cases b <;> first | exact Bool.noConfusion hb | skip
  all_goals simp only [kindT] at h1 h2
  all_goals first
    | (walk_at "qv"; done)
    | (walk_at "qv"; rfl)
/-! ### dice -/
def Dice (m : Nat) (xs : List T) : Prop := ∃ a b c : Int, xs = [.int a, .int b, .int c] ∧ 0 ≤ a ∧ 0 ≤ b ∧ b < 2147480009 ∧ 0 ≤ c ∧ c ≤ m
theorem Dice.mono {m n : Nat} {xs : List T} (h : Dice m xs) (l : m ≤ n) : Dice n xs := by
  obtain ⟨a, b, c, e, h1, h2, h3, h4, h5⟩ := h
  exact ⟨a, b, c, e, h1, h2, h3, h4, by omega⟩
theorem lg {i : Int} {k : Nat} (h : i.natAbs < 2 ^ k) : i.natAbs.log2 ≤ k := by
  by_cases z : i.natAbs = 0
  · rw [z]; exact Nat.zero_le _
  · exact Nat.le_of_lt ((Nat.log2_lt z).mpr h)
theorem roll_ok (h : Has F [20]) {m : Nat} {xs : List T} (D : Dice m xs) {t : Int} (hm : m ≤ 2 ^ 60) (ht : 0 < t) (ht2 : t < 2 ^ 60) :
    ∃ r ys, qcall fu F (n + 1) 20 [.own (.vl xs), .val (.int t)] = .val (.p (.int r)) [.own (.vl ys), .no] ∧ Dice (m + 1) ys ∧ 0 ≤ r ∧ r < t := by
  obtain ⟨x, y, z, rfl, h1, h2, h3, h4, h5⟩ := D
  have ht0 : ¬ t = 0 := by omega
  have lt9 : t.natAbs.log2 < 9000 := Nat.lt_of_le_of_lt (lg (k := 60) (by omega)) (by decide)
  have ft : ∀ q : Int, 0 ≤ q.fmod t ∧ q.fmod t < t := fun q => by
    rw [Int.fmod_eq_emod_of_nonneg q (by omega)]
    exact ⟨Int.emod_nonneg q ht0, Int.emod_lt_of_pos q ht⟩
  have f2 : ∀ q : Int, 0 ≤ q.fmod 2147480009 ∧ q.fmod 2147480009 < 2147480009 := fun q => by
    rw [Int.fmod_eq_emod_of_nonneg q (by omega)]
    exact ⟨Int.emod_nonneg q (by decide), Int.emod_lt_of_pos q (by decide)⟩
  by_cases hx : 0 < x
  · refine ⟨x.fmod t, [.int (x.fdiv t), .int y, .int z], QC.eq_of ?_, ⟨_, _, _, rfl, by rw [Int.fdiv_eq_ediv_of_nonneg x (by omega)]; exact Int.ediv_nonneg h1 (by omega), h2, h3, h4, by omega⟩, (ft _).1, (ft _).2⟩
    rw [C_call (d := ⟨2, 3, ir__law_roll⟩) (h 20 (by simp)) rfl]
    generalize qcall fu F n = Ψ at *
    unfold ir__law_roll
    clear ft f2
    walk_at "qv"
  · have hz : (z + 1).natAbs < 2 ^ 61 := by omega
    have hzz : ((z + 1) * (z + 1)).natAbs < 2 ^ 122 := by
      rw [Int.natAbs_mul]
      calc (z + 1).natAbs * (z + 1).natAbs < 2 ^ 61 * 2 ^ 61 := Nat.mul_lt_mul'' hz hz
        _ = 2 ^ 122 := by decide
    have g1 : y.natAbs.log2 + (Int.natAbs 48271).log2 < 1000000 := by
      have := lg (i := y) (k := 40) (by omega)
      have : (Int.natAbs 48271).log2 < 100 := by decide
      omega
    have g2 : (z + 1).natAbs.log2 + (z + 1).natAbs.log2 < 1000000 := by
      have := lg hz
      omega
    have g3 : ((z + 1) * (z + 1)).natAbs.log2 + (Int.natAbs 2003).log2 < 1000000 := by
      have := lg hzz
      have : (Int.natAbs 2003).log2 < 100 := by decide
      omega
    have g4 : (Int.natAbs 197).log2 < 9000 := by decide
    refine ⟨(((y * 48271 + (z + 1) * (z + 1) * 2003 + 91).fmod 2147480009).fdiv 197).fmod t, [.int x, .int ((y * 48271 + (z + 1) * (z + 1) * 2003 + 91).fmod 2147480009), .int (z + 1)], QC.eq_of ?_, ⟨_, _, _, rfl, h1, (f2 _).1, (f2 _).2, by omega, by omega⟩, (ft _).1, (ft _).2⟩
    rw [C_call (d := ⟨2, 3, ir__law_roll⟩) (h 20 (by simp)) rfl]
    generalize qcall fu F n = Ψ at *
    unfold ir__law_roll
    clear ft f2 hzz hz hm ht2 h3 h4 h5 h2 h1 h
    walk_at "qv"
/-- one of some things -/
theorem pick_ok (h : Has F [20, 21]) {m : Nat} {xs things : List T} (D : Dice m xs) {u : T} (hu : u = .tup things ∨ u = .cl things) (hm : m ≤ 2 ^ 60) (ht : things ≠ []) (ht2 : things.length < 2 ^ 60) :
    ∃ (k : Nat) (t : T) (ys : List T), qcall fu F (n + 2) 21 [.own (.vl xs), .val u] = .val (.p t) [.own (.vl ys), .no] ∧ Dice (m + 1) ys ∧ things[k]? = some t ∧ t ∈ things := by
  have hl : 0 < things.length := List.length_pos_iff.mpr ht
  obtain ⟨r, ys, e, D2, r0, r1⟩ := roll_ok (fu := fu) (n := n) (h.sub (by simp)) D (t := things.length) hm (by omega) (by omega)
  obtain ⟨k, rfl⟩ : ∃ k : Nat, r = k := ⟨r.toNat, by omega⟩
  have hk : k < things.length := by omega
  refine ⟨k, things[k], ys, QC.eq_of ?_, D2, List.getElem?_eq_getElem hk, List.getElem_mem hk⟩
  have e2 : things[k]? = some things[k] := List.getElem?_eq_getElem hk
  rw [C_call (d := ⟨2, 2, ir__law_pick⟩) (h 21 (by simp)) rfl]
  generalize qcall fu F (n + 1) = Ψ at *
  unfold ir__law_pick
  generalize things[k] = w at *
  rcases hu with rfl | rfl <;> walk_at "qv"
/-! ### drawn texts -/
theorem join_cons {x z : Str} {r : List Str} : Txt.join "" (x :: z :: r) = x ++ ("" : Str) ++ Txt.join "" (z :: r) := by
  rw [TL.join_eq, TL.join_eq]
  rfl
theorem cps_app (x y : Str) : (x ++ y).cps.toList = x.cps.toList ++ y.cps.toList := by
  show (x.cps ++ y.cps).toList = _
  exact Array.toList_append
theorem join_cps : ∀ zs : List Str, (Txt.join "" zs).cps.toList = (zs.map fun z => z.cps.toList).flatten
  | [] => by rw [TL.join_eq]; rfl
  | [x] => by
    rw [TL.join_eq]
    show x.cps.toList = x.cps.toList ++ []
    rw [List.append_nil]
  | x :: z :: r => by
    rw [join_cons, cps_app, cps_app, join_cps (z :: r)]
    show (x.cps.toList ++ []) ++ _ = x.cps.toList ++ _
    rw [List.append_nil]
theorem len_cps {s : Str} : s.length = s.cps.toList.length := by
  show s.cps.size = _
  exact Array.length_toList.symm
def oneSign (t : T) : Bool := match t with
  | .str s => match s.cps.toList with
    | [c] => signB c
    | _ => false
  | _ => false
theorem join_signs : ∀ {us : List T}, us.all oneSign = true → ∃ zs, strsL us = some zs ∧ zs.length = us.length ∧ (zs.map (·.length)).sum = us.length ∧ (Txt.join "" zs).cps.toList.all signB = true ∧ (Txt.join "" zs).length = us.length := by
  have key : ∀ {us : List T}, us.all oneSign = true → ∃ zs, strsL us = some zs ∧ zs.length = us.length ∧ (zs.map (·.length)).sum = us.length ∧ (zs.map fun z => z.cps.toList).flatten.all signB = true ∧ (zs.map fun z => z.cps.toList).flatten.length = us.length := by
    intro us
    induction us with
    | nil => exact fun _ => ⟨[], rfl, rfl, rfl, rfl, rfl⟩
    | cons u us ih =>
      intro h
      rw [List.all_cons, Bool.and_eq_true] at h
      obtain ⟨zs, a1, a2, a3, a4, a5⟩ := ih h.2
      cases u with
      | str s =>
        have h1 := h.1
        unfold oneSign at h1
        dsimp only at h1
        split at h1
        · rename_i c e
          have l1 : s.length = 1 := by rw [len_cps, e]; rfl
          refine ⟨s :: zs, by show (strsL us).map (s :: ·) = _; rw [a1]; rfl, by simp [a2], by simp [a3, l1]; omega, ?_, ?_⟩
          · rw [List.map_cons, List.flatten_cons, List.all_append, a4, e]
            simp [h1]
          · rw [List.map_cons, List.flatten_cons, List.length_append, a5, e]
            simp; omega
        · exact Bool.noConfusion h1
      | _ => exact Bool.noConfusion h.1
  intro us h
  obtain ⟨zs, a1, a2, a3, a4, a5⟩ := key h
  exact ⟨zs, a1, a2, a3, by rw [join_cps]; exact a4, by rw [len_cps, join_cps]; exact a5⟩
theorem law_value_ok (h : Has F [20, 21, 22]) {m : Nat} {xs : List T} (D : Dice m xs) (hm : m + 20 ≤ 2 ^ 60) :
    ∃ t ys, qcall fu F (n + 3) 22 [.own (.vl xs)] = .val (.p t) [.own (.vl ys)] ∧ Dice (m + 20) ys ∧ valT t = true := by
  obtain ⟨r, y1, e1, D1, r0, r1⟩ := roll_ok (fu := fu) (n := n + 1) (h.sub (by simp)) D (t := 10) (by omega) (by omega) (by omega)
  have start : ∀ {K : Bv → Vn → Prop}, @QS.G (qSs (qcall fu F (n + 2)) fu [0] ir__law_value [.own (.vl xs), .no, .no] none) ⟨fun v _ => K (.p .non) (keepP [0] 0 1 v), fun b v => K b (keepP [0] 0 1 v), fun _ _ => False, fun _ _ => False, fun c t v => False⟩ → @QC.G (qcall fu F (n + 3) 22 [.own (.vl xs)]) ⟨fun _ _ _ => False, K⟩ := fun {K} q => by
    rw [C_call (d := ⟨1, 3, ir__law_value⟩) (h 22 (by simp)) rfl]
    exact q
  by_cases c0 : r = 0
  · refine ⟨.non, y1, QC.eq_of (start ?_), D1.mono (by omega), rfl⟩
    generalize qcall fu F (n + 2) = Ψ at *
    unfold ir__law_value
    subst c0
    walk_at "qv"
  by_cases c1 : r < 6
  · obtain ⟨q, y2, e2, D2, q0, q1⟩ := roll_ok (fu := fu) (n := n + 1) (h.sub (by simp)) D1 (t := 9) (by omega) (by omega) (by omega)
    refine ⟨.int (q - 3), y2, QC.eq_of (start ?_), D2.mono (by omega), ?_⟩
    · generalize qcall fu F (n + 2) = Ψ at *
      unfold ir__law_value
      walk_at "qv"
    · show (isInT (-1000000) 1000000 (.int (q - 3)) || _) = true
      have : isInT (-1000000) 1000000 (.int (q - 3)) = true := by
        simp only [isInT, Bool.and_eq_true, decide_eq_true_eq]
        omega
      rw [this]; rfl
  by_cases c2 : r = 6
  · obtain ⟨q, y2, e2, D2, q0, q1⟩ := roll_ok (fu := fu) (n := n + 1) (h.sub (by simp)) D1 (t := 2000001) (by omega) (by omega) (by omega)
    refine ⟨.int (q - 1000000), y2, QC.eq_of (start ?_), D2.mono (by omega), ?_⟩
    · generalize qcall fu F (n + 2) = Ψ at *
      unfold ir__law_value
      subst c2
      walk_at "qv"
    · show (isInT (-1000000) 1000000 (.int (q - 1000000)) || _) = true
      have : isInT (-1000000) 1000000 (.int (q - 1000000)) = true := by
        simp only [isInT, Bool.and_eq_true, decide_eq_true_eq]
        omega
      rw [this]; rfl
  by_cases c3 : r < 9
  · obtain ⟨k, t, y2, e2, D2, q0, q1⟩ := pick_ok (fu := fu) (n := n) (h.sub (by simp)) D1 (things := [.str "a", .str "ab", .str "b", .str "north", .str "south", .str "c d"]) (.inr rfl) (by omega) (by simp) (by simp)
    refine ⟨t, y2, QC.eq_of (start ?_), D2.mono (by omega), ?_⟩
    · generalize qcall fu F (n + 2) = Ψ at *
      unfold ir__law_value
      clear q1 q0
      walk_at "qv"
    · simp only [List.mem_cons, List.not_mem_nil, or_false] at q1
      rcases q1 with rfl | rfl | rfl | rfl | rfl | rfl <;> decide +kernel
  · obtain ⟨q, y2, e2, D2, q0, q1⟩ := roll_ok (fu := fu) (n := n + 1) (h.sub (by simp)) D1 (t := 12) (by omega) (by omega) (by omega)
    have pk := fun {m' : Nat} {ys : List T} (D : Dice m' ys) hm => pick_ok (fu := fu) (n := n) (h.sub (by simp)) D (things := [.str "a", .str "z", .str " ", .str "~", .str "0", .str "Q"]) (.inr rfl) hm (by simp) (by simp)
    suffices hs : @QC.G (qcall fu F (n + 3) 22 [.own (.vl xs)]) ⟨fun _ _ _ => False, fun b ps => ∃ t ys, b = .p t ∧ ps = [.own (.vl ys)] ∧ Dice (m + 20) ys ∧ valT t = true⟩ by
      cases e : qcall fu F (n + 3) 22 [.own (.vl xs)] with
      | val b ps => rw [e] at hs; obtain ⟨t, ys, rfl, rfl, a, b⟩ := hs; exact ⟨t, ys, rfl, a, b⟩
      | exn => rw [e] at hs; exact hs.elim
      | bad => rw [e] at hs; exact hs.elim
    refine start ?_
    generalize qcall fu F (n + 2) = Ψ at *
    unfold ir__law_value
    have ok : okRg (1 + q) = true := by
      simp only [okRg, Bool.and_eq_true, decide_eq_true_eq]
      omega
    walk_at "qv"
    obtain ⟨I, hI⟩ : ∃ I : List T → List T → Vn → Prop, I = fun rest acc v => ∃ ys, v = [.own (.vl ys), .val (.int r), .no] ∧ Dice (m + 2 + acc.length) ys ∧ acc.all oneSign = true ∧ acc.length + rest.length = (1 + q).toNat := ⟨_, rfl⟩
    refine G_lci (ys := rangeL 0 (1 + q).toNat) I (by rw [hI]; exact ⟨y2, rfl, D2, rfl, by simp [rangeL]⟩) (fun y zs acc v hv => ?_) (fun us v' hv => ?_)
    · rw [hI] at hv
      obtain ⟨ys, rfl, D3, a3, l3⟩ := hv
      rw [List.length_cons] at l3
      obtain ⟨k, t, y3, e3, D4, _, t3⟩ := pk D3 (by omega)
      have fin : I zs (acc ++ [t]) [.own (.vl y3), .val (.int r), .no] := by
        rw [hI]
        refine ⟨y3, rfl, D4.mono (by rw [List.length_append]; simp; omega), ?_, by rw [List.length_append]; simp; omega⟩
        rw [List.all_append, a3]
        simp only [List.mem_cons, List.not_mem_nil, or_false] at t3
        rcases t3 with rfl | rfl | rfl | rfl | rfl | rfl <;> decide +kernel
      clear pk start hI
      walk_at "qv"
    · rw [hI] at hv
      obtain ⟨ys, rfl, D3, a3, l3⟩ := hv
      obtain ⟨zs, b1, b2, b3, b4, b5⟩ := join_signs a3
      change (Txt.join (Str.ofString "") zs).length = us.length at b5
      change (Txt.join (Str.ofString "") zs).cps.toList.all signB = true at b4
      rw [List.length_nil, Nat.add_zero] at l3
      have c4 : (zs.map (·.length)).sum + zs.length * (Str.ofString "").length ≤ 16777216 := by
        have : (Str.ofString "").length = 0 := rfl
        rw [this, b3]; omega
      have c5 : (Txt.join (Str.ofString "") zs).length ≤ sizeLine := by
        have : sizeLine = 16777216 := sizeLine_eq
        omega
      have vt : valT (.str (Txt.join (Str.ofString "") zs)) = true := by
        show (false || (false || (decide ((1 : Int) ≤ (Txt.join (Str.ofString "") zs).length) && (decide (((Txt.join (Str.ofString "") zs).length : Int) ≤ 12) && (Txt.join (Str.ofString "") zs).cps.toList.all signB)))) = true
        rw [b4, b5]
        simp
        omega
      have D5 : Dice (m + 20) ys := D3.mono (by omega)
      clear pk start hI b2 b3 b4 b5 l3 a3 D3
      walk_at "qv"
      exact ⟨_, ys, rfl, rfl, D5, vt⟩
/-! ### drawn tables -/
end
end TLP

set_option maxHeartbeats 4000000
namespace TLP
open PySem PySem.Spec PyProof.Rows L2 TL
section
variable {F : List Fd} {fu n : Nat}
theorem cut_take {xs : List T} {k : Nat} : cutT xs none (some (k : Int)) = xs.take k := by
  have e1 : HT.sIx xs.length 0 none = 0 := rfl
  have e2 : HT.sIx xs.length xs.length (some (k : Int)) = min k xs.length := by
    unfold HT.sIx
    simp
    try omega
  unfold cutT
  rw [e1, e2, List.drop_zero, Nat.sub_zero]
  by_cases h : k ≤ xs.length
  · rw [Nat.min_eq_left h]
  · rw [Nat.min_eq_right (by omega), List.take_of_length_le (Nat.le_refl _), List.take_of_length_le (by omega)]
theorem cut_drop {xs : List T} {k : Nat} : cutT xs (some (k : Int)) none = xs.drop k := by
  have e1 : HT.sIx xs.length xs.length none = xs.length := rfl
  have e2 : HT.sIx xs.length 0 (some (k : Int)) = min k xs.length := by
    unfold HT.sIx
    simp
    try omega
  unfold cutT
  rw [e1, e2]
  by_cases h : k ≤ xs.length
  · rw [Nat.min_eq_left h, List.take_of_length_le (by simp)]
  · rw [Nat.min_eq_right (by omega)]
    simp [List.drop_eq_nil_of_le (show xs.length ≤ k by omega)]
/-- a good table -/
structure GoodTb (ns : List Str) (rs : List (List T)) : Prop where
  nd : ns.Nodup
  nm : ∀ s ∈ ns, nameT (.str s) = true
  l1 : 1 ≤ ns.length
  l8 : ns.length ≤ 8
  r2 : rs.length ≤ 200
  rl : ∀ r ∈ rs, r.length = ns.length
  rv : ∀ r ∈ rs, r.all valT = true
theorem dedup_aux : ∀ (l m : List Str), (m ++ l).Nodup → (l.map T.str).foldl addD (m.map .str) = (m ++ l).map .str
  | [], m, _ => by rw [List.append_nil]; rfl
  | x :: l, m, h => by
    have hx : x ∉ m := fun q => (List.nodup_append.mp h).2.2 x q x List.mem_cons_self rfl
    have e : addD (m.map .str) (.str x) = (m ++ [x]).map .str := by
      unfold addD
      rw [inT_strs, decide_eq_false hx, List.map_append]
      rfl
    rw [List.map_cons, List.foldl_cons, e, dedup_aux l (m ++ [x]) (by rw [List.append_assoc]; exact h), List.append_assoc]
    rfl
theorem dedup_strs {l : List Str} (h : l.Nodup) : dedup (l.map .str) = l.map .str := dedup_aux l [] h
theorem names_good {ns : List Str} {lo hi : Int} (nd : ns.Nodup) (nm : ∀ s ∈ ns, nameT (.str s) = true) (h1 : lo ≤ ns.length) (h2 : (ns.length : Int) ≤ hi) : namesT lo hi (nmT ns) = true := by
  have e1 : (ns.map T.str).all nameT = true := by
    rw [List.all_map]
    exact List.all_eq_true.mpr fun s hs => nm s hs
  have h1' : lo ≤ ((ns.map T.str).length : Int) := by rw [List.length_map]; exact h1
  have h2' : ((ns.map T.str).length : Int) ≤ hi := by rw [List.length_map]; exact h2
  simp only [nmT, namesT, isTupT, e1, dedup_strs nd, h1', h2', decide_true, Bool.and_self]
theorem row_good {ns : List Str} {r : List T} (l : r.length = ns.length) (v : r.all valT = true) : rowT (ns.map T.str).length (.tup r) = true := by
  simp only [rowT, isTupT, v, List.length_map, l, Int.le_refl, decide_true, Bool.and_self]
theorem table_good {ns : List Str} {rs : List (List T)} (g : GoodTb ns rs) : tableT (tbT ns rs) = true := by
  have e1 := names_good (lo := 1) (hi := 8) g.nd g.nm (by have := g.l1; omega) (by have := g.l8; omega)
  have e2 : isTupT 0 200 (rsT rs) = true := by
    have := g.r2
    simp only [isTupT, List.length_map, Bool.and_eq_true, decide_eq_true_eq]
    omega
  have e3 : (rs.map T.tup).all (rowT (ns.map T.str).length) = true := by
    rw [List.all_map]
    exact List.all_eq_true.mpr fun r hr => row_good (g.rl r hr) (g.rv r hr)
  show (namesT 1 8 (nmT ns) && (isTupT 0 200 (rsT rs) && (rs.map T.tup).all (rowT (ns.map T.str).length))) = true
  rw [e1, e2, e3]
  rfl
theorem row_dat {r : List T} (v : r.all valT = true) : dats r = true := by
  rw [dats_all]
  exact List.all_eq_true.mpr fun t ht => flat_dat (valT_flat (List.all_eq_true.mp v t ht))
theorem row_dep {r : List T} (v : r.all valT = true) : deps r = 0 := Nat.le_zero.mp (dep_le fun t ht => by rw [flat_dep (valT_flat (List.all_eq_true.mp v t ht))]; exact Nat.le_refl _)
theorem table_dat {ns : List Str} {rs : List (List T)} (rv : ∀ r ∈ rs, r.all valT = true) : dat (tbT ns rs) = true := by
  show (dats (ns.map T.str) && (dats (rs.map T.tup) && true)) = true
  rw [dats_strs, dats_all, List.all_map]
  simp only [Bool.true_and, Bool.and_true]
  exact List.all_eq_true.mpr fun r hr => row_dat (rv r hr)
def base8 : List Str := ["kind", "place", "cost", "month", "who", "x", "yy", "zzz"]
theorem base8_nm : ∀ s ∈ base8, nameT (.str s) = true := by
  have : base8.all (fun s => nameT (.str s)) = true := by decide +kernel
  exact fun s hs => List.all_eq_true.mp this s hs
theorem base8_nd : base8.Nodup := by decide +kernel
theorem law_table_ok (h : Has F [20, 21, 22, 23]) {m : Nat} {xs : List T} (D : Dice m xs) {c r : Nat} (hc : 1 ≤ c) (hc8 : c ≤ 8) (hr : r ≤ 200) (hm : m + 40000 ≤ 2 ^ 60) :
    ∃ ns rs ys, qcall fu F (n + 4) 23 [.own (.vl xs), .val (.int c), .val (.int r)] = .val (.p (tbT ns rs)) [.own (.vl ys), .no, .no] ∧ Dice (m + 40000) ys ∧ GoodTb ns rs ∧ ns.length = c ∧ rs.length = r ∧ (ns = base8.take c ∨ ns = (base8.take c).reverse) := by
  obtain ⟨q, y1, e1, D1, q0, q1⟩ := roll_ok (fu := fu) (n := n + 2) (h.sub (by simp)) D (t := 2) (by omega) (by omega) (by omega)
  have val := fun {m : Nat} {xs : List T} (D : Dice m xs) hm => law_value_ok (fu := fu) (n := n) (h.sub (by simp)) D hm
  obtain ⟨ns, hns⟩ : ∃ ns, ns = if q = 0 then (base8.take c).reverse else base8.take c := ⟨_, rfl⟩
  have nsl : ns.length = c := by
    have : (base8.take c).length = c := by rw [List.length_take]; show min c 8 = c; omega
    rw [hns]
    split <;> simp [this]
  suffices hs : @QC.G (qcall fu F (n + 4) 23 [.own (.vl xs), .val (.int c), .val (.int r)]) ⟨fun _ _ _ => False, fun b ps => ∃ rs ys, b = .p (tbT ns rs) ∧ ps = [.own (.vl ys), .no, .no] ∧ Dice (m + 40000) ys ∧ rs.length = r ∧ (∀ r ∈ rs, r.length = c) ∧ ∀ r ∈ rs, r.all valT = true⟩ by
    cases e : qcall fu F (n + 4) 23 [.own (.vl xs), .val (.int c), .val (.int r)] with
    | val b ps =>
      rw [e] at hs
      obtain ⟨rs, ys, rfl, rfl, a1, a2, a3, a4⟩ := hs
      refine ⟨ns, rs, ys, rfl, a1, ⟨?_, ?_, by omega, by omega, by omega, fun r hr => by rw [a3 r hr, nsl], a4⟩, nsl, a2, ?_⟩
      · rw [hns]
        split
        · exact List.pairwise_reverse.mpr ((base8_nd.sublist (List.take_sublist _ _)).imp Ne.symm)
        · exact base8_nd.sublist (List.take_sublist _ _)
      · intro s hs
        rw [hns] at hs
        refine base8_nm s ?_
        split at hs
        · exact List.mem_of_mem_take (List.mem_reverse.mp hs)
        · exact List.mem_of_mem_take hs
      · rw [hns]
        split
        · exact .inr rfl
        · exact .inl rfl
    | exn => rw [e] at hs; exact hs.elim
    | bad => rw [e] at hs; exact hs.elim
  rw [C_call (d := ⟨3, 6, ir__law_table⟩) (h 23 (by simp)) rfl]
  generalize qcall fu F (n + 3) = Ψ at *
  unfold ir__law_table
  have cut := cut_take (xs := base8.map T.str) (k := c)
  rw [← List.map_take] at cut
  simp only [base8, List.map_cons, List.map_nil] at cut
  have ok : okRg (r : Int) = true := by
    simp only [okRg, Bool.and_eq_true, decide_eq_true_eq]
    omega
  obtain ⟨X, hX⟩ : ∃ X, X = List.map T.str (List.take c base8) := ⟨_, rfl⟩
  simp only [base8] at hX
  rw [← hX] at cut
  obtain ⟨I, hI⟩ : ∃ I : List T → List T → Vn → Prop, I = fun rest acc v => ∃ ys, v = [.own (.vl ys), .val (.int c), .val (.int r), .val (nmT ns), .no, .no] ∧ Dice (m + 1 + 160 * acc.length) ys ∧ acc.length + rest.length = r ∧ ∃ rs : List (List T), acc = rs.map .tup ∧ (∀ r ∈ rs, r.length = c) ∧ ∀ r ∈ rs, r.all valT = true := ⟨_, rfl⟩
  have h0 : I (rangeL 0 r) [] [.own (.vl y1), .val (.int c), .val (.int r), .val (nmT ns), .no, .no] := by
    rw [hI]
    exact ⟨y1, rfl, D1, by simp [rangeL], [], rfl, (fun r hr => by cases hr), fun r hr => by cases hr⟩
  have hr3 : ((r : Int)).toNat = r := Int.toNat_natCast r
  have nm3 : X = ns.map .str ∨ X.reverse = ns.map .str := by
    rw [hX, hns]
    split
    · exact .inr (by rw [← List.map_reverse]; rfl)
    · exact .inl rfl
  have c3 : (q = 0 ∧ X.reverse = ns.map .str) ∨ (¬ q = 0 ∧ X = ns.map .str) := by
    rw [hX, hns]
    by_cases c0 : q = 0
    · exact .inl ⟨c0, by rw [if_pos c0, ← List.map_reverse]; rfl⟩
    · exact .inr ⟨c0, by rw [if_neg c0]; rfl⟩
  clear nm3 hX hns
  have hval := And.intro hI @val
  clear hI val
  have step : ∀ y zs acc v, I (y :: zs) acc v → @Q.G _ (tlc Ψ [4] (.name 4) .tt (.agg .tuple (.lc [5] (.name 5) (.seq (.var 3)) .tt (.call 22 (.cons (.var 0) .nil)))) none y v) ⟨fun _ _ _ => False, fun r v' => I zs (acc ++ r) v'⟩ := by
    intro y zs acc v hv
    obtain ⟨hI, val⟩ := hval
    rw [hI] at hv
    obtain ⟨ys, rfl, D3, l3, rs, rfl, a3, a4⟩ := hv
    rw [List.length_cons] at l3
    obtain ⟨J, hJ⟩ : ∃ J : List T → List T → Vn → Prop, J = fun rest row v => ∃ ys, v = [.own (.vl ys), .val (.int c), .val (.int r), .val (nmT ns), .val y, .no] ∧ Dice (m + 1 + 160 * rs.length + 20 * row.length) ys ∧ row.length + rest.length = c ∧ row.all valT = true := ⟨_, rfl⟩
    have fin : ∀ us v', J [] us v' → ∃ ys, v' = [.own (.vl ys), .val (.int c), .val (.int r), .val (nmT ns), .val y, .no] ∧ I zs (rs.map T.tup ++ [.tup us]) [.own (.vl ys), .val (.int c), .val (.int r), .val (nmT ns), .no, .no] := fun us v' hv => by
      rw [hJ] at hv
      obtain ⟨ys, rfl, D4, l4, a5⟩ := hv
      refine ⟨ys, rfl, ?_⟩
      rw [hI]
      rw [List.length_nil, Nat.add_zero] at l4
      rw [List.length_map] at l3
      refine ⟨ys, rfl, D4.mono (by rw [List.length_append, List.length_map]; simp; omega), by rw [List.length_append, List.length_map]; simp; omega, rs ++ [us], by rw [List.map_append]; rfl, fun x hx => ?_, fun x hx => ?_⟩
      · rcases List.mem_append.mp hx with hx | hx
        · exact a3 x hx
        · rw [List.mem_singleton.mp hx]; exact l4
      · rcases List.mem_append.mp hx with hx | hx
        · exact a4 x hx
        · rw [List.mem_singleton.mp hx]; exact a5
    have j0 : J (ns.map T.str) [] [.own (.vl ys), .val (.int c), .val (.int r), .val (nmT ns), .val y, .no] := by
      rw [hJ]
      exact ⟨ys, rfl, D3.mono (by rw [List.length_map]; omega), by simp [nsl], rfl⟩
    have jstep : ∀ z ws row v, J (z :: ws) row v → ∃ ys t y2, v = [.own (.vl ys), .val (.int c), .val (.int r), .val (nmT ns), .val y, .no] ∧ Ψ 22 [.own (.vl ys)] = .val (.p t) [.own (.vl y2)] ∧ J ws (row ++ [t]) [.own (.vl y2), .val (.int c), .val (.int r), .val (nmT ns), .val y, .no] := fun z ws row v hv => by
      rw [hJ] at hv
      obtain ⟨ys, rfl, D4, l4, a5⟩ := hv
      rw [List.length_cons] at l4
      rw [List.length_map] at l3
      obtain ⟨t, y2, e4, D5, vt⟩ := val D4 (by omega)
      refine ⟨ys, t, y2, rfl, e4, ?_⟩
      rw [hJ]
      refine ⟨y2, rfl, D5.mono (by rw [List.length_append]; simp; omega), by rw [List.length_append]; simp; omega, ?_⟩
      rw [List.all_append, a5]
      simp [vt]
    clear hI val hJ a3 a4 D3 l3
    walk_at "qv"
    refine G_lci J j0 (fun z ws row v hv => ?_) (fun us v' hv => ?_)
    · obtain ⟨ys, t, y2, rfl, e4, q4⟩ := jstep z ws row v hv
      clear jstep fin
      walk_at "qv"
    · obtain ⟨ys, rfl, q4⟩ := fin us v' hv
      clear jstep fin
      walk_at "qv"
  have last : ∀ us v', I [] us v' → ∃ (rs : List (List T)) (ys : List T), us = rs.map T.tup ∧ v' = [.own (.vl ys), .val (.int c), .val (.int r), .val (nmT ns), .no, .no] ∧ Dice (m + 40000) ys ∧ rs.length = r ∧ (∀ r ∈ rs, r.length = c) ∧ ∀ r ∈ rs, r.all valT = true := fun us v' hv => by
    rw [hval.1] at hv
    obtain ⟨ys, rfl, D3, l3, rs, rfl, a3, a4⟩ := hv
    rw [List.length_map, List.length_nil, Nat.add_zero] at l3
    exact ⟨rs, ys, rfl, rfl, D3.mono (by rw [List.length_map]; omega), l3, a3, a4⟩
  clear hval
  rcases c3 with ⟨c0, c4⟩ | ⟨c0, c4⟩
  · subst c0
    walk_at "qv"
    refine G_lci I h0 step (fun us v' hv => ?_)
    obtain ⟨rs, ys, rfl, rfl, a1, a2, a3, a4⟩ := last us v' hv
    clear step last
    walk_at "qv"
    exact ⟨rs, ys, rfl, rfl, a1, a2, a3, a4⟩
  · subst c4
    walk_at "qv"
    refine G_lci I h0 step (fun us v' hv => ?_)
    obtain ⟨rs, ys, rfl, rfl, a1, a2, a3, a4⟩ := last us v' hv
    clear step last
    walk_at "qv"
    exact ⟨rs, ys, rfl, rfl, a1, a2, a3, a4⟩
/-! ### new dice -/
theorem dice_ok (h : Has F [19]) {ns : List Int} {k : Nat} (hl : ns.length ≤ 63) (hk : k ≤ 1000) : ∃ ys, qcall fu F (n + 1) 19 [.val (.cl (ns.map .int)), .val (.int k)] = .val (.f (.vl ys)) [.no, .no] ∧ Dice 0 ys := by
  suffices hs : @QC.G (qcall fu F (n + 1) 19 [.val (.cl (ns.map .int)), .val (.int k)]) ⟨fun _ _ _ => False, fun b ps => ∃ ys, b = .f (.vl ys) ∧ ps = [.no, .no] ∧ Dice 0 ys⟩ by
    cases e : qcall fu F (n + 1) 19 [.val (.cl (ns.map .int)), .val (.int k)] with
    | val b ps => rw [e] at hs; obtain ⟨ys, rfl, rfl, a⟩ := hs; exact ⟨ys, rfl, a⟩
    | exn => rw [e] at hs; exact hs.elim
    | bad => rw [e] at hs; exact hs.elim
  rw [C_call (d := ⟨2, 5, ir__law_dice⟩) (h 19 (by simp)) rfl]
  generalize qcall fu F n = Ψ at *
  unfold ir__law_dice
  have g1 : (Int.natAbs 811).log2 + (k : Int).natAbs.log2 < 1000000 := by
    have := lg (i := (k : Int)) (k := 40) (by omega)
    have : (Int.natAbs 811).log2 < 100 := by decide
    omega
  have g2 : (Int.natAbs 6947).log2 + (k : Int).natAbs.log2 < 1000000 := by
    have := lg (i := (k : Int)) (k := 40) (by omega)
    have : (Int.natAbs 6947).log2 < 100 := by decide
    omega
  have f2 : ∀ q : Int, 0 ≤ q.fmod 2147480009 ∧ q.fmod 2147480009 < 2147480009 := fun q => by
    rw [Int.fmod_eq_emod_of_nonneg q (by omega)]
    exact ⟨Int.emod_nonneg q (by decide), Int.emod_lt_of_pos q (by decide)⟩
  have cut : cutT (ns.map T.int) none (some 6) = (ns.take 6).map .int := by
    have := cut_take (xs := ns.map T.int) (k := 6)
    rw [← List.map_take] at this
    exact this
  have own : ∃ w : Int, ((k : Int) < ns.length ∧ (ns.map T.int)[k]? = some (.int w)) ∨ (¬ (k : Int) < ns.length ∧ w = 811 * k + 37) := by
    by_cases hlt : k < ns.length
    · exact ⟨ns[k], .inl ⟨by omega, by rw [List.getElem?_map, List.getElem?_eq_getElem hlt]; rfl⟩⟩
    · exact ⟨_, .inr ⟨by omega, rfl⟩⟩
  obtain ⟨w, hw⟩ := own
  have sz : (ns.take 6).length + 1 ≤ sizeLine := by rw [List.length_take, sizeLine_eq]; omega
  obtain ⟨I, hI⟩ : ∃ I : List T → Vn → Option T → Prop, I = fun rest v x => x = none ∧ (∃ cs : List Int, rest = cs.map .int) ∧ ∃ (b : Int) (s : Sl), v = [.val (.cl (ns.map .int)), .val (.int k), .val (.int w), .val (.int b), s] ∧ 0 ≤ b ∧ b < 2147480009 := ⟨_, rfl⟩
  have h0 : I ((ns.take 6).map T.int ++ [T.int w]) [.val (.cl (ns.map .int)), .val (.int k), .val (.int w), .val (.int (700001 + 6947 * k)), .no] none := by
    rw [hI]
    exact ⟨rfl, ⟨ns.take 6 ++ [w], by rw [List.map_append]; rfl⟩, _, _, rfl, by omega, by omega⟩
  have turn : ∀ y ys v x, I (y :: ys) v x → ∃ (c b : Int) (s : Sl), y = .int c ∧ x = none ∧ v = [.val (.cl (ns.map .int)), .val (.int k), .val (.int w), .val (.int b), s] ∧ b.natAbs.log2 + (Int.natAbs 69621).log2 < 1000000 ∧ I ys [.val (.cl (ns.map .int)), .val (.int k), .val (.int w), .val (.int ((b * 69621 + c.fmod 2147480009).fmod 2147480009)), .val (.int c)] none := fun y ys v x hv => by
    rw [hI] at hv
    obtain ⟨rfl, ⟨cs, e⟩, b, s, rfl, b0, b1⟩ := hv
    match cs, e with
    | c :: cs, e =>
      rw [List.map_cons] at e
      injection e with e1 e2
      refine ⟨c, b, s, e1, rfl, rfl, ?_, ?_⟩
      · have := lg (i := b) (k := 40) (by omega)
        have : (Int.natAbs 69621).log2 < 100 := by decide
        omega
      · rw [hI]
        exact ⟨rfl, ⟨cs, e2⟩, _, _, rfl, (f2 _).1, (f2 _).2⟩
    | [], e => cases e
  have last : ∀ v x, I [] v x → ∃ (b : Int) (s : Sl), x = none ∧ v = [.val (.cl (ns.map .int)), .val (.int k), .val (.int w), .val (.int b), s] ∧ ∀ a : Int, 0 ≤ a → Dice 0 [.int a, .int b, .int 0] := fun v x hv => by
    rw [hI] at hv
    obtain ⟨rfl, _, b, s, rfl, b0, b1⟩ := hv
    exact ⟨b, s, rfl, rfl, fun a ha => ⟨a, b, 0, rfl, ha, b0, b1, by decide, by decide⟩⟩
  have p10 : (0 : Int) ≤ 16 ∧ (16 : Int) ≤ 1000000 ∧ (10 : Int).natAbs < 2 ^ 64 := by decide
  clear hI f2 hl hk
  rcases hw with ⟨c1, c2⟩ | ⟨c1, rfl⟩
  · walk_at "qv"
    refine for_inv I (fun y ys v x hv => ?_) (fun v x hv => ?_) h0
    · obtain ⟨c, b, s, rfl, rfl, rfl, q1, q2⟩ := turn y ys v x hv
      refine ⟨by rfl, _, rfl, ?_⟩
      clear turn last
      walk_at "qv"
    · obtain ⟨b, s, rfl, rfl, q⟩ := last v x hv
      clear turn last
      by_cases w0 : w < 0
      · walk_at "qv"
        exact ⟨_, rfl, q _ (by omega)⟩
      · by_cases w1 : (10 : Int) ^ 16 ≤ w
        · walk_at "qv"
          exact ⟨_, rfl, q _ (by omega)⟩
        · walk_at "qv"
          exact ⟨_, rfl, q _ (by omega)⟩
  · walk_at "qv"
    refine for_inv I (fun y ys v x hv => ?_) (fun v x hv => ?_) h0
    · obtain ⟨c, b, s, rfl, rfl, rfl, q1, q2⟩ := turn y ys v x hv
      refine ⟨by rfl, _, rfl, ?_⟩
      clear turn last
      walk_at "qv"
    · obtain ⟨b, s, rfl, rfl, q⟩ := last v x hv
      clear turn last
      by_cases w0 : (811 * (k : Int) + 37) < 0
      · walk_at "qv"
        exact ⟨_, rfl, q _ (by omega)⟩
      · by_cases w1 : (10 : Int) ^ 16 ≤ (811 * (k : Int) + 37)
        · walk_at "qv"
          exact ⟨_, rfl, q _ (by omega)⟩
        · walk_at "qv"
          exact ⟨_, rfl, q _ (by omega)⟩
end
end TLP

set_option maxHeartbeats 4000000
local macro_rules | `(tactic| walk_at "qv") => `(tactic| simp only [↓TL.g_qE_var, ↓TL.g_qE_cst, ↓TL.g_qE_gcst, ↓TL.g_qE_tup, ↓TL.g_qE_lst, ↓TL.g_qE_lstV, ↓TL.g_qE_bin, ↓TL.g_qE_neg, ↓TL.g_qE_cat, ↓TL.g_qE_catV, ↓TL.g_qE_cmp, ↓TL.g_qE_chain, ↓TL.g_qE_and, ↓TL.g_qE_or, ↓TL.g_qE_not, ↓TL.g_qE_ite, ↓TL.g_qE_idx, ↓TL.g_qE_slc, ↓TL.g_qE_slcM, ↓TL.g_qE_isinst, ↓TL.g_qE_call, ↓TL.g_qE_callK, ↓TL.g_qE_lc, ↓TL.g_qE_lcM, ↓TL.g_qE_agg, ↓TL.g_qE_blt, ↓TL.g_qE_mth, ↓TL.g_qE_lenSet, ↓TL.g_qE_hof, ↓TL.g_qE_exc, ↓TL.g_qE_frz, ↓TL.g_qE_weak, ↓TL.g_qE_gix, ↓TL.g_qE_gin, ↓TL.g_qE_dsel, ↓TL.g_qPs_nil, ↓TL.g_qPs_cons, ↓TL.g_qRs_nil, ↓TL.g_qRs_cons, ↓TL.g_qC_and, ↓TL.g_qC_or, ↓TL.g_qC_not, ↓TL.g_qC_val, ↓TL.g_qC_tt, ↓TL.g_qC_cmp, ↓TL.g_qC_chain, ↓TL.g_qI_seq, ↓TL.g_qI_chars, ↓TL.g_qI_range, ↓TL.g_qI_range2, ↓TL.g_qI_zip, ↓TL.g_qI_enum, ↓TL.g_qO_no, ↓TL.g_qO_some, ↓TL.g_qS_expr, ↓TL.g_qS_ret, ↓TL.g_qS_retN, ↓TL.g_qS_set, ↓TL.g_qS_par, ↓TL.g_qS_unp, ↓TL.g_qS_setIdx, ↓TL.g_qS_iff, ↓TL.g_qS_for, ↓TL.g_qS_while, ↓TL.g_qS_brk, ↓TL.g_qS_cont, ↓TL.g_qS_pass, ↓TL.g_qS_raise, ↓TL.g_qS_tryE, ↓TL.g_qS_weak, ↓TL.g_qSs_nil, ↓TL.g_qSs_cons, ↓TL.G_ok, ↓TL.G_exn, ↓TL.G_bad, ↓TL.G_to, ↓TL.G_to', ↓TL.G_toP, ↓TL.G_oQ, ↓TL.G_bQ, ↓TL.G_bm, ↓TL.G_var, ↓TL.G_ps, ↓TL.G_aggM, ↓TL.G_hof, ↓TL.G_src, ↓TL.G_do, ↓TL.S_nx, ↓TL.S_rt, ↓TL.S_bk, ↓TL.S_ct, ↓TL.S_exn, ↓TL.S_bad, ↓TL.S_nxt, ↓TL.S_to, ↓TL.S_toP, ↓TL.S_oS, ↓TL.S_bS, ↓TL.S_bm, ↓TL.S_sS, ↓TL.S_try, ↓TL.C_val, ↓TL.C_exn, ↓TL.G_lc_nil, ↓TL.G_lc_cons, ↓TL.S_for_nil, ↓TL.S_for_cons, TL.sl_val, TL.sl_own, TL.on_p, TL.ps_p, TL.ps_s, TL.out_p, TL.out_f, TL.optQ_some, TL.optQ_none, TL.ifQ_true, TL.ifQ_false, TL.lookS, TL.slot, TL.setS, TL.M.view, TL.Sl.view, TL.Bv.rd, TL.Sl.lst, TL.takeA, TL.backA, TL.rdAll, TL.tgI, TL.bindV, TL.plainS, TL.clrs, TL.rsts, TL.lock, TL.unlock, TL.lockB, TL.pinS, TL.mutB, TL.mthS, TL.leftB, TL.stoV, TL.outV, TL.pinsOf, TL.keepP, TL.tryK, TL.mthT, TL.mthP, TL.mthB, TL.tlc, TL.tsc, TL.aggS, TL.aggV, TL.aggQ, TL.negV, TL.isT, TL.intV, TL.strV, TL.intsOf, TL.blsOf, TL.bopB, TL.strsL, TL.keyT, TL.stillV, TL.v_addI, TL.v_subI, TL.v_mulI, TL.v_fdivI, TL.v_modI, TL.v_powI, TL.g_addI, TL.g_sub, TL.g_mulI, TL.g_fdivI, TL.g_modI, TL.g_powI, TL.c_gtI, TL.c_ltI, TL.c_leI, TL.c_geI, TL.c_eq, TL.c_ne, TL.c_isN, TL.c_notN, TL.c_inS, TL.c_ninS, TL.cg_gt, TL.cg_lt, TL.cg_ltS, TL.cg_ltT, TL.c_ltT, TL.cg_le, TL.cg_ge, TL.cg_isN, TL.cg_notN, TL.cg_eq, TL.cg_ne, TL.cg_inS, TL.cg_ninS, TL.b_intI, TL.b_intB, TL.b_abs, TL.b_len, TL.b_max2, TL.b_min2, TL.l_str, TL.l_tup, TL.l_cl, TL.i_tup, TL.i_cl, TL.i_str, TL.s_str, TL.c_ltS, TL.c_isB, TL.c_notB, TL.t_non, TL.t_bl, TL.t_int, TL.t_tup, TL.t_cl, TL.seq_tup, TL.seq_cl, TL.get_cons, TL.d_non, TL.d_bl, TL.d_int, TL.d_str, TL.d_tup, TL.d_cl, TL.x_slcC, TL.x_slcT, TL.x_lstC, TL.x_inT, TL.x_inC, TL.x_ginT, TL.x_ginC, TL.x_ninT, TL.x_ninC, TL.x_gninT, TL.x_gninC, TL.yq_str, TL.yq_int, TL.yq_si, TL.yq_is, TL.yq_sn, TL.yq_ns, TL.yq_in, TL.yq_ni, TL.yq_nn, TL.eo_ss, TL.eo_ii, TL.eo_si, TL.eo_is, TL.eo_nn, TL.eo_in, TL.eo_ni, TL.eo_sn, TL.eo_ns, TL.n_in, TL.n_nil, TL.nn_non, TL.nn_int, TL.nn_bl, TL.nn_str, TL.nn_tup, TL.nn_cl, TL.yq_bl, TL.yq_tt, TL.yq_cc, TL.yqs_nil, TL.yqs_cons, TL.eo_bb, TL.at_0, TL.at_1, TL.at_2, TL.at_3, TL.at_4, TL.at_5, TL.at_6, TL.at_7, TL.at_8, TL.at_9, TL.at_cast, TL.at_neg1, TL.strs_map2, TL.b_rev, TL.ok_str, TL.ok_int, TL.ok_non, TL.ok_bl, TL.da_non, TL.da_int, TL.da_bl, TL.da_str, TL.da_tup, TL.da_cl, TL.das_nil, TL.das_cons, TL.dats_strs, Int.cast_ofNat_Int, Int.natCast_zero, Int.natCast_one, List.length_cons, List.length_nil, List.length_map, List.map_cons, List.map_nil, List.replicate, List.cons_append, List.nil_append, Nat.reduceAdd, Nat.reduceSub, Nat.reduceLT, Nat.reduceBEq, Nat.reduceEqDiff, Int.reduceLE, Int.reduceLT, Int.reduceNeg, Int.reduceAdd, Int.reduceSub, Int.reduceMul, Int.reduceToNat, Nat.reduceLeDiff, Int.reduceEq, Nat.zero_add, if_true, if_false, ite_true, ite_false, Option.map_some, Option.map_none, Option.bind_some, Option.bind_none, true_and, and_true, and_self, ne_eq, not_false_eq_true, not_true_eq_false, reduceCtorEq, L2.ixN, decide_true, decide_false, Bool.not_true, Bool.not_false, Bool.true_and, Bool.and_true, Bool.false_and, Bool.and_false, Bool.or_false, Bool.false_or, Bool.or_true, Bool.true_or, List.sum_cons, List.sum_nil, List.append_nil, List.isEmpty, id_eq, List.all_cons, List.all_nil, List.contains_cons, List.contains_nil, List.elem_nil, List.elem_cons, decide_eq_true_eq, Nat.zero_le, List.set_cons_zero, List.set_cons_succ, List.getElem?_cons_zero, List.getElem?_cons_succ, *])
local macro_rules | `(tactic| walk_at "qd") => `(tactic| simp (decide := true) only [↓TL.g_qE_var, ↓TL.g_qE_cst, ↓TL.g_qE_gcst, ↓TL.g_qE_tup, ↓TL.g_qE_lst, ↓TL.g_qE_lstV, ↓TL.g_qE_bin, ↓TL.g_qE_neg, ↓TL.g_qE_cat, ↓TL.g_qE_catV, ↓TL.g_qE_cmp, ↓TL.g_qE_chain, ↓TL.g_qE_and, ↓TL.g_qE_or, ↓TL.g_qE_not, ↓TL.g_qE_ite, ↓TL.g_qE_idx, ↓TL.g_qE_slc, ↓TL.g_qE_slcM, ↓TL.g_qE_isinst, ↓TL.g_qE_call, ↓TL.g_qE_callK, ↓TL.g_qE_lc, ↓TL.g_qE_lcM, ↓TL.g_qE_agg, ↓TL.g_qE_blt, ↓TL.g_qE_mth, ↓TL.g_qE_lenSet, ↓TL.g_qE_hof, ↓TL.g_qE_exc, ↓TL.g_qE_frz, ↓TL.g_qE_weak, ↓TL.g_qE_gix, ↓TL.g_qE_gin, ↓TL.g_qE_dsel, ↓TL.g_qPs_nil, ↓TL.g_qPs_cons, ↓TL.g_qRs_nil, ↓TL.g_qRs_cons, ↓TL.g_qC_and, ↓TL.g_qC_or, ↓TL.g_qC_not, ↓TL.g_qC_val, ↓TL.g_qC_tt, ↓TL.g_qC_cmp, ↓TL.g_qC_chain, ↓TL.g_qI_seq, ↓TL.g_qI_chars, ↓TL.g_qI_range, ↓TL.g_qI_range2, ↓TL.g_qI_zip, ↓TL.g_qI_enum, ↓TL.g_qO_no, ↓TL.g_qO_some, ↓TL.g_qS_expr, ↓TL.g_qS_ret, ↓TL.g_qS_retN, ↓TL.g_qS_set, ↓TL.g_qS_par, ↓TL.g_qS_unp, ↓TL.g_qS_setIdx, ↓TL.g_qS_iff, ↓TL.g_qS_for, ↓TL.g_qS_while, ↓TL.g_qS_brk, ↓TL.g_qS_cont, ↓TL.g_qS_pass, ↓TL.g_qS_raise, ↓TL.g_qS_tryE, ↓TL.g_qS_weak, ↓TL.g_qSs_nil, ↓TL.g_qSs_cons, ↓TL.G_ok, ↓TL.G_exn, ↓TL.G_bad, ↓TL.G_to, ↓TL.G_to', ↓TL.G_toP, ↓TL.G_oQ, ↓TL.G_bQ, ↓TL.G_bm, ↓TL.G_var, ↓TL.G_ps, ↓TL.G_aggM, ↓TL.G_hof, ↓TL.G_src, ↓TL.G_do, ↓TL.S_nx, ↓TL.S_rt, ↓TL.S_bk, ↓TL.S_ct, ↓TL.S_exn, ↓TL.S_bad, ↓TL.S_nxt, ↓TL.S_to, ↓TL.S_toP, ↓TL.S_oS, ↓TL.S_bS, ↓TL.S_bm, ↓TL.S_sS, ↓TL.S_try, ↓TL.C_val, ↓TL.C_exn, ↓TL.G_lc_nil, ↓TL.G_lc_cons, ↓TL.S_for_nil, ↓TL.S_for_cons, TL.sl_val, TL.sl_own, TL.on_p, TL.ps_p, TL.ps_s, TL.out_p, TL.out_f, TL.optQ_some, TL.optQ_none, TL.ifQ_true, TL.ifQ_false, TL.lookS, TL.slot, TL.setS, TL.M.view, TL.Sl.view, TL.Bv.rd, TL.Sl.lst, TL.takeA, TL.backA, TL.rdAll, TL.tgI, TL.bindV, TL.plainS, TL.clrs, TL.rsts, TL.lock, TL.unlock, TL.lockB, TL.pinS, TL.mutB, TL.mthS, TL.leftB, TL.stoV, TL.outV, TL.pinsOf, TL.keepP, TL.tryK, TL.mthT, TL.mthP, TL.mthB, TL.tlc, TL.tsc, TL.aggS, TL.aggV, TL.aggQ, TL.negV, TL.isT, TL.intV, TL.strV, TL.intsOf, TL.blsOf, TL.bopB, TL.strsL, TL.keyT, TL.stillV, TL.v_addI, TL.v_subI, TL.v_mulI, TL.v_fdivI, TL.v_modI, TL.v_powI, TL.g_addI, TL.g_sub, TL.g_mulI, TL.g_fdivI, TL.g_modI, TL.g_powI, TL.c_gtI, TL.c_ltI, TL.c_leI, TL.c_geI, TL.c_eq, TL.c_ne, TL.c_isN, TL.c_notN, TL.c_inS, TL.c_ninS, TL.cg_gt, TL.cg_lt, TL.cg_ltS, TL.cg_ltT, TL.c_ltT, TL.cg_le, TL.cg_ge, TL.cg_isN, TL.cg_notN, TL.cg_eq, TL.cg_ne, TL.cg_inS, TL.cg_ninS, TL.b_intI, TL.b_intB, TL.b_abs, TL.b_len, TL.b_max2, TL.b_min2, TL.l_str, TL.l_tup, TL.l_cl, TL.i_tup, TL.i_cl, TL.i_str, TL.s_str, TL.c_ltS, TL.c_isB, TL.c_notB, TL.t_non, TL.t_bl, TL.t_int, TL.t_tup, TL.t_cl, TL.seq_tup, TL.seq_cl, TL.get_cons, TL.d_non, TL.d_bl, TL.d_int, TL.d_str, TL.d_tup, TL.d_cl, TL.x_slcC, TL.x_slcT, TL.x_lstC, TL.x_inT, TL.x_inC, TL.x_ginT, TL.x_ginC, TL.x_ninT, TL.x_ninC, TL.x_gninT, TL.x_gninC, TL.yq_str, TL.yq_int, TL.yq_si, TL.yq_is, TL.yq_sn, TL.yq_ns, TL.yq_in, TL.yq_ni, TL.yq_nn, TL.eo_ss, TL.eo_ii, TL.eo_si, TL.eo_is, TL.eo_nn, TL.eo_in, TL.eo_ni, TL.eo_sn, TL.eo_ns, TL.n_in, TL.n_nil, TL.nn_non, TL.nn_int, TL.nn_bl, TL.nn_str, TL.nn_tup, TL.nn_cl, TL.yq_bl, TL.yq_tt, TL.yq_cc, TL.yqs_nil, TL.yqs_cons, TL.eo_bb, TL.at_0, TL.at_1, TL.at_2, TL.at_3, TL.at_4, TL.at_5, TL.at_6, TL.at_7, TL.at_8, TL.at_9, TL.at_cast, TL.at_neg1, TL.strs_map2, TL.b_rev, TL.ok_str, TL.ok_int, TL.ok_non, TL.ok_bl, TL.da_non, TL.da_int, TL.da_bl, TL.da_str, TL.da_tup, TL.da_cl, TL.das_nil, TL.das_cons, TL.dats_strs, Int.cast_ofNat_Int, Int.natCast_zero, Int.natCast_one, List.length_cons, List.length_nil, List.length_map, List.map_cons, List.map_nil, List.replicate, List.cons_append, List.nil_append, Nat.reduceAdd, Nat.reduceSub, Nat.reduceLT, Nat.reduceBEq, Nat.reduceEqDiff, Int.reduceLE, Int.reduceLT, Int.reduceNeg, Int.reduceAdd, Int.reduceSub, Int.reduceMul, Int.reduceToNat, Nat.reduceLeDiff, Int.reduceEq, Nat.zero_add, if_true, if_false, ite_true, ite_false, Option.map_some, Option.map_none, Option.bind_some, Option.bind_none, true_and, and_true, and_self, ne_eq, not_false_eq_true, not_true_eq_false, reduceCtorEq, L2.ixN, decide_true, decide_false, Bool.not_true, Bool.not_false, Bool.true_and, Bool.and_true, Bool.false_and, Bool.and_false, Bool.or_false, Bool.false_or, Bool.or_true, Bool.true_or, List.sum_cons, List.sum_nil, List.append_nil, List.isEmpty, id_eq, List.all_cons, List.all_nil, List.contains_cons, List.contains_nil, List.elem_nil, List.elem_cons, decide_eq_true_eq, Nat.zero_le, List.set_cons_zero, List.set_cons_succ, List.getElem?_cons_zero, List.getElem?_cons_succ, *])
namespace TL
open PySem PySem.Spec PyProof.Rows L2
mutual
theorem eqv_self : ∀ {t : T}, dat t = true → eqv t t = true
  | .non, _ => rfl
  | .bl a, _ => by cases a <;> rfl
  | .int i, _ => by show (i == i) = true; exact beq_self_eq_true i
  | .str s, _ => by rw [yq_str]; exact decide_eq_true rfl
  | .tup xs, h => eqvs_self (xs := xs) h
  | .cl xs, h => eqvs_self (xs := xs) h
  | .dct _ _, h => Bool.noConfusion h
  | .ref _, h => Bool.noConfusion h
theorem eqvs_self : ∀ {xs : List T}, dats xs = true → eqvs xs xs = true
  | [], _ => rfl
  | x :: xs, h => by
    have h : (dat x && dats xs) = true := h
    rw [Bool.and_eq_true] at h
    show (eqv x x && eqvs xs xs) = true
    rw [eqv_self h.1, eqvs_self h.2]
    rfl
end
theorem dat_deref {t : T} (h : dat t = true) (η : Sto) : deref η t = t := by cases t <;> first | rfl | exact Bool.noConfusion h
theorem eqOk_of {u w : T} (a : dat u = true) (b : dat w = true) (d : dep u ≤ 64) : eqOk u w = true := by
  simp only [eqOk, a, b, Bool.and_true, Bool.true_and, decide_eq_true_eq]
  omega
theorem eqOk_of2 {u w : T} (a : dat u = true) (b : dat w = true) (d : dep w ≤ 64) : eqOk u w = true := by
  simp only [eqOk, a, b, Bool.and_true, Bool.true_and, decide_eq_true_eq]
  omega
theorem dats_app {xs ys : List T} : dats (xs ++ ys) = (dats xs && dats ys) := by rw [dats_all, dats_all, dats_all, List.all_append]
/-- a filter whose own names hold something ahead -/
theorem G_lcf2 {Ψ : Nat → Vn → QC} {own : List Nat} {tg : Tg} {c : C} {elt : E} {x : Option T} {X : XQ} {K : List T → Vn → Prop} (p : T → Bool) (g : T → T) {ys : List T} {v : Vn} (u : Vn) (hu : clrs v own = u) (hu2 : clrs u own = u) (h : ∀ y ∈ ys, @Q.G _ (tlc Ψ own tg c elt x y u) ⟨fun _ _ _ => False, fun r v' => r = (if p y = true then [g y] else []) ∧ v' = u⟩) (k : ∀ w, w = v ∨ w = u → K ((ys.filter p).map g) w) : @Q.G (List T) (qlc Ψ own tg c elt x ys v) ⟨X, K⟩ := by
  refine G_lci (fun rest acc w => (w = v ∨ w = u) ∧ ∃ d, ys = d ++ rest ∧ acc = (d.filter p).map g) ⟨.inl rfl, [], rfl, rfl⟩ ?_ ?_
  · rintro y zs acc w ⟨hw, d, e, rfl⟩
    have et : tlc Ψ own tg c elt x y w = tlc Ψ own tg c elt x y u := by
      rcases hw with rfl | rfl
      · show oQ (bindV tg y (clrs w own)) _ = oQ (bindV tg y (clrs u own)) _
        rw [hu, hu2]
      · rfl
    rw [et]
    have h1 := h y (by rw [e]; exact List.mem_append_right _ List.mem_cons_self)
    cases q : tlc Ψ own tg c elt x y u with
    | ok r v' =>
      rw [q] at h1
      obtain ⟨e1, e2⟩ := h1
      refine ⟨.inr e2, d ++ [y], by rw [e, List.append_assoc]; rfl, ?_⟩
      rw [List.filter_append, List.map_append, e1, List.filter_cons]
      by_cases hp : p y = true
      · rw [if_pos hp, if_pos hp]; rfl
      · rw [if_neg hp, if_neg hp]; rfl
    | exn => rw [q] at h1; exact h1.elim
    | bad => rw [q] at h1; exact h1.elim
  · rintro us w ⟨hw, d, e, rfl⟩
    rw [List.append_nil] at e
    rw [← e]
    exact k w hw
end TL

set_option maxHeartbeats 0
namespace K01
open PySem PySem.Spec PyProof.Rows L2 TL
abbrev pb (i : Nat) : Stmt := PySem.Challenge.pw_crosslaid_k01_whole_conditions_on_rows.main.body.getD i (.Pass ⟨0, 0, 0, 0⟩)
abbrev ir_demand : Ss := TLP.ir_demand
abbrev d_demand : DefT := ⟨"demand", ["is_good", "name"], 2, pb 10, ir_demand, false⟩
abbrev ir_is_in : Ss := TLP.ir_is_in
abbrev d_is_in : DefT := ⟨"is_in", ["value", "low", "high"], 3, pb 11, ir_is_in, false⟩
abbrev ir_is_tuple : Ss := TLP.ir_is_tuple
abbrev d_is_tuple : DefT := ⟨"is_tuple", ["value", "least", "most"], 3, pb 12, ir_is_tuple, false⟩
abbrev ir_is_signs : Ss := TLP.ir_is_signs
abbrev d_is_signs : DefT := ⟨"is_signs", ["value", "least", "most", "sign"], 3, pb 13, ir_is_signs, false⟩
abbrev ir_is_value : Ss := TLP.ir_is_value
abbrev d_is_value : DefT := ⟨"is_value", ["value"], 1, pb 14, ir_is_value, false⟩
abbrev ir_is_name : Ss := TLP.ir_is_name
abbrev d_is_name : DefT := ⟨"is_name", ["value", "sign"], 1, pb 15, ir_is_name, false⟩
abbrev ir_are_names : Ss := TLP.ir_are_names
abbrev d_are_names : DefT := ⟨"are_names", ["value", "least", "most", "one"], 3, pb 16, ir_are_names, false⟩
abbrev ir_rank : Ss := TLP.ir_rank
abbrev d_rank : DefT := ⟨"rank", ["value"], 1, pb 17, ir_rank, false⟩
abbrev ir_is_before : Ss := TLP.ir_is_before
abbrev d_is_before : DefT := ⟨"is_before", ["one", "two"], 2, pb 18, ir_is_before, false⟩
abbrev ir_is_row : Ss := TLP.ir_is_row
abbrev d_is_row : DefT := ⟨"is_row", ["value", "many", "one"], 2, pb 22, ir_is_row, false⟩
abbrev ir_is_table : Ss := TLP.ir_is_table
abbrev d_is_table : DefT := ⟨"is_table", ["value", "row"], 1, pb 23, ir_is_table, false⟩
abbrev ir_demand_table : Ss := TLP.ir_demand_table
abbrev d_demand_table : DefT := ⟨"demand_table", ["table"], 1, pb 24, ir_demand_table, false⟩
abbrev ir_at_name : Ss := TLP.ir_at_name
abbrev d_at_name : DefT := ⟨"at_name", ["row", "names", "name"], 3, pb 25, ir_at_name, false⟩
abbrev ir__law_dice : Ss := TLP.ir__law_dice
abbrev d__law_dice : DefT := ⟨"_law_dice", ["script", "spot", "own", "mixed", "cell"], 2, pb 44, ir__law_dice, false⟩
abbrev ir__law_roll : Ss := TLP.ir__law_roll
abbrev d__law_roll : DefT := ⟨"_law_roll", ["dice", "total", "found"], 2, pb 45, ir__law_roll, false⟩
abbrev ir__law_pick : Ss := TLP.ir__law_pick
abbrev d__law_pick : DefT := ⟨"_law_pick", ["dice", "things"], 2, pb 46, ir__law_pick, false⟩
abbrev ir__law_value : Ss := TLP.ir__law_value
abbrev d__law_value : DefT := ⟨"_law_value", ["dice", "way", "turn"], 1, pb 48, ir__law_value, false⟩
abbrev ir__law_table : Ss := TLP.ir__law_table
abbrev d__law_table : DefT := ⟨"_law_table", ["dice", "columns", "rows", "names", "turn", "name"], 3, pb 49, ir__law_table, false⟩
abbrev ir__law_kind : Ss := TLP.ir__law_kind
abbrev d__law_kind : DefT := ⟨"_law_kind", ["value"], 1, pb 50, ir__law_kind, false⟩
abbrev ir__law_before : Ss := TLP.ir__law_before
abbrev d__law_before : DefT := ⟨"_law_before", ["one", "two"], 2, pb 51, ir__law_before, false⟩
def ir_is_atom : Ss :=
  (.cons (.iff (.or (.not (.val (.call 2 (.cons (.var 0) (.cons (.cst (.int 1)) (.cons (.cst (.int 3)) .nil)))))) (.cmp .nin (.idx (.var 0) (.cst (.int 0))) (.tup (.cons (.cst (.str "always")) (.cons (.cst (.str "blank")) (.cons (.cst (.str "is")) (.cons (.cst (.str "below")) (.cons (.cst (.str "begins")) .nil))))))))
   (.cons (.ret (.cst (.bl false)))
    .nil)
   .nil)
  (.cons (.iff (.cmp .ne (.blt .len (.cons (.var 0) .nil)) (.gix 0 ["always", "blank", "is", "below", "begins", "not", "both", "either"] [(.int 1), (.int 2), (.int 3), (.int 3), (.int 3), (.int 2), (.int 3), (.int 3)] (.idx (.var 0) (.cst (.int 0)))))
   (.cons (.ret (.cst (.bl false)))
    .nil)
   .nil)
  (.cons (.iff (.cmp .eq (.idx (.var 0) (.cst (.int 0))) (.cst (.str "always")))
   (.cons (.ret (.cst (.bl true)))
    .nil)
   .nil)
  (.cons (.iff (.not (.val (.call 5 (.cons (.idx (.var 0) (.cst (.int 1))) .nil))))
   (.cons (.ret (.cst (.bl false)))
    .nil)
   .nil)
  (.cons (.iff (.cmp .eq (.idx (.var 0) (.cst (.int 0))) (.cst (.str "begins")))
   (.cons (.ret (.call 3 (.cons (.idx (.var 0) (.cst (.int 2))) (.cons (.cst (.int 1)) (.cons (.gcst 2 (.int 12)) .nil)))))
    .nil)
   .nil)
  (.cons (.ret (.or (.cmp .eq (.idx (.var 0) (.cst (.int 0))) (.cst (.str "blank"))) (.call 4 (.cons (.idx (.var 0) (.cst (.int 2))) .nil))))
  .nil))))))
abbrev d_is_atom : DefT := ⟨"is_atom", ["value"], 1, pb 30, ir_is_atom, false⟩
def ir_nodes_of : Ss :=
  (.cons (.iff (.and (.val (.call 2 (.cons (.var 0) (.cons (.cst (.int 1)) (.cons (.cst (.int 3)) .nil))))) (.and (.val (.isinst (.idx (.var 0) (.cst (.int 0))) .str)) (.cmp .inn (.idx (.var 0) (.cst (.int 0))) (.tup (.cons (.cst (.str "not")) (.cons (.cst (.str "both")) (.cons (.cst (.str "either")) .nil)))))))
   (.cons (.iff (.or (.cmp .eq (.var 1) (.gcst 11 (.int 8))) (.cmp .ne (.blt .len (.cons (.var 0) .nil)) (.gix 0 ["always", "blank", "is", "below", "begins", "not", "both", "either"] [(.int 1), (.int 2), (.int 3), (.int 3), (.int 3), (.int 2), (.int 3), (.int 3)] (.idx (.var 0) (.cst (.int 0))))))
     (.cons (.ret (.bin .add (.gcst 10 (.int 40)) (.cst (.int 1))))
      .nil)
     .nil)
    (.cons (.ret (.bin .add (.cst (.int 1)) (.agg .sum (.lc [2] (.name 2) (.seq (.slc (.var 0) (.some (.cst (.int 1))) .no)) .tt (.call 30 (.cons (.var 2) (.cons (.bin .add (.var 1) (.cst (.int 1))) .nil)))))))
    .nil))
   .nil)
  (.cons (.iff (.and (.val (.call 2 (.cons (.var 0) (.cons (.cst (.int 1)) (.cons (.cst (.int 3)) .nil))))) (.and (.val (.isinst (.idx (.var 0) (.cst (.int 0))) .str)) (.val (.call 29 (.cons (.var 0) .nil)))))
   (.cons (.ret (.cst (.int 1)))
    .nil)
   .nil)
  (.cons (.ret (.bin .add (.gcst 10 (.int 40)) (.cst (.int 1))))
  .nil)))
abbrev d_nodes_of : DefT := ⟨"nodes_of", ["value", "deep", "part"], 2, pb 31, ir_nodes_of, false⟩
def ir_is_condition : Ss :=
  (.cons (.ret (.cmp .le (.call 30 (.cons (.var 0) (.cons (.cst (.int 1)) .nil))) (.gcst 10 (.int 40))))
  .nil)
abbrev d_is_condition : DefT := ⟨"is_condition", ["value"], 1, pb 32, ir_is_condition, false⟩
def ir_atoms_of : Ss :=
  (.cons (.iff (.cmp .inn (.idx (.var 0) (.cst (.int 0))) (.tup (.cons (.cst (.str "not")) (.cons (.cst (.str "both")) (.cons (.cst (.str "either")) .nil)))))
   (.cons (.set 1 (.lstV .nil))
    (.cons (.for (.name 2) (.seq (.slc (.var 0) (.some (.cst (.int 1))) .no))
     (.cons (.set 1 (.catV (.var 1) (.call 32 (.cons (.var 2) .nil))))
      .nil))
    (.cons (.ret (.var 1))
    .nil)))
   .nil)
  (.cons (.ret (.lstV (.cons (.var 0) .nil)))
  .nil))
abbrev d_atoms_of : DefT := ⟨"atoms_of", ["condition", "found", "part"], 1, pb 33, ir_atoms_of, false⟩
def ir_used_names : Ss :=
  (.cons (.set 1 (.lst .nil))
  (.cons (.for (.name 2) (.seq (.call 32 (.cons (.var 0) .nil)))
   (.cons (.iff (.and (.cmp .ne (.idx (.var 2) (.cst (.int 0))) (.cst (.str "always"))) (.cmp .nin (.idx (.var 2) (.cst (.int 1))) (.var 1)))
     (.cons (.expr (.mth .append (.var 1) (.cons (.idx (.var 2) (.cst (.int 1))) .nil)))
      .nil)
     .nil)
    .nil))
  (.cons (.ret (.frz 1))
  .nil)))
abbrev d_used_names : DefT := ⟨"used_names", ["condition", "found", "atom"], 1, pb 34, ir_used_names, false⟩
def ir_is_condition_of : Ss :=
  (.cons (.ret (.and (.call 31 (.cons (.var 0) .nil)) (.agg .all (.lc [2] (.name 2) (.seq (.call 33 (.cons (.var 0) .nil))) .tt (.cmp .inn (.var 2) (.var 1))))))
  .nil)
abbrev d_is_condition_of : DefT := ⟨"is_condition_of", ["value", "names", "name"], 2, pb 35, ir_is_condition_of, false⟩
def ir_atom_holds : Ss :=
  (.cons (.iff (.cmp .eq (.idx (.var 0) (.cst (.int 0))) (.cst (.str "blank")))
   (.cons (.ret (.cmp .isN (.var 1) (.cst .non)))
    .nil)
   .nil)
  (.cons (.iff (.cmp .eq (.idx (.var 0) (.cst (.int 0))) (.cst (.str "is")))
   (.cons (.ret (.cmp .eq (.var 1) (.idx (.var 0) (.cst (.int 2)))))
    .nil)
   .nil)
  (.cons (.iff (.cmp .eq (.idx (.var 0) (.cst (.int 0))) (.cst (.str "below")))
   (.cons (.ret (.call 9 (.cons (.var 1) (.cons (.idx (.var 0) (.cst (.int 2))) .nil))))
    .nil)
   .nil)
  (.cons (.ret (.and (.isinst (.var 1) .str) (.mth .sw (.var 1) (.cons (.idx (.var 0) (.cst (.int 2))) .nil))))
  .nil))))
abbrev d_atom_holds : DefT := ⟨"atom_holds", ["atom", "value"], 2, pb 36, ir_atom_holds, false⟩
def ir_holds_for : Ss :=
  (.cons (.set 3 (.idx (.var 0) (.cst (.int 0))))
  (.cons (.iff (.cmp .eq (.var 3) (.cst (.str "always")))
   (.cons (.ret (.cst (.bl true)))
    .nil)
   .nil)
  (.cons (.iff (.cmp .eq (.var 3) (.cst (.str "not")))
   (.cons (.ret (.not (.call 36 (.cons (.idx (.var 0) (.cst (.int 1))) (.cons (.var 1) (.cons (.var 2) .nil))))))
    .nil)
   .nil)
  (.cons (.iff (.cmp .eq (.var 3) (.cst (.str "both")))
   (.cons (.ret (.and (.call 36 (.cons (.idx (.var 0) (.cst (.int 1))) (.cons (.var 1) (.cons (.var 2) .nil)))) (.call 36 (.cons (.idx (.var 0) (.cst (.int 2))) (.cons (.var 1) (.cons (.var 2) .nil))))))
    .nil)
   .nil)
  (.cons (.iff (.cmp .eq (.var 3) (.cst (.str "either")))
   (.cons (.ret (.or (.call 36 (.cons (.idx (.var 0) (.cst (.int 1))) (.cons (.var 1) (.cons (.var 2) .nil)))) (.call 36 (.cons (.idx (.var 0) (.cst (.int 2))) (.cons (.var 1) (.cons (.var 2) .nil))))))
    .nil)
   .nil)
  (.cons (.ret (.call 35 (.cons (.var 0) (.cons (.call 13 (.cons (.var 2) (.cons (.var 1) (.cons (.idx (.var 0) (.cst (.int 1))) .nil)))) .nil))))
  .nil))))))
abbrev d_holds_for : DefT := ⟨"holds_for", ["condition", "names", "row", "word"], 3, pb 37, ir_holds_for, false⟩
def ir_holds : Ss :=
  (.cons (.expr (.call 0 (.cons (.call 31 (.cons (.var 0) .nil)) (.cons (.cst (.str "condition")) .nil))))
  (.cons (.expr (.call 0 (.cons (.and (.call 6 (.cons (.var 1) (.cons (.cst (.int 1)) (.cons (.gcst 8 (.int 8)) .nil)))) (.call 34 (.cons (.var 0) (.cons (.var 1) .nil)))) (.cons (.cst (.str "names")) .nil))))
  (.cons (.expr (.call 0 (.cons (.call 10 (.cons (.var 2) (.cons (.blt .len (.cons (.var 1) .nil)) .nil))) (.cons (.cst (.str "row")) .nil))))
  (.cons (.ret (.call 36 (.cons (.var 0) (.cons (.var 1) (.cons (.var 2) .nil)))))
  .nil))))
abbrev d_holds : DefT := ⟨"holds", ["condition", "names", "row"], 3, pb 38, ir_holds, false⟩
def ir_kept_places : Ss :=
  (.cons (.ret (.lc [2, 3] (.two 2 3) (.enum (.idx (.var 0) (.cst (.int 1)))) (.val (.call 36 (.cons (.var 1) (.cons (.idx (.var 0) (.cst (.int 0))) (.cons (.var 3) .nil))))) (.var 2)))
  .nil)
abbrev d_kept_places : DefT := ⟨"kept_places", ["table", "condition", "place", "row"], 2, pb 39, ir_kept_places, false⟩
def ir_kept : Ss :=
  (.cons (.expr (.call 12 (.cons (.var 0) .nil)))
  (.cons (.expr (.call 0 (.cons (.call 34 (.cons (.var 1) (.cons (.idx (.var 0) (.cst (.int 0))) .nil))) (.cons (.cst (.str "condition")) .nil))))
  (.cons (.ret (.tup (.cons (.idx (.var 0) (.cst (.int 0))) (.cons (.agg .tuple (.lc [2] (.name 2) (.seq (.call 38 (.cons (.var 0) (.cons (.var 1) .nil)))) .tt (.idx (.idx (.var 0) (.cst (.int 1))) (.var 2)))) .nil))))
  .nil)))
abbrev d_kept : DefT := ⟨"kept", ["table", "condition", "place"], 2, pb 40, ir_kept, false⟩
def ir_pushed : Ss :=
  (.cons (.set 2 (.idx (.var 0) (.cst (.int 0))))
  (.cons (.iff (.cmp .eq (.var 2) (.cst (.str "not")))
   (.cons (.ret (.call 40 (.cons (.idx (.var 0) (.cst (.int 1))) (.cons (.not (.var 1)) .nil))))
    .nil)
   .nil)
  (.cons (.iff (.cmp .inn (.var 2) (.tup (.cons (.cst (.str "both")) (.cons (.cst (.str "either")) .nil))))
   (.cons (.set 3 (.dsel ["both", "either"] [(.str "either"), (.str "both")] (.var 2)))
    (.cons (.ret (.tup (.cons (.ite (.val (.var 1)) (.var 3) (.var 2)) (.cons (.call 40 (.cons (.idx (.var 0) (.cst (.int 1))) (.cons (.var 1) .nil))) (.cons (.call 40 (.cons (.idx (.var 0) (.cst (.int 2))) (.cons (.var 1) .nil))) .nil)))))
    .nil))
   .nil)
  (.cons (.ret (.ite (.val (.var 1)) (.tup (.cons (.cst (.str "not")) (.cons (.var 0) .nil))) (.var 0)))
  .nil))))
abbrev d_pushed : DefT := ⟨"pushed", ["condition", "is_turned", "word", "other"], 2, pb 41, ir_pushed, false⟩
def ir_plain : Ss :=
  (.cons (.expr (.call 0 (.cons (.call 31 (.cons (.var 0) .nil)) (.cons (.cst (.str "condition")) .nil))))
  (.cons (.ret (.call 40 (.cons (.var 0) (.cons (.cst (.bl false)) .nil))))
  .nil))
abbrev d_plain : DefT := ⟨"plain", ["condition"], 1, pb 42, ir_plain, false⟩
def ir__law_condition : Ss :=
  (.cons (.set 3 (.call 20 (.cons (.var 0) (.cons (.cst (.int 9)) .nil))))
  (.cons (.iff (.and (.cmp .gt (.var 2) (.cst (.int 1))) (.cmp .lt (.var 3) (.cst (.int 5))))
   (.cons (.iff (.cmp .eq (.var 3) (.cst (.int 0)))
     (.cons (.ret (.tup (.cons (.cst (.str "not")) (.cons (.call 42 (.cons (.var 0) (.cons (.var 1) (.cons (.bin .sub (.var 2) (.cst (.int 1))) .nil)))) .nil))))
      .nil)
     .nil)
    (.cons (.ret (.tup (.cons (.call 21 (.cons (.var 0) (.cons (.lstV (.cons (.cst (.str "both")) (.cons (.cst (.str "either")) .nil))) .nil))) (.cons (.call 42 (.cons (.var 0) (.cons (.var 1) (.cons (.bin .sub (.var 2) (.cst (.int 1))) .nil)))) (.cons (.call 42 (.cons (.var 0) (.cons (.var 1) (.cons (.ite (.cmp .gt (.var 2) (.cst (.int 2))) (.bin .sub (.var 2) (.cst (.int 2))) (.cst (.int 1))) .nil)))) .nil)))))
    .nil))
   .nil)
  (.cons (.set 4 (.call 21 (.cons (.var 0) (.cons (.var 1) .nil))))
  (.cons (.iff (.cmp .eq (.var 3) (.cst (.int 5)))
   (.cons (.ret (.call 21 (.cons (.var 0) (.cons (.lstV (.cons (.tup (.cons (.cst (.str "always")) .nil)) (.cons (.tup (.cons (.cst (.str "blank")) (.cons (.var 4) .nil))) .nil))) .nil))))
    .nil)
   .nil)
  (.cons (.iff (.cmp .eq (.var 3) (.cst (.int 6)))
   (.cons (.ret (.tup (.cons (.cst (.str "begins")) (.cons (.var 4) (.cons (.call 21 (.cons (.var 0) (.cons (.lstV (.cons (.cst (.str "a")) (.cons (.cst (.str "ab")) (.cons (.cst (.str "n")) (.cons (.cst (.str "c ")) (.cons (.cst (.str "north")) (.cons (.cst (.str "~")) (.cons (.cst (.str "zz")) .nil)))))))) .nil))) .nil)))))
    .nil)
   .nil)
  (.cons (.ret (.tup (.cons (.call 21 (.cons (.var 0) (.cons (.lstV (.cons (.cst (.str "is")) (.cons (.cst (.str "below")) .nil))) .nil))) (.cons (.var 4) (.cons (.call 22 (.cons (.var 0) .nil)) .nil)))))
  .nil))))))
abbrev d__law_condition : DefT := ⟨"_law_condition", ["dice", "names", "deep", "way", "name"], 3, pb 55, ir__law_condition, false⟩
def ir__law_holds : Ss :=
  (.cons (.set 3 (.idx (.var 0) (.cst (.int 0))))
  (.cons (.iff (.cmp .eq (.var 3) (.cst (.str "always")))
   (.cons (.ret (.cst (.bl true)))
    .nil)
   .nil)
  (.cons (.iff (.cmp .eq (.var 3) (.cst (.str "not")))
   (.cons (.ret (.not (.call 43 (.cons (.idx (.var 0) (.cst (.int 1))) (.cons (.var 1) (.cons (.var 2) .nil))))))
    .nil)
   .nil)
  (.cons (.iff (.cmp .inn (.var 3) (.tup (.cons (.cst (.str "both")) (.cons (.cst (.str "either")) .nil))))
   (.cons (.set 5 (.lc [6] (.name 6) (.seq (.slc (.var 0) (.some (.cst (.int 1))) .no)) .tt (.call 43 (.cons (.var 6) (.cons (.var 1) (.cons (.var 2) .nil))))))
    (.cons (.ret (.ite (.cmp .eq (.var 3) (.cst (.str "both"))) (.cmp .nin (.cst (.bl false)) (.var 5)) (.cmp .inn (.cst (.bl true)) (.var 5))))
    .nil))
   .nil)
  (.cons (.set 4 (.idx (.var 2) (.mth .indexT (.var 1) (.cons (.idx (.var 0) (.cst (.int 1))) .nil))))
  (.cons (.iff (.cmp .eq (.var 3) (.cst (.str "blank")))
   (.cons (.ret (.cmp .isN (.var 4) (.cst .non)))
    .nil)
   .nil)
  (.cons (.iff (.cmp .eq (.var 3) (.cst (.str "begins")))
   (.cons (.ret (.and (.isinst (.var 4) .str) (.cmp .eq (.slc (.var 4) .no (.some (.blt .len (.cons (.idx (.var 0) (.cst (.int 2))) .nil)))) (.idx (.var 0) (.cst (.int 2))))))
    .nil)
   .nil)
  (.cons (.iff (.cmp .eq (.var 3) (.cst (.str "is")))
   (.cons (.ret (.and (.cmp .eq (.call 24 (.cons (.var 4) .nil)) (.call 24 (.cons (.idx (.var 0) (.cst (.int 2))) .nil))) (.cmp .eq (.var 4) (.idx (.var 0) (.cst (.int 2))))))
    .nil)
   .nil)
  (.cons (.ret (.call 25 (.cons (.var 4) (.cons (.idx (.var 0) (.cst (.int 2))) .nil))))
  .nil)))))))))
abbrev d__law_holds : DefT := ⟨"_law_holds", ["condition", "names", "row", "word", "value", "sides", "part"], 3, pb 56, ir__law_holds, false⟩
def ir__law_atoms : Ss :=
  (.cons (.iff (.cmp .inn (.idx (.var 0) (.cst (.int 0))) (.tup (.cons (.cst (.str "not")) (.cons (.cst (.str "both")) (.cons (.cst (.str "either")) .nil)))))
   (.cons (.set 1 (.lstV .nil))
    (.cons (.for (.name 2) (.seq (.slc (.var 0) (.some (.cst (.int 1))) .no))
     (.cons (.set 1 (.catV (.var 1) (.call 44 (.cons (.var 2) .nil))))
      .nil))
    (.cons (.ret (.var 1))
    .nil)))
   .nil)
  (.cons (.ret (.lstV (.cons (.var 0) .nil)))
  .nil))
abbrev d__law_atoms : DefT := ⟨"_law_atoms", ["condition", "found", "part"], 1, pb 57, ir__law_atoms, false⟩
def ir__law_nodes : Ss :=
  (.cons (.iff (.cmp .inn (.idx (.var 0) (.cst (.int 0))) (.tup (.cons (.cst (.str "not")) (.cons (.cst (.str "both")) (.cons (.cst (.str "either")) .nil)))))
   (.cons (.ret (.bin .add (.cst (.int 1)) (.agg .sum (.lc [1] (.name 1) (.seq (.slc (.var 0) (.some (.cst (.int 1))) .no)) .tt (.call 45 (.cons (.var 1) .nil))))))
    .nil)
   .nil)
  (.cons (.ret (.cst (.int 1)))
  .nil))
abbrev d__law_nodes : DefT := ⟨"_law_nodes", ["condition", "part"], 1, pb 58, ir__law_nodes, false⟩
def ir__law_is_plain : Ss :=
  (.cons (.iff (.cmp .eq (.idx (.var 0) (.cst (.int 0))) (.cst (.str "not")))
   (.cons (.ret (.cmp .nin (.idx (.idx (.var 0) (.cst (.int 1))) (.cst (.int 0))) (.tup (.cons (.cst (.str "not")) (.cons (.cst (.str "both")) (.cons (.cst (.str "either")) .nil))))))
    .nil)
   .nil)
  (.cons (.iff (.cmp .inn (.idx (.var 0) (.cst (.int 0))) (.tup (.cons (.cst (.str "both")) (.cons (.cst (.str "either")) .nil))))
   (.cons (.ret (.agg .all (.lc [1] (.name 1) (.seq (.slc (.var 0) (.some (.cst (.int 1))) .no)) .tt (.call 46 (.cons (.var 1) .nil)))))
    .nil)
   .nil)
  (.cons (.ret (.cst (.bl true)))
  .nil)))
abbrev d__law_is_plain : DefT := ⟨"_law_is_plain", ["condition", "part"], 1, pb 59, ir__law_is_plain, false⟩
def ir__law_pushed : Ss :=
  (.cons (.iff (.cmp .eq (.idx (.var 0) (.cst (.int 0))) (.cst (.str "not")))
   (.cons (.ret (.call 47 (.cons (.idx (.var 0) (.cst (.int 1))) (.cons (.not (.var 1)) .nil))))
    .nil)
   .nil)
  (.cons (.iff (.cmp .inn (.idx (.var 0) (.cst (.int 0))) (.tup (.cons (.cst (.str "both")) (.cons (.cst (.str "either")) .nil))))
   (.cons (.set 2 (.idx (.var 0) (.cst (.int 0))))
    (.cons (.iff (.val (.var 1))
     (.cons (.set 2 (.ite (.cmp .eq (.var 2) (.cst (.str "both"))) (.cst (.str "either")) (.cst (.str "both"))))
      .nil)
     .nil)
    (.cons (.ret (.tup (.cons (.var 2) (.cons (.call 47 (.cons (.idx (.var 0) (.cst (.int 1))) (.cons (.var 1) .nil))) (.cons (.call 47 (.cons (.idx (.var 0) (.cst (.int 2))) (.cons (.var 1) .nil))) .nil)))))
    .nil)))
   .nil)
  (.cons (.ret (.ite (.val (.var 1)) (.tup (.cons (.cst (.str "not")) (.cons (.var 0) .nil))) (.var 0)))
  .nil)))
abbrev d__law_pushed : DefT := ⟨"_law_pushed", ["condition", "turned", "word"], 2, pb 60, ir__law_pushed, false⟩
def ir_law : Ss :=
  (.cons (.for (.name 1) (.range (.blt .max2 (.cons (.cst (.int 1)) (.cons (.blt .min2 (.cons (.cst (.int 5)) (.cons (.blt .len (.cons (.var 0) .nil)) .nil))) .nil))))
   (.cons (.set 2 (.call 19 (.cons (.var 0) (.cons (.var 1) .nil))))
    (.cons (.set 3 (.call 23 (.cons (.var 2) (.cons (.bin .add (.cst (.int 1)) (.call 20 (.cons (.var 2) (.cons (.cst (.int 4)) .nil)))) (.cons (.call 20 (.cons (.var 2) (.cons (.cst (.int 13)) .nil))) .nil)))))
    (.cons (.set 4 (.idx (.var 3) (.cst (.int 0))))
    (.cons (.set 5 (.call 42 (.cons (.var 2) (.cons (.var 4) (.cons (.bin .add (.cst (.int 1)) (.call 20 (.cons (.var 2) (.cons (.cst (.int 6)) .nil)))) .nil)))))
    (.cons (.iff (.cmp .gt (.call 45 (.cons (.var 5) .nil)) (.cst (.int 40)))
     (.cons (.set 5 (.tup (.cons (.cst (.str "is")) (.cons (.idx (.var 4) (.cst (.int 0))) (.cons (.cst .non) .nil)))))
      .nil)
     .nil)
    (.cons (.set 6 (.lc [8] (.name 8) (.seq (.idx (.var 3) (.cst (.int 1)))) (.val (.call 43 (.cons (.var 5) (.cons (.var 4) (.cons (.var 8) .nil))))) (.var 8)))
    (.cons (.set 7 (.call 41 (.cons (.var 5) .nil)))
    (.cons (.iff (.or (.cmp .ne (.callK 39 .nil (.cons (.var 5) (.cons (.var 3) .nil)) [1, 0]) (.tup (.cons (.var 4) (.cons (.agg .tuple (.var 6)) .nil)))) (.cmp .ne (.call 39 (.cons (.var 3) (.cons (.var 7) .nil))) (.tup (.cons (.var 4) (.cons (.agg .tuple (.var 6)) .nil)))))
     (.cons (.ret (.cst (.bl false)))
      .nil)
     .nil)
    (.cons (.iff (.or (.not (.val (.call 46 (.cons (.var 7) .nil)))) (.or (.cmp .ne (.call 44 (.cons (.var 7) .nil)) (.call 44 (.cons (.var 5) .nil))) (.or (.cmp .ne (.var 7) (.call 47 (.cons (.var 5) (.cons (.cst (.bl false)) .nil)))) (.cmp .ne (.call 41 (.cons (.var 7) .nil)) (.var 7)))))
     (.cons (.ret (.cst (.bl false)))
      .nil)
     .nil)
    (.cons (.for (.name 8) (.seq (.idx (.var 3) (.cst (.int 1))))
     (.cons (.iff (.or (.cmp .ne (.call 37 (.cons (.var 5) (.cons (.var 4) (.cons (.var 8) .nil)))) (.call 43 (.cons (.var 5) (.cons (.var 4) (.cons (.var 8) .nil))))) (.cmp .eq (.callK 37 .nil (.cons (.var 4) (.cons (.var 8) (.cons (.tup (.cons (.cst (.str "not")) (.cons (.var 5) .nil))) .nil))) [2, 0, 1]) (.call 43 (.cons (.var 5) (.cons (.var 4) (.cons (.var 8) .nil))))))
       (.cons (.ret (.cst (.bl false)))
        .nil)
       .nil)
      .nil))
    (.cons (.set 9 (.tup (.cons (.cst (.str "always")) .nil)))
    (.cons (.for (.name 10) (.range (.cst (.int 7)))
     (.cons (.set 9 (.tup (.cons (.cst (.str "not")) (.cons (.var 9) .nil))))
      .nil))
    (.cons (.set 11 (.tup (.cons (.cst (.str "always")) .nil)))
    (.cons (.for (.name 10) (.range (.cst (.int 5)))
     (.cons (.set 11 (.tup (.cons (.cst (.str "both")) (.cons (.var 11) (.cons (.var 11) .nil)))))
      .nil))
    (.cons (.set 12 (.call 21 (.cons (.var 2) (.cons (.lstV (.cons (.cst .non) (.cons (.tup .nil) (.cons (.tup (.cons (.cst (.str "always")) (.cons (.cst (.int 1)) .nil))) (.cons (.tup (.cons (.cst (.str "is")) (.cons (.cst (.str "x")) .nil))) (.cons (.tup (.cons (.cst (.str "below")) (.cons (.cst (.str "x")) (.cons (.cst (.bl true)) .nil)))) (.cons (.tup (.cons (.cst (.str "begins")) (.cons (.cst (.str "x")) (.cons (.cst (.str "")) .nil)))) (.cons (.tup (.cons (.cst (.str "nor")) (.cons (.cst (.str "x")) .nil))) (.cons (.lstV (.cons (.cst (.str "always")) .nil)) (.cons (.tup (.cons (.cst (.str "not")) (.cons (.var 9) .nil))) (.cons (.var 11) (.cons (.tup (.cons (.cst (.str "either")) (.cons (.tup (.cons (.cst (.str "always")) .nil)) .nil))) .nil)))))))))))) .nil))))
    (.cons (.set 13 (.lstV (.cons (.hof 0 (.call 41 (.cons (.var 12) .nil)) "") (.cons (.hof 0 (.call 39 (.cons (.cst .non) (.cons (.var 5) .nil))) "") (.cons (.hof 0 (.call 39 (.cons (.var 3) (.cons (.tup (.cons (.cst (.str "blank")) (.cons (.cst (.str "nobody")) .nil))) .nil))) "") (.cons (.ite (.cmp .gt (.blt .len (.cons (.lc [14] (.name 14) (.seq (.call 44 (.cons (.var 5) .nil))) (.cmp .ne (.idx (.var 14) (.cst (.int 0))) (.cst (.str "always"))) (.cst (.int 1))) .nil)) (.cst (.int 0))) (.hof 0 (.call 37 (.cons (.var 5) (.cons (.tup (.cons (.cst (.str "nobody")) .nil)) (.cons (.tup (.cons (.cst (.int 1)) .nil)) .nil)))) "") (.cst (.str "names"))) (.cons (.hof 0 (.call 37 (.cons (.tup (.cons (.cst (.str "always")) .nil)) (.cons (.var 4) (.cons (.bin .add (.var 4) (.tup (.cons (.cst .non) .nil))) .nil)))) "") .nil)))))))
    (.cons (.iff (.or (.cmp .ne (.var 13) (.lstV (.cons (.cst (.str "condition")) (.cons (.cst (.str "table")) (.cons (.cst (.str "condition")) (.cons (.cst (.str "names")) (.cons (.cst (.str "row")) .nil))))))) (.cmp .notN (.call 37 (.cons (.var 9) (.cons (.tup (.cons (.cst (.str "q")) .nil)) (.cons (.tup (.cons (.cst .non) .nil)) .nil)))) (.cst (.bl false))))
     (.cons (.ret (.cst (.bl false)))
      .nil)
     .nil)
    .nil))))))))))))))))))
  (.cons (.ret (.cmp .eq (.call 41 (.cons (.tup (.cons (.cst (.str "not")) (.cons (.tup (.cons (.cst (.str "both")) (.cons (.tup (.cons (.cst (.str "always")) .nil)) (.cons (.tup (.cons (.cst (.str "not")) (.cons (.tup (.cons (.cst (.str "blank")) (.cons (.cst (.str "x")) .nil))) .nil))) .nil)))) .nil))) .nil)) (.tup (.cons (.cst (.str "either")) (.cons (.tup (.cons (.cst (.str "not")) (.cons (.tup (.cons (.cst (.str "always")) .nil)) .nil))) (.cons (.tup (.cons (.cst (.str "blank")) (.cons (.cst (.str "x")) .nil))) .nil))))))
  .nil))
abbrev d_law : DefT := ⟨"law", ["script", "spot", "dice", "table", "names", "condition", "due", "flat", "row", "deep", "turn", "wide", "bad", "told", "atom"], 1, pb 61, ir_law, true⟩
def ds : List DefT := [d_demand, d_is_in, d_is_tuple, d_is_signs, d_is_value, d_is_name, d_are_names, d_rank, d_demand, d_is_before, d_is_row, d_is_table, d_demand_table, d_at_name, d_demand, d_demand, d_demand, d_demand, d_demand, d__law_dice, d__law_roll, d__law_pick, d__law_value, d__law_table, d__law_kind, d__law_before, d_demand, d_demand, d_demand, d_is_atom, d_nodes_of, d_is_condition, d_atoms_of, d_used_names, d_is_condition_of, d_atom_holds, d_holds_for, d_holds, d_kept_places, d_kept, d_pushed, d_plain, d__law_condition, d__law_holds, d__law_atoms, d__law_nodes, d__law_is_plain, d__law_pushed, d_law]
def gs : Gs := {
  fns := ds.map fun d => (d.nm, d.ps)
  glb := [("LEAST", (.int (-1000000))), ("MOST", (.int 1000000)), ("MOST_SIGNS", (.int 12)), ("MOST_NAME", (.int 10)), ("LEAST", (.int (-1000000))), ("LEAST", (.int (-1000000))), ("LETTERS", (.str "abcdefghijklmnopqrstuvwxyz")), ("SIGNS", (.str " !\"#$&'()*+,-./0123456789:;<=>?@ABCDEFGHIJKLMNOPQRSTUVWXYZ[\\]^_`abcdefghijklmnopqrstuvwxyz{|}~")), ("MOST_COLUMNS", (.int 8)), ("MOST_ROWS", (.int 200)), ("MOST_NODES", (.int 40)), ("MOST_DEEP", (.int 8))]
  exn := ["BadArgument"]
  kws := [⟨37, 0, ["names", "row", "condition"], [2, 0, 1]⟩, ⟨39, 0, ["condition", "table"], [1, 0]⟩]
  hofs := [⟨"_law_refused", 0, ""⟩]
  blt := ["abs", "all", "bool", "enumerate", "int", "isinstance", "len", "max", "min", "range", "set", "str", "sum", "tuple"]
  dcs := [("SIZES", ["always", "blank", "is", "below", "begins", "not", "both", "either"], [(.int 1), (.int 2), (.int 3), (.int 3), (.int 3), (.int 2), (.int 3), (.int 3)])] }
def row : TL.Row := { ds := ds, gs := gs, exs := [("BadArgument", "name")], hs := [⟨⟨"_law_refused", 0, ""⟩, ⟨"_law_refused", ["call", "e"], 1, pb 47, .nil, false⟩, "call", "e", "BadArgument", "name"⟩], tf := ["law"], dcs := [("SIZES", ["always", "blank", "is", "below", "begins", "not", "both", "either"], [(.int 1), (.int 2), (.int 3), (.int 3), (.int 3), (.int 2), (.int 3), (.int 3)])] }
theorem ck_demand : d_demand.ok gs = true := by decide +kernel
theorem ck_is_in : d_is_in.ok gs = true := by decide +kernel
theorem ck_is_tuple : d_is_tuple.ok gs = true := by decide +kernel
theorem ck_is_signs : d_is_signs.ok gs = true := by decide +kernel
theorem ck_is_value : d_is_value.ok gs = true := by decide +kernel
theorem ck_is_name : d_is_name.ok gs = true := by decide +kernel
theorem ck_are_names : d_are_names.ok gs = true := by decide +kernel
theorem ck_rank : d_rank.ok gs = true := by decide +kernel
theorem ck_is_before : d_is_before.ok gs = true := by decide +kernel
theorem ck_is_row : d_is_row.ok gs = true := by decide +kernel
theorem ck_is_table : d_is_table.ok gs = true := by decide +kernel
theorem ck_demand_table : d_demand_table.ok gs = true := by decide +kernel
theorem ck_at_name : d_at_name.ok gs = true := by decide +kernel
theorem ck__law_dice : d__law_dice.ok gs = true := by decide +kernel
theorem ck__law_roll : d__law_roll.ok gs = true := by decide +kernel
theorem ck__law_pick : d__law_pick.ok gs = true := by decide +kernel
theorem ck__law_value : d__law_value.ok gs = true := by decide +kernel
theorem ck__law_table : d__law_table.ok gs = true := by decide +kernel
theorem ck__law_kind : d__law_kind.ok gs = true := by decide +kernel
theorem ck__law_before : d__law_before.ok gs = true := by decide +kernel
theorem ck_is_atom : d_is_atom.ok gs = true := by decide +kernel
theorem ck_nodes_of : d_nodes_of.ok gs = true := by decide +kernel
theorem ck_is_condition : d_is_condition.ok gs = true := by decide +kernel
theorem ck_atoms_of : d_atoms_of.ok gs = true := by decide +kernel
theorem ck_used_names : d_used_names.ok gs = true := by decide +kernel
theorem ck_is_condition_of : d_is_condition_of.ok gs = true := by decide +kernel
theorem ck_atom_holds : d_atom_holds.ok gs = true := by decide +kernel
theorem ck_holds_for : d_holds_for.ok gs = true := by decide +kernel
theorem ck_holds : d_holds.ok gs = true := by decide +kernel
theorem ck_kept_places : d_kept_places.ok gs = true := by decide +kernel
theorem ck_kept : d_kept.ok gs = true := by decide +kernel
theorem ck_pushed : d_pushed.ok gs = true := by decide +kernel
theorem ck_plain : d_plain.ok gs = true := by decide +kernel
theorem ck__law_condition : d__law_condition.ok gs = true := by decide +kernel
theorem ck__law_holds : d__law_holds.ok gs = true := by decide +kernel
theorem ck__law_atoms : d__law_atoms.ok gs = true := by decide +kernel
theorem ck__law_nodes : d__law_nodes.ok gs = true := by decide +kernel
theorem ck__law_is_plain : d__law_is_plain.ok gs = true := by decide +kernel
theorem ck__law_pushed : d__law_pushed.ok gs = true := by decide +kernel
theorem ck_law : d_law.ok gs = true := by decide +kernel
theorem row_bd : ∀ d ∈ row.all, ∀ (K : PySem.W.Frag) (f : Addr) (fd : FuncData), FunD K d.nm d.nm (defArgs d.st) (defBody d.st) (defScope d.st) [] [] f fd → Binds K fd d.ps [] := by
  intro d hd K f fd F
  have hd : d ∈ ds ++ row.hs.map (·.d) := hd
  simp only [ds, row, List.map_cons, List.map_nil, List.cons_append, List.nil_append, List.mem_cons, List.not_mem_nil, or_false] at hd
  rcases hd with rfl | rfl | rfl | rfl | rfl | rfl | rfl | rfl | rfl | rfl | rfl | rfl | rfl | rfl | rfl | rfl | rfl | rfl | rfl | rfl | rfl | rfl | rfl | rfl | rfl | rfl | rfl | rfl | rfl | rfl | rfl | rfl | rfl | rfl | rfl | rfl | rfl | rfl | rfl | rfl | rfl | rfl | rfl | rfl | rfl | rfl | rfl | rfl | rfl | rfl
  · exact F.bindsN fun _ _ _ _ _ _ us hl => match us, hl with | [_, _], _ => rfl
  · exact F.bindsN fun _ _ _ _ _ _ us hl => match us, hl with | [_, _, _], _ => rfl
  · exact F.bindsN fun _ _ _ _ _ _ us hl => match us, hl with | [_, _, _], _ => rfl
  · exact F.bindsN fun _ _ _ _ _ _ us hl => match us, hl with | [_, _, _], _ => rfl
  · exact F.bindsN fun _ _ _ _ _ _ us hl => match us, hl with | [_], _ => rfl
  · exact F.bindsN fun _ _ _ _ _ _ us hl => match us, hl with | [_], _ => rfl
  · exact F.bindsN fun _ _ _ _ _ _ us hl => match us, hl with | [_, _, _], _ => rfl
  · exact F.bindsN fun _ _ _ _ _ _ us hl => match us, hl with | [_], _ => rfl
  · exact F.bindsN fun _ _ _ _ _ _ us hl => match us, hl with | [_, _], _ => rfl
  · exact F.bindsN fun _ _ _ _ _ _ us hl => match us, hl with | [_, _], _ => rfl
  · exact F.bindsN fun _ _ _ _ _ _ us hl => match us, hl with | [_, _], _ => rfl
  · exact F.bindsN fun _ _ _ _ _ _ us hl => match us, hl with | [_], _ => rfl
  · exact F.bindsN fun _ _ _ _ _ _ us hl => match us, hl with | [_], _ => rfl
  · exact F.bindsN fun _ _ _ _ _ _ us hl => match us, hl with | [_, _, _], _ => rfl
  · exact F.bindsN fun _ _ _ _ _ _ us hl => match us, hl with | [_, _], _ => rfl
  · exact F.bindsN fun _ _ _ _ _ _ us hl => match us, hl with | [_, _], _ => rfl
  · exact F.bindsN fun _ _ _ _ _ _ us hl => match us, hl with | [_, _], _ => rfl
  · exact F.bindsN fun _ _ _ _ _ _ us hl => match us, hl with | [_, _], _ => rfl
  · exact F.bindsN fun _ _ _ _ _ _ us hl => match us, hl with | [_, _], _ => rfl
  · exact F.bindsN fun _ _ _ _ _ _ us hl => match us, hl with | [_, _], _ => rfl
  · exact F.bindsN fun _ _ _ _ _ _ us hl => match us, hl with | [_, _], _ => rfl
  · exact F.bindsN fun _ _ _ _ _ _ us hl => match us, hl with | [_, _], _ => rfl
  · exact F.bindsN fun _ _ _ _ _ _ us hl => match us, hl with | [_], _ => rfl
  · exact F.bindsN fun _ _ _ _ _ _ us hl => match us, hl with | [_, _, _], _ => rfl
  · exact F.bindsN fun _ _ _ _ _ _ us hl => match us, hl with | [_], _ => rfl
  · exact F.bindsN fun _ _ _ _ _ _ us hl => match us, hl with | [_, _], _ => rfl
  · exact F.bindsN fun _ _ _ _ _ _ us hl => match us, hl with | [_, _], _ => rfl
  · exact F.bindsN fun _ _ _ _ _ _ us hl => match us, hl with | [_, _], _ => rfl
  · exact F.bindsN fun _ _ _ _ _ _ us hl => match us, hl with | [_, _], _ => rfl
  · exact F.bindsN fun _ _ _ _ _ _ us hl => match us, hl with | [_], _ => rfl
  · exact F.bindsN fun _ _ _ _ _ _ us hl => match us, hl with | [_, _], _ => rfl
  · exact F.bindsN fun _ _ _ _ _ _ us hl => match us, hl with | [_], _ => rfl
  · exact F.bindsN fun _ _ _ _ _ _ us hl => match us, hl with | [_], _ => rfl
  · exact F.bindsN fun _ _ _ _ _ _ us hl => match us, hl with | [_], _ => rfl
  · exact F.bindsN fun _ _ _ _ _ _ us hl => match us, hl with | [_, _], _ => rfl
  · exact F.bindsN fun _ _ _ _ _ _ us hl => match us, hl with | [_, _], _ => rfl
  · exact F.bindsN fun _ _ _ _ _ _ us hl => match us, hl with | [_, _, _], _ => rfl
  · exact F.bindsN fun _ _ _ _ _ _ us hl => match us, hl with | [_, _, _], _ => rfl
  · exact F.bindsN fun _ _ _ _ _ _ us hl => match us, hl with | [_, _], _ => rfl
  · exact F.bindsN fun _ _ _ _ _ _ us hl => match us, hl with | [_, _], _ => rfl
  · exact F.bindsN fun _ _ _ _ _ _ us hl => match us, hl with | [_, _], _ => rfl
  · exact F.bindsN fun _ _ _ _ _ _ us hl => match us, hl with | [_], _ => rfl
  · exact F.bindsN fun _ _ _ _ _ _ us hl => match us, hl with | [_, _, _], _ => rfl
  · exact F.bindsN fun _ _ _ _ _ _ us hl => match us, hl with | [_, _, _], _ => rfl
  · exact F.bindsN fun _ _ _ _ _ _ us hl => match us, hl with | [_], _ => rfl
  · exact F.bindsN fun _ _ _ _ _ _ us hl => match us, hl with | [_], _ => rfl
  · exact F.bindsN fun _ _ _ _ _ _ us hl => match us, hl with | [_], _ => rfl
  · exact F.bindsN fun _ _ _ _ _ _ us hl => match us, hl with | [_, _], _ => rfl
  · exact F.bindsN fun _ _ _ _ _ _ us hl => match us, hl with | [_], _ => rfl
  · exact F.bindsN fun _ _ _ _ _ _ us hl => match us, hl with | [_], _ => rfl
theorem row_kw : ∀ p ∈ row.gs.kws, ∀ d, row.ds[p.f]? = some d → ∀ (K : PySem.W.Frag) (f : Addr) (fd : FuncData), FunD K d.nm d.nm (defArgs d.st) (defBody d.st) (defScope d.st) [] [] f fd → KwB K fd d.ps p.n p.ks p.perm := by
  intro p hp d hd K f fd F
  have hp : p ∈ gs.kws := hp
  simp only [gs, List.mem_cons, List.not_mem_nil, or_false] at hp
  rcases hp with rfl | rfl
  · cases hd
    exact ⟨fun s us ws X hu hw => by
      obtain ⟨oc, od, dV, kV, doc, pm, an, cdv, ct, osl, rfl, lk, hcd, hD, hK⟩ := F.ex
      rcases hD with ⟨_, rfl⟩ | ⟨e, _⟩
      · exact .of_eq (match us, hu, ws, hw with | [], _, [_, _, _], _ => rfl)
      · exact absurd rfl e, rfl⟩
  · cases hd
    exact ⟨fun s us ws X hu hw => by
      obtain ⟨oc, od, dV, kV, doc, pm, an, cdv, ct, osl, rfl, lk, hcd, hD, hK⟩ := F.ex
      rcases hD with ⟨_, rfl⟩ | ⟨e, _⟩
      · exact .of_eq (match us, hu, ws, hw with | [], _, [_, _], _ => rfl)
      · exact absurd rfl e, rfl⟩
theorem row_xb : ∀ q ∈ row.exs, ∀ (q1 q2 : Arg) name qual body scope kV doc pm an cd ct cc, q1.arg = "self" → q2.arg = q.2 → ∀ us : List Value, us.length = 2 → bindArgs (PySem.W.ksFn name qual ⟨[], [q1, q2], none, [], [], none, []⟩ body scope .none kV doc pm an cd ct cc) ⟨us, []⟩ = pure ((["self", q.2] : List Str).zip us) := by
  intro q hq q1 q2 name qual body scope kV doc pm an cd ct cc h1 h2 us hl
  obtain ⟨a1, a2, a3⟩ := q1
  obtain ⟨b1, b2, b3⟩ := q2
  have hq : q ∈ [(("BadArgument" : Str), ("name" : Str))] := hq
  simp only [List.mem_cons, List.not_mem_nil, or_false] at hq
  rcases hq with rfl
  · cases h1
    cases h2
    match us, hl with | [_, _], _ => rfl
theorem row_ok : RowOk row where
  fns := rfl
  exn := rfl
  hofs := rfl
  dcs := rfl
  ck := by
    show ds.all (·.ok gs) = true
    simp only [ds, List.all_cons, List.all_nil, ck_demand, ck_is_in, ck_is_tuple, ck_is_signs, ck_is_value, ck_is_name, ck_are_names, ck_rank, ck_is_before, ck_is_row, ck_is_table, ck_demand_table, ck_at_name, ck__law_dice, ck__law_roll, ck__law_pick, ck__law_value, ck__law_table, ck__law_kind, ck__law_before, ck_is_atom, ck_nodes_of, ck_is_condition, ck_atoms_of, ck_used_names, ck_is_condition_of, ck_atom_holds, ck_holds_for, ck_holds, ck_kept_places, ck_kept, ck_pushed, ck_plain, ck__law_condition, ck__law_holds, ck__law_atoms, ck__law_nodes, ck__law_is_plain, ck__law_pushed, ck_law, Bool.and_self]
  hok := by decide +kernel
  hx := by
    intro t ht
    have ht : t ∈ row.hs := ht
    simp only [row, List.mem_cons, List.not_mem_nil, or_false] at ht
    rcases ht with rfl <;> rfl
  lam := by decide +kernel
  bd := row_bd
  xb := row_xb
  kw := row_kw
def names : List Str := (["__name__", "CrossError", "BadArgument", "LEAST", "MOST", "MOST_SIGNS", "MOST_NAME", "LETTERS", "SIGNS", "demand", "is_in", "is_tuple", "is_signs", "is_value", "is_name", "are_names"] : List Str) ++ (["rank", "is_before", "MOST_COLUMNS", "MOST_ROWS", "is_row", "is_table", "demand_table", "at_name", "MOST_DEEP", "MOST_NODES", "SIZES", "is_atom", "nodes_of", "is_condition", "atoms_of", "used_names"] : List Str) ++ (["is_condition_of", "atom_holds", "holds_for", "holds", "kept_places", "kept", "pushed", "plain", "_law_dice", "_law_roll", "_law_pick", "_law_refused", "_law_value", "_law_table", "_law_kind", "_law_before"] : List Str) ++ (["_law_row_before", "_law_sorted", "_law_sorted_rows", "_law_condition", "_law_holds", "_law_atoms", "_law_nodes", "_law_is_plain", "_law_pushed"] : List Str)
abbrev R : PySem.W.OpenRow := PySem.W.OpenLaw.row PySem.Challenge.rw_crosslaid_k01_whole_conditions_on_rows
noncomputable abbrev hk : PySem.W.Hook := row.hk 4 R.prog
noncomputable def ob (s : PySem.W.SharedT) : He.AlX := row.look 4 R.prog (HandSHeadRun.getT s)
theorem ob_eq (s : PySem.W.SharedT) : ob s = hk.obs s.abs := lookH_eq (HandSHeadRun.getT_eq s)
theorem run (w : World) : HandSHeadRun.RunEq R (PySem.W.view R.prog [61]) hk ob 4000 names w :=
  PySem.W.byRow2 "special-get-raises" (P := fun w => HandSHeadRun.RunEq R (PySem.W.view R.prog [61]) hk ob 4000 names w) (fun w => by intro os; kernel_rfl) (fun w => by intro os; kernel_rfl) w
theorem law_binds {K : PySem.W.Frag} (fd : FuncData) (f : Addr) (F : FunD K d_law.nm d_law.nm (defArgs d_law.st) (defBody d_law.st) (defScope d_law.st) [] [] f fd) (s : Shared) (u : Value) : BindsTo s fd ⟨[u], []⟩ [(d_law.N.getD 0 d_law.nm, u)] :=
  FunD.bindsA (ps := d_law.ps) F (fun _ _ _ _ _ _ us hl => match us, hl with | [_], _ => rfl) s [u] rfl
theorem holds_of (law : ∀ ns : List Int, ns.length ≤ 63 → (∀ z ∈ ns, Builtin.Int.intBits z ≤ 1048576) → wcall (ds.map fdOf) 40 48 [.cl (ns.map .int)] [] (fun _ _ => False) fun t _ => t = .bl true) : PySem.Challenge.rw_crosslaid_k01_whole_conditions_on_rows.Holds := by
  w_on; o_law
  refine HandSHeadRun.head_any (r := R) (q := PySem.W.view R.prog [61]) (H := hk) (ob := ob) (M := 4000) (loose := names) (d := HandSHeadRun.topDef R.prog 61) (kwd := []) ob_eq
    (by kernel_rfl) (fun s => by kernel_rfl) run (by kernel_rfl) (by kernel_rfl) (by kernel_rfl) (by rfl) (by first | assumption | decide +kernel) (by decide +kernel) ⟨rfl, rfl, rfl, rfl, rfl, by decide +kernel⟩ ?hw ?hc
  case hw => w_witness2
  case hc =>
    refine LamX.walk_ofTsE (l := PySem.Challenge.rw_crosslaid_k01_whole_conditions_on_rows) (n := 63) (k := 122) (x := "script") (CX := fun w => L2.CX R.prog w) rfl (by decide) (by kernel_rfl) ⟨rfl, by decide, by decide⟩ ?F (fun _ _ _ _ _ ⟨_, _, _, _, _, _, _, _, _, _, _, _, z⟩ => z)
    intro w mg fa h Y N hmg0
    obtain ⟨K, KX, c⟩ := Y
    have hmg : mg ("law" : PySem.Str) = some (.ref fa) := by
      have e : (HandSHeadRun.topDef R.prog 61).name = ("law" : PySem.Str) := by kernel_rfl
      rw [← e]
      exact hmg0
    have e2 := hmg.symm.trans (TL.Row.mgAt KX N c.t.d (d := d_law) (List.mem_append_left _ (List.mem_of_getElem? (i := 48) rfl)))
    cases e2
    exact ⟨K, KX, lawAt (r := row) (l := PySem.Challenge.rw_crosslaid_k01_whole_conditions_on_rows) (lvl := 40) (li := 48) (d := d_law) row_ok rfl rfl (fun fd f F s u => law_binds fd f F s u) KX N c law⟩
end K01

set_option maxHeartbeats 4000000
namespace K01
open PySem PySem.Spec PyProof.Rows L2 TL TLP
abbrev F : List Fd := ds.map fdOf
theorem hasF : Has F [0, 1, 2, 3, 4, 5, 6, 7, 9, 10, 11, 12, 13, 19, 20, 21, 22, 23, 24, 25] := by
  intro i hi
  simp only [List.mem_cons, List.not_mem_nil, or_false] at hi
  rcases hi with rfl | rfl | rfl | rfl | rfl | rfl | rfl | rfl | rfl | rfl | rfl | rfl | rfl | rfl | rfl | rfl | rfl | rfl | rfl | rfl <;> rfl
inductive Cd
  | alw | bln (s : Str) | isv (s : Str) (v : T) | bel (s : Str) (v : T) | beg (s z : Str) | neg (c : Cd) | bth (a b : Cd) | eit (a b : Cd)
namespace Cd
def t : Cd → T
  | .alw => .tup [.str "always"]
  | .bln s => .tup [.str "blank", .str s]
  | .isv s v => .tup [.str "is", .str s, v]
  | .bel s v => .tup [.str "below", .str s, v]
  | .beg s z => .tup [.str "begins", .str s, .str z]
  | .neg c => .tup [.str "not", c.t]
  | .bth a b => .tup [.str "both", a.t, b.t]
  | .eit a b => .tup [.str "either", a.t, b.t]
def size : Cd → Nat
  | .neg c => 1 + c.size
  | .bth a b => 1 + a.size + b.size
  | .eit a b => 1 + a.size + b.size
  | _ => 1
def dep : Cd → Nat
  | .neg c => 1 + c.dep
  | .bth a b => 1 + max a.dep b.dep
  | .eit a b => 1 + max a.dep b.dep
  | _ => 1
def nat : Cd → Nat
  | .neg c => c.nat
  | .bth a b => a.nat + b.nat
  | .eit a b => a.nat + b.nat
  | _ => 1
/-- its values may stand in a condition -/
def Ok : Cd → Prop
  | .alw => True
  | .bln s => nameT (.str s) = true
  | .isv s v => nameT (.str s) = true ∧ valT v = true
  | .bel s v => nameT (.str s) = true ∧ valT v = true
  | .beg s z => nameT (.str s) = true ∧ isSignsT 1 12 (.str z) = true
  | .neg c => c.Ok
  | .bth a b => a.Ok ∧ b.Ok
  | .eit a b => a.Ok ∧ b.Ok
/-- its names are among these -/
def In (ns : List Str) : Cd → Prop
  | .alw => True
  | .bln s => s ∈ ns
  | .isv s _ => s ∈ ns
  | .bel s _ => s ∈ ns
  | .beg s _ => s ∈ ns
  | .neg c => c.In ns
  | .bth a b => a.In ns ∧ b.In ns
  | .eit a b => a.In ns ∧ b.In ns
def atoms : Cd → List Cd
  | .neg c => c.atoms
  | .bth a b => a.atoms ++ b.atoms
  | .eit a b => a.atoms ++ b.atoms
  | c => [c]
def isAtom : Cd → Bool
  | .neg _ => false
  | .bth _ _ => false
  | .eit _ _ => false
  | _ => true
theorem dep_pos : ∀ c : Cd, 1 ≤ c.dep := by intro c; cases c <;> simp [dep]
theorem dat : ∀ {c : Cd}, c.Ok → TL.dat c.t = true
  | .alw, _ => rfl
  | .bln s, _ => rfl
  | .isv s v, h => by show (TL.dat v && true) = true; rw [flat_dat (valT_flat h.2)]; rfl
  | .bel s v, h => by show (TL.dat v && true) = true; rw [flat_dat (valT_flat h.2)]; rfl
  | .beg s z, _ => rfl
  | .neg c, h => by show (TL.dat c.t && true) = true; rw [dat (c := c) h]; rfl
  | .bth a b, h => by show (TL.dat a.t && (TL.dat b.t && true)) = true; rw [dat h.1, dat h.2]; rfl
  | .eit a b, h => by show (TL.dat a.t && (TL.dat b.t && true)) = true; rw [dat h.1, dat h.2]; rfl
theorem tdep : ∀ {c : Cd}, c.Ok → TL.dep c.t ≤ c.dep
  | .alw, _ => Nat.le_refl _
  | .bln s, _ => Nat.le_refl _
  | .isv s v, h => by show max 0 (max 0 (max (TL.dep v) 0)) + 1 ≤ 1; rw [flat_dep (valT_flat h.2)]; decide
  | .bel s v, h => by show max 0 (max 0 (max (TL.dep v) 0)) + 1 ≤ 1; rw [flat_dep (valT_flat h.2)]; decide
  | .beg s z, _ => Nat.le_refl _
  | .neg c, h => by
    have := tdep (c := c) h
    show max 0 (max (TL.dep c.t) 0) + 1 ≤ 1 + c.dep
    omega
  | .bth a b, h => by
    have := tdep h.1
    have := tdep h.2
    show max 0 (max (TL.dep a.t) (max (TL.dep b.t) 0)) + 1 ≤ 1 + max a.dep b.dep
    omega
  | .eit a b, h => by
    have := tdep h.1
    have := tdep h.2
    show max 0 (max (TL.dep a.t) (max (TL.dep b.t) 0)) + 1 ≤ 1 + max a.dep b.dep
    omega
end Cd
section
variable {fu n : Nat}
theorem is_atom_ok {c : Cd} (h : c.Ok) (ha : c.isAtom = true) : qcall fu F (n + 3) 29 [.val c.t] = ret (.bl true) 1 := by
  have i2 := is_tuple_ok (fu := fu) (n := n + 1) (hasF.sub (by simp)) (t := c.t) (Cd.dat h) 1 3
  have i5 := fun {t : T} d => is_name_ok (fu := fu) (n := n + 1) (hasF.sub (by simp)) (t := t) d
  have i4 := fun {t : T} d => is_value_ok (fu := fu) (n := n) (hasF.sub (by simp)) (t := t) d
  have i3 := fun {t : T} d a b => is_signs_ok (fu := fu) (n := n + 1) (hasF.sub (by simp)) (t := t) d a b
  refine QC.eq_of ?_
  rw [C_call (d := ⟨1, 1, ir_is_atom⟩) rfl rfl]
  generalize qcall fu F (n + 2) = Ψ at *
  unfold ir_is_atom
  cases c with
  | alw =>
    have e : isTupT 1 3 (Cd.t .alw) = true := rfl
    unfold Cd.t at *
    clear i5 i4 i3
    walk_at "qd"
  | bln s =>
    have e : isTupT 1 3 (Cd.t (.bln s)) = true := rfl
    replace i5 := i5 (t := .str s) rfl
    have hn : nameT (.str s) = true := h
    unfold Cd.t at *
    clear i4 i3
    walk_at "qd"
  | isv s v =>
    have e : isTupT 1 3 (Cd.t (.isv s v)) = true := rfl
    replace i5 := i5 (t := .str s) rfl
    replace i4 := i4 (flat_dat (valT_flat h.2))
    have hn : nameT (.str s) = true := h.1
    have hv : valT v = true := h.2
    unfold Cd.t at *
    clear i3
    walk_at "qd"
  | bel s v =>
    have e : isTupT 1 3 (Cd.t (.bel s v)) = true := rfl
    replace i5 := i5 (t := .str s) rfl
    replace i4 := i4 (flat_dat (valT_flat h.2))
    have hn : nameT (.str s) = true := h.1
    have hv : valT v = true := h.2
    unfold Cd.t at *
    clear i3
    walk_at "qd"
  | beg s z =>
    have e : isTupT 1 3 (Cd.t (.beg s z)) = true := rfl
    replace i5 := i5 (t := .str s) rfl
    replace i3 := i3 (t := .str z) rfl 1 12
    have hn : nameT (.str s) = true := h.1
    have hv : isSignsT 1 12 (.str z) = true := h.2
    unfold Cd.t at *
    clear i4
    walk_at "qd"
  | neg c => exact Bool.noConfusion ha
  | bth a b => exact Bool.noConfusion ha
  | eit a b => exact Bool.noConfusion ha
theorem nodes_atom {c : Cd} (h : c.Ok) (ha : c.isAtom = true) (k : Int) : qcall fu F (n + 4) 30 [.val c.t, .val (.int k)] = ret (.int 1) 2 := by
  have i2 := is_tuple_ok (fu := fu) (n := n + 2) (hasF.sub (by simp)) (t := c.t) (Cd.dat h) 1 3
  have i9 := is_atom_ok (fu := fu) (n := n) h ha
  refine QC.eq_of ?_
  rw [C_call (d := ⟨2, 3, ir_nodes_of⟩) rfl rfl]
  generalize qcall fu F (n + 3) = Ψ at *
  unfold ir_nodes_of
  have e : isTupT 1 3 c.t = true := by cases c <;> first | rfl | exact Bool.noConfusion ha
  cases c <;> first
    | exact Bool.noConfusion ha
    | (clear h ha
       unfold Cd.t at *
       walk_at "qd")
theorem nodes_ok : ∀ (c : Cd) (n : Nat) (k : Int), c.Ok → c.dep + k ≤ 9 → c.dep + 3 ≤ n → qcall fu F n 30 [.val c.t, .val (.int k)] = ret (.int c.size) 2
  | .neg c, n, k, h, hk, hn => by
    have hd := c.dep_pos
    simp only [Cd.dep] at hk hn
    obtain ⟨n, rfl⟩ : ∃ j, n = j + 2 := ⟨n - 2, by omega⟩
    have ih := nodes_ok c (n + 1) (k + 1) h (by omega) (by omega)
    have i2 := is_tuple_ok (fu := fu) (n := n) (hasF.sub (by simp)) (t := Cd.t (.neg c)) (Cd.dat h) 1 3
    have e : isTupT 1 3 (Cd.t (.neg c)) = true := rfl
    have k8 : ¬ k = 8 := by omega
    refine QC.eq_of ?_
    rw [C_call (d := ⟨2, 3, ir_nodes_of⟩) rfl rfl]
    generalize qcall fu F (n + 1) = Ψ at *
    unfold ir_nodes_of
    have cut := cut_drop (xs := [.str "not", c.t]) (k := 1)
    have cut : cutT [.str "not", c.t] (some 1) none = [c.t] := cut
    simp only [Cd.t, Cd.size] at *
    walk_at "qd"
    refine congrArg (fun i => Bv.p (T.int i)) ?_
    simp only [Cd.size]
    omega
  | .bth a b, n, k, h, hk, hn => by
    have hd := a.dep_pos
    simp only [Cd.dep] at hk hn
    obtain ⟨n, rfl⟩ : ∃ j, n = j + 2 := ⟨n - 2, by omega⟩
    have ih := nodes_ok a (n + 1) (k + 1) h.1 (by omega) (by omega)
    have ih2 := nodes_ok b (n + 1) (k + 1) h.2 (by omega) (by omega)
    have i2 := is_tuple_ok (fu := fu) (n := n) (hasF.sub (by simp)) (t := Cd.t (.bth a b)) (Cd.dat h) 1 3
    have e : isTupT 1 3 (Cd.t (.bth a b)) = true := rfl
    have k8 : ¬ k = 8 := by omega
    refine QC.eq_of ?_
    rw [C_call (d := ⟨2, 3, ir_nodes_of⟩) rfl rfl]
    generalize qcall fu F (n + 1) = Ψ at *
    unfold ir_nodes_of
    have cut : cutT [.str "both", a.t, b.t] (some 1) none = [a.t, b.t] := cut_drop (xs := [.str "both", a.t, b.t]) (k := 1)
    simp only [Cd.t, Cd.size] at *
    walk_at "qd"
    refine congrArg (fun i => Bv.p (T.int i)) ?_
    simp only [Cd.size]
    omega
  | .eit a b, n, k, h, hk, hn => by
    have hd := a.dep_pos
    simp only [Cd.dep] at hk hn
    obtain ⟨n, rfl⟩ : ∃ j, n = j + 2 := ⟨n - 2, by omega⟩
    have ih := nodes_ok a (n + 1) (k + 1) h.1 (by omega) (by omega)
    have ih2 := nodes_ok b (n + 1) (k + 1) h.2 (by omega) (by omega)
    have i2 := is_tuple_ok (fu := fu) (n := n) (hasF.sub (by simp)) (t := Cd.t (.eit a b)) (Cd.dat h) 1 3
    have e : isTupT 1 3 (Cd.t (.eit a b)) = true := rfl
    have k8 : ¬ k = 8 := by omega
    refine QC.eq_of ?_
    rw [C_call (d := ⟨2, 3, ir_nodes_of⟩) rfl rfl]
    generalize qcall fu F (n + 1) = Ψ at *
    unfold ir_nodes_of
    have cut : cutT [.str "either", a.t, b.t] (some 1) none = [a.t, b.t] := cut_drop (xs := [.str "either", a.t, b.t]) (k := 1)
    simp only [Cd.t, Cd.size] at *
    walk_at "qd"
    refine congrArg (fun i => Bv.p (T.int i)) ?_
    simp only [Cd.size]
    omega
  | .alw, n, k, h, hk, hn => by
    obtain ⟨n, rfl⟩ : ∃ j, n = j + 4 := ⟨n - 4, by simp only [Cd.dep] at hn; omega⟩
    exact nodes_atom h rfl k
  | .bln s, n, k, h, hk, hn => by
    obtain ⟨n, rfl⟩ : ∃ j, n = j + 4 := ⟨n - 4, by simp only [Cd.dep] at hn; omega⟩
    exact nodes_atom (c := .bln s) h rfl k
  | .isv s v, n, k, h, hk, hn => by
    obtain ⟨n, rfl⟩ : ∃ j, n = j + 4 := ⟨n - 4, by simp only [Cd.dep] at hn; omega⟩
    exact nodes_atom (c := .isv s v) h rfl k
  | .bel s v, n, k, h, hk, hn => by
    obtain ⟨n, rfl⟩ : ∃ j, n = j + 4 := ⟨n - 4, by simp only [Cd.dep] at hn; omega⟩
    exact nodes_atom (c := .bel s v) h rfl k
  | .beg s z, n, k, h, hk, hn => by
    obtain ⟨n, rfl⟩ : ∃ j, n = j + 4 := ⟨n - 4, by simp only [Cd.dep] at hn; omega⟩
    exact nodes_atom (c := .beg s z) h rfl k
theorem is_cond_ok {c : Cd} (h : c.Ok) (hd : c.dep ≤ 8) (hs : c.size ≤ 40) (hn : 11 ≤ n) : qcall fu F (n + 1) 31 [.val c.t] = ret (.bl true) 1 := by
  have e := nodes_ok (fu := fu) c n 1 h (by omega) (by omega)
  have hs2 : (c.size : Int) ≤ 40 := by omega
  refine QC.eq_of ?_
  rw [C_call (d := ⟨1, 1, ir_is_condition⟩) rfl rfl]
  generalize qcall fu F n = Ψ at *
  unfold ir_is_condition
  walk_at "qv"
theorem atoms_len : ∀ c : Cd, c.atoms.length = c.nat
  | .neg c => atoms_len c
  | .bth a b => by show (a.atoms ++ b.atoms).length = a.nat + b.nat; rw [List.length_append, atoms_len a, atoms_len b]
  | .eit a b => by show (a.atoms ++ b.atoms).length = a.nat + b.nat; rw [List.length_append, atoms_len a, atoms_len b]
  | .alw => rfl
  | .bln _ => rfl
  | .isv _ _ => rfl
  | .bel _ _ => rfl
  | .beg _ _ => rfl
abbrev ats (cs : List Cd) : T := .cl (cs.map Cd.t)
/-- both texts that gather the atoms -/
theorem atoms_both : ∀ (c : Cd) (n : Nat), c.nat ≤ 1000 → c.dep ≤ n → qcall fu F n 32 [.val c.t] = ret (ats c.atoms) 1 ∧ qcall fu F n 44 [.val c.t] = ret (ats c.atoms) 1
  | c, 0, h, hn => by have := c.dep_pos; omega
  | .neg c, n + 1, h, hn => by
    simp only [Cd.dep, Cd.nat] at hn h
    obtain ⟨e1, e2⟩ := atoms_both c n h (by omega)
    have cut : cutT [.str "not", c.t] (some 1) none = [c.t] := cut_drop (xs := [.str "not", c.t]) (k := 1)
    have l1 : c.atoms.length ≤ sizeLine := by rw [atoms_len, sizeLine_eq]; omega
    constructor
    · refine QC.eq_of ?_
      rw [C_call (d := ⟨1, 3, ir_atoms_of⟩) rfl rfl]
      generalize qcall fu F n = Ψ at *
      unfold ir_atoms_of
      simp only [Cd.t, Cd.atoms, ats] at *
      walk_at "qd"
      rfl
    · refine QC.eq_of ?_
      rw [C_call (d := ⟨1, 3, ir__law_atoms⟩) rfl rfl]
      generalize qcall fu F n = Ψ at *
      unfold ir__law_atoms
      simp only [Cd.t, Cd.atoms, ats] at *
      walk_at "qd"
      rfl
  | .bth a b, n + 1, h, hn => by
    simp only [Cd.dep, Cd.nat] at hn h
    obtain ⟨e1, e2⟩ := atoms_both a n (by omega) (by omega)
    obtain ⟨e3, e4⟩ := atoms_both b n (by omega) (by omega)
    have cut : cutT [.str "both", a.t, b.t] (some 1) none = [a.t, b.t] := cut_drop (xs := [.str "both", a.t, b.t]) (k := 1)
    have l1 : a.atoms.length ≤ sizeLine := by rw [atoms_len, sizeLine_eq]; omega
    have l2 : a.atoms.length + b.atoms.length ≤ sizeLine := by rw [atoms_len, atoms_len, sizeLine_eq]; omega
    constructor
    · refine QC.eq_of ?_
      rw [C_call (d := ⟨1, 3, ir_atoms_of⟩) rfl rfl]
      generalize qcall fu F n = Ψ at *
      unfold ir_atoms_of
      simp only [Cd.t, Cd.atoms, ats] at *
      walk_at "qd"
      exact congrArg (fun l => Bv.p (T.cl l)) (List.map_append ..).symm
    · refine QC.eq_of ?_
      rw [C_call (d := ⟨1, 3, ir__law_atoms⟩) rfl rfl]
      generalize qcall fu F n = Ψ at *
      unfold ir__law_atoms
      simp only [Cd.t, Cd.atoms, ats] at *
      walk_at "qd"
      exact congrArg (fun l => Bv.p (T.cl l)) (List.map_append ..).symm
  | .eit a b, n + 1, h, hn => by
    simp only [Cd.dep, Cd.nat] at hn h
    obtain ⟨e1, e2⟩ := atoms_both a n (by omega) (by omega)
    obtain ⟨e3, e4⟩ := atoms_both b n (by omega) (by omega)
    have cut : cutT [.str "either", a.t, b.t] (some 1) none = [a.t, b.t] := cut_drop (xs := [.str "either", a.t, b.t]) (k := 1)
    have l1 : a.atoms.length ≤ sizeLine := by rw [atoms_len, sizeLine_eq]; omega
    have l2 : a.atoms.length + b.atoms.length ≤ sizeLine := by rw [atoms_len, atoms_len, sizeLine_eq]; omega
    constructor
    · refine QC.eq_of ?_
      rw [C_call (d := ⟨1, 3, ir_atoms_of⟩) rfl rfl]
      generalize qcall fu F n = Ψ at *
      unfold ir_atoms_of
      simp only [Cd.t, Cd.atoms, ats] at *
      walk_at "qd"
      exact congrArg (fun l => Bv.p (T.cl l)) (List.map_append ..).symm
    · refine QC.eq_of ?_
      rw [C_call (d := ⟨1, 3, ir__law_atoms⟩) rfl rfl]
      generalize qcall fu F n = Ψ at *
      unfold ir__law_atoms
      simp only [Cd.t, Cd.atoms, ats] at *
      walk_at "qd"
      exact congrArg (fun l => Bv.p (T.cl l)) (List.map_append ..).symm
  | .alw, n + 1, _, _ => by
    constructor
    · refine QC.eq_of ?_
      rw [C_call (d := ⟨1, 3, ir_atoms_of⟩) rfl rfl]
      generalize qcall fu F n = Ψ at *
      unfold ir_atoms_of
      simp only [Cd.t, Cd.atoms, ats] at *
      walk_at "qd"
      rfl
    · refine QC.eq_of ?_
      rw [C_call (d := ⟨1, 3, ir__law_atoms⟩) rfl rfl]
      generalize qcall fu F n = Ψ at *
      unfold ir__law_atoms
      simp only [Cd.t, Cd.atoms, ats] at *
      walk_at "qd"
      rfl
  | .bln s, n + 1, _, _ => by
    constructor
    · refine QC.eq_of ?_
      rw [C_call (d := ⟨1, 3, ir_atoms_of⟩) rfl rfl]
      generalize qcall fu F n = Ψ at *
      unfold ir_atoms_of
      simp only [Cd.t, Cd.atoms, ats] at *
      walk_at "qd"
      rfl
    · refine QC.eq_of ?_
      rw [C_call (d := ⟨1, 3, ir__law_atoms⟩) rfl rfl]
      generalize qcall fu F n = Ψ at *
      unfold ir__law_atoms
      simp only [Cd.t, Cd.atoms, ats] at *
      walk_at "qd"
      rfl
  | .isv s v, n + 1, _, _ => by
    constructor
    · refine QC.eq_of ?_
      rw [C_call (d := ⟨1, 3, ir_atoms_of⟩) rfl rfl]
      generalize qcall fu F n = Ψ at *
      unfold ir_atoms_of
      simp only [Cd.t, Cd.atoms, ats] at *
      walk_at "qd"
      rfl
    · refine QC.eq_of ?_
      rw [C_call (d := ⟨1, 3, ir__law_atoms⟩) rfl rfl]
      generalize qcall fu F n = Ψ at *
      unfold ir__law_atoms
      simp only [Cd.t, Cd.atoms, ats] at *
      walk_at "qd"
      rfl
  | .bel s v, n + 1, _, _ => by
    constructor
    · refine QC.eq_of ?_
      rw [C_call (d := ⟨1, 3, ir_atoms_of⟩) rfl rfl]
      generalize qcall fu F n = Ψ at *
      unfold ir_atoms_of
      simp only [Cd.t, Cd.atoms, ats] at *
      walk_at "qd"
      rfl
    · refine QC.eq_of ?_
      rw [C_call (d := ⟨1, 3, ir__law_atoms⟩) rfl rfl]
      generalize qcall fu F n = Ψ at *
      unfold ir__law_atoms
      simp only [Cd.t, Cd.atoms, ats] at *
      walk_at "qd"
      rfl
  | .beg s z, n + 1, _, _ => by
    constructor
    · refine QC.eq_of ?_
      rw [C_call (d := ⟨1, 3, ir_atoms_of⟩) rfl rfl]
      generalize qcall fu F n = Ψ at *
      unfold ir_atoms_of
      simp only [Cd.t, Cd.atoms, ats] at *
      walk_at "qd"
      rfl
    · refine QC.eq_of ?_
      rw [C_call (d := ⟨1, 3, ir__law_atoms⟩) rfl rfl]
      generalize qcall fu F n = Ψ at *
      unfold ir__law_atoms
      simp only [Cd.t, Cd.atoms, ats] at *
      walk_at "qd"
      rfl
end
end K01

set_option maxHeartbeats 4000000
namespace K01
open PySem PySem.Spec PyProof.Rows L2 TL TLP
section
variable {fu n : Nat}
/-! ### the names that are used -/
def Cd.nm : Cd → List Str
  | .bln s => [s]
  | .isv s _ => [s]
  | .bel s _ => [s]
  | .beg s _ => [s]
  | _ => []
def addS (l : List Str) (s : Str) : List Str := if s ∈ l then l else l ++ [s]
def usedL (l : List Str) (cs : List Cd) : List Str := cs.foldl (fun l c => c.nm.foldl addS l) l
theorem usedL_mem {s : Str} : ∀ {cs : List Cd} {l : List Str}, s ∈ usedL l cs ↔ s ∈ l ∨ ∃ c ∈ cs, s ∈ c.nm := by
  have one : ∀ {l : List Str} {x : Str}, s ∈ addS l x ↔ s ∈ l ∨ s = x := fun {l x} => by
    unfold addS
    split
    · rename_i h
      constructor
      · exact .inl
      · rintro (h1 | rfl)
        · exact h1
        · exact h
    · rw [List.mem_append, List.mem_singleton]
  have nmS : ∀ {c : Cd} {l : List Str}, s ∈ c.nm.foldl addS l ↔ s ∈ l ∨ s ∈ c.nm := fun {c l} => by
    cases c <;> simp [Cd.nm, one]
  intro cs
  induction cs with
  | nil => intro l; simp [usedL]
  | cons c cs ih =>
    intro l
    show s ∈ usedL (c.nm.foldl addS l) cs ↔ _
    rw [ih, nmS]
    simp only [List.mem_cons, exists_eq_or_imp]
    constructor
    · rintro ((h | h) | h)
      · exact .inl h
      · exact .inr (.inl h)
      · exact .inr (.inr h)
    · rintro (h | h | h)
      · exact .inl (.inl h)
      · exact .inl (.inr h)
      · exact .inr h
theorem usedL_len : ∀ {cs : List Cd} {l : List Str}, (usedL l cs).length ≤ l.length + cs.length := by
  intro cs
  induction cs with
  | nil => intro l; exact Nat.le_refl _
  | cons c cs ih =>
    intro l
    show (usedL (c.nm.foldl addS l) cs).length ≤ _
    have h1 : (c.nm.foldl addS l).length ≤ l.length + 1 := by
      have one : ∀ x, (addS l x).length ≤ l.length + 1 := fun x => by
        unfold addS
        split
        · omega
        · rw [List.length_append]; exact Nat.le_refl _
      cases c <;> first | exact one _ | exact Nat.le_succ _
    have := ih (l := c.nm.foldl addS l)
    rw [List.length_cons]
    omega
theorem atoms_atom : ∀ {c x : Cd}, x ∈ c.atoms → x.isAtom = true
  | .neg c, x, h => atoms_atom (c := c) h
  | .bth a b, x, h => by rcases List.mem_append.mp h with h | h; exact atoms_atom h; exact atoms_atom h
  | .eit a b, x, h => by rcases List.mem_append.mp h with h | h; exact atoms_atom h; exact atoms_atom h
  | .alw, x, h => by rw [List.mem_singleton.mp h]; rfl
  | .bln _, x, h => by rw [List.mem_singleton.mp h]; rfl
  | .isv _ _, x, h => by rw [List.mem_singleton.mp h]; rfl
  | .bel _ _, x, h => by rw [List.mem_singleton.mp h]; rfl
  | .beg _ _, x, h => by rw [List.mem_singleton.mp h]; rfl
theorem used_names_ok {c : Cd} (hs : c.nat ≤ 1000) (hn : c.dep ≤ n) : qcall fu F (n + 1) 33 [.val c.t] = ret (.cl ((usedL [] c.atoms).map .str)) 1 := by
  have e := (atoms_both (fu := fu) c n hs hn).1
  have hl : ∀ l r, c.atoms = l ++ r → (usedL [] l).length < sizeLine := fun l r h => by
    have h1 := usedL_len (cs := l) (l := [])
    have h2 := atoms_len c
    rw [h, List.length_append] at h2
    rw [sizeLine_eq]
    simp at h1
    omega
  have hat : ∀ x ∈ c.atoms, x.isAtom = true := fun x hx => atoms_atom hx
  refine QC.eq_of ?_
  rw [C_call (d := ⟨1, 3, ir_used_names⟩) rfl rfl]
  generalize qcall fu F n = Ψ at *
  unfold ir_used_names
  unfold ats at e
  generalize c.atoms = cs at *
  walk_at "qd"
  obtain ⟨I, hI⟩ : ∃ I : List T → Vn → Option T → Prop, I = fun rest v x => x = none ∧ ∃ (l r : List Cd) (s : Sl), cs = l ++ r ∧ rest = r.map Cd.t ∧ v = [.val c.t, .own (.vl ((usedL [] l).map .str)), s] := ⟨_, rfl⟩
  have last : ∀ v x, I [] v x → ∃ s : Sl, x = none ∧ v = [.val c.t, .own (.vl ((usedL [] cs).map .str)), s] := fun v x hv => by
    rw [hI] at hv
    obtain ⟨rfl, l, r, s, e1, e2, rfl⟩ := hv
    have : r = [] := List.map_eq_nil_iff.mp e2.symm
    subst this
    rw [List.append_nil] at e1
    exact ⟨s, rfl, by rw [e1]⟩
  have turn : ∀ y ys v x, I (y :: ys) v x → ∃ (d : Cd) (l : List Str) (s : Sl), y = d.t ∧ d.isAtom = true ∧ x = none ∧ l.length < sizeLine ∧ v = [.val c.t, .own (.vl (l.map .str)), s] ∧ I ys [.val c.t, .own (.vl ((d.nm.foldl addS l).map .str)), .val y] none := fun y ys v x hv => by
    rw [hI] at hv
    obtain ⟨rfl, l, r, s, e1, e2, rfl⟩ := hv
    match r, e2 with
    | d :: r, e2 =>
      rw [List.map_cons] at e2
      injection e2 with e2 e3
      refine ⟨d, usedL [] l, s, e2, hat d (by rw [e1]; simp), rfl, hl l (d :: r) e1, rfl, ?_⟩
      rw [hI]
      refine ⟨rfl, l ++ [d], r, .val y, by rw [e1, List.append_assoc]; rfl, e3, ?_⟩
      unfold usedL
      rw [List.foldl_append]
      rfl
    | [], e2 => cases e2
  refine for_inv I (fun y ys v x hv => ?_) (fun v x hv => ?_) ?_
  · obtain ⟨d, l, s, rfl, ha, rfl, hlen, rfl, q⟩ := turn y ys v x hv
    refine ⟨by rfl, _, rfl, ?_⟩
    clear turn last hat hl hI
    have step : ∀ s : Str, (s ∈ l ∧ addS l s = l) ∨ (s ∉ l ∧ (addS l s).map T.str = l.map T.str ++ [.str s]) := fun s => by
      unfold addS
      by_cases h : s ∈ l
      · exact .inl ⟨h, if_pos h⟩
      · exact .inr ⟨h, by rw [if_neg h, List.map_append]; rfl⟩
    have hin : ∀ s : Str, inT (.str s) (l.map .str) = decide (s ∈ l) := fun s => inT_strs
    cases d <;> first
      | exact Bool.noConfusion ha
      | (simp only [Cd.t, Cd.nm, List.foldl_nil, List.foldl_cons] at *
         clear step hin
         walk_at "qd"
         done)
      | (rename_i s
         rcases step s with ⟨st, st2⟩ | ⟨st, st2⟩
         all_goals
           have hin := hin s
           clear step
           simp only [Cd.t, Cd.nm, List.foldl_nil, List.foldl_cons] at *
           first
             | rw [st2] at q
             | skip
           walk_at "qd"
         done)
      | (rename_i s v0
         rcases step s with ⟨st, st2⟩ | ⟨st, st2⟩
         all_goals
           have hin := hin s
           clear step
           simp only [Cd.t, Cd.nm, List.foldl_nil, List.foldl_cons] at *
           first
             | rw [st2] at q
             | skip
           walk_at "qd"
         done)
  · obtain ⟨s, rfl, rfl⟩ := last v x hv
    clear turn last hat hl hI
    walk_at "qd"
  · rw [hI]
    exact ⟨rfl, [], cs, .no, rfl, rfl, rfl⟩
end
end K01

set_option maxHeartbeats 4000000
namespace K01
open PySem PySem.Spec PyProof.Rows L2 TL TLP
section
variable {fu n : Nat}
theorem in_names {ns : List Str} : ∀ {c : Cd}, c.In ns ↔ ∀ x ∈ c.atoms, ∀ s ∈ x.nm, s ∈ ns
  | .neg c => in_names (c := c)
  | .bth a b => by
    show a.In ns ∧ b.In ns ↔ ∀ x ∈ a.atoms ++ b.atoms, _
    rw [in_names (c := a), in_names (c := b)]
    simp only [List.mem_append, or_imp, forall_and]
  | .eit a b => by
    show a.In ns ∧ b.In ns ↔ ∀ x ∈ a.atoms ++ b.atoms, _
    rw [in_names (c := a), in_names (c := b)]
    simp only [List.mem_append, or_imp, forall_and]
  | .alw => by simp [Cd.In, Cd.atoms, Cd.nm]
  | .bln s => by simp [Cd.In, Cd.atoms, Cd.nm]
  | .isv s _ => by simp [Cd.In, Cd.atoms, Cd.nm]
  | .bel s _ => by simp [Cd.In, Cd.atoms, Cd.nm]
  | .beg s _ => by simp [Cd.In, Cd.atoms, Cd.nm]
theorem in_used {ns : List Str} {c : Cd} : c.In ns ↔ (usedL [] c.atoms).all (fun s => decide (s ∈ ns)) = true := by
  rw [in_names, List.all_eq_true]
  constructor
  · intro h s hs
    rw [usedL_mem] at hs
    rcases hs with hs | ⟨x, hx, hs⟩
    · cases hs
    · exact decide_eq_true (h x hx s hs)
  · intro h x hx s hs
    exact of_decide_eq_true (h s (usedL_mem.mpr (.inr ⟨x, hx, hs⟩)))
/-- small enough to be asked -/
structure Fit (c : Cd) : Prop where
  ok : c.Ok
  dep : c.dep ≤ 8
  size : c.size ≤ 40
theorem nat_size : ∀ c : Cd, c.nat ≤ c.size
  | .neg c => Nat.le_trans (nat_size c) (by simp [Cd.size])
  | .bth a b => by have := nat_size a; have := nat_size b; simp only [Cd.nat, Cd.size]; omega
  | .eit a b => by have := nat_size a; have := nat_size b; simp only [Cd.nat, Cd.size]; omega
  | .alw => Nat.le_refl _
  | .bln _ => Nat.le_refl _
  | .isv _ _ => Nat.le_refl _
  | .bel _ _ => Nat.le_refl _
  | .beg _ _ => Nat.le_refl _
open Classical in
theorem is_cond_of_ok {c : Cd} (h : Fit c) {ns : List Str} (hn : 13 ≤ n) : qcall fu F (n + 1) 34 [.val c.t, .val (nmT ns)] = ret (.bl (decide (c.In ns))) 2 := by
  obtain ⟨n, rfl⟩ : ∃ j, n = j + 1 := ⟨n - 1, by omega⟩
  have e1 := is_cond_ok (fu := fu) (n := n) h.ok h.dep h.size (by omega)
  have e2 := used_names_ok (fu := fu) (n := n) (c := c) (by have := nat_size c; have := h.size; omega) (by have := h.dep; omega)
  have key : (decide (c.In ns)) = (usedL [] c.atoms).all (fun s => decide (s ∈ ns)) := by
    rw [Bool.eq_iff_iff, decide_eq_true_eq]
    exact in_used
  rw [key]
  refine QC.eq_of ?_
  rw [C_call (d := ⟨2, 3, ir_is_condition_of⟩) rfl rfl]
  generalize qcall fu F (n + 1) = Ψ at *
  unfold ir_is_condition_of
  generalize usedL [] c.atoms = us at *
  walk_at "qd"
  refine G_lc (fun y => .bl (inT y (ns.map .str))) (fun y hy => ?_) ?_
  · obtain ⟨s, hs, rfl⟩ := List.mem_map.mp hy
    walk_at "qd"
  · have e3 : blsOf ((us.map T.str).map fun y => .bl (inT y (ns.map .str))) = some (us.map fun s => decide (s ∈ ns)) := by
      rw [bls_map, List.map_map]
      congr 1
      exact List.map_congr_left fun s _ => inT_strs
    have e4 : (us.map fun s => decide (s ∈ ns)).all id = us.all fun s => decide (s ∈ ns) := all_map_id _
    walk_at "qv"
/-! ### whether it holds -/
def begT (u : T) (z : Str) : Bool := match u with
  | .str x => Txt.startswith x z
  | _ => false
def Cd.holds (ns : List Str) (r : List T) : Cd → Bool
  | .alw => true
  | .bln s => isNon (atN ns r s)
  | .isv s v => eqv (atN ns r s) v
  | .bel s v => befT (atN ns r s) v
  | .beg s z => begT (atN ns r s) z
  | .neg c => !c.holds ns r
  | .bth a b => a.holds ns r && b.holds ns r
  | .eit a b => a.holds ns r || b.holds ns r
theorem sw_cut {x z : Str} : Txt.startswith x z = decide (cutS x none (some (z.length : Int)) = z) := by
  have e : (cutS x none (some (z.length : Int))).cps.toList = x.cps.toList.take z.length := by
    have e1 : HT.sIx x.length 0 none = 0 := rfl
    have e2 : HT.sIx x.length x.length (some (z.length : Int)) = min z.length x.length := HT.sIx_nat _ _ _
    unfold cutS
    rw [e1, e2]
    simp only [List.drop_zero, Nat.sub_zero]
    have l : x.cps.toList.length = x.length := len_cps.symm
    by_cases h : z.length ≤ x.length
    · rw [Nat.min_eq_left h]
    · rw [Nat.min_eq_right (by omega), List.take_of_length_le (by omega), List.take_of_length_le (by omega)]
  have key : (cutS x none (some (z.length : Int)) = z) ↔ x.cps.toList.take z.length = z.cps.toList := by
    rw [← e]
    constructor
    · intro h; rw [h]
    · intro h
      have h2 : (cutS x none (some (z.length : Int))).cps = z.cps := Array.toList_inj.mp h
      cases hx : cutS x none (some (z.length : Int))
      cases z
      rw [hx] at h2
      simp only at h2
      rw [h2]
  show (decide (0 + z.length ≤ x.length) && Builtin.Str.subAt x z 0) = _
  rw [PySem.StrLaws.subAt_eq, List.drop_zero]
  rw [Bool.eq_iff_iff, Bool.and_eq_true, decide_eq_true_eq, decide_eq_true_eq, beq_iff_eq, key]
  constructor
  · exact fun h => h.2
  · intro h
    refine ⟨?_, h⟩
    have h2 := congrArg List.length h
    rw [List.length_take, ← len_cps, ← len_cps] at h2
    omega
theorem flat_val {ns : List Str} {r : List T} {s : Str} (hs : s ∈ ns) (hl : r.length = ns.length) (hv : r.all valT = true) : flatT (atN ns r s) = true :=
  valT_flat (List.all_eq_true.mp hv _ (List.mem_of_getElem? (atN_get hs hl)))
theorem eqOk_flat {u v : T} (hu : flatT u = true) (hv : flatT v = true) : eqOk u v = true := by
  unfold eqOk
  rw [flat_dat hu, flat_dat hv, flat_dep hu]
  simp
theorem deref_flat {u : T} {η : Sto} (hu : flatT u = true) : deref η u = u := by cases u <;> first | rfl | exact Bool.noConfusion hu
theorem atom_holds_ok {c : Cd} (h : c.Ok) (ha : c.isAtom = true) (hw : c ≠ .alw) {ns : List Str} {r : List T} (hin : c.In ns) (hl : r.length = ns.length) (hv : r.all valT = true) {u : T} (hu : ∀ s ∈ c.nm, u = atN ns r s) : qcall fu F (n + 3) 35 [.val c.t, .val u] = ret (.bl (c.holds ns r)) 2 := by
  have i9 := fun {a b : T} ha hb => is_before_ok (fu := fu) (n := n) (F := F) (hasF.sub (by simp)) (a := a) (b := b) ha hb
  refine QC.eq_of ?_
  rw [C_call (d := ⟨2, 2, ir_atom_holds⟩) rfl rfl]
  generalize qcall fu F (n + 2) = Ψ at *
  unfold ir_atom_holds
  cases c with
  | alw => exact absurd rfl hw
  | neg c => exact Bool.noConfusion ha
  | bth a b => exact Bool.noConfusion ha
  | eit a b => exact Bool.noConfusion ha
  | bln s =>
    have e := hu s (by simp [Cd.nm])
    have ef := flat_val hin hl hv
    have goal : (Cd.bln s).holds ns r = isNon u := by rw [e]; rfl
    rw [← e] at ef
    clear i9 hu
    simp only [Cd.t] at *
    walk_at "qd"
  | isv s v =>
    have e := hu s (by simp [Cd.nm])
    have ef := flat_val hin hl hv
    have goal : (Cd.isv s v).holds ns r = eqv u v := by rw [e]; rfl
    rw [← e] at ef
    have fv := valT_flat h.2
    have e1 := eqOk_flat ef fv
    have e2 : deref [] u = u := deref_flat ef
    have e3 : deref [] v = v := deref_flat fv
    clear i9 hu e
    simp only [Cd.t] at *
    walk_at "qd"
  | bel s v =>
    have e := hu s (by simp [Cd.nm])
    have ef := flat_val hin hl hv
    have goal : (Cd.bel s v).holds ns r = befT u v := by rw [e]; rfl
    rw [← e] at ef
    have fv := valT_flat h.2
    replace i9 := i9 ef fv
    clear hu e
    simp only [Cd.t] at *
    walk_at "qd"
  | beg s z =>
    have e := hu s (by simp [Cd.nm])
    have ef := flat_val hin hl hv
    have goal : (Cd.beg s z).holds ns r = begT u z := by rw [e]; rfl
    rw [← e] at ef
    clear i9 hu e
    simp only [Cd.t] at *
    cases u <;> first
      | exact Bool.noConfusion ef
      | (unfold begT at goal
         walk_at "qd")
/-- both ways to ask -/
theorem holds_both {ns : List Str} {r : List T} (hl : r.length = ns.length) (hv : r.all valT = true) : ∀ (c : Cd) (n : Nat), c.Ok → c.In ns → c.dep + 3 ≤ n → qcall fu F n 36 [.val c.t, .val (nmT ns), .val (.tup r)] = ret (.bl (c.holds ns r)) 3 ∧ qcall fu F n 43 [.val c.t, .val (nmT ns), .val (.tup r)] = ret (.bl (c.holds ns r)) 3
  | .alw, n, h, hi, hn => by
    obtain ⟨n, rfl⟩ : ∃ j, n = j + 1 := ⟨n - 1, by omega⟩
    constructor
    · refine QC.eq_of ?_
      rw [C_call (d := ⟨3, 4, ir_holds_for⟩) rfl rfl]
      generalize qcall fu F n = Ψ at *
      unfold ir_holds_for
      simp only [Cd.t] at *
      walk_at "qd"
      rfl
    · refine QC.eq_of ?_
      rw [C_call (d := ⟨3, 7, ir__law_holds⟩) rfl rfl]
      generalize qcall fu F n = Ψ at *
      unfold ir__law_holds
      simp only [Cd.t] at *
      walk_at "qd"
      rfl
  | .neg c, n, h, hi, hn => by
    obtain ⟨n, rfl⟩ : ∃ j, n = j + 1 := ⟨n - 1, by omega⟩
    obtain ⟨e1, e2⟩ := holds_both hl hv c n h hi (by simp only [Cd.dep] at hn; omega)
    constructor
    · refine QC.eq_of ?_
      rw [C_call (d := ⟨3, 4, ir_holds_for⟩) rfl rfl]
      generalize qcall fu F n = Ψ at *
      unfold ir_holds_for
      simp only [Cd.t] at *
      walk_at "qd"
      rfl
    · refine QC.eq_of ?_
      rw [C_call (d := ⟨3, 7, ir__law_holds⟩) rfl rfl]
      generalize qcall fu F n = Ψ at *
      unfold ir__law_holds
      simp only [Cd.t] at *
      walk_at "qd"
      rfl
  | .bth a b, n, h, hi, hn => by
    obtain ⟨n, rfl⟩ : ∃ j, n = j + 1 := ⟨n - 1, by omega⟩
    simp only [Cd.dep] at hn
    obtain ⟨e1, e2⟩ := holds_both hl hv a n h.1 hi.1 (by omega)
    obtain ⟨e3, e4⟩ := holds_both hl hv b n h.2 hi.2 (by omega)
    have goal : (Cd.bth a b).holds ns r = (a.holds ns r && b.holds ns r) := rfl
    have cut : cutT [.str "both", a.t, b.t] (some 1) none = [a.t, b.t] := cut_drop (xs := [.str "both", a.t, b.t]) (k := 1)
    constructor
    · refine QC.eq_of ?_
      rw [C_call (d := ⟨3, 4, ir_holds_for⟩) rfl rfl]
      generalize qcall fu F n = Ψ at *
      unfold ir_holds_for
      simp only [Cd.t] at *
      generalize a.holds ns r = p at *
      generalize b.holds ns r = q at *
      cases p <;> walk_at "qd"
    · refine QC.eq_of ?_
      rw [C_call (d := ⟨3, 7, ir__law_holds⟩) rfl rfl]
      generalize qcall fu F n = Ψ at *
      unfold ir__law_holds
      simp only [Cd.t] at *
      generalize a.holds ns r = p at *
      generalize b.holds ns r = q at *
      cases p <;> cases q <;> (walk_at "qd"; rfl)
  | .eit a b, n, h, hi, hn => by
    obtain ⟨n, rfl⟩ : ∃ j, n = j + 1 := ⟨n - 1, by omega⟩
    simp only [Cd.dep] at hn
    obtain ⟨e1, e2⟩ := holds_both hl hv a n h.1 hi.1 (by omega)
    obtain ⟨e3, e4⟩ := holds_both hl hv b n h.2 hi.2 (by omega)
    have goal : (Cd.eit a b).holds ns r = (a.holds ns r || b.holds ns r) := rfl
    have cut : cutT [.str "either", a.t, b.t] (some 1) none = [a.t, b.t] := cut_drop (xs := [.str "either", a.t, b.t]) (k := 1)
    constructor
    · refine QC.eq_of ?_
      rw [C_call (d := ⟨3, 4, ir_holds_for⟩) rfl rfl]
      generalize qcall fu F n = Ψ at *
      unfold ir_holds_for
      simp only [Cd.t] at *
      generalize a.holds ns r = p at *
      generalize b.holds ns r = q at *
      cases p <;> walk_at "qd"
    · refine QC.eq_of ?_
      rw [C_call (d := ⟨3, 7, ir__law_holds⟩) rfl rfl]
      generalize qcall fu F n = Ψ at *
      unfold ir__law_holds
      simp only [Cd.t] at *
      generalize a.holds ns r = p at *
      generalize b.holds ns r = q at *
      cases p <;> cases q <;> (walk_at "qd"; rfl)
  | .bln s, n, h, hi, hn => by
    obtain ⟨n, rfl⟩ : ∃ j, n = j + 4 := ⟨n - 4, by simp only [Cd.dep] at hn; omega⟩
    have e1 := atom_holds_ok (fu := fu) (n := n) (c := .bln s) h rfl (fun z => by cases z) hi hl hv (u := atN ns r s) (fun x hx => by rw [List.mem_singleton.mp hx])
    have e2 := at_name_ok (fu := fu) (n := n + 2) (hasF.sub (by simp)) (s := s) hi hl
    have e3 := atN_get (s := s) hi hl
    have e4 := ixOf_pos (s := s) hi
    have ef := flat_val (s := s) hi hl hv
    constructor
    · refine QC.eq_of ?_
      rw [C_call (d := ⟨3, 4, ir_holds_for⟩) rfl rfl]
      generalize qcall fu F (n + 3) = Ψ at *
      unfold ir_holds_for
      simp only [Cd.t] at *
      walk_at "qd"
    · refine QC.eq_of ?_
      rw [C_call (d := ⟨3, 7, ir__law_holds⟩) rfl rfl]
      generalize qcall fu F (n + 3) = Ψ at *
      unfold ir__law_holds
      simp only [Cd.t] at *
      walk_at "qd"
      rfl
  | .isv s v, n, h, hi, hn => by
    obtain ⟨n, rfl⟩ : ∃ j, n = j + 4 := ⟨n - 4, by simp only [Cd.dep] at hn; omega⟩
    have e1 := atom_holds_ok (fu := fu) (n := n) (c := .isv s v) h rfl (fun z => by cases z) hi hl hv (u := atN ns r s) (fun x hx => by rw [List.mem_singleton.mp hx])
    have e2 := at_name_ok (fu := fu) (n := n + 2) (hasF.sub (by simp)) (s := s) hi hl
    have e3 := atN_get (s := s) hi hl
    have e4 := ixOf_pos (s := s) hi
    have ef := flat_val (s := s) hi hl hv
    have fv := valT_flat h.2
    have k1 := law_kind_ok (fu := fu) (n := n + 2) (F := F) (hasF.sub (by simp)) ef
    have k2 := law_kind_ok (fu := fu) (n := n + 2) (F := F) (hasF.sub (by simp)) fv
    have goal : (Cd.isv s v).holds ns r = eqv (atN ns r s) v := rfl
    constructor
    · refine QC.eq_of ?_
      rw [C_call (d := ⟨3, 4, ir_holds_for⟩) rfl rfl]
      generalize qcall fu F (n + 3) = Ψ at *
      unfold ir_holds_for
      simp only [Cd.t] at *
      walk_at "qd"
    · refine QC.eq_of ?_
      rw [C_call (d := ⟨3, 7, ir__law_holds⟩) rfl rfl]
      generalize qcall fu F (n + 3) = Ψ at *
      unfold ir__law_holds
      simp only [Cd.t] at *
      clear e1 e2 h
      generalize atN ns r s = u at *
      have e5 := eqOk_flat ef fv
      have e6 : deref [] u = u := deref_flat ef
      have e7 : deref [] v = v := deref_flat fv
      by_cases hk : kindT u = kindT v
      · walk_at "qd"
      · have e8 : eqv u v = false := by
          cases u <;> first | exact Bool.noConfusion ef | skip
          all_goals cases v <;> first | exact Bool.noConfusion fv | rfl | exact absurd rfl hk
        walk_at "qd"
  | .bel s v, n, h, hi, hn => by
    obtain ⟨n, rfl⟩ : ∃ j, n = j + 4 := ⟨n - 4, by simp only [Cd.dep] at hn; omega⟩
    have e1 := atom_holds_ok (fu := fu) (n := n) (c := .bel s v) h rfl (fun z => by cases z) hi hl hv (u := atN ns r s) (fun x hx => by rw [List.mem_singleton.mp hx])
    have e2 := at_name_ok (fu := fu) (n := n + 2) (hasF.sub (by simp)) (s := s) hi hl
    have e3 := atN_get (s := s) hi hl
    have e4 := ixOf_pos (s := s) hi
    have ef := flat_val (s := s) hi hl hv
    have fv := valT_flat h.2
    have k1 := law_before_ok (fu := fu) (n := n + 1) (F := F) (hasF.sub (by simp)) ef fv
    have goal : (Cd.bel s v).holds ns r = befT (atN ns r s) v := rfl
    constructor
    · refine QC.eq_of ?_
      rw [C_call (d := ⟨3, 4, ir_holds_for⟩) rfl rfl]
      generalize qcall fu F (n + 3) = Ψ at *
      unfold ir_holds_for
      simp only [Cd.t] at *
      walk_at "qd"
    · refine QC.eq_of ?_
      rw [C_call (d := ⟨3, 7, ir__law_holds⟩) rfl rfl]
      generalize qcall fu F (n + 3) = Ψ at *
      unfold ir__law_holds
      simp only [Cd.t] at *
      clear e1 e2 h
      walk_at "qd"
  | .beg s z, n, h, hi, hn => by
    obtain ⟨n, rfl⟩ : ∃ j, n = j + 4 := ⟨n - 4, by simp only [Cd.dep] at hn; omega⟩
    have e1 := atom_holds_ok (fu := fu) (n := n) (c := .beg s z) h rfl (fun z => by cases z) hi hl hv (u := atN ns r s) (fun x hx => by rw [List.mem_singleton.mp hx])
    have e2 := at_name_ok (fu := fu) (n := n + 2) (hasF.sub (by simp)) (s := s) hi hl
    have e3 := atN_get (s := s) hi hl
    have e4 := ixOf_pos (s := s) hi
    have ef := flat_val (s := s) hi hl hv
    have goal : (Cd.beg s z).holds ns r = begT (atN ns r s) z := rfl
    constructor
    · refine QC.eq_of ?_
      rw [C_call (d := ⟨3, 4, ir_holds_for⟩) rfl rfl]
      generalize qcall fu F (n + 3) = Ψ at *
      unfold ir_holds_for
      simp only [Cd.t] at *
      walk_at "qd"
    · refine QC.eq_of ?_
      rw [C_call (d := ⟨3, 7, ir__law_holds⟩) rfl rfl]
      generalize qcall fu F (n + 3) = Ψ at *
      unfold ir__law_holds
      simp only [Cd.t] at *
      clear e1 e2 h
      generalize atN ns r s = u at *
      cases u <;> first
        | exact Bool.noConfusion ef
        | (unfold begT at goal
           have sw := fun x : Str => sw_cut (x := x) (z := z)
           simp only [sw] at goal
           clear sw
           walk_at "qd")
end
end K01

set_option maxHeartbeats 4000000
namespace K01
open PySem PySem.Spec PyProof.Rows L2 TL TLP
section
variable {fu n : Nat}
/-! ### pushed, plain -/
def Cd.push : Cd → Bool → Cd
  | .neg c, b => c.push (!b)
  | .bth x y, b => if b = true then .eit (x.push b) (y.push b) else .bth (x.push b) (y.push b)
  | .eit x y, b => if b = true then .bth (x.push b) (y.push b) else .eit (x.push b) (y.push b)
  | c, b => if b = true then .neg c else c
theorem pushed_both : ∀ (c : Cd) (n : Nat) (b : Bool), c.dep ≤ n → qcall fu F n 40 [.val c.t, .val (.bl b)] = ret (c.push b).t 2 ∧ qcall fu F n 47 [.val c.t, .val (.bl b)] = ret (c.push b).t 2
  | c, 0, b, hn => by have := c.dep_pos; omega
  | .neg c, n + 1, b, hn => by
    obtain ⟨e1, e2⟩ := pushed_both c n (!b) (by simp only [Cd.dep] at hn; omega)
    constructor
    · refine QC.eq_of ?_
      rw [C_call (d := ⟨2, 4, ir_pushed⟩) rfl rfl]
      generalize qcall fu F n = Ψ at *
      unfold ir_pushed
      simp only [Cd.t] at *
      walk_at "qd"
      rfl
    · refine QC.eq_of ?_
      rw [C_call (d := ⟨2, 3, ir__law_pushed⟩) rfl rfl]
      generalize qcall fu F n = Ψ at *
      unfold ir__law_pushed
      simp only [Cd.t] at *
      walk_at "qd"
      rfl
  | .bth x y, n + 1, b, hn => by
    simp only [Cd.dep] at hn
    obtain ⟨e1, e2⟩ := pushed_both x n b (by omega)
    obtain ⟨e3, e4⟩ := pushed_both y n b (by omega)
    constructor
    · refine QC.eq_of ?_
      rw [C_call (d := ⟨2, 4, ir_pushed⟩) rfl rfl]
      generalize qcall fu F n = Ψ at *
      unfold ir_pushed
      simp only [Cd.t] at *
      cases b <;> (walk_at "qd"; rfl)
    · refine QC.eq_of ?_
      rw [C_call (d := ⟨2, 3, ir__law_pushed⟩) rfl rfl]
      generalize qcall fu F n = Ψ at *
      unfold ir__law_pushed
      simp only [Cd.t] at *
      cases b <;> (walk_at "qd"; rfl)
  | .eit x y, n + 1, b, hn => by
    simp only [Cd.dep] at hn
    obtain ⟨e1, e2⟩ := pushed_both x n b (by omega)
    obtain ⟨e3, e4⟩ := pushed_both y n b (by omega)
    constructor
    · refine QC.eq_of ?_
      rw [C_call (d := ⟨2, 4, ir_pushed⟩) rfl rfl]
      generalize qcall fu F n = Ψ at *
      unfold ir_pushed
      simp only [Cd.t] at *
      cases b <;> (walk_at "qd"; rfl)
    · refine QC.eq_of ?_
      rw [C_call (d := ⟨2, 3, ir__law_pushed⟩) rfl rfl]
      generalize qcall fu F n = Ψ at *
      unfold ir__law_pushed
      simp only [Cd.t] at *
      cases b <;> (walk_at "qd"; rfl)
  | .alw, n + 1, b, hn => by
    constructor
    · refine QC.eq_of ?_
      rw [C_call (d := ⟨2, 4, ir_pushed⟩) rfl rfl]
      generalize qcall fu F n = Ψ at *
      unfold ir_pushed
      simp only [Cd.t] at *
      cases b <;> (walk_at "qd"; rfl)
    · refine QC.eq_of ?_
      rw [C_call (d := ⟨2, 3, ir__law_pushed⟩) rfl rfl]
      generalize qcall fu F n = Ψ at *
      unfold ir__law_pushed
      simp only [Cd.t] at *
      cases b <;> (walk_at "qd"; rfl)
  | .bln s, n + 1, b, hn => by
    constructor
    · refine QC.eq_of ?_
      rw [C_call (d := ⟨2, 4, ir_pushed⟩) rfl rfl]
      generalize qcall fu F n = Ψ at *
      unfold ir_pushed
      simp only [Cd.t] at *
      cases b <;> (walk_at "qd"; rfl)
    · refine QC.eq_of ?_
      rw [C_call (d := ⟨2, 3, ir__law_pushed⟩) rfl rfl]
      generalize qcall fu F n = Ψ at *
      unfold ir__law_pushed
      simp only [Cd.t] at *
      cases b <;> (walk_at "qd"; rfl)
  | .isv s v, n + 1, b, hn => by
    constructor
    · refine QC.eq_of ?_
      rw [C_call (d := ⟨2, 4, ir_pushed⟩) rfl rfl]
      generalize qcall fu F n = Ψ at *
      unfold ir_pushed
      simp only [Cd.t] at *
      cases b <;> (walk_at "qd"; rfl)
    · refine QC.eq_of ?_
      rw [C_call (d := ⟨2, 3, ir__law_pushed⟩) rfl rfl]
      generalize qcall fu F n = Ψ at *
      unfold ir__law_pushed
      simp only [Cd.t] at *
      cases b <;> (walk_at "qd"; rfl)
  | .bel s v, n + 1, b, hn => by
    constructor
    · refine QC.eq_of ?_
      rw [C_call (d := ⟨2, 4, ir_pushed⟩) rfl rfl]
      generalize qcall fu F n = Ψ at *
      unfold ir_pushed
      simp only [Cd.t] at *
      cases b <;> (walk_at "qd"; rfl)
    · refine QC.eq_of ?_
      rw [C_call (d := ⟨2, 3, ir__law_pushed⟩) rfl rfl]
      generalize qcall fu F n = Ψ at *
      unfold ir__law_pushed
      simp only [Cd.t] at *
      cases b <;> (walk_at "qd"; rfl)
  | .beg s z, n + 1, b, hn => by
    constructor
    · refine QC.eq_of ?_
      rw [C_call (d := ⟨2, 4, ir_pushed⟩) rfl rfl]
      generalize qcall fu F n = Ψ at *
      unfold ir_pushed
      simp only [Cd.t] at *
      cases b <;> (walk_at "qd"; rfl)
    · refine QC.eq_of ?_
      rw [C_call (d := ⟨2, 3, ir__law_pushed⟩) rfl rfl]
      generalize qcall fu F n = Ψ at *
      unfold ir__law_pushed
      simp only [Cd.t] at *
      cases b <;> (walk_at "qd"; rfl)
/-! ### what pushing leaves -/
theorem push_ok : ∀ {c : Cd} {b : Bool}, c.Ok → (c.push b).Ok
  | .neg c, b, h => push_ok (c := c) h
  | .bth x y, b, h => by cases b <;> exact ⟨push_ok h.1, push_ok h.2⟩
  | .eit x y, b, h => by cases b <;> exact ⟨push_ok h.1, push_ok h.2⟩
  | .alw, b, h => by cases b <;> exact h
  | .bln _, b, h => by cases b <;> exact h
  | .isv _ _, b, h => by cases b <;> exact h
  | .bel _ _, b, h => by cases b <;> exact h
  | .beg _ _, b, h => by cases b <;> exact h
theorem push_in {ns : List Str} : ∀ {c : Cd} {b : Bool}, c.In ns → (c.push b).In ns
  | .neg c, b, h => push_in (c := c) h
  | .bth x y, b, h => by cases b <;> exact ⟨push_in h.1, push_in h.2⟩
  | .eit x y, b, h => by cases b <;> exact ⟨push_in h.1, push_in h.2⟩
  | .alw, b, h => by cases b <;> exact h
  | .bln _, b, h => by cases b <;> exact h
  | .isv _ _, b, h => by cases b <;> exact h
  | .bel _ _, b, h => by cases b <;> exact h
  | .beg _ _, b, h => by cases b <;> exact h
theorem push_dep : ∀ {c : Cd} {b : Bool}, (c.push b).dep ≤ c.dep + 1
  | .neg c, b => by
    have := push_dep (c := c) (b := !b)
    show (c.push (!b)).dep ≤ 1 + c.dep + 1
    omega
  | .bth x y, b => by
    have := push_dep (c := x) (b := b)
    have := push_dep (c := y) (b := b)
    cases b
    · show 1 + max (x.push false).dep (y.push false).dep ≤ 1 + max x.dep y.dep + 1
      omega
    · show 1 + max (x.push true).dep (y.push true).dep ≤ 1 + max x.dep y.dep + 1
      omega
  | .eit x y, b => by
    have := push_dep (c := x) (b := b)
    have := push_dep (c := y) (b := b)
    cases b
    · show 1 + max (x.push false).dep (y.push false).dep ≤ 1 + max x.dep y.dep + 1
      omega
    · show 1 + max (x.push true).dep (y.push true).dep ≤ 1 + max x.dep y.dep + 1
      omega
  | .alw, b => by cases b <;> first | exact Nat.le_succ 1 | exact Nat.le_refl _
  | .bln _, b => by cases b <;> first | exact Nat.le_succ 1 | exact Nat.le_refl _
  | .isv _ _, b => by cases b <;> first | exact Nat.le_succ 1 | exact Nat.le_refl _
  | .bel _ _, b => by cases b <;> first | exact Nat.le_succ 1 | exact Nat.le_refl _
  | .beg _ _, b => by cases b <;> first | exact Nat.le_succ 1 | exact Nat.le_refl _
theorem nat_pos : ∀ c : Cd, 1 ≤ c.nat
  | .neg c => nat_pos c
  | .bth a b => by have := nat_pos a; show 1 ≤ a.nat + b.nat; omega
  | .eit a b => by have := nat_pos a; show 1 ≤ a.nat + b.nat; omega
  | .alw => Nat.le_refl _
  | .bln _ => Nat.le_refl _
  | .isv _ _ => Nat.le_refl _
  | .bel _ _ => Nat.le_refl _
  | .beg _ _ => Nat.le_refl _
theorem push_size : ∀ {c : Cd} {b : Bool}, (c.push b).size + 1 ≤ 3 * c.nat
  | .neg c, b => push_size (c := c) (b := !b)
  | .bth x y, b => by
    have := push_size (c := x) (b := b)
    have := push_size (c := y) (b := b)
    cases b
    · show 1 + (x.push false).size + (y.push false).size + 1 ≤ 3 * (x.nat + y.nat)
      omega
    · show 1 + (x.push true).size + (y.push true).size + 1 ≤ 3 * (x.nat + y.nat)
      omega
  | .eit x y, b => by
    have := push_size (c := x) (b := b)
    have := push_size (c := y) (b := b)
    cases b
    · show 1 + (x.push false).size + (y.push false).size + 1 ≤ 3 * (x.nat + y.nat)
      omega
    · show 1 + (x.push true).size + (y.push true).size + 1 ≤ 3 * (x.nat + y.nat)
      omega
  | .alw, b => by cases b <;> decide
  | .bln _, b => by cases b <;> simp [Cd.push, Cd.size, Cd.nat]
  | .isv _ _, b => by cases b <;> simp [Cd.push, Cd.size, Cd.nat]
  | .bel _ _, b => by cases b <;> simp [Cd.push, Cd.size, Cd.nat]
  | .beg _ _, b => by cases b <;> simp [Cd.push, Cd.size, Cd.nat]
theorem push_nat : ∀ {c : Cd} {b : Bool}, (c.push b).nat = c.nat
  | .neg c, b => push_nat (c := c) (b := !b)
  | .bth x y, b => by
    have h1 := push_nat (c := x) (b := b)
    have h2 := push_nat (c := y) (b := b)
    cases b
    · show (x.push false).nat + (y.push false).nat = x.nat + y.nat
      rw [h1, h2]
    · show (x.push true).nat + (y.push true).nat = x.nat + y.nat
      rw [h1, h2]
  | .eit x y, b => by
    have h1 := push_nat (c := x) (b := b)
    have h2 := push_nat (c := y) (b := b)
    cases b
    · show (x.push false).nat + (y.push false).nat = x.nat + y.nat
      rw [h1, h2]
    · show (x.push true).nat + (y.push true).nat = x.nat + y.nat
      rw [h1, h2]
  | .alw, b => by cases b <;> rfl
  | .bln _, b => by cases b <;> rfl
  | .isv _ _, b => by cases b <;> rfl
  | .bel _ _, b => by cases b <;> rfl
  | .beg _ _, b => by cases b <;> rfl
theorem push_holds {ns : List Str} {r : List T} : ∀ {c : Cd} {b : Bool}, (c.push b).holds ns r = (b != c.holds ns r)
  | .neg c, b => by
    show (c.push (!b)).holds ns r = (b != !c.holds ns r)
    rw [push_holds (c := c)]
    cases b <;> cases c.holds ns r <;> rfl
  | .bth x y, b => by
    have h1 := push_holds (ns := ns) (r := r) (c := x) (b := b)
    have h2 := push_holds (ns := ns) (r := r) (c := y) (b := b)
    cases b
    · show ((x.push false).holds ns r && (y.push false).holds ns r) = (false != (x.holds ns r && y.holds ns r))
      rw [h1, h2]
      cases x.holds ns r <;> cases y.holds ns r <;> rfl
    · show ((x.push true).holds ns r || (y.push true).holds ns r) = (true != (x.holds ns r && y.holds ns r))
      rw [h1, h2]
      cases x.holds ns r <;> cases y.holds ns r <;> rfl
  | .eit x y, b => by
    have h1 := push_holds (ns := ns) (r := r) (c := x) (b := b)
    have h2 := push_holds (ns := ns) (r := r) (c := y) (b := b)
    cases b
    · show ((x.push false).holds ns r || (y.push false).holds ns r) = (false != (x.holds ns r || y.holds ns r))
      rw [h1, h2]
      cases x.holds ns r <;> cases y.holds ns r <;> rfl
    · show ((x.push true).holds ns r && (y.push true).holds ns r) = (true != (x.holds ns r || y.holds ns r))
      rw [h1, h2]
      cases x.holds ns r <;> cases y.holds ns r <;> rfl
  | .alw, b => by cases b <;> rfl
  | .bln s, b => by cases b <;> (show _ = (_ != isNon (atN ns r s)); simp [Cd.push, Cd.holds])
  | .isv s v, b => by cases b <;> (show _ = (_ != eqv (atN ns r s) v); simp [Cd.push, Cd.holds])
  | .bel s v, b => by cases b <;> (show _ = (_ != befT (atN ns r s) v); simp [Cd.push, Cd.holds])
  | .beg s z, b => by cases b <;> (show _ = (_ != begT (atN ns r s) z); simp [Cd.push, Cd.holds])
theorem push_atoms : ∀ {c : Cd} {b : Bool}, (c.push b).atoms = c.atoms
  | .neg c, b => push_atoms (c := c) (b := !b)
  | .bth x y, b => by
    have h1 := push_atoms (c := x) (b := b)
    have h2 := push_atoms (c := y) (b := b)
    cases b
    · show (x.push false).atoms ++ (y.push false).atoms = x.atoms ++ y.atoms
      rw [h1, h2]
    · show (x.push true).atoms ++ (y.push true).atoms = x.atoms ++ y.atoms
      rw [h1, h2]
  | .eit x y, b => by
    have h1 := push_atoms (c := x) (b := b)
    have h2 := push_atoms (c := y) (b := b)
    cases b
    · show (x.push false).atoms ++ (y.push false).atoms = x.atoms ++ y.atoms
      rw [h1, h2]
    · show (x.push true).atoms ++ (y.push true).atoms = x.atoms ++ y.atoms
      rw [h1, h2]
  | .alw, b => by cases b <;> rfl
  | .bln _, b => by cases b <;> rfl
  | .isv _ _, b => by cases b <;> rfl
  | .bel _ _, b => by cases b <;> rfl
  | .beg _ _, b => by cases b <;> rfl
/-- nots stand at atoms alone -/
def Cd.flat : Cd → Bool
  | .neg c => c.isAtom
  | .bth a b => a.flat && b.flat
  | .eit a b => a.flat && b.flat
  | _ => true
theorem push_flat : ∀ {c : Cd} {b : Bool}, (c.push b).flat = true
  | .neg c, b => push_flat (c := c) (b := !b)
  | .bth x y, b => by
    have h1 := push_flat (c := x) (b := b)
    have h2 := push_flat (c := y) (b := b)
    cases b
    · show ((x.push false).flat && (y.push false).flat) = true
      rw [h1, h2]; rfl
    · show ((x.push true).flat && (y.push true).flat) = true
      rw [h1, h2]; rfl
  | .eit x y, b => by
    have h1 := push_flat (c := x) (b := b)
    have h2 := push_flat (c := y) (b := b)
    cases b
    · show ((x.push false).flat && (y.push false).flat) = true
      rw [h1, h2]; rfl
    · show ((x.push true).flat && (y.push true).flat) = true
      rw [h1, h2]; rfl
  | .alw, b => by cases b <;> rfl
  | .bln _, b => by cases b <;> rfl
  | .isv _ _, b => by cases b <;> rfl
  | .bel _ _, b => by cases b <;> rfl
  | .beg _ _, b => by cases b <;> rfl
theorem flat_push : ∀ {c : Cd}, c.flat = true → c.push false = c
  | .neg c, h => by
    have h : c.isAtom = true := h
    cases c <;> first | exact Bool.noConfusion h | rfl
  | .bth x y, h => by
    have h : (x.flat && y.flat) = true := h
    rw [Bool.and_eq_true] at h
    show Cd.bth (x.push false) (y.push false) = _
    rw [flat_push h.1, flat_push h.2]
  | .eit x y, h => by
    have h : (x.flat && y.flat) = true := h
    rw [Bool.and_eq_true] at h
    show Cd.eit (x.push false) (y.push false) = _
    rw [flat_push h.1, flat_push h.2]
  | .alw, _ => rfl
  | .bln _, _ => rfl
  | .isv _ _, _ => rfl
  | .bel _ _, _ => rfl
  | .beg _ _, _ => rfl
end
end K01

set_option maxHeartbeats 4000000
namespace K01
open PySem PySem.Spec PyProof.Rows L2 TL TLP
section
variable {fu n : Nat}
theorem law_nodes_ok : ∀ (c : Cd) (n : Nat), c.dep ≤ n → qcall fu F n 45 [.val c.t] = ret (.int c.size) 1
  | c, 0, hn => by have := c.dep_pos; omega
  | .neg c, n + 1, hn => by
    have e1 := law_nodes_ok c n (by simp only [Cd.dep] at hn; omega)
    have cut : cutT [.str "not", c.t] (some 1) none = [c.t] := cut_drop (xs := [.str "not", c.t]) (k := 1)
    refine QC.eq_of ?_
    rw [C_call (d := ⟨1, 2, ir__law_nodes⟩) rfl rfl]
    generalize qcall fu F n = Ψ at *
    unfold ir__law_nodes
    simp only [Cd.t] at *
    walk_at "qd"
    refine congrArg (fun i => Bv.p (T.int i)) ?_
    simp only [Cd.size]
    omega
  | .bth x y, n + 1, hn => by
    simp only [Cd.dep] at hn
    have e1 := law_nodes_ok x n (by omega)
    have e2 := law_nodes_ok y n (by omega)
    have cut : cutT [.str "both", x.t, y.t] (some 1) none = [x.t, y.t] := cut_drop (xs := [.str "both", x.t, y.t]) (k := 1)
    refine QC.eq_of ?_
    rw [C_call (d := ⟨1, 2, ir__law_nodes⟩) rfl rfl]
    generalize qcall fu F n = Ψ at *
    unfold ir__law_nodes
    simp only [Cd.t] at *
    walk_at "qd"
    refine congrArg (fun i => Bv.p (T.int i)) ?_
    simp only [Cd.size]
    omega
  | .eit x y, n + 1, hn => by
    simp only [Cd.dep] at hn
    have e1 := law_nodes_ok x n (by omega)
    have e2 := law_nodes_ok y n (by omega)
    have cut : cutT [.str "either", x.t, y.t] (some 1) none = [x.t, y.t] := cut_drop (xs := [.str "either", x.t, y.t]) (k := 1)
    refine QC.eq_of ?_
    rw [C_call (d := ⟨1, 2, ir__law_nodes⟩) rfl rfl]
    generalize qcall fu F n = Ψ at *
    unfold ir__law_nodes
    simp only [Cd.t] at *
    walk_at "qd"
    refine congrArg (fun i => Bv.p (T.int i)) ?_
    simp only [Cd.size]
    omega
  | .alw, n + 1, hn => by
    refine QC.eq_of ?_
    rw [C_call (d := ⟨1, 2, ir__law_nodes⟩) rfl rfl]
    unfold ir__law_nodes
    simp only [Cd.t] at *
    walk_at "qd"
    rfl
  | .bln _, n + 1, hn => by
    refine QC.eq_of ?_
    rw [C_call (d := ⟨1, 2, ir__law_nodes⟩) rfl rfl]
    unfold ir__law_nodes
    simp only [Cd.t] at *
    walk_at "qd"
    rfl
  | .isv _ _, n + 1, hn => by
    refine QC.eq_of ?_
    rw [C_call (d := ⟨1, 2, ir__law_nodes⟩) rfl rfl]
    unfold ir__law_nodes
    simp only [Cd.t] at *
    walk_at "qd"
    rfl
  | .bel _ _, n + 1, hn => by
    refine QC.eq_of ?_
    rw [C_call (d := ⟨1, 2, ir__law_nodes⟩) rfl rfl]
    unfold ir__law_nodes
    simp only [Cd.t] at *
    walk_at "qd"
    rfl
  | .beg _ _, n + 1, hn => by
    refine QC.eq_of ?_
    rw [C_call (d := ⟨1, 2, ir__law_nodes⟩) rfl rfl]
    unfold ir__law_nodes
    simp only [Cd.t] at *
    walk_at "qd"
    rfl
theorem law_is_plain_ok : ∀ (c : Cd) (n : Nat), c.flat = true → c.dep ≤ n → qcall fu F n 46 [.val c.t] = ret (.bl true) 1
  | c, 0, h, hn => by have := c.dep_pos; omega
  | .neg c, n + 1, h, hn => by
    have h : c.isAtom = true := h
    refine QC.eq_of ?_
    rw [C_call (d := ⟨1, 2, ir__law_is_plain⟩) rfl rfl]
    unfold ir__law_is_plain
    cases c <;> first
      | exact Bool.noConfusion h
      | (simp only [Cd.t] at *
         walk_at "qd")
  | .bth x y, n + 1, h, hn => by
    simp only [Cd.dep] at hn
    have h : (x.flat && y.flat) = true := h
    rw [Bool.and_eq_true] at h
    have e1 := law_is_plain_ok x n h.1 (by omega)
    have e2 := law_is_plain_ok y n h.2 (by omega)
    have cut : cutT [.str "both", x.t, y.t] (some 1) none = [x.t, y.t] := cut_drop (xs := [.str "both", x.t, y.t]) (k := 1)
    refine QC.eq_of ?_
    rw [C_call (d := ⟨1, 2, ir__law_is_plain⟩) rfl rfl]
    generalize qcall fu F n = Ψ at *
    unfold ir__law_is_plain
    simp only [Cd.t] at *
    walk_at "qd"
  | .eit x y, n + 1, h, hn => by
    simp only [Cd.dep] at hn
    have h : (x.flat && y.flat) = true := h
    rw [Bool.and_eq_true] at h
    have e1 := law_is_plain_ok x n h.1 (by omega)
    have e2 := law_is_plain_ok y n h.2 (by omega)
    have cut : cutT [.str "either", x.t, y.t] (some 1) none = [x.t, y.t] := cut_drop (xs := [.str "either", x.t, y.t]) (k := 1)
    refine QC.eq_of ?_
    rw [C_call (d := ⟨1, 2, ir__law_is_plain⟩) rfl rfl]
    generalize qcall fu F n = Ψ at *
    unfold ir__law_is_plain
    simp only [Cd.t] at *
    walk_at "qd"
  | .alw, n + 1, h, hn => by
    refine QC.eq_of ?_
    rw [C_call (d := ⟨1, 2, ir__law_is_plain⟩) rfl rfl]
    unfold ir__law_is_plain
    simp only [Cd.t] at *
    walk_at "qd"
  | .bln _, n + 1, h, hn => by
    refine QC.eq_of ?_
    rw [C_call (d := ⟨1, 2, ir__law_is_plain⟩) rfl rfl]
    unfold ir__law_is_plain
    simp only [Cd.t] at *
    walk_at "qd"
  | .isv _ _, n + 1, h, hn => by
    refine QC.eq_of ?_
    rw [C_call (d := ⟨1, 2, ir__law_is_plain⟩) rfl rfl]
    unfold ir__law_is_plain
    simp only [Cd.t] at *
    walk_at "qd"
  | .bel _ _, n + 1, h, hn => by
    refine QC.eq_of ?_
    rw [C_call (d := ⟨1, 2, ir__law_is_plain⟩) rfl rfl]
    unfold ir__law_is_plain
    simp only [Cd.t] at *
    walk_at "qd"
  | .beg _ _, n + 1, h, hn => by
    refine QC.eq_of ?_
    rw [C_call (d := ⟨1, 2, ir__law_is_plain⟩) rfl rfl]
    unfold ir__law_is_plain
    simp only [Cd.t] at *
    walk_at "qd"
/-! ### the drawn condition -/
/-- the most atoms of a drawn condition so deep -/
def most : Nat → Nat
  | 0 => 1
  | 1 => 1
  | 2 => 2
  | d + 3 => most (d + 2) + most (d + 1)
theorem most_pos : ∀ d, 1 ≤ most d
  | 0 => Nat.le_refl _
  | 1 => Nat.le_refl _
  | 2 => by decide
  | d + 3 => by have := most_pos (d + 2); show 1 ≤ most (d + 2) + most (d + 1); omega
def mostS : Nat → Nat
  | 0 => 1
  | 1 => 1
  | 2 => 3
  | d + 3 => 1 + mostS (d + 2) + mostS (d + 1)
structure Drawn (ns : List Str) (d : Nat) (c : Cd) : Prop where
  ok : c.Ok
  inn : c.In ns
  dep : c.dep ≤ d
  nat : c.nat ≤ most d
  size : c.size ≤ mostS d
theorem law_cond_ok {ns : List Str} (hne : ns ≠ []) (hl : ns.length ≤ 8) (hnm : ∀ s ∈ ns, nameT (.str s) = true) : ∀ (d n m : Nat) (xs : List T), 1 ≤ d → d ≤ 6 → d + 3 ≤ n → Dice m xs → m + 1000 * 4 ^ d ≤ 2 ^ 60 →
    ∃ c ys, qcall fu F n 42 [.own (.vl xs), .val (nmT ns), .val (.int d)] = .val (.p (Cd.t c)) [.own (.vl ys), .no, .no] ∧ Dice (m + 1000 * 4 ^ d) ys ∧ Drawn ns d c := by
  intro d
  induction d using Nat.strongRecOn with
  | _ d ih =>
  intro n m xs h1 h6 hn D hm
  have p1 : 1 ≤ 4 ^ d := Nat.one_le_pow _ _ (by decide)
  obtain ⟨n, rfl⟩ : ∃ j, n = j + 4 := ⟨n - 4, by omega⟩
  obtain ⟨r, y1, e1, D1, r0, r1⟩ := roll_ok (fu := fu) (n := n + 2) (F := F) (hasF.sub (by simp)) D (t := 9) (by omega) (by omega) (by omega)
  have start : ∀ {K : Bv → Vn → Prop}, @QS.G (qSs (qcall fu F (n + 3)) fu [0] ir__law_condition [.own (.vl xs), .val (nmT ns), .val (.int d), .no, .no] none) ⟨fun v _ => K (.p .non) (keepP [0] 0 3 v), fun b v => K b (keepP [0] 0 3 v), fun _ _ => False, fun _ _ => False, fun c t v => False⟩ → @QC.G (qcall fu F (n + 4) 42 [.own (.vl xs), .val (nmT ns), .val (.int d)]) ⟨fun _ _ _ => False, K⟩ := fun {K} q => by
    rw [C_call (d := ⟨3, 5, ir__law_condition⟩) rfl rfl]
    exact q
  have hd0 : (1 : Int) < d ↔ 1 < d := by omega
  by_cases c0 : 1 < d ∧ r < 5
  · have c1 : (1 : Int) < d := by omega
    have c2 : r < 5 := c0.2
    obtain ⟨e, rfl⟩ : ∃ e, d = e + 2 := ⟨d - 2, by omega⟩
    have pw : 4 ^ (e + 2) = 4 * 4 ^ (e + 1) := by rw [Nat.pow_succ]; omega
    have pw2 : 4 ^ (e + 1) = 4 * 4 ^ e := by rw [Nat.pow_succ]; omega
    have pe : 1 ≤ 4 ^ e := Nat.one_le_pow _ _ (by decide)
    have dm1 : ((e + 2 : Nat) : Int) - 1 = ((e + 1 : Nat) : Int) := by omega
    by_cases c3 : r = 0
    · obtain ⟨c, y2, e2, D2, g⟩ := ih (e + 1) (by omega) (n + 3) (m + 1) y1 (by omega) (by omega) (by omega) D1 (by omega)
      refine ⟨.neg c, y2, QC.eq_of (start ?_), D2.mono (by omega), ⟨g.ok, g.inn, by show 1 + c.dep ≤ _; have := g.dep; omega, ?_, ?_⟩⟩
      · generalize qcall fu F (n + 3) = Ψ at *
        unfold ir__law_condition
        subst c3
        clear ih start hd0
        walk_at "qd"
        rfl
      · have : most (e + 1) ≤ most (e + 2) := by
          match e with
          | 0 => decide
          | e + 1 => exact Nat.le_add_right _ _
        exact Nat.le_trans g.nat this
      · have h3 := g.size
        have : mostS (e + 1) + 1 ≤ mostS (e + 2) := by
          match e with
          | 0 => decide
          | e + 1 => show mostS (e + 2) + 1 ≤ 1 + mostS (e + 2) + mostS (e + 1); omega
        show 1 + c.size ≤ mostS (e + 2)
        omega
    · obtain ⟨k, w, y2, e2, D2, _, wm⟩ := pick_ok (fu := fu) (n := n + 1) (F := F) (hasF.sub (by simp)) D1 (things := [.str "both", .str "either"]) (.inr rfl) (by omega) (by simp) (by simp)
      obtain ⟨a, y3, e3, D3, ga⟩ := ih (e + 1) (by omega) (n + 3) (m + 1 + 1) y2 (by omega) (by omega) (by omega) D2 (by omega)
      obtain ⟨f, hf, hf2, hf3⟩ : ∃ f : Nat, (if 0 < e then (e : Int) else 1) = (f : Int) ∧ 1 ≤ f ∧ f ≤ e + 1 := by
        by_cases he : 0 < e
        · exact ⟨e, if_pos he, by omega, by omega⟩
        · exact ⟨1, if_neg he, by omega, by omega⟩
      have hf4 : (0 < e ∧ f = e) ∨ (e = 0 ∧ f = 1) := by
        by_cases he : 0 < e
        · rw [if_pos he] at hf; exact .inl ⟨he, by omega⟩
        · rw [if_neg he] at hf; exact .inr ⟨by omega, by omega⟩
      have pf : 4 ^ f ≤ 4 ^ (e + 1) := Nat.pow_le_pow_right (by omega) hf3
      obtain ⟨b, y4, e4, D4, gb⟩ := ih f (by omega) (n + 3) (m + 1 + 1 + 1000 * 4 ^ (e + 1)) y3 hf2 (by omega) (by omega) D3 (by omega)
      have mn : most (e + 1) + most f ≤ most (e + 2) ∧ 1 + mostS (e + 1) + mostS f ≤ mostS (e + 2) := by
        rcases hf4 with ⟨he, rfl⟩ | ⟨rfl, rfl⟩
        · match f, he with
          | g + 1, _ => exact ⟨Nat.le_refl _, Nat.le_refl _⟩
        · decide
      have q1 := ga.nat
      have q2 := gb.nat
      have q3 := ga.size
      have q4 := gb.size
      have q5 := ga.dep
      have q6 := gb.dep
      have Df : Dice (m + 1000 * 4 ^ (e + 2)) y4 := D4.mono (by omega)
      have arg : ((e + 2 : Nat) : Int) = (e : Int) + 2 := by omega
      have lits : (((e + 2 : Nat) : Int) - 2) = (e : Int) := by omega
      have c5 : (2 < ((e + 2 : Nat) : Int)) ↔ 0 < e := by omega
      have hfin : ∀ c : Cd, (c = .bth a b ∨ c = .eit a b) → Drawn ns (e + 2) c := by
        rintro c (rfl | rfl)
        · exact ⟨⟨ga.ok, gb.ok⟩, ⟨ga.inn, gb.inn⟩, by show 1 + max a.dep b.dep ≤ _; omega, by show a.nat + b.nat ≤ _; omega, by show 1 + a.size + b.size ≤ _; omega⟩
        · exact ⟨⟨ga.ok, gb.ok⟩, ⟨ga.inn, gb.inn⟩, by show 1 + max a.dep b.dep ≤ _; omega, by show a.nat + b.nat ≤ _; omega, by show 1 + a.size + b.size ≤ _; omega⟩
      have hc : ∃ c : Cd, c.t = .tup [w, a.t, b.t] ∧ (c = .bth a b ∨ c = .eit a b) := by
        simp only [List.mem_cons, List.not_mem_nil, or_false] at wm
        rcases wm with rfl | rfl
        · exact ⟨_, rfl, .inl rfl⟩
        · exact ⟨_, rfl, .inr rfl⟩
      obtain ⟨c, hct, hcc⟩ := hc
      refine ⟨c, y4, QC.eq_of (start ?_), Df, hfin c hcc⟩
      rw [hct]
      generalize qcall fu F (n + 3) = Ψ at *
      unfold ir__law_condition
      clear ih start hd0 wm hfin hcc q1 q2 q3 q4 q5 q6 mn pf pw pw2 pe p1 hnm hl hne h6 h1 arg
      rcases hf4 with ⟨he, rfl⟩ | ⟨rfl, rfl⟩
      · have c6 : (2 : Int) < ((f + 2 : Nat) : Int) := by omega
        walk_at "qd"
      · have e4 : Ψ 42 [.own (.vl y3), .val (nmT ns), .val (.int 1)] = .val (.p b.t) [.own (.vl y4), .no, .no] := e4
        have e3 : Ψ 42 [.own (.vl y2), .val (nmT ns), .val (.int 1)] = .val (.p a.t) [.own (.vl y3), .no, .no] := e3
        walk_at "qd"
  · have hcond : ¬ ((1 : Int) < d ∧ r < 5) := by omega
    obtain ⟨k, nm, y2, e2, D2, _, nmm⟩ := pick_ok (fu := fu) (n := n + 1) (F := F) (hasF.sub (by simp)) D1 (things := ns.map .str) (.inl rfl) (by omega) (by simpa using hne) (by rw [List.length_map]; omega)
    obtain ⟨s, hs, rfl⟩ := List.mem_map.mp nmm
    have nms := hnm s hs
    have one : ∀ c : Cd, c.Ok → c.In ns → c.isAtom = true → Drawn ns d c := fun c h1 h2 h3 => by
      have a1 := most_pos d
      have a2 : ∀ d, 1 ≤ mostS d := fun d => match d with
        | 0 => Nat.le_refl _
        | 1 => Nat.le_refl _
        | 2 => by decide
        | d + 3 => by show 1 ≤ 1 + _ + _; omega
      have a2 := a2 d
      refine ⟨h1, h2, ?_, ?_, ?_⟩ <;> cases c <;> first | exact Bool.noConfusion h3 | assumption
    by_cases c5 : r = 5
    · obtain ⟨k2, w, y3, e3, D3, _, wm⟩ := pick_ok (fu := fu) (n := n + 1) (F := F) (hasF.sub (by simp)) D2 (things := [.tup [.str "always"], .tup [.str "blank", .str s]]) (.inr rfl) (by omega) (by simp) (by simp)
      have hc : ∃ c : Cd, c.t = w ∧ (c = .alw ∨ c = .bln s) := by
        simp only [List.mem_cons, List.not_mem_nil, or_false] at wm
        rcases wm with rfl | rfl
        · exact ⟨.alw, rfl, .inl rfl⟩
        · exact ⟨.bln s, rfl, .inr rfl⟩
      obtain ⟨c, hct, hcc⟩ := hc
      refine ⟨c, y3, QC.eq_of (start ?_), D3.mono (by omega), ?_⟩
      · rw [hct]
        subst c5
        generalize qcall fu F (n + 3) = Ψ at *
        unfold ir__law_condition
        clear ih start hd0 wm hcc hct one nmm
        by_cases c9 : (1 : Int) < d <;> walk_at "qd"
      · rcases hcc with rfl | rfl
        · exact one _ trivial trivial rfl
        · exact one _ nms hs rfl
    by_cases c6 : r = 6
    · obtain ⟨k2, w, y3, e3, D3, _, wm⟩ := pick_ok (fu := fu) (n := n + 1) (F := F) (hasF.sub (by simp)) D2 (things := [.str "a", .str "ab", .str "n", .str "c ", .str "north", .str "~", .str "zz"]) (.inr rfl) (by omega) (by simp) (by simp)
      have hc : ∃ z : Str, w = .str z ∧ isSignsT 1 12 (.str z) = true := by
        simp only [List.mem_cons, List.not_mem_nil, or_false] at wm
        rcases wm with rfl | rfl | rfl | rfl | rfl | rfl | rfl <;> exact ⟨_, rfl, by decide +kernel⟩
      obtain ⟨z, rfl, hz⟩ := hc
      refine ⟨.beg s z, y3, QC.eq_of (start ?_), D3.mono (by omega), one _ ⟨nms, hz⟩ hs rfl⟩
      subst c6
      generalize qcall fu F (n + 3) = Ψ at *
      unfold ir__law_condition
      clear ih start hd0 wm one nmm hz
      by_cases c9 : (1 : Int) < d <;> (walk_at "qd"; rfl)
    · obtain ⟨k2, w, y3, e3, D3, _, wm⟩ := pick_ok (fu := fu) (n := n + 1) (F := F) (hasF.sub (by simp)) D2 (things := [.str "is", .str "below"]) (.inr rfl) (by omega) (by simp) (by simp)
      obtain ⟨v, y4, e4, D4, vv⟩ := law_value_ok (fu := fu) (n := n) (F := F) (hasF.sub (by simp)) D3 (by omega)
      have hc : ∃ c : Cd, c.t = .tup [w, .str s, v] ∧ (c = .isv s v ∨ c = .bel s v) := by
        simp only [List.mem_cons, List.not_mem_nil, or_false] at wm
        rcases wm with rfl | rfl
        · exact ⟨_, rfl, .inl rfl⟩
        · exact ⟨_, rfl, .inr rfl⟩
      obtain ⟨c, hct, hcc⟩ := hc
      refine ⟨c, y4, QC.eq_of (start ?_), D4.mono (by omega), ?_⟩
      · rw [hct]
        generalize qcall fu F (n + 3) = Ψ at *
        unfold ir__law_condition
        clear ih start hd0 wm hcc hct one nmm vv
        by_cases c9 : (1 : Int) < d
        · have c10 : ¬ r < 5 := fun h => c0 ⟨by omega, h⟩
          walk_at "qd"
        · walk_at "qd"
      · rcases hcc with rfl | rfl
        · exact one _ ⟨nms, vv⟩ hs rfl
        · exact one _ ⟨nms, vv⟩ hs rfl
end
end K01

set_option maxHeartbeats 4000000
namespace K01
open PySem PySem.Spec PyProof.Rows L2 TL TLP
section
variable {fu n : Nat}
theorem plain_ok {c : Cd} (h : Fit c) (hn : 13 ≤ n) : qcall fu F (n + 1) 41 [.val c.t] = ret (c.push false).t 1 := by
  obtain ⟨n, rfl⟩ : ∃ j, n = j + 1 := ⟨n - 1, by omega⟩
  have e1 := is_cond_ok (fu := fu) (n := n) h.ok h.dep h.size (by omega)
  have e2 := (pushed_both (fu := fu) c (n + 1) false (by have := h.dep; omega)).1
  have e3 := demand_t (fu := fu) (n := n) (F := F) (hasF.sub (by simp)) "condition"
  refine QC.eq_of ?_
  rw [C_call (d := ⟨1, 1, ir_plain⟩) rfl rfl]
  generalize qcall fu F (n + 1) = Ψ at *
  unfold ir_plain
  walk_at "qv"
theorem plain_no {b : T} (h : qcall fu F (n + 1) 31 [.val b] = ret (.bl false) 1) : qcall fu F (n + 2) 41 [.val b] = exc 0 (.str "condition") 1 := by
  have e3 := demand_f (fu := fu) (n := n) (F := F) (hasF.sub (by simp)) "condition"
  refine QC.exn_of ?_
  rw [C_call (d := ⟨1, 1, ir_plain⟩) rfl rfl]
  generalize qcall fu F (n + 1) = Ψ at *
  unfold ir_plain
  walk_at "qv"
open Classical in
theorem cond_of_t {c : Cd} (h : Fit c) {ns : List Str} (hi : c.In ns) (hn : 13 ≤ n) : qcall fu F (n + 1) 34 [.val c.t, .val (nmT ns)] = ret (.bl true) 2 := by
  have e := is_cond_of_ok (fu := fu) h (ns := ns) hn
  rwa [decide_eq_true hi] at e
open Classical in
theorem cond_of_f {c : Cd} (h : Fit c) {ns : List Str} (hi : ¬ c.In ns) (hn : 13 ≤ n) : qcall fu F (n + 1) 34 [.val c.t, .val (nmT ns)] = ret (.bl false) 2 := by
  have e := is_cond_of_ok (fu := fu) h (ns := ns) hn
  rwa [decide_eq_false hi] at e
theorem enum_mem {y : T} : ∀ {xs : List T} {k : Nat}, y ∈ enumL k xs → ∃ (j : Nat) (x : T), y = .tup [.int j, x] ∧ x ∈ xs
  | x :: xs, k, h => by
    rcases List.mem_cons.mp h with h | h
    · exact ⟨k, x, h, List.mem_cons_self⟩
    · obtain ⟨j, x2, e, m⟩ := enum_mem h
      exact ⟨j, x2, e, List.mem_cons_of_mem _ m⟩
def sndT : T → T
  | .tup [_, x] => x
  | _ => .non
def fstT : T → T
  | .tup [x, _] => x
  | _ => .non
/-- the places at which q holds -/
theorem enum_filter {q : T → Bool} {all : List T} : ∀ {xs pre : List T}, all = pre ++ xs → ∃ js : List Nat, ((enumL pre.length xs).filter fun y => q (sndT y)).map fstT = js.map (fun (j : Nat) => T.int j) ∧ (∀ j ∈ js, j < all.length) ∧ js.map (fun j => all.getD j .non) = xs.filter q
  | [], pre, e => ⟨[], rfl, (fun j h => by cases h), rfl⟩
  | x :: xs, pre, e => by
    obtain ⟨js, a1, a2, a3⟩ := enum_filter (q := q) (all := all) (xs := xs) (pre := pre ++ [x]) (by rw [e, List.append_assoc]; rfl)
    rw [List.length_append] at a1
    show ∃ js : List Nat, (((T.tup [.int pre.length, x]) :: enumL (pre.length + 1) xs).filter fun y => q (sndT y)).map fstT = _ ∧ _
    rw [List.filter_cons, List.filter_cons]
    have s : q (sndT (.tup [.int (pre.length : Nat), x])) = q x := rfl
    rw [s]
    by_cases h : q x = true
    · rw [if_pos h, if_pos h]
      have hl : pre.length < all.length := by rw [e, List.length_append, List.length_cons]; omega
      refine ⟨pre.length :: js, ?_, ?_, ?_⟩
      · rw [List.map_cons, List.map_cons, ← a1]; rfl
      · intro j hj
        rcases List.mem_cons.mp hj with rfl | hj
        · exact hl
        · exact a2 j hj
      · rw [List.map_cons, a3]
        congr 1
        rw [e, List.getD_eq_getElem?_getD, List.getElem?_append_right (Nat.le_refl _)]
        simp
    · rw [if_neg h, if_neg h]
      exact ⟨js, a1, a2, a3⟩
def holdsT (ns : List Str) (c : Cd) (y : T) : Bool := match y with
  | .tup r => c.holds ns r
  | _ => false
theorem filter_tup {ns : List Str} {c : Cd} {rs : List (List T)} : (rs.map T.tup).filter (holdsT ns c) = (rs.filter (c.holds ns)).map T.tup := by
  induction rs with
  | nil => rfl
  | cons r rs ih =>
    rw [List.map_cons, List.filter_cons, List.filter_cons, ih]
    have : holdsT ns c (.tup r) = c.holds ns r := rfl
    rw [this]
    split <;> rfl
theorem kept_places_ok {c : Cd} (h : c.Ok) {ns : List Str} {rs : List (List T)} (hi : c.In ns) (rl : ∀ r ∈ rs, r.length = ns.length) (rv : ∀ r ∈ rs, r.all valT = true) (hn : c.dep + 3 ≤ n) :
    ∃ js : List Nat, qcall fu F (n + 1) 38 [.val (tbT ns rs), .val c.t] = ret (.cl (js.map fun (j : Nat) => T.int j)) 2 ∧ (∀ j ∈ js, j < (rs.map T.tup).length) ∧ js.map (fun j => (rs.map T.tup).getD j .non) = (rs.filter (c.holds ns)).map T.tup := by
  obtain ⟨js, a1, a2, a3⟩ := enum_filter (q := holdsT ns c) (all := rs.map T.tup) (xs := rs.map T.tup) (pre := []) rfl
  refine ⟨js, ?_, a2, by rw [a3]; exact filter_tup⟩
  have e1 := fun r hr => (holds_both (fu := fu) (rl r hr) (rv r hr) c n h hi hn).1
  refine QC.eq_of ?_
  rw [C_call (d := ⟨2, 4, ir_kept_places⟩) rfl rfl]
  generalize qcall fu F n = Ψ at *
  unfold ir_kept_places
  clear a3
  walk_at "qv"
  refine G_lcf (fun y => holdsT ns c (sndT y)) fstT (fun y hy => ?_) ?_
  · obtain ⟨j, x, rfl, hx⟩ := enum_mem hy
    obtain ⟨r, hr, rfl⟩ := List.mem_map.mp hx
    have e2 := e1 r hr
    have e3 : holdsT ns c (sndT (.tup [.int j, .tup r])) = c.holds ns r := rfl
    clear e1
    generalize c.holds ns r = p at *
    cases p <;> walk_at "qd"
    rfl
  · have a1 : ((enumL 0 (rs.map T.tup)).filter fun y => holdsT ns c (sndT y)).map fstT = js.map (fun (j : Nat) => T.int j) := a1
    clear e1
    walk_at "qv"
theorem kept_ok {c : Cd} (h : Fit c) {ns : List Str} {rs : List (List T)} (g : GoodTb ns rs) (hi : c.In ns) (hn : 14 ≤ n) : qcall fu F (n + 1) 39 [.val (tbT ns rs), .val c.t] = ret (tbT ns (rs.filter (c.holds ns))) 2 := by
  obtain ⟨n, rfl⟩ : ∃ j, n = j + 5 := ⟨n - 5, by omega⟩
  have e1 := demand_table_t (fu := fu) (n := n) (F := F) (hasF.sub (by simp)) (table_dat g.rv) (table_good g)
  have e2 := cond_of_t (fu := fu) (n := n + 4) h hi (by omega)
  have e3 := demand_t (fu := fu) (n := n + 4) (F := F) (hasF.sub (by simp)) "condition"
  obtain ⟨js, e4, a2, a3⟩ := kept_places_ok (fu := fu) (n := n + 4) h.ok hi g.rl g.rv (by have := h.dep; omega)
  refine QC.eq_of ?_
  rw [C_call (d := ⟨2, 3, ir_kept⟩) rfl rfl]
  generalize qcall fu F (n + 5) = Ψ at *
  unfold ir_kept
  have a4 : (js.map fun (j : Nat) => T.int j).map (fun y => match y with | .int i => (rs.map T.tup).getD i.toNat .non | _ => .non) = (rs.filter (c.holds ns)).map T.tup := by
    rw [List.map_map, ← a3]
    exact List.map_congr_left fun j _ => rfl
  walk_at "qv"
  refine G_lc (fun y => match y with | .int i => (rs.map T.tup).getD i.toNat .non | _ => .non) (fun y hy => ?_) ?_
  · obtain ⟨j, hj, rfl⟩ := List.mem_map.mp hy
    have hl := a2 j hj
    have e5 : (rs.map T.tup)[j]? = some ((rs.map T.tup).getD j .non) := by
      rw [List.getD_eq_getElem?_getD, List.getElem?_eq_getElem hl]; rfl
    clear a2 a3 a4 e1 e2 e3 e4
    walk_at "qv"
    rfl
  · clear a2 a3
    walk_at "qv"
theorem kept_no {t : T} (d : dat t = true) (ht : tableT t = false) (c : T) : qcall fu F (n + 6) 39 [.val t, .val c] = exc 0 (.str "table") 2 := by
  have e1 := demand_table_f (fu := fu) (n := n) (F := F) (hasF.sub (by simp)) d ht
  refine QC.exn_of ?_
  rw [C_call (d := ⟨2, 3, ir_kept⟩) rfl rfl]
  generalize qcall fu F (n + 5) = Ψ at *
  unfold ir_kept
  walk_at "qv"
theorem kept_no2 {c : Cd} (h : Fit c) {ns : List Str} {rs : List (List T)} (g : GoodTb ns rs) (hi : ¬ c.In ns) (hn : 14 ≤ n) : qcall fu F (n + 1) 39 [.val (tbT ns rs), .val c.t] = exc 0 (.str "condition") 2 := by
  obtain ⟨n, rfl⟩ : ∃ j, n = j + 5 := ⟨n - 5, by omega⟩
  have e1 := demand_table_t (fu := fu) (n := n) (F := F) (hasF.sub (by simp)) (table_dat g.rv) (table_good g)
  have e2 := cond_of_f (fu := fu) (n := n + 4) h hi (by omega)
  have e3 := demand_f (fu := fu) (n := n + 4) (F := F) (hasF.sub (by simp)) "condition"
  refine QC.exn_of ?_
  rw [C_call (d := ⟨2, 3, ir_kept⟩) rfl rfl]
  generalize qcall fu F (n + 5) = Ψ at *
  unfold ir_kept
  walk_at "qv"
theorem holds_ok {c : Cd} (h : Fit c) {ns : List Str} {r : List T} (nd : ns.Nodup) (nm : ∀ s ∈ ns, nameT (.str s) = true) (l1 : 1 ≤ ns.length) (l8 : ns.length ≤ 8) (hi : c.In ns) (hl : r.length = ns.length) (hv : r.all valT = true) (hn : 14 ≤ n) : qcall fu F (n + 1) 37 [.val c.t, .val (nmT ns), .val (.tup r)] = ret (.bl (c.holds ns r)) 3 := by
  obtain ⟨n, rfl⟩ : ∃ j, n = j + 3 := ⟨n - 3, by omega⟩
  have e1 := is_cond_ok (fu := fu) (n := n + 2) h.ok h.dep h.size (by omega)
  have e2 := cond_of_t (fu := fu) (n := n + 2) h hi (by omega)
  have d1 := demand_t (fu := fu) (n := n + 2) (F := F) (hasF.sub (by simp)) "condition"
  have d2 := demand_t (fu := fu) (n := n + 2) (F := F) (hasF.sub (by simp)) "names"
  have d3 := demand_t (fu := fu) (n := n + 2) (F := F) (hasF.sub (by simp)) "row"
  have e3 := are_names_ok (fu := fu) (n := n + 1) (F := F) (hasF.sub (by simp)) (t := nmT ns) dats_strs 1 8 (by omega)
  have e4 := is_row_ok (fu := fu) (n := n) (F := F) (hasF.sub (by simp)) (t := .tup r) (row_dat hv) ns.length
  have e5 := (holds_both (fu := fu) hl hv c (n + 3) h.ok hi (by have := h.dep; omega)).1
  rw [names_good nd nm (by omega) (by omega)] at e3
  have rg := row_good hl hv
  rw [List.length_map] at rg
  rw [rg] at e4
  refine QC.eq_of ?_
  rw [C_call (d := ⟨3, 3, ir_holds⟩) rfl rfl]
  generalize qcall fu F (n + 3) = Ψ at *
  unfold ir_holds
  walk_at "qv"
theorem holds_no {c : Cd} (h : Fit c) {ns : List Str} (nd : ns.Nodup) (nm : ∀ s ∈ ns, nameT (.str s) = true) (l1 : 1 ≤ ns.length) (l8 : ns.length ≤ 8) (hi : ¬ c.In ns) (u : T) (hn : 14 ≤ n) : qcall fu F (n + 1) 37 [.val c.t, .val (nmT ns), .val u] = exc 0 (.str "names") 3 := by
  obtain ⟨n, rfl⟩ : ∃ j, n = j + 3 := ⟨n - 3, by omega⟩
  have e1 := is_cond_ok (fu := fu) (n := n + 2) h.ok h.dep h.size (by omega)
  have e2 := cond_of_f (fu := fu) (n := n + 2) h hi (by omega)
  have d1 := demand_t (fu := fu) (n := n + 2) (F := F) (hasF.sub (by simp)) "condition"
  have d2 := demand_f (fu := fu) (n := n + 2) (F := F) (hasF.sub (by simp)) "names"
  have e3 := are_names_ok (fu := fu) (n := n + 1) (F := F) (hasF.sub (by simp)) (t := nmT ns) dats_strs 1 8 (by omega)
  rw [names_good nd nm (by omega) (by omega)] at e3
  refine QC.exn_of ?_
  rw [C_call (d := ⟨3, 3, ir_holds⟩) rfl rfl]
  generalize qcall fu F (n + 3) = Ψ at *
  unfold ir_holds
  walk_at "qv"
theorem holds_no2 {c : Cd} (h : Fit c) {ns : List Str} (nd : ns.Nodup) (nm : ∀ s ∈ ns, nameT (.str s) = true) (l1 : 1 ≤ ns.length) (l8 : ns.length ≤ 8) (hi : c.In ns) {u : T} (d : dat u = true) (hu : rowT ns.length u = false) (hn : 14 ≤ n) : qcall fu F (n + 1) 37 [.val c.t, .val (nmT ns), .val u] = exc 0 (.str "row") 3 := by
  obtain ⟨n, rfl⟩ : ∃ j, n = j + 3 := ⟨n - 3, by omega⟩
  have e1 := is_cond_ok (fu := fu) (n := n + 2) h.ok h.dep h.size (by omega)
  have e2 := cond_of_t (fu := fu) (n := n + 2) h hi (by omega)
  have d1 := demand_t (fu := fu) (n := n + 2) (F := F) (hasF.sub (by simp)) "condition"
  have d2 := demand_t (fu := fu) (n := n + 2) (F := F) (hasF.sub (by simp)) "names"
  have d3 := demand_f (fu := fu) (n := n + 2) (F := F) (hasF.sub (by simp)) "row"
  have e3 := are_names_ok (fu := fu) (n := n + 1) (F := F) (hasF.sub (by simp)) (t := nmT ns) dats_strs 1 8 (by omega)
  have e4 := is_row_ok (fu := fu) (n := n) (F := F) (hasF.sub (by simp)) d ns.length
  rw [names_good nd nm (by omega) (by omega)] at e3
  refine QC.exn_of ?_
  rw [C_call (d := ⟨3, 3, ir_holds⟩) rfl rfl]
  generalize qcall fu F (n + 3) = Ψ at *
  unfold ir_holds
  walk_at "qv"
end
end K01

set_option maxHeartbeats 4000000
namespace K01
open PySem PySem.Spec PyProof.Rows L2 TL TLP
section
variable {fu n : Nat}
def deepT : Nat → T
  | 0 => .tup [.str "always"]
  | n + 1 => .tup [.str "not", deepT n]
def wideT : Nat → T
  | 0 => .tup [.str "always"]
  | n + 1 => .tup [.str "both", wideT n, wideT n]
def bads : List T := [.non, .tup [], .tup [.str "always", .int 1], .tup [.str "is", .str "x"], .tup [.str "below", .str "x", .bl true], .tup [.str "begins", .str "x", .str ""], .tup [.str "nor", .str "x"], .cl [.str "always"], .tup [.str "not", deepT 7], wideT 5, .tup [.str "either", .tup [.str "always"]]]
theorem bad_no : ∀ b ∈ bads, qcall fu F (n + 20) 31 [.val b] = ret (.bl false) 1 := by
  intro b hb
  simp only [bads, List.mem_cons, List.not_mem_nil, or_false] at hb
  rcases hb with rfl | rfl | rfl | rfl | rfl | rfl | rfl | rfl | rfl | rfl | rfl <;> kernel_rfl
theorem most_mono : mostS 1 ≤ 25 ∧ mostS 2 ≤ 25 ∧ mostS 3 ≤ 25 ∧ mostS 4 ≤ 25 ∧ mostS 5 ≤ 25 ∧ mostS 6 ≤ 25 := by decide
theorem most_mono2 : most 1 ≤ 13 ∧ most 2 ≤ 13 ∧ most 3 ≤ 13 ∧ most 4 ≤ 13 ∧ most 5 ≤ 13 ∧ most 6 ≤ 13 := by decide
theorem drawn_le {ns : List Str} {d : Nat} {c : Cd} (h : Drawn ns d c) (h1 : 1 ≤ d) (h6 : d ≤ 6) : c.Ok ∧ c.In ns ∧ c.dep ≤ 6 ∧ c.nat ≤ 13 ∧ c.size ≤ 25 := by
  have a := h.dep
  have b := h.nat
  have e := h.size
  obtain ⟨s1, s2, s3, s4, s5, s6⟩ := most_mono
  obtain ⟨t1, t2, t3, t4, t5, t6⟩ := most_mono2
  refine ⟨h.ok, h.inn, by omega, ?_, ?_⟩ <;> (have hd : d = 1 ∨ d = 2 ∨ d = 3 ∨ d = 4 ∨ d = 5 ∨ d = 6 := by omega) <;> rcases hd with rfl | rfl | rfl | rfl | rfl | rfl <;> omega
end
end K01

set_option maxHeartbeats 4000000
local macro_rules | `(tactic| walk_at "qv") => `(tactic| simp only [↓TL.g_qE_var, ↓TL.g_qE_cst, ↓TL.g_qE_gcst, ↓TL.g_qE_tup, ↓TL.g_qE_lst, ↓TL.g_qE_lstV, ↓TL.g_qE_bin, ↓TL.g_qE_neg, ↓TL.g_qE_cat, ↓TL.g_qE_catV, ↓TL.g_qE_cmp, ↓TL.g_qE_chain, ↓TL.g_qE_and, ↓TL.g_qE_or, ↓TL.g_qE_not, ↓TL.g_qE_ite, ↓TL.g_qE_idx, ↓TL.g_qE_slc, ↓TL.g_qE_slcM, ↓TL.g_qE_isinst, ↓TL.g_qE_call, ↓TL.g_qE_callK, ↓TL.g_qE_lc, ↓TL.g_qE_lcM, ↓TL.g_qE_agg, ↓TL.g_qE_blt, ↓TL.g_qE_mth, ↓TL.g_qE_lenSet, ↓TL.g_qE_hof, ↓TL.g_qE_exc, ↓TL.g_qE_frz, ↓TL.g_qE_weak, ↓TL.g_qE_gix, ↓TL.g_qE_gin, ↓TL.g_qE_dsel, ↓TL.g_qPs_nil, ↓TL.g_qPs_cons, ↓TL.g_qRs_nil, ↓TL.g_qRs_cons, ↓TL.g_qC_and, ↓TL.g_qC_or, ↓TL.g_qC_not, ↓TL.g_qC_val, ↓TL.g_qC_tt, ↓TL.g_qC_cmp, ↓TL.g_qC_chain, ↓TL.g_qI_seq, ↓TL.g_qI_chars, ↓TL.g_qI_range, ↓TL.g_qI_range2, ↓TL.g_qI_zip, ↓TL.g_qI_enum, ↓TL.g_qO_no, ↓TL.g_qO_some, ↓TL.g_qS_expr, ↓TL.g_qS_ret, ↓TL.g_qS_retN, ↓TL.g_qS_set, ↓TL.g_qS_par, ↓TL.g_qS_unp, ↓TL.g_qS_setIdx, ↓TL.g_qS_iff, ↓TL.g_qS_for, ↓TL.g_qS_while, ↓TL.g_qS_brk, ↓TL.g_qS_cont, ↓TL.g_qS_pass, ↓TL.g_qS_raise, ↓TL.g_qS_tryE, ↓TL.g_qS_weak, ↓TL.g_qSs_nil, ↓TL.g_qSs_cons, ↓TL.G_ok, ↓TL.G_exn, ↓TL.G_bad, ↓TL.G_to, ↓TL.G_to', ↓TL.G_toP, ↓TL.G_oQ, ↓TL.G_bQ, ↓TL.G_bm, ↓TL.G_var, ↓TL.G_ps, ↓TL.G_aggM, ↓TL.G_hof, ↓TL.G_src, ↓TL.G_do, ↓TL.S_nx, ↓TL.S_rt, ↓TL.S_bk, ↓TL.S_ct, ↓TL.S_exn, ↓TL.S_bad, ↓TL.S_nxt, ↓TL.S_to, ↓TL.S_toP, ↓TL.S_oS, ↓TL.S_bS, ↓TL.S_bm, ↓TL.S_sS, ↓TL.S_try, ↓TL.C_val, ↓TL.C_exn, ↓TL.G_lc_nil, ↓TL.G_lc_cons, ↓TL.S_for_nil, ↓TL.S_for_cons, TL.sl_val, TL.sl_own, TL.on_p, TL.ps_p, TL.ps_s, TL.out_p, TL.out_f, TL.optQ_some, TL.optQ_none, TL.ifQ_true, TL.ifQ_false, TL.lookS, TL.slot, TL.setS, TL.M.view, TL.Sl.view, TL.Bv.rd, TL.Sl.lst, TL.takeA, TL.backA, TL.rdAll, TL.tgI, TL.bindV, TL.plainS, TL.clrs, TL.rsts, TL.lock, TL.unlock, TL.lockB, TL.pinS, TL.mutB, TL.mthS, TL.leftB, TL.stoV, TL.outV, TL.pinsOf, TL.keepP, TL.tryK, TL.mthT, TL.mthP, TL.mthB, TL.tlc, TL.tsc, TL.aggS, TL.aggV, TL.aggQ, TL.negV, TL.isT, TL.intV, TL.strV, TL.intsOf, TL.blsOf, TL.bopB, TL.strsL, TL.keyT, TL.stillV, TL.v_addI, TL.v_subI, TL.v_mulI, TL.v_fdivI, TL.v_modI, TL.v_powI, TL.g_addI, TL.g_sub, TL.g_mulI, TL.g_fdivI, TL.g_modI, TL.g_powI, TL.c_gtI, TL.c_ltI, TL.c_leI, TL.c_geI, TL.c_eq, TL.c_ne, TL.c_isN, TL.c_notN, TL.c_inS, TL.c_ninS, TL.cg_gt, TL.cg_lt, TL.cg_ltS, TL.cg_ltT, TL.c_ltT, TL.cg_le, TL.cg_ge, TL.cg_isN, TL.cg_notN, TL.cg_eq, TL.cg_ne, TL.cg_inS, TL.cg_ninS, TL.b_intI, TL.b_intB, TL.b_abs, TL.b_len, TL.b_max2, TL.b_min2, TL.l_str, TL.l_tup, TL.l_cl, TL.i_tup, TL.i_cl, TL.i_str, TL.s_str, TL.c_ltS, TL.c_isB, TL.c_notB, TL.t_non, TL.t_bl, TL.t_int, TL.t_tup, TL.t_cl, TL.seq_tup, TL.seq_cl, TL.get_cons, TL.d_non, TL.d_bl, TL.d_int, TL.d_str, TL.d_tup, TL.d_cl, TL.x_slcC, TL.x_slcT, TL.x_lstC, TL.x_inT, TL.x_inC, TL.x_ginT, TL.x_ginC, TL.x_ninT, TL.x_ninC, TL.x_gninT, TL.x_gninC, TL.yq_str, TL.yq_int, TL.yq_si, TL.yq_is, TL.yq_sn, TL.yq_ns, TL.yq_in, TL.yq_ni, TL.yq_nn, TL.eo_ss, TL.eo_ii, TL.eo_si, TL.eo_is, TL.eo_nn, TL.eo_in, TL.eo_ni, TL.eo_sn, TL.eo_ns, TL.n_in, TL.n_nil, TL.nn_non, TL.nn_int, TL.nn_bl, TL.nn_str, TL.nn_tup, TL.nn_cl, TL.yq_bl, TL.yq_tt, TL.yq_cc, TL.yqs_nil, TL.yqs_cons, TL.eo_bb, TL.at_0, TL.at_1, TL.at_2, TL.at_3, TL.at_4, TL.at_5, TL.at_6, TL.at_7, TL.at_8, TL.at_9, TL.at_cast, TL.at_neg1, TL.strs_map2, TL.b_rev, TL.ok_str, TL.ok_int, TL.ok_non, TL.ok_bl, TL.da_non, TL.da_int, TL.da_bl, TL.da_str, TL.da_tup, TL.da_cl, TL.das_nil, TL.das_cons, TL.dats_strs, Int.cast_ofNat_Int, Int.natCast_zero, Int.natCast_one, List.length_cons, List.length_nil, List.length_map, List.map_cons, List.map_nil, List.replicate, List.cons_append, List.nil_append, Nat.reduceAdd, Nat.reduceSub, Nat.reduceLT, Nat.reduceBEq, Nat.reduceEqDiff, Int.reduceLE, Int.reduceLT, Int.reduceNeg, Int.reduceAdd, Int.reduceSub, Int.reduceMul, Int.reduceToNat, Nat.reduceLeDiff, Int.reduceEq, Nat.zero_add, if_true, if_false, ite_true, ite_false, Option.map_some, Option.map_none, Option.bind_some, Option.bind_none, true_and, and_true, and_self, ne_eq, not_false_eq_true, not_true_eq_false, reduceCtorEq, L2.ixN, decide_true, decide_false, Bool.not_true, Bool.not_false, Bool.true_and, Bool.and_true, Bool.false_and, Bool.and_false, Bool.or_false, Bool.false_or, Bool.or_true, Bool.true_or, List.sum_cons, List.sum_nil, List.append_nil, List.isEmpty, id_eq, List.all_cons, List.all_nil, List.contains_cons, List.contains_nil, List.elem_nil, List.elem_cons, decide_eq_true_eq, Nat.zero_le, List.set_cons_zero, List.set_cons_succ, List.getElem?_cons_zero, List.getElem?_cons_succ, List.getD_cons_zero, List.getD_cons_succ, beq_self_eq_true, *])
local macro_rules | `(tactic| walk_at "qd") => `(tactic| simp (decide := true) only [↓TL.g_qE_var, ↓TL.g_qE_cst, ↓TL.g_qE_gcst, ↓TL.g_qE_tup, ↓TL.g_qE_lst, ↓TL.g_qE_lstV, ↓TL.g_qE_bin, ↓TL.g_qE_neg, ↓TL.g_qE_cat, ↓TL.g_qE_catV, ↓TL.g_qE_cmp, ↓TL.g_qE_chain, ↓TL.g_qE_and, ↓TL.g_qE_or, ↓TL.g_qE_not, ↓TL.g_qE_ite, ↓TL.g_qE_idx, ↓TL.g_qE_slc, ↓TL.g_qE_slcM, ↓TL.g_qE_isinst, ↓TL.g_qE_call, ↓TL.g_qE_callK, ↓TL.g_qE_lc, ↓TL.g_qE_lcM, ↓TL.g_qE_agg, ↓TL.g_qE_blt, ↓TL.g_qE_mth, ↓TL.g_qE_lenSet, ↓TL.g_qE_hof, ↓TL.g_qE_exc, ↓TL.g_qE_frz, ↓TL.g_qE_weak, ↓TL.g_qE_gix, ↓TL.g_qE_gin, ↓TL.g_qE_dsel, ↓TL.g_qPs_nil, ↓TL.g_qPs_cons, ↓TL.g_qRs_nil, ↓TL.g_qRs_cons, ↓TL.g_qC_and, ↓TL.g_qC_or, ↓TL.g_qC_not, ↓TL.g_qC_val, ↓TL.g_qC_tt, ↓TL.g_qC_cmp, ↓TL.g_qC_chain, ↓TL.g_qI_seq, ↓TL.g_qI_chars, ↓TL.g_qI_range, ↓TL.g_qI_range2, ↓TL.g_qI_zip, ↓TL.g_qI_enum, ↓TL.g_qO_no, ↓TL.g_qO_some, ↓TL.g_qS_expr, ↓TL.g_qS_ret, ↓TL.g_qS_retN, ↓TL.g_qS_set, ↓TL.g_qS_par, ↓TL.g_qS_unp, ↓TL.g_qS_setIdx, ↓TL.g_qS_iff, ↓TL.g_qS_for, ↓TL.g_qS_while, ↓TL.g_qS_brk, ↓TL.g_qS_cont, ↓TL.g_qS_pass, ↓TL.g_qS_raise, ↓TL.g_qS_tryE, ↓TL.g_qS_weak, ↓TL.g_qSs_nil, ↓TL.g_qSs_cons, ↓TL.G_ok, ↓TL.G_exn, ↓TL.G_bad, ↓TL.G_to, ↓TL.G_to', ↓TL.G_toP, ↓TL.G_oQ, ↓TL.G_bQ, ↓TL.G_bm, ↓TL.G_var, ↓TL.G_ps, ↓TL.G_aggM, ↓TL.G_hof, ↓TL.G_src, ↓TL.G_do, ↓TL.S_nx, ↓TL.S_rt, ↓TL.S_bk, ↓TL.S_ct, ↓TL.S_exn, ↓TL.S_bad, ↓TL.S_nxt, ↓TL.S_to, ↓TL.S_toP, ↓TL.S_oS, ↓TL.S_bS, ↓TL.S_bm, ↓TL.S_sS, ↓TL.S_try, ↓TL.C_val, ↓TL.C_exn, ↓TL.G_lc_nil, ↓TL.G_lc_cons, ↓TL.S_for_nil, ↓TL.S_for_cons, TL.sl_val, TL.sl_own, TL.on_p, TL.ps_p, TL.ps_s, TL.out_p, TL.out_f, TL.optQ_some, TL.optQ_none, TL.ifQ_true, TL.ifQ_false, TL.lookS, TL.slot, TL.setS, TL.M.view, TL.Sl.view, TL.Bv.rd, TL.Sl.lst, TL.takeA, TL.backA, TL.rdAll, TL.tgI, TL.bindV, TL.plainS, TL.clrs, TL.rsts, TL.lock, TL.unlock, TL.lockB, TL.pinS, TL.mutB, TL.mthS, TL.leftB, TL.stoV, TL.outV, TL.pinsOf, TL.keepP, TL.tryK, TL.mthT, TL.mthP, TL.mthB, TL.tlc, TL.tsc, TL.aggS, TL.aggV, TL.aggQ, TL.negV, TL.isT, TL.intV, TL.strV, TL.intsOf, TL.blsOf, TL.bopB, TL.strsL, TL.keyT, TL.stillV, TL.v_addI, TL.v_subI, TL.v_mulI, TL.v_fdivI, TL.v_modI, TL.v_powI, TL.g_addI, TL.g_sub, TL.g_mulI, TL.g_fdivI, TL.g_modI, TL.g_powI, TL.c_gtI, TL.c_ltI, TL.c_leI, TL.c_geI, TL.c_eq, TL.c_ne, TL.c_isN, TL.c_notN, TL.c_inS, TL.c_ninS, TL.cg_gt, TL.cg_lt, TL.cg_ltS, TL.cg_ltT, TL.c_ltT, TL.cg_le, TL.cg_ge, TL.cg_isN, TL.cg_notN, TL.cg_eq, TL.cg_ne, TL.cg_inS, TL.cg_ninS, TL.b_intI, TL.b_intB, TL.b_abs, TL.b_len, TL.b_max2, TL.b_min2, TL.l_str, TL.l_tup, TL.l_cl, TL.i_tup, TL.i_cl, TL.i_str, TL.s_str, TL.c_ltS, TL.c_isB, TL.c_notB, TL.t_non, TL.t_bl, TL.t_int, TL.t_tup, TL.t_cl, TL.seq_tup, TL.seq_cl, TL.get_cons, TL.d_non, TL.d_bl, TL.d_int, TL.d_str, TL.d_tup, TL.d_cl, TL.x_slcC, TL.x_slcT, TL.x_lstC, TL.x_inT, TL.x_inC, TL.x_ginT, TL.x_ginC, TL.x_ninT, TL.x_ninC, TL.x_gninT, TL.x_gninC, TL.yq_str, TL.yq_int, TL.yq_si, TL.yq_is, TL.yq_sn, TL.yq_ns, TL.yq_in, TL.yq_ni, TL.yq_nn, TL.eo_ss, TL.eo_ii, TL.eo_si, TL.eo_is, TL.eo_nn, TL.eo_in, TL.eo_ni, TL.eo_sn, TL.eo_ns, TL.n_in, TL.n_nil, TL.nn_non, TL.nn_int, TL.nn_bl, TL.nn_str, TL.nn_tup, TL.nn_cl, TL.yq_bl, TL.yq_tt, TL.yq_cc, TL.yqs_nil, TL.yqs_cons, TL.eo_bb, TL.at_0, TL.at_1, TL.at_2, TL.at_3, TL.at_4, TL.at_5, TL.at_6, TL.at_7, TL.at_8, TL.at_9, TL.at_cast, TL.at_neg1, TL.strs_map2, TL.b_rev, TL.ok_str, TL.ok_int, TL.ok_non, TL.ok_bl, TL.da_non, TL.da_int, TL.da_bl, TL.da_str, TL.da_tup, TL.da_cl, TL.das_nil, TL.das_cons, TL.dats_strs, Int.cast_ofNat_Int, Int.natCast_zero, Int.natCast_one, List.length_cons, List.length_nil, List.length_map, List.map_cons, List.map_nil, List.replicate, List.cons_append, List.nil_append, Nat.reduceAdd, Nat.reduceSub, Nat.reduceLT, Nat.reduceBEq, Nat.reduceEqDiff, Int.reduceLE, Int.reduceLT, Int.reduceNeg, Int.reduceAdd, Int.reduceSub, Int.reduceMul, Int.reduceToNat, Nat.reduceLeDiff, Int.reduceEq, Nat.zero_add, if_true, if_false, ite_true, ite_false, Option.map_some, Option.map_none, Option.bind_some, Option.bind_none, true_and, and_true, and_self, ne_eq, not_false_eq_true, not_true_eq_false, reduceCtorEq, L2.ixN, decide_true, decide_false, Bool.not_true, Bool.not_false, Bool.true_and, Bool.and_true, Bool.false_and, Bool.and_false, Bool.or_false, Bool.false_or, Bool.or_true, Bool.true_or, List.sum_cons, List.sum_nil, List.append_nil, List.isEmpty, id_eq, List.all_cons, List.all_nil, List.contains_cons, List.contains_nil, List.elem_nil, List.elem_cons, decide_eq_true_eq, Nat.zero_le, List.set_cons_zero, List.set_cons_succ, List.getElem?_cons_zero, List.getElem?_cons_succ, List.getD_cons_zero, List.getD_cons_succ, beq_self_eq_true, *])
namespace K01
open PySem PySem.Spec PyProof.Rows L2 TL TLP
section
variable {fu : Nat}
def nAlw : T → Bool
  | .tup (.str s :: _) => !decide (s = "always")
  | _ => false
theorem nalw_t : ∀ {x : Cd}, x.isAtom = true → nAlw x.t = !x.nm.isEmpty
  | .alw, _ => by decide +kernel
  | .bln _, _ => by rfl
  | .isv _ _, _ => by rfl
  | .bel _ _, _ => by rfl
  | .beg _ _, _ => by rfl
theorem alw_or {c : Cd} {nm : List Str} (inn : c.In nm) (hno : ("nobody" : Str) ∉ nm) : (c.atoms.map Cd.t).filter nAlw = [] ∨ ((c.atoms.map Cd.t).filter nAlw ≠ [] ∧ ¬ c.In ["nobody"]) := by
  by_cases h : (c.atoms.map Cd.t).filter nAlw = []
  · exact .inl h
  · refine .inr ⟨h, fun q => ?_⟩
    obtain ⟨t, ht⟩ := List.exists_mem_of_ne_nil _ h
    rw [List.mem_filter] at ht
    obtain ⟨x, hx, rfl⟩ := List.mem_map.mp ht.1
    have h2 := ht.2
    rw [nalw_t (atoms_atom hx)] at h2
    cases e : x.nm with
    | nil => rw [e] at h2; exact Bool.noConfusion h2
    | cons s r =>
      have a := (in_names.mp q) x hx s (by rw [e]; exact List.mem_cons_self)
      have b := (in_names.mp inn) x hx s (by rw [e]; exact List.mem_cons_self)
      rw [List.mem_singleton.mp a] at b
      exact hno b
theorem atoms_ok : ∀ {c x : Cd}, c.Ok → x ∈ c.atoms → x.Ok
  | .neg c, x, h, hx => atoms_ok (c := c) h hx
  | .bth a b, x, h, hx => by
    rcases List.mem_append.mp hx with hx | hx
    · exact atoms_ok h.1 hx
    · exact atoms_ok h.2 hx
  | .eit a b, x, h, hx => by
    rcases List.mem_append.mp hx with hx | hx
    · exact atoms_ok h.1 hx
    · exact atoms_ok h.2 hx
  | .alw, x, h, hx => by rw [List.mem_singleton.mp hx]; exact h
  | .bln _, x, h, hx => by rw [List.mem_singleton.mp hx]; exact h
  | .isv _ _, x, h, hx => by rw [List.mem_singleton.mp hx]; exact h
  | .bel _ _, x, h, hx => by rw [List.mem_singleton.mp hx]; exact h
  | .beg _ _, x, h, hx => by rw [List.mem_singleton.mp hx]; exact h
theorem atom_dep {x : Cd} (h : x.isAtom = true) : x.dep = 1 := by cases x <;> first | rfl | exact Bool.noConfusion h
theorem atoms_dat {c : Cd} (h : c.Ok) : dats (c.atoms.map Cd.t) = true := by
  rw [dats_all, List.all_eq_true]
  intro t ht
  obtain ⟨x, hx, rfl⟩ := List.mem_map.mp ht
  exact Cd.dat (atoms_ok h hx)
theorem atoms_dep {c : Cd} (h : c.Ok) : deps (c.atoms.map Cd.t) ≤ 1 := dep_le fun t ht => by
  obtain ⟨x, hx, rfl⟩ := List.mem_map.mp ht
  have := Cd.tdep (atoms_ok h hx)
  rw [atom_dep (atoms_atom hx)] at this
  exact this
/-- the turn of the law's loop -/
def ir_turn : Ss := match ir_law with
  | .cons (.for _ _ b) _ => b
  | _ => .nil
def dropS : Nat → Ss → Ss
  | n + 1, .cons _ b => dropS n b
  | _, b => b
def headS : Nat → Ss → Ss → Ss
  | n + 1, .cons a b, r => .cons a (headS n b r)
  | _, _, r => r
theorem cut0 : ir_turn = headS 6 ir_turn (dropS 6 ir_turn) := rfl
theorem cut6 : dropS 6 ir_turn = headS 3 (dropS 6 ir_turn) (dropS 9 ir_turn) := rfl
theorem cut9 : dropS 9 ir_turn = headS 1 (dropS 9 ir_turn) (dropS 10 ir_turn) := rfl
theorem turn_ok {ns : List Int} (hl : ns.length ≤ 63) {k : Nat} (hk : k ≤ 5) {a2 a3 a4 a5 a6 a7 a8 a9 a10 a11 a12 a13 : Sl} (h8 : plainS a8 = true) {rt bk ct ex} (K : Vn → Option T → Prop)
    (last : ∀ b2 b3 b4 b5 b6 b7 b8 b9 b10 b11 b12 b13, plainS b8 = true → K [.val (.cl (ns.map .int)), .val (.int k), b2, b3, b4, b5, b6, b7, b8, b9, b10, b11, b12, b13, .no] none) :
    @QS.G (qSs (qcall fu F 39) fu [] ir_turn [.val (.cl (ns.map .int)), .val (.int k), a2, a3, a4, a5, a6, a7, a8, a9, a10, a11, a12, a13, .no] none) ⟨K, rt, bk, ct, ex⟩ := by
  obtain ⟨y0, e0, D0⟩ := dice_ok (fu := fu) (n := 38) (F := F) (hasF.sub (by simp)) hl (k := k) (by omega)
  obtain ⟨r1, y1, e1, D1, r10, r11⟩ := roll_ok (fu := fu) (n := 38) (F := F) (hasF.sub (by simp)) D0 (t := 4) (by omega) (by omega) (by omega)
  obtain ⟨r2, y2, e2, D2, r20, r21⟩ := roll_ok (fu := fu) (n := 38) (F := F) (hasF.sub (by simp)) D1 (t := 13) (by omega) (by omega) (by omega)
  obtain ⟨c1, hc1⟩ : ∃ c1 : Nat, 1 + r1 = c1 := ⟨(1 + r1).toNat, by omega⟩
  obtain ⟨c2, hc2⟩ : ∃ c2 : Nat, r2 = c2 := ⟨r2.toNat, by omega⟩
  obtain ⟨nm, rs, y3, e3, D3, g, gl, gr, gb⟩ := law_table_ok (fu := fu) (n := 35) (F := F) (hasF.sub (by simp)) D2 (c := c1) (r := c2) (by omega) (by omega) (by omega) (by omega)
  rw [← hc1, ← hc2] at e3
  obtain ⟨r3, y4, e4, D4, r30, r31⟩ := roll_ok (fu := fu) (n := 38) (F := F) (hasF.sub (by simp)) D3 (t := 6) (by omega) (by omega) (by omega)
  obtain ⟨d, hd⟩ : ∃ d : Nat, 1 + r3 = d := ⟨(1 + r3).toNat, by omega⟩
  have pw : 4 ^ d ≤ 4 ^ 6 := Nat.pow_le_pow_right (by decide) (by omega)
  have pw2 : (4 : Nat) ^ 6 = 4096 := by decide
  obtain ⟨c, y5, e5, D5, dr⟩ := law_cond_ok (fu := fu) (ns := nm) (by intro h; rw [h] at gl; simp at gl; omega) g.l8 g.nm d 39 _ _ (by omega) (by omega) (by omega) D4 (by omega)
  rw [← hd] at e5
  obtain ⟨ok, inn, cdep, cnat, csize⟩ := drawn_le dr (by omega) (by omega)
  have nob : ("nobody" : Str) ∉ nm := by
    intro h
    have : ("nobody" : Str) ∈ base8 := by
      rcases gb with gb | gb
      · rw [gb] at h; exact List.mem_of_mem_take h
      · rw [gb] at h; exact List.mem_of_mem_take (List.mem_reverse.mp h)
    revert this
    decide +kernel
  clear dr gb
  have fit : Fit c := ⟨ok, by omega, by omega⟩
  have fd : (c.push false).dep ≤ 7 := by have := push_dep (c := c) (b := false); omega
  have ff : Fit (c.push false) := ⟨push_ok ok, by omega, by have := push_size (c := c) (b := false); omega⟩
  have fin : (c.push false).In nm := push_in inn
  have fh : ∀ r, (c.push false).holds nm r = c.holds nm r := fun r => by rw [push_holds]; cases c.holds nm r <;> rfl
  have e6 := law_nodes_ok (fu := fu) c 39 (by omega)
  have n40 : ¬ (40 : Int) < c.size := by omega
  have e7 := fun r hr => (holds_both (fu := fu) (g.rl r hr) (g.rv r hr) c 39 ok inn (by omega)).2
  have e8 := plain_ok (fu := fu) (n := 38) fit (by omega)
  have e9 := kept_ok (fu := fu) (n := 38) fit g inn (by omega)
  have e10 := kept_ok (fu := fu) (n := 38) ff g fin (by omega)
  rw [show (c.push false).holds nm = c.holds nm from funext fh] at e10
  have e11 := law_is_plain_ok (fu := fu) (c.push false) 39 push_flat (by omega)
  have e12 := (atoms_both (fu := fu) c 39 (by omega) (by omega)).2
  have e13 := (atoms_both (fu := fu) (c.push false) 39 (by rw [push_nat]; omega) (by omega)).2
  rw [push_atoms] at e13
  have e14 := (pushed_both (fu := fu) c 39 false (by omega)).2
  have e15 := plain_ok (fu := fu) (n := 38) ff (by omega)
  rw [flat_push push_flat] at e15
  have e16 := fun r hr => holds_ok (fu := fu) (n := 38) fit g.nd g.nm g.l1 g.l8 inn (g.rl r hr) (g.rv r hr) (by omega)
  have fn : Fit (.neg c) := ⟨ok, by simp only [Cd.dep]; omega, by simp only [Cd.size]; omega⟩
  have e17 := fun r hr => holds_ok (fu := fu) (n := 38) (c := .neg c) fn g.nd g.nm g.l1 g.l8 inn (g.rl r hr) (g.rv r hr) (by omega)
  have fdat := Cd.dat ff.ok
  have fdep := Cd.tdep ff.ok
  have fdr := dat_deref fdat
  have feq := eqv_self fdat
  have cdr := dat_deref (Cd.dat ok)
  have adat : dats (c.atoms.map Cd.t) = true := atoms_dat ok
  have adep : deps (c.atoms.map Cd.t) ≤ 1 := atoms_dep ok
  generalize c.push false = f at *
  have e18 := holds_no2 (fu := fu) (n := 38) (c := .alw) ⟨trivial, by decide, by decide⟩ g.nd g.nm g.l1 g.l8 trivial (u := .tup (nm.map T.str ++ [.non])) (by show dats _ = true; rw [dats_app, dats_strs]; rfl) (by
    show ((isTupT nm.length nm.length (.tup (nm.map T.str ++ [.non]))) && _) = false
    have : isTupT nm.length nm.length (.tup (nm.map T.str ++ [.non])) = false := by
      simp only [isTupT, List.length_append, List.length_map, List.length_cons, List.length_nil]
      rw [decide_eq_false (p := ((nm.length + (0 + 1) : Nat) : Int) ≤ nm.length) (by omega), Bool.and_false]
    rw [this]
    rfl) (by omega)
  have e19 := kept_no (fu := fu) (n := 33) (t := .non) rfl rfl c.t
  have e20 := kept_no2 (fu := fu) (n := 38) (c := .bln "nobody") ⟨show nameT (.str "nobody") = true by decide +kernel, by decide, by decide⟩ g (ns := nm) nob (by omega)
  obtain ⟨kk, bad, y6, e21, D6, _, hb⟩ := pick_ok (fu := fu) (n := 37) (F := F) (hasF.sub (by simp)) D5 (things := bads) (.inr rfl) (by omega) (by simp [bads]) (by simp [bads])
  have e22 := plain_no (fu := fu) (n := 37) (bad_no (n := 18) bad hb)
  have e24 : qcall fu F 39 37 [.val (deepT 7), .val (.tup [.str "q"]), .val (.tup [.non])] = ret (.bl false) 3 := by kernel_rfl
  have hal := alw_or inn nob
  have e23 : ¬ c.In ["nobody"] → qcall fu F 39 37 [.val c.t, .val (.tup [.str "nobody"]), .val (.tup [.int 1])] = exc 0 (.str "names") 3 := fun h => holds_no (fu := fu) (n := 38) (ns := ["nobody"]) fit (by simp) (by intro s hs; rw [List.mem_singleton.mp hs]; decide +kernel) (by decide) (by decide) h (.tup [.int 1]) (by omega)
  have hsz : nm.length + 1 ≤ sizeLine := by
    have h1 := g.l8
    have h2 : 9 ≤ sizeLine := by decide +kernel
    omega
  have hadd : bopV .add (nmT nm) (.tup [.non]) = some (.tup (nm.map T.str ++ [.non])) := id rfl
  have hto : eqOk (.cl [.str "condition", .str "table", .str "condition", .str "names", .str "row"]) (.cl [.str "condition", .str "table", .str "condition", .str "names", .str "row"]) = true := by decide +kernel
  have ads := fun x hx => atoms_atom (c := c) (x := x) hx
  have rgood : ∀ r ∈ rs, r.length = nm.length ∧ r.all valT = true := fun r hr => ⟨g.rl r hr, g.rv r hr⟩
  obtain ⟨D, hD⟩ : ∃ D, D = (rs.filter (c.holds nm)).map T.tup := ⟨_, rfl⟩
  have hD2 : ((rs.map T.tup).filter (holdsT nm c)).map (fun y => y) = D := by rw [hD, filter_tup, List.map_id']
  have Dd : dats D = true := by
    rw [hD, dats_all, List.all_eq_true]
    intro t ht
    obtain ⟨r, hr, rfl⟩ := List.mem_map.mp ht
    exact row_dat (g.rv r ((List.mem_filter.mp hr).1))
  have Dp : deps D ≤ 1 := dep_le fun t ht => by
    rw [hD] at ht
    obtain ⟨r, hr, rfl⟩ := List.mem_map.mp ht
    show deps r + 1 ≤ 1
    rw [row_dep (g.rv r ((List.mem_filter.mp hr).1))]
    exact Nat.le_refl _
  simp only [tbT, rsT, ← hD] at e9 e10
  have q1 : eqOk (.tup [.tup (nm.map T.str), .tup D]) (.tup [.tup (nm.map T.str), .tup D]) = true := by
    refine eqOk_of ?_ ?_ ?_
    · simp [TL.dat, dats, dats_strs, Dd]
    · simp [TL.dat, dats, dats_strs, Dd]
    · simp only [TL.dep, deps, deps_strs]; omega
  have q2 : eqvs (nm.map T.str) (nm.map T.str) = true := eqvs_self dats_strs
  have q3 : eqvs D D = true := eqvs_self Dd
  have q4 : eqOk f.t f.t = true := eqOk_of fdat fdat (by omega)
  have q5 : eqvs (c.atoms.map Cd.t) (c.atoms.map Cd.t) = true := eqvs_self adat
  have q6 : eqOk (.cl (c.atoms.map Cd.t)) (.cl (c.atoms.map Cd.t)) = true := eqOk_of adat adat (by simp only [TL.dep]; omega)
  have rp : (1 : Int) + r1 = 1 + r1 := rfl
  clear rp hD Dd Dp fdat fdep adat adep ff fin fh fn fit ok inn cdep cnat csize g gl gr nob D0 D1 D2 D3 D4 D5 D6 fd hb hk hl r10 r11 r20 r21 r30 r31 hc1 hc2 hd
  generalize qcall fu F 39 = Ψ at *
  generalize ns.map T.int = script at *
  have key : ∀ y ∈ rs.map T.tup, ∃ r, y = .tup r ∧ r ∈ rs := fun y hy => by
    obtain ⟨r, hr, rfl⟩ := List.mem_map.mp hy
    exact ⟨r, rfl, hr⟩
  obtain ⟨R10, h10⟩ : ∃ R, R = dropS 10 ir_turn := ⟨_, rfl⟩
  obtain ⟨R9, h9⟩ : ∃ R, R = dropS 9 ir_turn := ⟨_, rfl⟩
  obtain ⟨R6, h6⟩ : ∃ R, R = dropS 6 ir_turn := ⟨_, rfl⟩
  have c0 := cut0.trans (congrArg (headS 6 ir_turn) h6.symm)
  have c6 := h6.trans (cut6.trans (congrArg (headS 3 (dropS 6 ir_turn)) h9.symm))
  have c9 := h9.trans (cut9.trans (congrArg (headS 1 (dropS 9 ir_turn)) h10.symm))
  clear h6 h9
  have s10 : ∀ b8 a9 a10 a11 a12 a13, plainS b8 = true → @QS.G (qSs Ψ fu [] R10 [.val (.cl script), .val (.int k), .own (.vl y5), .val (tbT nm rs), .val (nmT nm), .val c.t, .val (.cl D), .val f.t, b8, a9, a10, a11, a12, a13, .no] none) ⟨K, rt, bk, ct, ex⟩ := by
    intro b8 a9 a10 a11 a12 a13 h8
    rw [h10]
    unfold ir_turn ir_law
    simp only [dropS]
    have z7 : rangeL 0 7 = [.int 0, .int 1, .int 2, .int 3, .int 4, .int 5, .int 6] := rfl
    have z5 : rangeL 0 5 = [.int 0, .int 1, .int 2, .int 3, .int 4] := rfl
    have z8 : okRg 7 = true := by decide
    have z9 : okRg 5 = true := by decide
    simp only [bads, deepT, wideT] at e21 e24
    simp only [Cd.t] at e18 e20
    have last := fun b9 b10 b11 b12 b13 => last (.own (.vl y6)) (.val (tbT nm rs)) (.val (nmT nm)) (.val c.t) (.val (.cl D)) (.val f.t) b8 b9 b10 b11 b12 b13 h8
    clear c0 c6 c9 h10 e7 e16 e17 rgood key e9 e10
    have all := And.intro ads hal
    clear ads hal
    walk_at "qd"
    obtain ⟨ads, hal⟩ := all
    refine G_lcf nAlw (fun _ => .int 1) (fun y hy => ?_) ?_
    · clear hal e0 e1 e2 e3 e4 e5 e6 e8 e11 e12 e13 e14 e15 e18 e19 e20 e21 e22 e24 last
      obtain ⟨x, hx, rfl⟩ := List.mem_map.mp hy
      have hxa := ads x hx
      rw [nalw_t hxa]
      clear hy ads hx
      cases x <;> first
        | exact Bool.noConfusion hxa
        | (simp only [Cd.t, Cd.nm, List.isEmpty]
           walk_at "qd"
           rfl)
        | (simp only [Cd.t, Cd.nm, List.isEmpty]
           walk_at "qd")
    · clear ads
      rcases hal with hal | ⟨hal, hni⟩
      · rw [hal]
        clear e23 hal
        walk_at "qd"
      · replace e23 := e23 hni
        have hpos : (0 : Int) < ((c.atoms.map Cd.t).filter nAlw).length := by
          have := List.length_pos_iff.mpr hal
          omega
        clear hal hni
        walk_at "qd"
  have s9 : ∀ a9 a10 a11 a12 a13, @QS.G (qSs Ψ fu [] R9 [.val (.cl script), .val (.int k), .own (.vl y5), .val (tbT nm rs), .val (nmT nm), .val c.t, .val (.cl D), .val f.t, a8, a9, a10, a11, a12, a13, .no] none) ⟨K, rt, bk, ct, ex⟩ := by
    intro a9 a10 a11 a12 a13
    rw [c9]
    clear c0 c6 c9 h10
    unfold ir_turn ir_law
    simp only [headS, dropS]
    have s10 := fun b8 h => s10 b8 a9 a10 a11 a12 a13 h
    have step := fun r hr => And.intro (e7 r hr) (And.intro (e16 r hr) (e17 r hr))
    clear e7 e16 e17 hal ads rgood last
    obtain ⟨I, hI⟩ : ∃ I : List T → Vn → Option T → Prop, I = fun rest v x => x = none ∧ (∀ y ∈ rest, y ∈ rs.map T.tup) ∧ ∃ b8, plainS b8 = true ∧ v = [.val (.cl script), .val (.int k), .own (.vl y5), .val (tbT nm rs), .val (nmT nm), .val c.t, .val (.cl D), .val f.t, b8, a9, a10, a11, a12, a13, .no] := ⟨_, rfl⟩
    have i0 : I (rs.map T.tup) [.val (.cl script), .val (.int k), .own (.vl y5), .val (tbT nm rs), .val (nmT nm), .val c.t, .val (.cl D), .val f.t, a8, a9, a10, a11, a12, a13, .no] none := by
      rw [hI]
      exact ⟨rfl, fun y hy => hy, a8, h8, rfl⟩
    have ist : ∀ y rest v x, I (y :: rest) v x → x = none ∧ ∃ r b8, y = .tup r ∧ r ∈ rs ∧ v = [.val (.cl script), .val (.int k), .own (.vl y5), .val (tbT nm rs), .val (nmT nm), .val c.t, .val (.cl D), .val f.t, b8, a9, a10, a11, a12, a13, .no] ∧ I rest [.val (.cl script), .val (.int k), .own (.vl y5), .val (tbT nm rs), .val (nmT nm), .val c.t, .val (.cl D), .val f.t, .val y, a9, a10, a11, a12, a13, .no] none := fun y rest v x h => by
      rw [hI] at h ⊢
      obtain ⟨e1, e2, b8, e3, e4⟩ := h
      obtain ⟨r, er, hr⟩ := key y (e2 y List.mem_cons_self)
      exact ⟨e1, r, b8, er, hr, e4, rfl, fun z hz => e2 z (List.mem_cons_of_mem _ hz), .val y, rfl, rfl⟩
    have il : ∀ v x, I [] v x → x = none ∧ ∃ b8, plainS b8 = true ∧ v = [.val (.cl script), .val (.int k), .own (.vl y5), .val (tbT nm rs), .val (nmT nm), .val c.t, .val (.cl D), .val f.t, b8, a9, a10, a11, a12, a13, .no] := fun v x h => by
      rw [hI] at h
      exact ⟨h.1, h.2.2⟩
    clear hI key
    have all := And.intro s10 (And.intro @step (And.intro @ist @il))
    clear s10 step ist il h8
    walk_at "qv"
    obtain ⟨s10, step, ist, il⟩ := all
    refine for_inv I (fun y rest v x h => ⟨rfl, ?_⟩) (fun v x h => ?_) i0
    · clear i0
      obtain ⟨rfl, r, b8, rfl, hr, rfl, h2⟩ := ist _ _ _ _ h
      obtain ⟨e7, e16, e17⟩ := step r hr
      refine ⟨_, rfl, ?_⟩
      have hn : (Cd.neg c).holds nm r = !c.holds nm r := rfl
      rw [hn] at e17
      have ht : (Cd.neg c).t = .tup [.str "not", c.t] := rfl
      rw [ht] at e17
      clear h ist il step s10 hn ht
      generalize c.holds nm r = p at *
      simp only [setS]
      have b1 : (true == false) = false := rfl
      have b2 : (false == true) = false := rfl
      cases p <;> walk_at "qd"
    · obtain ⟨rfl, b8, h8, rfl⟩ := il _ _ h
      exact s10 b8 h8
  clear s10
  have s6 : ∀ a7 a9 a10 a11 a12 a13, @QS.G (qSs Ψ fu [] R6 [.val (.cl script), .val (.int k), .own (.vl y5), .val (tbT nm rs), .val (nmT nm), .val c.t, .val (.cl D), a7, a8, a9, a10, a11, a12, a13, .no] none) ⟨K, rt, bk, ct, ex⟩ := by
    intro a7 a9 a10 a11 a12 a13
    have s9 := s9 a9 a10 a11 a12 a13
    rw [c6]
    clear c0 c6 c9 h10
    unfold ir_turn ir_law
    simp only [headS, dropS]
    clear e7 e16 e17 hal ads rgood last key
    walk_at "qd"
  clear s9
  rw [c0]
  clear c0 c6 c9 h10
  unfold ir_turn ir_law
  simp only [headS]
  simp only [plainS] at h8
  have s6 := s6 a7 a9 a10 a11 a12 a13
  walk_at "qv"
  refine G_lcf2 (holdsT nm c) (fun y => y) [.val (.cl script), .val (.int k), .own (.vl y5), .val (tbT nm rs), .val (nmT nm), .val c.t, a6, a7, .no, a9, a10, a11, a12, a13, .no] rfl rfl (fun y hy => ?_) (fun w hw => ?_)
  · obtain ⟨r, rfl, hr⟩ := key y hy
    replace e7 := e7 r hr
    have hh : holdsT nm c (.tup r) = c.holds nm r := rfl
    clear e16 e17 hal ads rgood key hD2 hy
    generalize c.holds nm r = p at *
    cases p <;> walk_at "qd"
  clear key e7 e16 e17 hal ads rgood
  rcases hw with rfl | rfl
  · walk_at "qv"
  · walk_at "qv"
end
end K01

set_option maxHeartbeats 4000000
namespace K01
open PySem PySem.Spec PyProof.Rows L2 TL TLP
theorem rangeL_mem {y : T} {n : Nat} (h : y ∈ rangeL 0 n) : ∃ k : Nat, y = .int k ∧ k < n := by
  obtain ⟨k, hk, rfl⟩ := List.mem_map.mp h
  exact ⟨k, by rw [Int.zero_add], List.mem_range.mp hk⟩
def setBody : Ss → Ss → Ss
  | .cons (.for t i _) r, b => .cons (.for t i b) r
  | s, _ => s
theorem cutL : ir_law = setBody ir_law ir_turn := rfl
theorem law_ok (ns : List Int) (hl : ns.length ≤ 63) : qcall 0 F 40 48 [.val (.cl (ns.map .int))] = .val (.p (.bl true)) [.no] := by
  obtain ⟨k, hk, hk5⟩ : ∃ k : Nat, (if (if (ns.length : Int) < 5 then (ns.length : Int) else 5) > 1 then (if (ns.length : Int) < 5 then (ns.length : Int) else 5) else 1) = (k : Int) ∧ k ≤ 5 := by
    by_cases h : (ns.length : Int) < 5
    · rw [if_pos h]
      by_cases h2 : (ns.length : Int) > 1
      · rw [if_pos h2]; exact ⟨_, rfl, by omega⟩
      · rw [if_neg h2]; exact ⟨1, rfl, by omega⟩
    · rw [if_neg h]
      exact ⟨5, rfl, by omega⟩
  have f1 : qcall 0 F 39 41 [.val (.tup [.str "not", .tup [.str "both", .tup [.str "always"], .tup [.str "not", .tup [.str "blank", .str "x"]]]])] = ret (.tup [.str "either", .tup [.str "not", .tup [.str "always"]], .tup [.str "blank", .str "x"]]) 1 := by kernel_rfl
  have f2 : eqOk (.tup [.str "either", .tup [.str "not", .tup [.str "always"]], .tup [.str "blank", .str "x"]]) (.tup [.str "either", .tup [.str "not", .tup [.str "always"]], .tup [.str "blank", .str "x"]]) = true := by decide +kernel
  have f3 : okRg (k : Int) = true := by
    simp only [okRg, Bool.and_eq_true, decide_eq_true_eq]
    omega
  have f4 : ((k : Int)).toNat = k := Int.toNat_natCast k
  have turn := fun (k : Nat) (h : k < 5) => @turn_ok 0 ns hl k (by omega)
  refine QC.eq_of ?_
  rw [C_call (d := ⟨1, 15, ir_law⟩) rfl rfl]
  obtain ⟨R, hR⟩ : ∃ R, R = ir_turn := ⟨_, rfl⟩
  have cl := cutL.trans (congrArg (setBody ir_law) hR.symm)
  rw [cl]
  rw [← hR] at turn
  clear hR cl
  obtain ⟨I, hI⟩ : ∃ I : List T → Vn → Option T → Prop, I = fun rest v x => x = none ∧ (∀ y ∈ rest, y ∈ rangeL 0 k) ∧ ∃ b1 b2 b3 b4 b5 b6 b7 b8 b9 b10 b11 b12 b13, plainS b8 = true ∧ v = [.val (.cl (ns.map .int)), b1, b2, b3, b4, b5, b6, b7, b8, b9, b10, b11, b12, b13, .no] := ⟨_, rfl⟩
  have i0 : I (rangeL 0 k) [.val (.cl (ns.map .int)), .no, .no, .no, .no, .no, .no, .no, .no, .no, .no, .no, .no, .no, .no] none := by
    rw [hI]
    exact ⟨rfl, fun y hy => hy, _, _, _, _, _, _, _, _, _, _, _, _, _, rfl, rfl⟩
  have il : ∀ v x, I [] v x → x = none ∧ ∃ b1 b2 b3 b4 b5 b6 b7 b8 b9 b10 b11 b12 b13, v = [.val (.cl (ns.map .int)), b1, b2, b3, b4, b5, b6, b7, b8, b9, b10, b11, b12, b13, .no] := fun v x h => by
    rw [hI] at h
    obtain ⟨e1, _, b1, b2, b3, b4, b5, b6, b7, b8, b9, b10, b11, b12, b13, _, e⟩ := h
    exact ⟨e1, b1, b2, b3, b4, b5, b6, b7, b8, b9, b10, b11, b12, b13, e⟩
  have step : ∀ y rest v x rt bk ct ex, I (y :: rest) v x → x = none ∧ @QS.G (qSs (qcall 0 F 39) 0 [] R (setS v 1 (.val y)) none) ⟨fun v x => I rest v x, rt, bk, ct, ex⟩ := fun y rest v x rt bk ct ex h => by
    rw [hI] at h
    obtain ⟨e1, e2, b1, b2, b3, b4, b5, b6, b7, b8, b9, b10, b11, b12, b13, h8, rfl⟩ := h
    refine ⟨e1, ?_⟩
    obtain ⟨j, rfl, hj⟩ := rangeL_mem (e2 y List.mem_cons_self)
    refine turn j (by omega) h8 _ ?_
    intro c2 c3 c4 c5 c6 c7 c8 c9 c10 c11 c12 c13 h
    rw [hI]
    exact ⟨rfl, fun z hz => e2 z (List.mem_cons_of_mem _ hz), _, _, _, _, _, _, _, _, _, _, _, _, _, h, rfl⟩
  clear turn hI
  have all := And.intro @step @il
  clear step il
  have hsl : ((ns.map T.int).length : Int) = ns.length := by rw [List.length_map]
  generalize qcall 0 F 39 = Ψ at *
  generalize ns.map T.int = script at *
  unfold ir_law
  simp only [setBody]
  walk_at "qd"
  obtain ⟨step, il⟩ := all
  refine for_inv I (fun y rest v x h => ⟨rfl, _, rfl, ?_⟩) (fun v x h => ?_) i0
  · obtain ⟨rfl, q⟩ := step y rest v x _ _ _ _ h
    exact q
  · obtain ⟨rfl, b1, b2, b3, b4, b5, b6, b7, b8, b9, b10, b11, b12, b13, rfl⟩ := il v x h
    clear step il i0
    walk_at "qd"
theorem holds : PySem.Challenge.rw_crosslaid_k01_whole_conditions_on_rows.Holds := holds_of fun ns h _ => TL.qcall_val (ts := [.cl (ns.map .int)]) (law_ok ns h) fun _ => rfl
end K01

theorem PySem.Challenge.cw_crosslaid_k01_whole_conditions_on_rows_holds : PySem.Challenge.rw_crosslaid_k01_whole_conditions_on_rows.Holds := by
  exact K01.holds
