import PyProof.Rows.All
import Wide.All
import OpenK.AllK
import Wide.FinOn
import HandS.ForMost
import HandS.ForExc
import HandS.CallSlots
import HandS.Lambda
import HandS.TupAny
import HandS.IsInst
import HandS.Conv
import HandS.Wide
import KE.DataEq
import KE.KTupSum
import HandS.Flow
import KE.KDictPairs
import HandS.ExcOwn
import HandS.ExcInit
import KE.KExcSuper
import HandS.ExcField
import HandS.SetBool
import HandS.SetKeys
import HandS.Words
import HandS.HeadHook4
import HandS.HeadWalk
import HandS.HeadEnd
import HandS.Head2
import PySem.Challenge.RW_crosslaid_k07_whole_formulas_worked_out
set_option Elab.async false
set_option linter.all false
set_option maxRecDepth 100000
/-! values as trees, a partial store, and how they lie in the hand layer's abstract heap -/
namespace TL
open PySem PySem.Spec PyProof.Rows L2

/-- a value: tuples, and lists that nobody changes any more (cl), are values; other objects are addresses -/
inductive T where
  | non | bl (b : Bool) | int (i : Int) | str (s : Str) | tup (xs : List T) | cl (xs : List T) | dct (ks vs : List T) | ref (a : Addr)
/-- what stands in the store -/
inductive Ob where
  | lst (xs : List T)
  | dict (ks vs : List T)
  | ins (c : Nat) (fs : List (Str × T))
abbrev Sto := List (Addr × Ob)
def get : Sto → Addr → Option Ob
  | [], _ => none
  | (b, o) :: r, a => if a = b then some o else get r a
def put : Sto → Addr → Ob → Sto
  | [], _, _ => []
  | (b, o) :: r, a, u => if a = b then (b, u) :: r else (b, o) :: put r a u
def del : Sto → Addr → Sto
  | [], _ => []
  | (b, o) :: r, a => if a = b then del r a else (b, o) :: del r a
theorem get_put {η : Sto} {a b : Addr} {u : Ob} : get (put η a u) b = if b = a then (get η a).map (fun _ => u) else get η b := by
  induction η with
  | nil => simp [put, get]
  | cons p r ih =>
    obtain ⟨c, o⟩ := p
    by_cases h1 : a = c
    · subst h1
      by_cases h2 : b = a
      · subst h2; simp [put, get]
      · simp [put, get, h2]
    · by_cases h2 : b = a
      · subst h2
        simp [put, get, h1, ih]
      · by_cases h3 : b = c
        · subst h3; simp [put, get, h1, h2]
        · simp [put, get, h1, h2, h3, ih]
theorem get_del {η : Sto} {a b : Addr} : get (del η a) b = if b = a then none else get η b := by
  induction η with
  | nil => simp [del, get]
  | cons p r ih =>
    obtain ⟨c, o⟩ := p
    by_cases h1 : a = c
    · subst h1
      by_cases h2 : b = a
      · subst h2; simp [del, ih]
      · simp [del, get, h2, ih]
    · by_cases h2 : b = a
      · subst h2; simp [del, get, h1, ih]
      · by_cases h3 : b = c
        · subst h3; simp [del, get, h1, h2]
        · simp [del, get, h1, h2, h3, ih]
theorem get_cons {η : Sto} {a b : Addr} {o : Ob} : get ((b, o) :: η) a = if a = b then some o else get η a := rfl
/-- less is told -/
def Sub (η η' : Sto) : Prop := ∀ a o, get η a = some o → get η' a = some o

/-- an exception: the class by its place in the table, the value handed in -/
structure Exc where
  cls : Nat
  arg : T

/-- all that is fixed while a law runs -/
structure Glob where
  P : Program
  w : World
  K : PySem.W.Frag
  mg : Str → Option Value
  base : Heap
  /-- the code tables that lambdas need -/
  Tb : List (Addr × Str)
  /-- the exception classes: where they stand, their field -/
  xs : List (Addr × Str)
  /-- the classes of instances: where they stand -/
  cs : List Addr
  /-- lists that are being made: nobody knows them yet -/
  Z : Addr → Prop

def keyR : T → Key → Prop
  | .int i, .inl j => i = j
  | .str x, .inr y => x = y
  | _, _ => False
def KwT (K : PySem.W.Frag) (a : Addr) (xs : List V) : Prop := ∃ (o : Obj) (its : Array Value) (n : Nat), K.lookup a = some o ∧ o.cls = .type "tuple" ∧ o.dict = none ∧ o.data = .seq its n ∧ its.size ≤ sizeLine ∧ Vals xs its.toList
def KwL (K : PySem.W.Frag) (a : Addr) (xs : List V) : Prop := ∃ (o : Obj) (its : Array Value) (n : Nat), K.lookup a = some o ∧ o.cls = .type "list" ∧ o.dict = none ∧ o.data = .seq its n ∧ its.size ≤ sizeLine ∧ Vals xs its.toList
/-- a list, a tuple that stands still -/
def StL (G : Glob) (H : Hp) (η : Sto) (a : Addr) (vs : List V) : Prop := (Rd H a (.lst vs) ∧ get η a = none ∧ ¬ G.Z a) ∨ KwL G.K a vs
/-- a tuple whose object is known to bear no dict -/
def FzT (H : Hp) (a : Addr) (vs : List V) : Prop := ∃ o, H a = some (.frz o (.tup vs)) ∧ o.dict = none
def StT (G : Glob) (H : Hp) (η : Sto) (a : Addr) (vs : List V) : Prop := (FzT H a vs ∧ get η a = none ∧ ¬ G.Z a) ∨ KwT G.K a vs
theorem StL.sq {G : Glob} {H : Hp} {η : Sto} {a : Addr} {vs : List V} (h : StL G H η a vs) : SqL G.K H a vs := h.elim (fun h => .inl h.1) .inr
theorem StT.sq {G : Glob} {H : Hp} {η : Sto} {a : Addr} {vs : List V} (h : StT G H η a vs) : SqT G.K H a vs := h.elim (fun ⟨⟨o, h, _⟩, _⟩ => .inl (.inr ⟨o, h⟩)) fun ⟨o, its, n, h1, h2, _, h3⟩ => .inr ⟨o, its, n, h1, h2, h3⟩
inductive KeysR : List T → List Key → Prop
  | nil : KeysR [] []
  | cons {t : T} {ts : List T} {k : Key} {ks : List Key} : keyR t k → KeysR ts ks → KeysR (t :: ts) (k :: ks)
mutual
inductive ValR (G : Glob) (H : Hp) (η : Sto) : T → V → Prop
  | non : ValR G H η .non .non
  | bl (b : Bool) : ValR G H η (.bl b) (.bl b)
  | int (i : Int) : ValR G H η (.int i) (.int i)
  | str (s : Str) : s.length ≤ sizeLine → ValR G H η (.str s) (.str s)
  | ref (a : Addr) : ValR G H η (.ref a) (.ref a)
  | tup {a : Addr} {vs : List V} {ts : List T} : StT G H η a vs → ValsR G H η ts vs → ValR G H η (.tup ts) (.ref a)
  | cl {a : Addr} {vs : List V} {ts : List T} : StL G H η a vs → ValsR G H η ts vs → ValR G H η (.cl ts) (.ref a)
  | dct {a : Addr} {kvs : List (Key × V)} {ks vs : List T} : H a = some (.dK kvs) → (get η a = none ∧ ¬ G.Z a) → KeysR ks (kvs.map (·.1)) → ValsR G H η vs (kvs.map (·.2)) → ValR G H η (.dct ks vs) (.ref a)
inductive ValsR (G : Glob) (H : Hp) (η : Sto) : List T → List V → Prop
  | nil : ValsR G H η [] []
  | cons {t : T} {ts : List T} {v : V} {vs : List V} : ValR G H η t v → ValsR G H η ts vs → ValsR G H η (t :: ts) (v :: vs)
end
section
variable {G : Glob} {H : Hp} {η : Sto}
theorem ValsR.length : ∀ {ts : List T} {vs : List V}, ValsR G H η ts vs → ts.length = vs.length
  | _, _, .nil => rfl
  | _, _, .cons _ r => congrArg (· + 1) (ValsR.length r)
theorem ValsR.get : ∀ {ts : List T} {vs : List V} {i : Nat} {t : T}, ValsR G H η ts vs → ts[i]? = some t → ∃ v, vs[i]? = some v ∧ ValR G H η t v
  | _, _, _, _, .nil, e => by simp at e
  | _, _, 0, _, .cons h _, e => by simp at e; subst e; exact ⟨_, rfl, h⟩
  | _, _, i + 1, t, .cons _ r, e => by
    obtain ⟨v, h1, h2⟩ := ValsR.get (i := i) (t := t) r (by simpa using e)
    exact ⟨v, by simpa using h1, h2⟩
theorem ValsR.append : ∀ {ts us : List T} {vs ws : List V}, ValsR G H η ts vs → ValsR G H η us ws → ValsR G H η (ts ++ us) (vs ++ ws)
  | _, _, _, _, .nil, s => s
  | _, _, _, _, .cons h r, s => .cons h (ValsR.append r s)
theorem ValsR.set {t : T} {v : V} (h : ValR G H η t v) : ∀ {ts : List T} {vs : List V} (i : Nat), ValsR G H η ts vs → ValsR G H η (ts.set i t) (vs.set i v)
  | _, _, _, .nil => .nil
  | _, _, 0, .cons _ r => .cons h r
  | _, _, i + 1, .cons q r => .cons q (ValsR.set h i r)
theorem ValsR.take : ∀ {ts : List T} {vs : List V} (n : Nat), ValsR G H η ts vs → ValsR G H η (ts.take n) (vs.take n)
  | _, _, 0, _ => .nil
  | _, _, _ + 1, .nil => .nil
  | _, _, n + 1, .cons h r => .cons h (ValsR.take n r)
theorem ValsR.drop : ∀ {ts : List T} {vs : List V} (n : Nat), ValsR G H η ts vs → ValsR G H η (ts.drop n) (vs.drop n)
  | _, _, 0, r => r
  | _, _, _ + 1, .nil => .nil
  | _, _, n + 1, .cons _ r => ValsR.drop n r
theorem ValsR.two {t u : T} {vs : List V} (h : ValsR G H η [t, u] vs) : ∃ v w, vs = [v, w] ∧ ValR G H η t v ∧ ValR G H η u w := by
  cases h with
  | cons h r => cases r with
    | cons h2 r2 => cases r2; exact ⟨_, _, rfl, h, h2⟩
theorem ValsR.one {t : T} {vs : List V} (h : ValsR G H η [t] vs) : ∃ v, vs = [v] ∧ ValR G H η t v := by
  cases h with
  | cons h r => cases r; exact ⟨_, rfl, h⟩
end

def FldsR (G : Glob) (H : Hp) (η : Sto) : List (Str × T) → List (Str × V) → Prop
  | [], [] => True
  | (f, t) :: r, (g, v) :: s => f = g ∧ ValR G H η t v ∧ FldsR G H η r s
  | _, _ => False
def ObR (G : Glob) (H : Hp) (η : Sto) (a : Addr) : Ob → Prop
  | .lst ts => ∃ vs, H a = some (.lst vs) ∧ ValsR G H η ts vs
  | .dict ks vs => ∃ kvs, H a = some (.dK kvs) ∧ KeysR ks (kvs.map (·.1)) ∧ ValsR G H η vs (kvs.map (·.2))
  | .ins c fs => ∃ C dx gs, G.cs[c]? = some C ∧ H a = some (.ins C dx gs) ∧ FldsR G H η fs gs
/-- what may stand at a hidden address -/
structure HidO (o : HO) : Prop where
  mu : Mut (some o)
  nt : ∀ ps, o ≠ .tbl ps
  nc : ∀ c q, o ≠ LamX.CodeO c q
theorem hid_lst {vs : List V} : HidO (.lst vs) := ⟨trivial, fun _ z => (by cases z), fun c q z => (by unfold LamX.CodeO at z; cases z)⟩
structure StoR (G : Glob) (H : Hp) (η : Sto) : Prop where
  ob : ∀ a o, TL.get η a = some o → ObR G H η a o
  tb : LamX.Tabs G.Tb H
  hz : ∀ a, G.Z a → (∃ o, H a = some o ∧ HidO o) ∧ TL.get η a = none
/-- what is not in the store stays (code tables may grow) -/
structure Frm (η : Sto) (H : Hp) (η' : Sto) (H' : Hp) : Prop where
  hp : ∀ b o, H b = some o → TL.get η b = none → (∀ ps, o ≠ .tbl ps) → H' b = some o
  st : ∀ b o, H b = some o → TL.get η b = none → (∀ ps, o ≠ .tbl ps) → TL.get η' b = none
theorem Frm.refl {η : Sto} {H : Hp} : Frm η H η H := ⟨fun _ _ h _ _ => h, fun _ _ _ n _ => n⟩
section
variable {G : Glob} {H H' H1 H2 : Hp} {η η' η1 η2 : Sto}
theorem Rd.frm {G : Glob} (f : Frm η H η' H') {a : Addr} {u : HO} (t : ∀ ps, u ≠ .tbl ps) (h : Rd H a u) (e : get η a = none ∧ ¬ G.Z a) : Rd H' a u ∧ get η' a = none ∧ ¬ G.Z a := by
  rcases h with h | ⟨o, h⟩
  · exact ⟨.inl (f.hp a _ h e.1 t), f.st a _ h e.1 t, e.2⟩
  · exact ⟨.inr ⟨o, f.hp a _ h e.1 (fun ps z => by cases z)⟩, f.st a _ h e.1 (fun ps z => by cases z), e.2⟩
theorem StT.frm (f : Frm η H η' H') {a : Addr} {vs : List V} (h : StT G H η a vs) : StT G H' η' a vs :=
  h.imp (fun ⟨⟨o, h, d⟩, e⟩ => ⟨⟨o, f.hp a _ h e.1 (fun _ z => by cases z), d⟩, f.st a _ h e.1 (fun _ z => by cases z), e.2⟩) id
theorem StL.frm (f : Frm η H η' H') {a : Addr} {vs : List V} (h : StL G H η a vs) : StL G H' η' a vs :=
  h.imp (fun h => Rd.frm (G := G) f (fun _ z => by cases z) h.1 h.2) id
mutual
theorem ValR.frm (f : Frm η H η' H') {t : T} {v : V} (h : ValR G H η t v) : ValR G H' η' t v := by
  cases h with
  | non => exact .non
  | bl b => exact .bl b
  | int i => exact .int i
  | str s l => exact .str s l
  | ref a => exact .ref a
  | tup h r => exact .tup (StT.frm f h) (ValsR.frm f r)
  | cl h r => exact .cl (StL.frm f h) (ValsR.frm f r)
  | dct h e k r => exact .dct (f.hp _ _ h e.1 (fun _ z => by cases z)) ⟨f.st _ _ h e.1 (fun _ z => by cases z), e.2⟩ k (ValsR.frm f r)
theorem ValsR.frm (f : Frm η H η' H') {ts : List T} {vs : List V} (h : ValsR G H η ts vs) : ValsR G H' η' ts vs := by
  cases h with
  | nil => exact .nil
  | cons h r => exact .cons (ValR.frm f h) (ValsR.frm f r)
end
theorem FldsR.frm (f : Frm η H η' H') : ∀ {fs : List (Str × T)} {gs : List (Str × V)}, FldsR G H η fs gs → FldsR G H' η' fs gs
  | [], [], _ => trivial
  | (_, _) :: _, (_, _) :: _, ⟨h1, h2, h3⟩ => ⟨h1, h2.frm f, FldsR.frm f h3⟩
  | [], _ :: _, h => h.elim
  | _ :: _, [], h => h.elim
theorem Frm.trans (f : Frm η H η1 H1) (g : Frm η1 H1 η2 H2) : Frm η H η2 H2 :=
  ⟨fun b o h n t => g.hp b o (f.hp b o h n t) (f.st b o h n t) t, fun b o h n t => g.st b o (f.hp b o h n t) (f.st b o h n t) t⟩
theorem KeysR.length : ∀ {ts : List T} {ks : List Key}, KeysR ts ks → ts.length = ks.length
  | _, _, .nil => rfl
  | _, _, .cons _ r => congrArg (· + 1) (KeysR.length r)
theorem ObR.there {a : Addr} {o : Ob} (h : ObR G H η a o) : ∃ u, H a = some u ∧ (∀ ps, u ≠ .tbl ps) ∧ Mut (some u) := by
  cases o with
  | lst ts => obtain ⟨vs, e, _⟩ := h; exact ⟨_, e, (fun _ z => by cases z), trivial⟩
  | dict ks vs => obtain ⟨kvs, e, _⟩ := h; exact ⟨_, e, (fun _ z => by cases z), trivial⟩
  | ins c fs => obtain ⟨C, dx, gs, _, e, _⟩ := h; exact ⟨_, e, (fun _ z => by cases z), trivial⟩
theorem StoR.nn (S : StoR G H η) {p : Addr} (h : H p = none) : get η p = none := by
  cases e : get η p with
  | none => rfl
  | some o =>
    obtain ⟨u, q, _⟩ := (S.ob p o e).there
    rw [h] at q; cases q
theorem StoR.nz (S : StoR G H η) {p : Addr} (h : H p = none) : get η p = none ∧ ¬ G.Z p := ⟨S.nn h, fun z => by
  obtain ⟨⟨o, e, _⟩, _⟩ := S.hz p z
  rw [h] at e; cases e⟩
theorem ObR.frm (f : Frm η H η' H') {a : Addr} {o : Ob} (e : H' a = H a) (h : ObR G H η a o) : ObR G H' η' a o := by
  cases o with
  | lst ts => obtain ⟨vs, q, r⟩ := h; exact ⟨vs, e.trans q, r.frm f⟩
  | dict ks vs => obtain ⟨kvs, q, k, r⟩ := h; exact ⟨kvs, e.trans q, k, r.frm f⟩
  | ins c fs => obtain ⟨C, dx, gs, hc, q, r⟩ := h; exact ⟨C, dx, gs, hc, e.trans q, r.frm f⟩
/-- a new object that the store need not tell -/
theorem Frm.new {p : Addr} {o : HO} (h : H p = none) : Frm η H η (upd H p o) :=
  ⟨fun b u e _ _ => by rw [upd_ne (ne_of_none e h)]; exact e, fun _ _ _ n _ => n⟩
theorem tabs_upd {T : List (Addr × Str)} {p : Addr} {o : HO} (t : LamX.Tabs T H) (h : H p = none) : LamX.Tabs T (upd H p o) :=
  t.ext fun b u e => by rw [upd_ne (ne_of_none e h)]; exact e
theorem StoR.new (S : StoR G H η) {p : Addr} {o : HO} (h : H p = none) : StoR G (upd H p o) η :=
  ⟨fun a u e => (S.ob a u e).frm (Frm.new h) (upd_ne (by rintro rfl; rw [S.nn h] at e; cases e)), tabs_upd S.tb h, fun a z => by
    obtain ⟨⟨o, e, ho⟩, n⟩ := S.hz a z
    exact ⟨⟨o, by rw [upd_ne (ne_of_none e h)]; exact e, ho⟩, n⟩⟩
/-- .. that it tells -/
theorem Frm.newS {p : Addr} {o : HO} {u : Ob} (h : H p = none) : Frm η H ((p, u) :: η) (upd H p o) :=
  ⟨fun b u e _ _ => by rw [upd_ne (ne_of_none e h)]; exact e, fun b _ e n _ => by rw [get_cons, if_neg (ne_of_none e h)]; exact n⟩
theorem StoR.newS (S : StoR G H η) {p : Addr} {o : HO} {u : Ob} (h : H p = none) (r : ObR G (upd H p o) ((p, u) :: η) p u) : StoR G (upd H p o) ((p, u) :: η) :=
  ⟨fun a w e => by
    rw [get_cons] at e
    by_cases ha : a = p
    · subst ha
      rw [if_pos rfl] at e
      cases e
      exact r
    · rw [if_neg ha] at e
      exact (S.ob a w e).frm (Frm.newS h) (upd_ne ha), tabs_upd S.tb h, fun a z => by
    obtain ⟨⟨o, e, ho⟩, n⟩ := S.hz a z
    have ne := ne_of_none e h
    exact ⟨⟨o, by rw [upd_ne ne]; exact e, ho⟩, by rw [get_cons, if_neg ne]; exact n⟩⟩
/-- a told object is changed -/
theorem Frm.put {a : Addr} {o : HO} {u w : Ob} (e : get η a = some w) : Frm η H (put η a u) (upd H a o) :=
  ⟨fun b x hb n _ => by rw [upd_ne (by rintro rfl; rw [e] at n; cases n)]; exact hb, fun b x hb n _ => by
    rw [get_put, if_neg (by rintro rfl; rw [e] at n; cases n)]; exact n⟩
theorem tabs_put {T : List (Addr × Str)} {a : Addr} {o u : HO} (t : LamX.Tabs T H) (h : H a = some u) (n1 : Mut (some u)) (n2 : ∀ c q, u ≠ LamX.CodeO c q) : LamX.Tabs T (upd H a o) := fun p hp => by
  obtain ⟨ps, h1, h2, h3⟩ := t p hp
  have ne : ∀ {b x}, H b = some x → x ≠ u → b ≠ a := fun {b x} hb hx z => by subst z; rw [h] at hb; exact hx (Option.some.inj hb).symm
  refine ⟨ps, by rw [upd_ne (ne h1 (by rintro rfl; exact n1))]; exact h1, h2, fun pos cv hc => ?_⟩
  obtain ⟨c, e1, e2⟩ := h3 pos cv hc
  exact ⟨c, e1, by rw [upd_ne (ne e2 fun z => n2 _ _ z.symm)]; exact e2⟩
theorem ObR.noCode {a : Addr} {o : Ob} (h : ObR G H η a o) {u : HO} (e : H a = some u) (c : Addr) (q : Str) : u ≠ LamX.CodeO c q := by
  unfold LamX.CodeO
  cases o with
  | lst ts => obtain ⟨vs, e', _⟩ := h; rw [e'] at e; cases e; intro z; cases z
  | dict ks vs => obtain ⟨kvs, e', _⟩ := h; rw [e'] at e; cases e; intro z; cases z
  | ins c fs => obtain ⟨C, dx, gs, _, e', _⟩ := h; rw [e'] at e; cases e; intro z; cases z
theorem StoR.put (S : StoR G H η) {a : Addr} {o : HO} {u w : Ob} (e : get η a = some w) (r : ObR G (upd H a o) (put η a u) a u) : StoR G (upd H a o) (put η a u) := by
  obtain ⟨x, hx, _, mx⟩ := (S.ob a w e).there
  refine ⟨fun b v eb => ?_, tabs_put S.tb hx mx ((S.ob a w e).noCode hx), fun b z => by
    obtain ⟨⟨o, eb, ho⟩, n⟩ := S.hz b z
    have ne : b ≠ a := by rintro rfl; rw [e] at n; cases n
    exact ⟨⟨o, by rw [upd_ne ne]; exact eb, ho⟩, by rw [get_put, if_neg ne]; exact n⟩⟩
  rw [get_put] at eb
  by_cases hb : b = a
  · subst hb
    rw [if_pos rfl, e] at eb
    cases eb
    exact r
  · rw [if_neg hb] at eb
    exact (S.ob b v eb).frm (Frm.put e) (upd_ne hb)
/-- less is told -/
theorem Sub.frm (s : Sub η' η) : Frm η H η' H := ⟨fun _ _ h _ _ => h, fun b _ _ n _ => by
  cases e : get η' b with
  | none => rfl
  | some o => rw [s b o e] at n; cases n⟩
theorem StoR.sub (S : StoR G H η) (s : Sub η' η) : StoR G H η' := ⟨fun a o e => (S.ob a o (s a o e)).frm s.frm rfl, S.tb, fun a z => ⟨(S.hz a z).1, by
  cases e : get η' a with
  | none => rfl
  | some o => have q := s a o e; rw [(S.hz a z).2] at q; cases q⟩⟩
theorem Sub.refl : Sub η η := fun _ _ h => h
theorem Sub.cons {p : Addr} {o : Ob} (h : get η p = none) : Sub η ((p, o) :: η) := fun a u e => by
  rw [get_cons, if_neg (by rintro rfl; rw [h] at e; cases e)]; exact e
theorem Sub.del {p : Addr} : Sub (del η p) η := fun a u e => by
  rw [get_del] at e
  split at e
  · cases e
  · exact e
end
end TL

/-! the small language and its meaning -/
namespace TL
open PySem PySem.Spec PyProof.Rows L2

inductive Bop | add | sub | mul | fdiv | mod | pow
  deriving DecidableEq
inductive Cop | eq | ne | lt | le | gt | ge | isN | notN | inn | nin
  deriving DecidableEq
inductive Ty | int | bool | str | tuple | list | dict
  deriving DecidableEq
inductive Agg | all | any | sum | tuple | list | listM | max | min
  deriving DecidableEq
/-- built-ins of plain values -/
inductive Blt | len | abs | int | max2 | min2 | dict
  deriving DecidableEq
/-- methods -/
inductive Mt | get2 | append | index
  deriving DecidableEq
inductive Tg
  | name (i : Nat)
  | two (i j : Nat)
mutual
inductive E
  | var (i : Nat)
  | cst (t : T)
  | gcst (i : Nat) (t : T)
  | tup (es : Es) | lst (es : Es) | lstV (es : Es)
  | bin (o : Bop) (a b : E) | neg (a : E)
  | cat (a b : E) | catV (a b : E)
  | lc (own : List Nat) (tg : Tg) (src : It) (c : C) (elt : E) | lcM (own : List Nat) (tg : Tg) (src : It) (c : C) (elt : E)
  | cmp (o : Cop) (a b : E) | chain (o1 o2 : Cop) (a b c : E)
  | and (a b : E) | or (a b : E) | not (a : E)
  | ite (c : C) (a b : E)
  | idx (a i : E)
  | slc (a : E) (lo hi : Op) | slcM (a : E) (lo hi : Op)
  | isinst (a : E) (t : Ty)
  | call (f : Nat) (es : Es)
  | callK (f : Nat) (es : Es) (kw : Es) (perm : List Nat)
  | agg (g : Agg) (a : E)
  | blt (b : Blt) (es : Es)
  | mth (m : Mt) (o : E) (es : Es)
  | lenSet (own : List Nat) (tg : Tg) (src : It) (elt : E)
  | hof (f : Nat) (e : E) (ret : Str)
  | exc
  | frz (i : Nat)
  | weak (e : E)
inductive Es
  | nil
  | cons (e : E) (es : Es)
inductive C
  | and (a b : C) | or (a b : C) | not (a : C) | val (e : E) | tt
  | cmp (o : Cop) (a b : E) | chain (o1 o2 : Cop) (a b c : E)
inductive It
  | seq (e : E)
  | chars (e : E)
  | range (a : E) | range2 (a b : E)
  | zip (a b : E)
  | enum (a : E)
inductive Op
  | no
  | some (e : E)
end
mutual
inductive S
  | expr (e : E) | ret (e : E) | retN
  | set (i : Nat) (e : E)
  | par (i j : Nat) (a b : E)
  | unp (tg : Tg) (e : E)
  | setIdx (a i e : E)
  | iff (c : C) (a b : Ss)
  | for (tg : Tg) (it : It) (b : Ss)
  | while (c : C) (b : Ss)
  | brk | cont | pass
  | raise (c : Nat) (e : E)
  | tryE (k : Nat) (e : E) (c : Nat) (b : Ss)
  | weak
inductive Ss
  | nil
  | cons (s : S) (r : Ss)
end

structure Env where
  v : List (Option T)
  x : Option T
abbrev KE := T → Sto → Prop
abbrev KX := Exc → Sto → Prop
abbrev KL := List T → Sto → Prop
/-- a text -/
def strV : T → Option Str
  | .str x => some x
  | _ => none
/-- its signs -/
def charsL (x : Str) : List T := x.cps.toList.map fun c => .str ⟨#[c]⟩
def nth : List (Option T) → Nat → Option T
  | [], _ => none
  | a :: _, 0 => a
  | _ :: r, n + 1 => nth r n
def setv : List (Option T) → Nat → T → List (Option T)
  | [], _, _ => []
  | _ :: r, 0, t => some t :: r
  | a :: r, n + 1, t => a :: setv r n t
def setvs : List (Option T) → List Nat → List (Option T)
  | v, [] => v
  | v, i :: r => setvs (v.set i none) r
def Env.put (ρ : Env) (i : Nat) (t : T) : Env := ⟨setv ρ.v i t, ρ.x⟩

/-! ### data -/
mutual
/-- no address, no dict within -/
def dat : T → Bool
  | .non => true | .bl _ => true | .int _ => true | .str _ => true
  | .tup xs => dats xs
  | .cl xs => dats xs
  | .dct _ _ => false
  | .ref _ => false
def dats : List T → Bool
  | [] => true
  | x :: xs => dat x && dats xs
end
mutual
def dep : T → Nat
  | .non => 0 | .bl _ => 0 | .int _ => 0 | .str _ => 0 | .dct _ _ => 0 | .ref _ => 0
  | .tup xs => deps xs + 1
  | .cl xs => deps xs + 1
def deps : List T → Nat
  | [] => 0
  | x :: xs => max (dep x) (deps xs)
end
mutual
/-- == of data -/
def eqv : T → T → Bool
  | .non, .non => true
  | .bl a, .bl b => a == b
  | .bl a, .int j => (if a then 1 else 0) == j
  | .int i, .bl b => i == (if b then 1 else 0)
  | .int i, .int j => i == j
  | .str x, .str y => x == y
  | .tup xs, .tup ys => eqvs xs ys
  | .cl xs, .cl ys => eqvs xs ys
  | _, _ => false
def eqvs : List T → List T → Bool
  | [], [] => true
  | x :: xs, y :: ys => eqv x y && eqvs xs ys
  | [], _ :: _ => false
  | _ :: _, [] => false
end
/-- a list of the store as a value -/
def deref (η : Sto) : T → T
  | .ref a => match get η a with
    | some (.lst xs) => .cl xs
    | _ => .ref a
  | t => t
def eqOk (u w : T) : Bool := dat u && dat w && decide (min (dep u) (dep w) ≤ 64)
def seqOf (η : Sto) : T → Option (List T)
  | .tup xs => some xs
  | .cl xs => some xs
  | .ref a => match get η a with
    | some (.lst xs) => some xs
    | _ => none
  | _ => none
/-- a list, no tuple -/
def lstOf (η : Sto) : T → Option (List T)
  | .cl xs => some xs
  | .ref a => match get η a with
    | some (.lst xs) => some xs
    | _ => none
  | _ => none
def srcOf : T → Option Addr
  | .ref a => some a
  | _ => none
def tru (η : Sto) : T → Option Bool
  | .non => some false
  | .bl b => some b
  | .int i => some (i != 0)
  | .str s => some ((s.length : Int) != 0)
  | .tup xs => some (!xs.isEmpty)
  | .cl xs => some (!xs.isEmpty)
  | .dct ks _ => some (!ks.isEmpty)
  | .ref a => match get η a with
    | some (.lst xs) => some (!xs.isEmpty)
    | some (.dict ks _) => some (!ks.isEmpty)
    | _ => none
def isT (η : Sto) : Ty → T → Option Bool
  | .int, .int _ => some true
  | .int, .bl _ => some true
  | .int, .ref _ => none
  | .int, _ => some false
  | .bool, .bl _ => some true
  | .bool, .ref _ => none
  | .bool, _ => some false
  | .str, .str _ => some true
  | .str, .ref _ => none
  | .str, _ => some false
  | .tuple, .tup _ => some true
  | .tuple, .ref _ => none
  | .tuple, _ => some false
  | .list, .cl _ => some true
  | .list, .ref _ => none
  | .list, _ => some false
  | .dict, .dct _ _ => some true
  | .dict, .ref _ => none
  | .dict, _ => some false
def lenT (η : Sto) : T → Option Nat
  | .str s => some s.length
  | .dct ks _ => some ks.length
  | t => (seqOf η t).map List.length
def intsOf : List T → Option (List Int)
  | [] => some []
  | .int i :: r => (intsOf r).map (i :: ·)
  | _ :: _ => none
def blsOf : List T → Option (List Bool)
  | [] => some []
  | .bl i :: r => (blsOf r).map (i :: ·)
  | _ :: _ => none
def cutT (xs : List T) (lo hi : Option Int) : List T := (xs.drop (HT.sIx xs.length 0 lo)).take (HT.sIx xs.length xs.length hi - HT.sIx xs.length 0 lo)
/-- some value of the list is equal -/
def inT (u : T) : List T → Bool
  | [] => false
  | x :: xs => eqv x u || inT u xs
def inOk (u : T) (xs : List T) : Bool := dat u && dats xs && decide (min (deps xs) (dep u) ≤ 64)

/-- an operator: what it asks, what it gives -/
def bopG (o : Bop) (u w : T) : Prop :=
  match o, u, w with
  | .add, .str x, .str y => x.length + y.length ≤ sizeLine
  | .add, .tup xs, .tup ys => xs.length + ys.length ≤ sizeLine
  | .mul, .int i, .int j => i.natAbs.log2 + j.natAbs.log2 < 1000000
  | .fdiv, .int _, .int j => j ≠ 0 ∧ j.natAbs.log2 < 9000
  | .mod, .int _, .int j => j ≠ 0
  | .pow, .int i, .int j => 0 ≤ j ∧ j ≤ 1000000 ∧ i.natAbs < 2 ^ 64
  | _, _, _ => True
def bopV (o : Bop) (u w : T) : Option T :=
  match o, u, w with
  | .add, .int i, .int j => some (.int (i + j))
  | .add, .str x, .str y => some (.str (x ++ y))
  | .add, .tup xs, .tup ys => some (.tup (xs ++ ys))
  | .sub, .int i, .int j => some (.int (i - j))
  | .mul, .int i, .int j => some (.int (i * j))
  | .fdiv, .int i, .int j => some (.int (i.fdiv j))
  | .mod, .int i, .int j => some (.int (i.fmod j))
  | .pow, .int i, .int j => some (.int (i ^ j.toNat))
  | _, _, _ => none
def isNon : T → Bool
  | .non => true
  | _ => false
def inStr (x y : Str) : Bool := !(Builtin.Str.occurrences y x 0 y.length 1).isEmpty
def copG (o : Cop) (u w : T) (η : Sto) : Bool :=
  match o with
  | .eq => eqOk (deref η u) (deref η w)
  | .ne => eqOk (deref η u) (deref η w)
  | .inn => match u, w with
    | .str _, .str _ => true
    | u, w => match seqOf η w with
      | some xs => inOk u xs
      | none => false
  | .nin => match u, w with
    | .str _, .str _ => true
    | u, w => match seqOf η w with
      | some xs => inOk u xs
      | none => false
  | _ => true
def copV (o : Cop) (u w : T) (η : Sto) : Option Bool :=
  match o with
  | .eq => some (eqv (deref η u) (deref η w))
  | .ne => some (!eqv (deref η u) (deref η w))
  | .isN => match w with
    | .non => some (isNon u)
    | _ => none
  | .notN => match w with
    | .non => some (!isNon u)
    | _ => none
  | .lt => match u, w with
    | .int i, .int j => some (decide (i < j))
    | _, _ => none
  | .le => match u, w with
    | .int i, .int j => some (decide (i ≤ j))
    | _, _ => none
  | .gt => match u, w with
    | .int i, .int j => some (decide (j < i))
    | _, _ => none
  | .ge => match u, w with
    | .int i, .int j => some (decide (j ≤ i))
    | _, _ => none
  | .inn => match u, w with
    | .str x, .str y => some (inStr x y)
    | u, w => (seqOf η w).map (inT u)
  | .nin => match u, w with
    | .str x, .str y => some (!inStr x y)
    | u, w => (seqOf η w).map fun xs => !inT u xs

/-! what follows the parts of an expression -/
def optF {α : Type} (o : Option α) (K : α → Prop) : Prop := match o with
  | some t => K t
  | none => False
theorem optF_some {α : Type} {K : α → Prop} {t : α} : optF (some t) K = K t := rfl
theorem optF_none {α : Type} {K : α → Prop} : optF none K = False := rfl
theorem optF_congr {α : Type} {o o' : Option α} {K : α → Prop} (h : o = o') : optF o K = optF o' K := by rw [h]
def ifB (k : Bool) (A B : Prop) : Prop := match k with
  | true => A
  | false => B
theorem ifB_congr {k k' : Bool} {A B : Prop} (h : k = k') : ifB k A B = ifB k' A B := by rw [h]
/-! the same with what follows hidden from the simplifier -/
class Kn (α : Type) where
  run : α → Prop
def optQ {α : Type} (o : Option α) [k : Kn α] : Prop := match o with
  | some t => k.run t
  | none => False
theorem optF_I {α : Type} {o : Option α} {K : α → Prop} : optF o K = @optQ α o ⟨K⟩ := by cases o <;> rfl
theorem optQ_some {α : Type} {K : α → Prop} {t : α} : @optQ α (some t) ⟨K⟩ = K t := rfl
theorem optQ_none {α : Type} {K : α → Prop} : @optQ α none ⟨K⟩ = False := rfl
class Kb where
  a : Prop
  b : Prop
def ifQ (k : Bool) [q : Kb] : Prop := match k with
  | true => q.a
  | false => q.b
theorem ifB_I {k : Bool} {A B : Prop} : ifB k A B = @ifQ k ⟨A, B⟩ := by cases k <;> rfl
theorem ifQ_true {A B : Prop} : @ifQ true ⟨A, B⟩ = A := rfl
theorem ifQ_false {A B : Prop} : @ifQ false ⟨A, B⟩ = B := rfl
theorem ifQ_dec {p A B : Prop} [Decidable p] : @ifQ (decide p) ⟨A, B⟩ = (if p then A else B) := by
  by_cases h : p <;> simp [ifQ, h]
theorem ifB_true {A B : Prop} : ifB true A B = A := rfl
theorem ifB_false {A B : Prop} : ifB false A B = B := rfl
def bop (o : Bop) (u w : T) (η : Sto) (K : KE) : Prop := bopG o u w ∧ optF (bopV o u w) fun t => K t η
def cop (o : Cop) (u w : T) (η : Sto) (K : Bool → Prop) : Prop := copG o u w η = true ∧ optF (copV o u w η) K
/-! ### loops -/
def stays (src : Option Addr) (all : List T) (η : Sto) : Prop := match src with
  | none => True
  | some a => get η a = some (.lst all)
/-- a comprehension's turns: f gives none or one item -/
def wcomp (st : Sto → Prop) (f : T → Sto → KL → Prop) : List T → List T → Sto → KL → Prop
  | [], acc, η, K => st η ∧ K acc η
  | x :: xs, acc, η, K => st η ∧ f x η fun r η' => wcomp st f xs (acc ++ r) η' K
def bindTg : Tg → T → List (Option T) → Option (List (Option T))
  | .name i, t, v => some (setv v i t)
  | .two i j, .tup [t, u], v => some (setv (setv v i t) j u)
  | _, _, _ => none
/-- what is wanted behind a statement -/
structure Dn where
  nx : Env → Sto → Prop
  rt : KE
  bk : Env → Sto → Prop
  ct : Env → Sto → Prop
  X : KX
def wfor (st : Sto → Prop) (tg : Tg) (body : Dn → Env → Sto → Prop) (D : Dn) : List T → Env → Sto → Prop
  | [], ρ, η => st η ∧ D.nx ρ η
  | x :: xs, ρ, η => st η ∧ optF (bindTg tg x ρ.v) fun v => body ⟨fun ρ' η' => wfor st tg body D xs ρ' η', D.rt, D.nx, fun ρ' η' => wfor st tg body D xs ρ' η', D.X⟩ ⟨v, ρ.x⟩ η
def wwhile (test : Env → Sto → (Bool → Sto → Prop) → Prop) (body : Dn → Env → Sto → Prop) (D : Dn) : Nat → Env → Sto → Prop
  | 0, _, _ => False
  | n + 1, ρ, η => test ρ η fun b η' => ifB b (body ⟨fun ρ' η' => wwhile test body D n ρ' η', D.rt, D.nx, fun ρ' η' => wwhile test body D n ρ' η', D.X⟩ ρ η') (D.nx ρ η')
def rangeL (lo : Int) (n : Nat) : List T := (List.range n).map fun (k : Nat) => T.int (lo + k)
def zipL : List T → List T → List T
  | x :: xs, y :: ys => .tup [x, y] :: zipL xs ys
  | _, _ => []
def enumL (k : Nat) : List T → List T
  | [] => []
  | x :: xs => .tup [.int k, x] :: enumL (k + 1) xs
/-- one more of a set -/
def addD (acc : List T) (u : T) : List T := if inT u acc then acc else acc ++ [u]
/-- without those that came before -/
def dedup (xs : List T) : List T := xs.foldl addD []
/-- what may be a key -/
def keyT : T → Bool
  | .int _ => true
  | .str _ => true
  | _ => false
def maxL : List Int → Option Int
  | [] => none
  | n :: ns => some (ns.foldl max n)
def minL : List Int → Option Int
  | [] => none
  | n :: ns => some (ns.foldl min n)
def aggV (g : Agg) (ts : List T) : Option T :=
  match g with
  | .all => (blsOf ts).map fun bs => .bl (bs.all id)
  | .any => (blsOf ts).map fun bs => .bl (bs.any id)
  | .sum => (intsOf ts).map fun ns => .int ns.sum
  | .tuple => some (.tup ts)
  | .list => some (.cl ts)
  | .listM => none
  | .max => ((intsOf ts).bind maxL).map .int
  | .min => ((intsOf ts).bind minL).map .int
def aggS (g : Agg) (η : Sto) (u : T) : Option (List T) :=
  match g with
  | .tuple => seqOf η u
  | .list => seqOf η u
  | .listM => seqOf η u
  | _ => lstOf η u
def aggF (g : Agg) (ts : List T) (η : Sto) (K : KE) : Prop :=
  match g with
  | .listM => ∀ p, get η p = none → K (.ref p) ((p, .lst ts) :: η)
  | g => optF (aggV g ts) fun t => K t η
/-- a pair of a key and a value, laid into a dict -/
def dputT (k v : T) (ks vs : List T) : List T × List T :=
  if (ks.any fun c => eqv c k) = true then (ks, List.zipWith (fun c w => if eqv c k = true then v else w) ks vs) else (ks ++ [k], vs ++ [v])
/-- a later one wins -/
def dictOf : List T → List T → List T → Option (List T × List T)
  | [], ks, vs => some (ks, vs)
  | .tup [k, v] :: r, ks, vs => if keyT k then dictOf r (dputT k v ks vs).1 (dputT k v ks vs).2 else none
  | _ :: _, _, _ => none
def dgetT (k : T) : List T → List T → Option T
  | c :: ks, w :: vs => if eqv c k then some w else dgetT k ks vs
  | _, _ => none
def bltV (b : Blt) (ts : List T) (η : Sto) : Option T :=
  match b, ts with
  | .len, [t] => (lenT η t).map fun (n : Nat) => .int n
  | .abs, [.int i] => some (.int (if i < 0 then -i else i))
  | .int, [.int i] => some (.int i)
  | .int, [.bl b] => some (.int (if b then 1 else 0))
  | .max2, [.int i, .int j] => some (.int (if j > i then j else i))
  | .min2, [.int i, .int j] => some (.int (if j < i then j else i))
  | .dict, [t] => ((seqOf η t).bind fun ps => dictOf ps [] []).map fun q => .dct q.1 q.2
  | _, _ => none
/-- the first place of an equal value -/
def ixOf (u : T) : List T → Option Nat
  | [] => none
  | x :: xs => if eqv x u then some 0 else (ixOf u xs).map (· + 1)
/-- the receiver is of the type -/
def mthT (m : Mt) (o : T) (η : Sto) : Bool :=
  match m, o with
  | .append, .ref a => match get η a with
    | some (.lst _) => true
    | _ => false
  | .get2, .dct _ _ => true
  | .index, .tup _ => true
  | .index, .cl _ => true
  | _, _ => false
def mthG (m : Mt) (o : T) (ts : List T) (η : Sto) : Prop :=
  match m, o, ts with
  | .get2, .dct _ _, [k, _] => keyT k = true
  | .append, .ref a, _ => match get η a with
    | some (.lst xs) => xs.length < sizeLine
    | _ => True
  | .index, t, [u] => match seqOf η t with
    | some xs => inOk u xs = true
    | none => True
  | _, _, _ => True
def mthV (m : Mt) (o : T) (ts : List T) (η : Sto) : Option (T × Sto) :=
  match m, o, ts with
  | .get2, .dct ks vs, [k, d] => some ((dgetT k ks vs).getD d, η)
  | .append, .ref a, [t] => match get η a with
    | some (.lst xs) => some (.non, TL.put η a (.lst (xs ++ [t])))
    | _ => none
  | .index, t, [u] => ((seqOf η t).bind (ixOf u)).map fun (k : Nat) => (.int k, η)
  | _, _, _ => none
def negV : T → Option T
  | .int i => some (.int (-i))
  | _ => none
def idxV (η : Sto) (u w : T) : Option T := match seqOf η u, w with
  | some xs, .int k => atI xs k
  | _, _ => none
def slcV (u : T) (i j : Option Int) (η : Sto) : Option T := match u with
  | .tup xs => some (.tup (cutT xs i j))
  | u => (seqOf η u).map fun xs => .cl (cutT xs i j)
def slcMV (u : T) (i j : Option Int) (η : Sto) : Option (List T) := match u with
  | .tup _ => none
  | u => (seqOf η u).map fun xs => cutT xs i j
def frzV (t : Option T) (η : Sto) : Option (List T × Addr) := match t with
  | some (.ref a) => match get η a with
    | some (.lst xs) => some (xs, a)
    | _ => none
  | _ => none
def small (n : Int) : Prop := -(2 ^ 62) ≤ n ∧ n ≤ 16777216
def intV : T → Option Int
  | .int i => some i
  | _ => none
/-- what zip, enumerate walk: nobody changes it meanwhile -/
def stillV (η : Sto) : T → Option (List T)
  | .tup xs => some xs
  | .cl xs => some xs
  | _ => none
def setV (u w : T) (η : Sto) (t : T) : Option Sto := match u, w with
  | .ref p, .int k => match get η p with
    | some (.lst xs) => (ixN xs.length k).map fun j => TL.put η p (.lst (xs.set j t))
    | _ => none
  | _, _ => none

mutual
def wE (Φ : Nat → List T → Sto → KX → KE → Prop) : E → Env → Sto → KX → KE → Prop
  | .var i, ρ, η, _, K => optF (nth ρ.v i) fun t => K t η
  | .cst t, _, η, _, K => K t η
  | .gcst _ t, _, η, _, K => K t η
  | .tup es, ρ, η, X, K => wEs Φ es ρ η X fun ts η' => K (.tup ts) η'
  | .lst es, ρ, η, X, K => wEs Φ es ρ η X fun ts η' => ∀ p, get η' p = none → K (.ref p) ((p, .lst ts) :: η')
  | .lstV es, ρ, η, X, K => wEs Φ es ρ η X fun ts η' => K (.cl ts) η'
  | .bin o a b, ρ, η, X, K => wE Φ a ρ η X fun u η1 => wE Φ b ρ η1 X fun w η2 => bop o u w η2 K
  | .neg a, ρ, η, X, K => wE Φ a ρ η X fun u η1 => optF (negV u) fun t => K t η1
  | .cat a b, ρ, η, X, K => wE Φ a ρ η X fun u η1 => wE Φ b ρ η1 X fun w η2 => optF (lstOf η2 u) fun xs => optF (lstOf η2 w) fun ys => xs.length + ys.length ≤ sizeLine ∧ ∀ p, get η2 p = none → K (.ref p) ((p, .lst (xs ++ ys)) :: η2)
  | .catV a b, ρ, η, X, K => wE Φ a ρ η X fun u η1 => wE Φ b ρ η1 X fun w η2 => optF (lstOf η2 u) fun xs => optF (lstOf η2 w) fun ys => xs.length + ys.length ≤ sizeLine ∧ K (.cl (xs ++ ys)) η2
  | .cmp o a b, ρ, η, X, K => wE Φ a ρ η X fun u η1 => wE Φ b ρ η1 X fun w η2 => cop o u w η2 fun k => K (.bl k) η2
  | .chain o1 o2 a b c, ρ, η, X, K => wE Φ a ρ η X fun u η1 => wE Φ b ρ η1 X fun w η2 => cop o1 u w η2 fun k => ifB k (wE Φ c ρ η2 X fun z η3 => cop o2 w z η3 fun k2 => K (.bl k2) η3) (K (.bl false) η2)
  | .and a b, ρ, η, X, K => wE Φ a ρ η X fun u η1 => optF (tru η1 u) fun k => ifB k (wE Φ b ρ η1 X K) (K u η1)
  | .or a b, ρ, η, X, K => wE Φ a ρ η X fun u η1 => optF (tru η1 u) fun k => ifB k (K u η1) (wE Φ b ρ η1 X K)
  | .not a, ρ, η, X, K => wE Φ a ρ η X fun u η1 => optF (tru η1 u) fun k => K (.bl (!k)) η1
  | .ite c a b, ρ, η, X, K => wC Φ c ρ η X fun k η1 => ifB k (wE Φ a ρ η1 X K) (wE Φ b ρ η1 X K)
  | .idx a i, ρ, η, X, K => wE Φ a ρ η X fun u η1 => wE Φ i ρ η1 X fun w η2 => optF (idxV η2 u w) fun t => K t η2
  | .slc a lo hi, ρ, η, X, K => wE Φ a ρ η X fun u η1 => wO Φ lo ρ η1 X fun i η2 => wO Φ hi ρ η2 X fun j η3 => optF (slcV u i j η3) fun t => K t η3
  | .slcM a lo hi, ρ, η, X, K => wE Φ a ρ η X fun u η1 => wO Φ lo ρ η1 X fun i η2 => wO Φ hi ρ η2 X fun j η3 => optF (slcMV u i j η3) fun ts => ∀ p, get η3 p = none → K (.ref p) ((p, .lst ts) :: η3)
  | .isinst a t, ρ, η, X, K => wE Φ a ρ η X fun u η1 => optF (isT η1 t u) fun b => K (.bl b) η1
  | .call f es, ρ, η, X, K => wEs Φ es ρ η X fun ts η' => Φ f ts η' X K
  | .callK f es kw perm, ρ, η, X, K => wEs Φ es ρ η X fun ts η1 => wEs Φ kw ρ η1 X fun us η2 => Φ f (perm.map fun i => (ts ++ us).getD i .non) η2 X K
  | .lc own tg src c elt, ρ, η, X, K => wI Φ src ρ η X fun ts sr η1 =>
      wcomp (stays sr ts) (fun x η' Kr => optF (bindTg tg x (setvs ρ.v own)) fun v => wC Φ c ⟨v, ρ.x⟩ η' (fun _ _ => False) fun k η2 => ifB k (wE Φ elt ⟨v, ρ.x⟩ η2 (fun _ _ => False) fun u η3 => Kr [u] η3) (Kr [] η2)) ts [] η1 fun us η' => K (.cl us) η'
  | .lcM own tg src c elt, ρ, η, X, K => wI Φ src ρ η X fun ts sr η1 =>
      wcomp (stays sr ts) (fun x η' Kr => optF (bindTg tg x (setvs ρ.v own)) fun v => wC Φ c ⟨v, ρ.x⟩ η' (fun _ _ => False) fun k η2 => ifB k (wE Φ elt ⟨v, ρ.x⟩ η2 (fun _ _ => False) fun u η3 => Kr [u] η3) (Kr [] η2)) ts [] η1 fun us η' => ∀ p, get η' p = none → K (.ref p) ((p, .lst us) :: η')
  | .agg g a, ρ, η, X, K => wE Φ a ρ η X fun u η1 => optF (aggS g η1 u) fun ts => aggF g ts η1 K
  | .blt b es, ρ, η, X, K => wEs Φ es ρ η X fun ts η' => optF (bltV b ts η') fun t => K t η'
  | .mth m o es, ρ, η, X, K => wE Φ o ρ η X fun u η1 => mthT m u η1 = true ∧ wEs Φ es ρ η1 X fun ts η2 => mthG m u ts η2 ∧ optF (mthV m u ts η2) fun q => K q.1 q.2
  | .lenSet own tg src elt, ρ, η, X, K => wI Φ src ρ η X fun ts sr η1 => ts.length ≤ 1000 ∧
      wcomp (stays sr ts) (fun x η' Kr => optF (bindTg tg x (setvs ρ.v own)) fun v => wE Φ elt ⟨v, ρ.x⟩ η' (fun _ _ => False) fun u η3 => keyT u = true ∧ Kr [u] η3) ts [] η1 fun us η' => K (.int (dedup us).length) η'
  | .hof f e ret, ρ, η, X, K => wE Φ e ρ η (fun x η' => x.cls = f ∧ K x.arg η') fun _ η' => K (.str ret) η'
  | .exc, ρ, η, _, K => optF ρ.x fun t => K t η
  | .frz i, ρ, η, _, K => optF (frzV (nth ρ.v i) η) fun q => K (.cl q.1) (del η q.2)
  | .weak e, ρ, η, X, K => wE Φ e ρ η X fun u η' => ∃ η'', Sub η'' η' ∧ K u η''
def wEs (Φ : Nat → List T → Sto → KX → KE → Prop) : Es → Env → Sto → KX → KL → Prop
  | .nil, _, η, _, K => K [] η
  | .cons e es, ρ, η, X, K => wE Φ e ρ η X fun t η1 => wEs Φ es ρ η1 X fun ts η2 => K (t :: ts) η2
def wC (Φ : Nat → List T → Sto → KX → KE → Prop) : C → Env → Sto → KX → (Bool → Sto → Prop) → Prop
  | .and a b, ρ, η, X, K => wC Φ a ρ η X fun k η1 => ifB k (wC Φ b ρ η1 X K) (K false η1)
  | .or a b, ρ, η, X, K => wC Φ a ρ η X fun k η1 => ifB k (K true η1) (wC Φ b ρ η1 X K)
  | .not a, ρ, η, X, K => wC Φ a ρ η X fun k η1 => K (!k) η1
  | .val e, ρ, η, X, K => wE Φ e ρ η X fun u η1 => optF (tru η1 u) fun k => K k η1
  | .tt, _, η, _, K => K true η
  | .cmp o a b, ρ, η, X, K => wE Φ a ρ η X fun u η1 => wE Φ b ρ η1 X fun w η2 => cop o u w η2 fun k => K k η2
  | .chain o1 o2 a b c, ρ, η, X, K => wE Φ a ρ η X fun u η1 => wE Φ b ρ η1 X fun w η2 => cop o1 u w η2 fun k => ifB k (wE Φ c ρ η2 X fun z η3 => cop o2 w z η3 fun k2 => K k2 η3) (K false η2)
def wI (Φ : Nat → List T → Sto → KX → KE → Prop) : It → Env → Sto → KX → (List T → Option Addr → Sto → Prop) → Prop
  | .seq e, ρ, η, X, K => wE Φ e ρ η X fun u η1 => optF (seqOf η1 u) fun ts => K ts (srcOf u) η1
  | .chars e, ρ, η, X, K => wE Φ e ρ η X fun u η1 => optF (strV u) fun x => K (charsL x) none η1
  | .range a, ρ, η, X, K => wE Φ a ρ η X fun u η1 => optF (intV u) fun n => small n ∧ K (rangeL 0 n.toNat) none η1
  | .range2 a b, ρ, η, X, K => wE Φ a ρ η X fun u η1 => wE Φ b ρ η1 X fun w η2 => optF (intV u) fun m => optF (intV w) fun n => small m ∧ small n ∧ n - m ≤ 16777216 ∧ K (rangeL m (n - m).toNat) none η2
  | .zip a b, ρ, η, X, K => wE Φ a ρ η X fun u η1 => wE Φ b ρ η1 X fun w η2 => optF (stillV η2 u) fun xs => optF (stillV η2 w) fun ys => K (zipL xs ys) none η2
  | .enum a, ρ, η, X, K => wE Φ a ρ η X fun u η1 => optF (stillV η1 u) fun xs => K (enumL 0 xs) none η1
def wO (Φ : Nat → List T → Sto → KX → KE → Prop) : Op → Env → Sto → KX → (Option Int → Sto → Prop) → Prop
  | .no, _, η, _, K => K none η
  | .some e, ρ, η, X, K => wE Φ e ρ η X fun u η1 => optF (intV u) fun i => K (some i) η1
end
mutual
def wS (Φ : Nat → List T → Sto → KX → KE → Prop) : S → Dn → Env → Sto → Prop
  | .expr e, D, ρ, η => wE Φ e ρ η D.X fun _ η' => D.nx ρ η'
  | .ret e, D, ρ, η => wE Φ e ρ η D.X D.rt
  | .retN, D, ρ, η => D.rt .non η
  | .set i e, D, ρ, η => wE Φ e ρ η D.X fun t η' => D.nx (ρ.put i t) η'
  | .par i j a b, D, ρ, η => wE Φ a ρ η D.X fun t η1 => wE Φ b ρ η1 D.X fun u η2 => D.nx ((ρ.put i t).put j u) η2
  | .unp tg e, D, ρ, η => wE Φ e ρ η D.X fun t η' => optF (bindTg tg t ρ.v) fun v => D.nx ⟨v, ρ.x⟩ η'
  | .setIdx a i e, D, ρ, η => wE Φ e ρ η D.X fun t η1 => wE Φ a ρ η1 D.X fun u η2 => wE Φ i ρ η2 D.X fun w η3 => optF (setV u w η3 t) fun η4 => D.nx ρ η4
  | .iff c a b, D, ρ, η => wC Φ c ρ η D.X fun k η1 => ifB k (wSs Φ a D ρ η1) (wSs Φ b D ρ η1)
  | .for tg it b, D, ρ, η => wI Φ it ρ η D.X fun ts sr η1 => wfor (stays sr ts) tg (fun D' ρ' η' => wSs Φ b D' ρ' η') D ts ρ η1
  | .while c b, D, ρ, η => ∃ n, wwhile (fun ρ' η' K => wC Φ c ρ' η' D.X K) (fun D' ρ' η' => wSs Φ b D' ρ' η') D n ρ η
  | .brk, D, ρ, η => D.bk ρ η
  | .cont, D, ρ, η => D.ct ρ η
  | .pass, D, ρ, η => D.nx ρ η
  | .raise c e, D, ρ, η => wE Φ e ρ η D.X fun u η' => D.X ⟨c, u⟩ η'
  | .tryE k e c b, D, ρ, η => wE Φ e ρ η (fun x η' => if x.cls = c then wSs Φ b D ⟨ρ.v, some x.arg⟩ η' else D.X x η') fun t η' => match k with
    | 0 => D.nx ρ η'
    | 1 => D.rt t η'
    | i + 2 => D.nx (ρ.put i t) η'
  | .weak, D, ρ, η => ∃ η', Sub η' η ∧ D.nx ρ η'
def wSs (Φ : Nat → List T → Sto → KX → KE → Prop) : Ss → Dn → Env → Sto → Prop
  | .nil, D, ρ, η => D.nx ρ η
  | .cons s r, D, ρ, η => wS Φ s ⟨fun ρ' η' => wSs Φ r D ρ' η', D.rt, D.bk, D.ct, D.X⟩ ρ η
end
/-- a def: how many parameters, how many names, its body -/
structure Fd where
  np : Nat
  nl : Nat
  body : Ss
/-- the calls of n levels -/
def wcall (F : List Fd) : Nat → Nat → List T → Sto → KX → KE → Prop
  | 0, _, _, _, _, _ => False
  | n + 1, f, ts, η, X, K => match F[f]? with
    | some d => ts.length = d.np ∧ wSs (wcall F n) d.body ⟨fun _ η' => K .non η', K, fun _ _ => False, fun _ _ => False, X⟩ ⟨ts.map some ++ List.replicate (d.nl - d.np) none, none⟩ η
    | none => False
end TL

/-! evaluation by rewriting, the head first -/
namespace TL
open PySem PySem.Spec PyProof.Rows L2
section
variable {Φ : Nat → List T → Sto → KX → KE → Prop} {ρ : Env} {η : Sto} {X : KX} {D : Dn}
theorem r_wE_var {i : Nat} {K : KE} : wE Φ (.var i) ρ η X K = optF (nth ρ.v i) fun t => K t η := rfl
theorem r_wE_cst {t : T} {K : KE} : wE Φ (.cst t) ρ η X K = K t η := rfl
theorem r_wE_gcst {x0 : Nat} {t : T} {K : KE} : wE Φ (.gcst x0 t) ρ η X K = K t η := rfl
theorem r_wE_tup {es : Es} {K : KE} : wE Φ (.tup es) ρ η X K = wEs Φ es ρ η X fun ts η' => K (.tup ts) η' := rfl
theorem r_wE_lst {es : Es} {K : KE} : wE Φ (.lst es) ρ η X K = wEs Φ es ρ η X fun ts η' => ∀ p, get η' p = none → K (.ref p) ((p, .lst ts) :: η') := rfl
theorem r_wE_lstV {es : Es} {K : KE} : wE Φ (.lstV es) ρ η X K = wEs Φ es ρ η X fun ts η' => K (.cl ts) η' := rfl
theorem r_wE_bin {o : Bop} {a : E} {b : E} {K : KE} : wE Φ (.bin o a b) ρ η X K = wE Φ a ρ η X fun u η1 => wE Φ b ρ η1 X fun w η2 => bop o u w η2 K := rfl
theorem r_wE_neg {a : E} {K : KE} : wE Φ (.neg a) ρ η X K = wE Φ a ρ η X fun u η1 => optF (negV u) fun t => K t η1 := rfl
theorem r_wE_cat {a : E} {b : E} {K : KE} : wE Φ (.cat a b) ρ η X K = wE Φ a ρ η X fun u η1 => wE Φ b ρ η1 X fun w η2 => optF (lstOf η2 u) fun xs => optF (lstOf η2 w) fun ys => xs.length + ys.length ≤ sizeLine ∧ ∀ p, get η2 p = none → K (.ref p) ((p, .lst (xs ++ ys)) :: η2) := rfl
theorem r_wE_catV {a : E} {b : E} {K : KE} : wE Φ (.catV a b) ρ η X K = wE Φ a ρ η X fun u η1 => wE Φ b ρ η1 X fun w η2 => optF (lstOf η2 u) fun xs => optF (lstOf η2 w) fun ys => xs.length + ys.length ≤ sizeLine ∧ K (.cl (xs ++ ys)) η2 := rfl
theorem r_wE_cmp {o : Cop} {a : E} {b : E} {K : KE} : wE Φ (.cmp o a b) ρ η X K = wE Φ a ρ η X fun u η1 => wE Φ b ρ η1 X fun w η2 => cop o u w η2 fun k => K (.bl k) η2 := rfl
theorem r_wE_chain {o1 : Cop} {o2 : Cop} {a : E} {b : E} {c : E} {K : KE} : wE Φ (.chain o1 o2 a b c) ρ η X K = wE Φ a ρ η X fun u η1 => wE Φ b ρ η1 X fun w η2 => cop o1 u w η2 fun k => ifB k (wE Φ c ρ η2 X fun z η3 => cop o2 w z η3 fun k2 => K (.bl k2) η3) (K (.bl false) η2) := rfl
theorem r_wE_and {a : E} {b : E} {K : KE} : wE Φ (.and a b) ρ η X K = wE Φ a ρ η X fun u η1 => optF (tru η1 u) fun k => ifB k (wE Φ b ρ η1 X K) (K u η1) := rfl
theorem r_wE_or {a : E} {b : E} {K : KE} : wE Φ (.or a b) ρ η X K = wE Φ a ρ η X fun u η1 => optF (tru η1 u) fun k => ifB k (K u η1) (wE Φ b ρ η1 X K) := rfl
theorem r_wE_not {a : E} {K : KE} : wE Φ (.not a) ρ η X K = wE Φ a ρ η X fun u η1 => optF (tru η1 u) fun k => K (.bl (!k)) η1 := rfl
theorem r_wE_ite {c : C} {a : E} {b : E} {K : KE} : wE Φ (.ite c a b) ρ η X K = wC Φ c ρ η X fun k η1 => ifB k (wE Φ a ρ η1 X K) (wE Φ b ρ η1 X K) := rfl
theorem r_wE_idx {a : E} {i : E} {K : KE} : wE Φ (.idx a i) ρ η X K = wE Φ a ρ η X fun u η1 => wE Φ i ρ η1 X fun w η2 => optF (idxV η2 u w) fun t => K t η2 := rfl
theorem r_wE_slc {a : E} {lo : Op} {hi : Op} {K : KE} : wE Φ (.slc a lo hi) ρ η X K = wE Φ a ρ η X fun u η1 => wO Φ lo ρ η1 X fun i η2 => wO Φ hi ρ η2 X fun j η3 => optF (slcV u i j η3) fun t => K t η3 := rfl
theorem r_wE_slcM {a : E} {lo : Op} {hi : Op} {K : KE} : wE Φ (.slcM a lo hi) ρ η X K = wE Φ a ρ η X fun u η1 => wO Φ lo ρ η1 X fun i η2 => wO Φ hi ρ η2 X fun j η3 => optF (slcMV u i j η3) fun ts => ∀ p, get η3 p = none → K (.ref p) ((p, .lst ts) :: η3) := rfl
theorem r_wE_isinst {a : E} {t : Ty} {K : KE} : wE Φ (.isinst a t) ρ η X K = wE Φ a ρ η X fun u η1 => optF (isT η1 t u) fun b => K (.bl b) η1 := rfl
theorem r_wE_call {f : Nat} {es : Es} {K : KE} : wE Φ (.call f es) ρ η X K = wEs Φ es ρ η X fun ts η' => Φ f ts η' X K := rfl
theorem r_wE_callK {f : Nat} {es : Es} {kw : Es} {perm : List Nat} {K : KE} : wE Φ (.callK f es kw perm) ρ η X K = wEs Φ es ρ η X fun ts η1 => wEs Φ kw ρ η1 X fun us η2 => Φ f (perm.map fun i => (ts ++ us).getD i .non) η2 X K := rfl
theorem r_wE_lc {own : List Nat} {tg : Tg} {src : It} {c : C} {elt : E} {K : KE} : wE Φ (.lc own tg src c elt) ρ η X K = wI Φ src ρ η X fun ts sr η1 =>
          wcomp (stays sr ts) (fun x η' Kr => optF (bindTg tg x (setvs ρ.v own)) fun v => wC Φ c ⟨v, ρ.x⟩ η' (fun _ _ => False) fun k η2 => ifB k (wE Φ elt ⟨v, ρ.x⟩ η2 (fun _ _ => False) fun u η3 => Kr [u] η3) (Kr [] η2)) ts [] η1 fun us η' => K (.cl us) η' := rfl
theorem r_wE_lcM {own : List Nat} {tg : Tg} {src : It} {c : C} {elt : E} {K : KE} : wE Φ (.lcM own tg src c elt) ρ η X K = wI Φ src ρ η X fun ts sr η1 =>
          wcomp (stays sr ts) (fun x η' Kr => optF (bindTg tg x (setvs ρ.v own)) fun v => wC Φ c ⟨v, ρ.x⟩ η' (fun _ _ => False) fun k η2 => ifB k (wE Φ elt ⟨v, ρ.x⟩ η2 (fun _ _ => False) fun u η3 => Kr [u] η3) (Kr [] η2)) ts [] η1 fun us η' => ∀ p, get η' p = none → K (.ref p) ((p, .lst us) :: η') := rfl
theorem r_wE_agg {g : Agg} {a : E} {K : KE} : wE Φ (.agg g a) ρ η X K = wE Φ a ρ η X fun u η1 => optF (aggS g η1 u) fun ts => aggF g ts η1 K := rfl
theorem r_wE_blt {b : Blt} {es : Es} {K : KE} : wE Φ (.blt b es) ρ η X K = wEs Φ es ρ η X fun ts η' => optF (bltV b ts η') fun t => K t η' := rfl
theorem r_wE_mth {m : Mt} {o : E} {es : Es} {K : KE} : wE Φ (.mth m o es) ρ η X K = wE Φ o ρ η X fun u η1 => mthT m u η1 = true ∧ wEs Φ es ρ η1 X fun ts η2 => mthG m u ts η2 ∧ optF (mthV m u ts η2) fun q => K q.1 q.2 := rfl
theorem r_wE_lenSet {own : List Nat} {tg : Tg} {src : It} {elt : E} {K : KE} : wE Φ (.lenSet own tg src elt) ρ η X K = wI Φ src ρ η X fun ts sr η1 => ts.length ≤ 1000 ∧
          wcomp (stays sr ts) (fun x η' Kr => optF (bindTg tg x (setvs ρ.v own)) fun v => wE Φ elt ⟨v, ρ.x⟩ η' (fun _ _ => False) fun u η3 => keyT u = true ∧ Kr [u] η3) ts [] η1 fun us η' => K (.int (dedup us).length) η' := rfl
theorem r_wE_hof {f : Nat} {e : E} {ret : Str} {K : KE} : wE Φ (.hof f e ret) ρ η X K = wE Φ e ρ η (fun x η' => x.cls = f ∧ K x.arg η') fun _ η' => K (.str ret) η' := rfl
theorem r_wE_exc  {K : KE} : wE Φ (.exc ) ρ η X K = optF ρ.x fun t => K t η := rfl
theorem r_wE_frz {i : Nat} {K : KE} : wE Φ (.frz i) ρ η X K = optF (frzV (nth ρ.v i) η) fun q => K (.cl q.1) (del η q.2) := rfl
theorem r_wE_weak {e : E} {K : KE} : wE Φ (.weak e) ρ η X K = wE Φ e ρ η X fun u η' => ∃ η'', Sub η'' η' ∧ K u η'' := rfl
theorem r_wEs_nil  {K : KL} : wEs Φ (.nil ) ρ η X K = K [] η := rfl
theorem r_wEs_cons {e : E} {es : Es} {K : KL} : wEs Φ (.cons e es) ρ η X K = wE Φ e ρ η X fun t η1 => wEs Φ es ρ η1 X fun ts η2 => K (t :: ts) η2 := rfl
theorem r_wC_and {a : C} {b : C} {K : Bool → Sto → Prop} : wC Φ (.and a b) ρ η X K = wC Φ a ρ η X fun k η1 => ifB k (wC Φ b ρ η1 X K) (K false η1) := rfl
theorem r_wC_or {a : C} {b : C} {K : Bool → Sto → Prop} : wC Φ (.or a b) ρ η X K = wC Φ a ρ η X fun k η1 => ifB k (K true η1) (wC Φ b ρ η1 X K) := rfl
theorem r_wC_not {a : C} {K : Bool → Sto → Prop} : wC Φ (.not a) ρ η X K = wC Φ a ρ η X fun k η1 => K (!k) η1 := rfl
theorem r_wC_val {e : E} {K : Bool → Sto → Prop} : wC Φ (.val e) ρ η X K = wE Φ e ρ η X fun u η1 => optF (tru η1 u) fun k => K k η1 := rfl
theorem r_wC_tt  {K : Bool → Sto → Prop} : wC Φ (.tt ) ρ η X K = K true η := rfl
theorem r_wC_cmp {o : Cop} {a : E} {b : E} {K : Bool → Sto → Prop} : wC Φ (.cmp o a b) ρ η X K = wE Φ a ρ η X fun u η1 => wE Φ b ρ η1 X fun w η2 => cop o u w η2 fun k => K k η2 := rfl
theorem r_wC_chain {o1 : Cop} {o2 : Cop} {a : E} {b : E} {c : E} {K : Bool → Sto → Prop} : wC Φ (.chain o1 o2 a b c) ρ η X K = wE Φ a ρ η X fun u η1 => wE Φ b ρ η1 X fun w η2 => cop o1 u w η2 fun k => ifB k (wE Φ c ρ η2 X fun z η3 => cop o2 w z η3 fun k2 => K k2 η3) (K false η2) := rfl
theorem r_wI_seq {e : E} {K : List T → Option Addr → Sto → Prop} : wI Φ (.seq e) ρ η X K = wE Φ e ρ η X fun u η1 => optF (seqOf η1 u) fun ts => K ts (srcOf u) η1 := rfl
theorem r_wI_chars {e : E} {K : List T → Option Addr → Sto → Prop} : wI Φ (.chars e) ρ η X K = wE Φ e ρ η X fun u η1 => optF (strV u) fun x => K (charsL x) none η1 := rfl
theorem r_wI_range {a : E} {K : List T → Option Addr → Sto → Prop} : wI Φ (.range a) ρ η X K = wE Φ a ρ η X fun u η1 => optF (intV u) fun n => small n ∧ K (rangeL 0 n.toNat) none η1 := rfl
theorem r_wI_range2 {a : E} {b : E} {K : List T → Option Addr → Sto → Prop} : wI Φ (.range2 a b) ρ η X K = wE Φ a ρ η X fun u η1 => wE Φ b ρ η1 X fun w η2 => optF (intV u) fun m => optF (intV w) fun n => small m ∧ small n ∧ n - m ≤ 16777216 ∧ K (rangeL m (n - m).toNat) none η2 := rfl
theorem r_wI_zip {a : E} {b : E} {K : List T → Option Addr → Sto → Prop} : wI Φ (.zip a b) ρ η X K = wE Φ a ρ η X fun u η1 => wE Φ b ρ η1 X fun w η2 => optF (stillV η2 u) fun xs => optF (stillV η2 w) fun ys => K (zipL xs ys) none η2 := rfl
theorem r_wI_enum {a : E} {K : List T → Option Addr → Sto → Prop} : wI Φ (.enum a) ρ η X K = wE Φ a ρ η X fun u η1 => optF (stillV η1 u) fun xs => K (enumL 0 xs) none η1 := rfl
theorem r_wO_no  {K : Option Int → Sto → Prop} : wO Φ (.no ) ρ η X K = K none η := rfl
theorem r_wO_some {e : E} {K : Option Int → Sto → Prop} : wO Φ (.some e) ρ η X K = wE Φ e ρ η X fun u η1 => optF (intV u) fun i => K (some i) η1 := rfl
theorem r_wS_expr {e : E} : wS Φ (.expr e) D ρ η = wE Φ e ρ η D.X fun _ η' => D.nx ρ η' := rfl
theorem r_wS_ret {e : E} : wS Φ (.ret e) D ρ η = wE Φ e ρ η D.X D.rt := rfl
theorem r_wS_retN  : wS Φ (.retN ) D ρ η = D.rt .non η := rfl
theorem r_wS_set {i : Nat} {e : E} : wS Φ (.set i e) D ρ η = wE Φ e ρ η D.X fun t η' => D.nx (ρ.put i t) η' := rfl
theorem r_wS_par {i : Nat} {j : Nat} {a : E} {b : E} : wS Φ (.par i j a b) D ρ η = wE Φ a ρ η D.X fun t η1 => wE Φ b ρ η1 D.X fun u η2 => D.nx ((ρ.put i t).put j u) η2 := rfl
theorem r_wS_unp {tg : Tg} {e : E} : wS Φ (.unp tg e) D ρ η = wE Φ e ρ η D.X fun t η' => optF (bindTg tg t ρ.v) fun v => D.nx ⟨v, ρ.x⟩ η' := rfl
theorem r_wS_setIdx {a : E} {i : E} {e : E} : wS Φ (.setIdx a i e) D ρ η = wE Φ e ρ η D.X fun t η1 => wE Φ a ρ η1 D.X fun u η2 => wE Φ i ρ η2 D.X fun w η3 => optF (setV u w η3 t) fun η4 => D.nx ρ η4 := rfl
theorem r_wS_iff {c : C} {a : Ss} {b : Ss} : wS Φ (.iff c a b) D ρ η = wC Φ c ρ η D.X fun k η1 => ifB k (wSs Φ a D ρ η1) (wSs Φ b D ρ η1) := rfl
theorem r_wS_for {tg : Tg} {it : It} {b : Ss} : wS Φ (.for tg it b) D ρ η = wI Φ it ρ η D.X fun ts sr η1 => wfor (stays sr ts) tg (fun D' ρ' η' => wSs Φ b D' ρ' η') D ts ρ η1 := rfl
theorem r_wS_while {c : C} {b : Ss} : wS Φ (.while c b) D ρ η = ∃ n, wwhile (fun ρ' η' K => wC Φ c ρ' η' D.X K) (fun D' ρ' η' => wSs Φ b D' ρ' η') D n ρ η := rfl
theorem r_wS_brk  : wS Φ (.brk ) D ρ η = D.bk ρ η := rfl
theorem r_wS_cont  : wS Φ (.cont ) D ρ η = D.ct ρ η := rfl
theorem r_wS_pass  : wS Φ (.pass ) D ρ η = D.nx ρ η := rfl
theorem r_wS_raise {c : Nat} {e : E} : wS Φ (.raise c e) D ρ η = wE Φ e ρ η D.X fun u η' => D.X ⟨c, u⟩ η' := rfl
theorem r_wS_tryE {k : Nat} {e : E} {c : Nat} {b : Ss} : wS Φ (.tryE k e c b) D ρ η = wE Φ e ρ η (fun x η' => if x.cls = c then wSs Φ b D ⟨ρ.v, some x.arg⟩ η' else D.X x η') fun t η' => match k with
        | 0 => D.nx ρ η'
        | 1 => D.rt t η'
        | i + 2 => D.nx (ρ.put i t) η' := rfl
theorem r_wS_weak  : wS Φ (.weak ) D ρ η = ∃ η', Sub η' η ∧ D.nx ρ η' := rfl
theorem r_wSs_nil  : wSs Φ (.nil ) D ρ η = D.nx ρ η := rfl
theorem r_wSs_cons {s : S} {r : Ss} : wSs Φ (.cons s r) D ρ η = wS Φ s ⟨fun ρ' η' => wSs Φ r D ρ' η', D.rt, D.bk, D.ct, D.X⟩ ρ η := rfl
end
section
variable {η : Sto} {K : KE}
theorem f_bop {o : Bop} {u w : T} : bop o u w η K = (bopG o u w ∧ optF (bopV o u w) fun t => K t η) := rfl
theorem f_cop {o : Cop} {u w : T} {K : Bool → Prop} : cop o u w η K = (copG o u w η = true ∧ optF (copV o u w η) K) := rfl
theorem f_agg {g : Agg} {ts : List T} (h : g ≠ .listM) : aggF g ts η K = optF (aggV g ts) fun t => K t η := by cases g <;> first | rfl | exact absurd rfl h
theorem f_aggM {ts : List T} : aggF .listM ts η K = ∀ p, get η p = none → K (.ref p) ((p, .lst ts) :: η) := rfl
theorem v_addI {i j : Int} : bopV .add (.int i) (.int j) = some (.int (i + j)) := rfl
theorem v_subI {i j : Int} : bopV .sub (.int i) (.int j) = some (.int (i - j)) := rfl
theorem v_mulI {i j : Int} : bopV .mul (.int i) (.int j) = some (.int (i * j)) := rfl
theorem v_fdivI {i j : Int} : bopV .fdiv (.int i) (.int j) = some (.int (i.fdiv j)) := rfl
theorem v_modI {i j : Int} : bopV .mod (.int i) (.int j) = some (.int (i.fmod j)) := rfl
theorem v_powI {i j : Int} : bopV .pow (.int i) (.int j) = some (.int (i ^ j.toNat)) := rfl
theorem g_addI {i j : Int} : bopG .add (.int i) (.int j) = True := rfl
theorem g_sub {u w : T} : bopG .sub u w = True := by cases u <;> cases w <;> rfl
theorem g_mulI {i j : Int} : bopG .mul (.int i) (.int j) = (i.natAbs.log2 + j.natAbs.log2 < 1000000) := rfl
theorem g_fdivI {i j : Int} : bopG .fdiv (.int i) (.int j) = (j ≠ 0 ∧ j.natAbs.log2 < 9000) := rfl
theorem g_modI {i j : Int} : bopG .mod (.int i) (.int j) = (j ≠ 0) := rfl
theorem g_powI {i j : Int} : bopG .pow (.int i) (.int j) = (0 ≤ j ∧ j ≤ 1000000 ∧ i.natAbs < 2 ^ 64) := rfl
theorem c_gtI {i j : Int} : copV .gt (.int i) (.int j) η = some (decide (j < i)) := rfl
theorem c_ltI {i j : Int} : copV .lt (.int i) (.int j) η = some (decide (i < j)) := rfl
theorem c_leI {i j : Int} : copV .le (.int i) (.int j) η = some (decide (i ≤ j)) := rfl
theorem c_geI {i j : Int} : copV .ge (.int i) (.int j) η = some (decide (j ≤ i)) := rfl
theorem c_eq {u w : T} : copV .eq u w η = some (eqv (deref η u) (deref η w)) := rfl
theorem c_ne {u w : T} : copV .ne u w η = some (!eqv (deref η u) (deref η w)) := rfl
theorem c_isN {u : T} : copV .isN u .non η = some (isNon u) := rfl
theorem c_notN {u : T} : copV .notN u .non η = some (!isNon u) := rfl
theorem c_inS {x y : Str} : copV .inn (.str x) (.str y) η = some (inStr x y) := rfl
theorem c_ninS {x y : Str} : copV .nin (.str x) (.str y) η = some (!inStr x y) := rfl
theorem cg_gt {u w : T} : copG .gt u w η = true := rfl
theorem cg_lt {u w : T} : copG .lt u w η = true := rfl
theorem cg_le {u w : T} : copG .le u w η = true := rfl
theorem cg_ge {u w : T} : copG .ge u w η = true := rfl
theorem cg_isN {u w : T} : copG .isN u w η = true := rfl
theorem cg_notN {u w : T} : copG .notN u w η = true := rfl
theorem cg_eq {u w : T} : copG .eq u w η = eqOk (deref η u) (deref η w) := rfl
theorem cg_ne {u w : T} : copG .ne u w η = eqOk (deref η u) (deref η w) := rfl
theorem cg_inS {x y : Str} : copG .inn (.str x) (.str y) η = true := rfl
theorem cg_ninS {x y : Str} : copG .nin (.str x) (.str y) η = true := rfl
theorem b_intI {i : Int} : bltV .int [.int i] η = some (.int i) := rfl
theorem b_intB {b : Bool} : bltV .int [.bl b] η = some (.int (if b then 1 else 0)) := rfl
theorem b_abs {i : Int} : bltV .abs [.int i] η = some (.int (if i < 0 then -i else i)) := rfl
theorem b_len {t : T} : bltV .len [t] η = (lenT η t).map fun (n : Nat) => .int n := rfl
theorem b_max2 {i j : Int} : bltV .max2 [.int i, .int j] η = some (.int (if j > i then j else i)) := rfl
theorem b_min2 {i j : Int} : bltV .min2 [.int i, .int j] η = some (.int (if j < i then j else i)) := rfl
theorem l_str {s : Str} : lenT η (.str s) = some s.length := rfl
theorem l_tup {xs : List T} : lenT η (.tup xs) = some xs.length := rfl
theorem l_cl {xs : List T} : lenT η (.cl xs) = some xs.length := rfl
def lstAt (η : Sto) (a : Addr) : Option (List T) := match get η a with
  | some (.lst xs) => some xs
  | _ => none
theorem seq_ref {a : Addr} : seqOf η (.ref a) = lstAt η a := rfl
theorem l_ref {a : Addr} : lenT η (.ref a) = (lstAt η a).map List.length := rfl
theorem i_tup {xs : List T} {k : Int} : idxV η (.tup xs) (.int k) = atI xs k := rfl
theorem i_cl {xs : List T} {k : Int} : idxV η (.cl xs) (.int k) = atI xs k := rfl
theorem i_ref {a : Addr} {k : Int} : idxV η (.ref a) (.int k) = (lstAt η a).bind fun xs => atI xs k := by
  unfold idxV
  rw [seq_ref]
  cases lstAt η a <;> rfl
theorem f_set {p : Addr} {k : Int} {t : T} : setV (.ref p) (.int k) η t = (lstAt η p).bind fun xs => (ixN xs.length k).map fun j => put η p (.lst (xs.set j t)) := by
  simp only [setV, lstAt]
  cases get η p with
  | none => rfl
  | some o => cases o <;> rfl
theorem t_non : tru η .non = some false := rfl
theorem t_bl {b : Bool} : tru η (.bl b) = some b := rfl
theorem t_int {i : Int} : tru η (.int i) = some (i != 0) := rfl
theorem t_tup {xs : List T} : tru η (.tup xs) = some (!xs.isEmpty) := rfl
theorem t_cl {xs : List T} : tru η (.cl xs) = some (!xs.isEmpty) := rfl
theorem seq_tup {xs : List T} : seqOf η (.tup xs) = some xs := rfl
theorem seq_cl {xs : List T} : seqOf η (.cl xs) = some xs := rfl
theorem d_ref {a : Addr} {xs : List T} (h : get η a = some (.lst xs)) : deref η (.ref a) = .cl xs := by simp only [deref, h]
theorem get_cons' {a b : Addr} {o : Ob} : get ((b, o) :: η) a = if a = b then some o else get η a := rfl
theorem d_non : deref η .non = .non := rfl
theorem d_bl {b : Bool} : deref η (.bl b) = .bl b := rfl
theorem d_int {i : Int} : deref η (.int i) = .int i := rfl
theorem d_str {s : Str} : deref η (.str s) = .str s := rfl
theorem d_tup {xs : List T} : deref η (.tup xs) = .tup xs := rfl
theorem d_cl {xs : List T} : deref η (.cl xs) = .cl xs := rfl
theorem get_put_same {a : Addr} {u : Ob} : get (put η a u) a = (get η a).map fun _ => u := by rw [get_put, if_pos rfl]
theorem get_put_ne {a b : Addr} {u : Ob} (h : ¬ b = a) : get (put η a u) b = get η b := by rw [get_put, if_neg h]
theorem put_put {a : Addr} {u w : Ob} : put (put η a u) a w = put η a w := by
  induction η with
  | nil => rfl
  | cons p r ih =>
    obtain ⟨b, o⟩ := p
    by_cases h : a = b
    · simp [put, h]
    · simp [put, h, ih]
theorem ifB_dec {p A B : Prop} [Decidable p] : ifB (decide p) A B = (if p then A else B) := by
  by_cases h : p <;> simp [ifB, h]
theorem ifB_ite {k : Bool} {A B : Prop} : ifB k A B = (if k = true then A else B) := by cases k <;> simp [ifB]
end
theorem optF_m {α : Type} {o : Option α} {K : α → Prop} : optF o K = (match o with
  | some t => K t
  | none => False) := rfl
theorem ifB_m {k : Bool} {A B : Prop} : ifB k A B = (match k with
  | true => A
  | false => B) := rfl
theorem ifm_dec {p A B : Prop} [Decidable p] : (match decide p with
  | true => A
  | false => B) = (if p then A else B) := by
  by_cases h : p <;> simp [h]
end TL

/-! the meaning of the small language as a reading of the hand layer -/
namespace TL
open PySem PySem.Spec PyProof.Rows L2

structure EnvR (G : Glob) (H : Hp) (η : Sto) (σ : L2.St) (ρ : Env) : Prop where
  len : σ.length = ρ.v.length
  val : ∀ i t, nth ρ.v i = some t → ∃ v, σ[i]? = some (some v) ∧ ValR G H η t v
def ExR (G : Glob) (H : Hp) (η : Sto) (e : Exc) (cls : Value) (d : Option Addr) : Prop :=
  ∃ C f dx v, G.xs[e.cls]? = some (C, f) ∧ cls = .ref C ∧ d = some dx ∧ H dx = some (.xd [(f, v)]) ∧ ValR G H η e.arg v
/-- what is wanted of exceptions, of values -/
def HX (G : Glob) (W : WX) (σ : L2.St) (H : Hp) (η : Sto) (X : KX) : Prop :=
  ∀ e η' cls d H', ExR G H' η' e cls d → StoR G H' η' → Frm η H η' H' → X e η' → W cls d σ H'
def HQ (G : Glob) (Q : VK) (H : Hp) (η : Sto) (K : KE) : Prop :=
  ∀ t v η' H', ValR G H' η' t v → StoR G H' η' → Frm η H η' H' → K t η' → Q v H'
def HB (G : Glob) (Q : Bool → Hp → Prop) (H : Hp) (η : Sto) (K : Bool → Sto → Prop) : Prop :=
  ∀ b η' H', StoR G H' η' → Frm η H η' H' → K b η' → Q b H'
def HL (G : Glob) (n : Nat) (Q : List V → Hp → Prop) (H : Hp) (η : Sto) (K : KL) : Prop :=
  ∀ ts vs η' H', ts.length = n → ValsR G H' η' ts vs → StoR G H' η' → Frm η H η' H' → K ts η' → Q vs H'
section
variable {G : Glob} {W : WX} {σ : L2.St} {H H1 : Hp} {η η1 : Sto} {X : KX}
theorem EnvR.frm {ρ : Env} (f : Frm η H η1 H1) (h : EnvR G H η σ ρ) : EnvR G H1 η1 σ ρ :=
  ⟨h.len, fun i t e => let ⟨v, a, b⟩ := h.val i t e; ⟨v, a, b.frm f⟩⟩
theorem HX.frm (f : Frm η H η1 H1) (h : HX G W σ H η X) : HX G W σ H1 η1 X := fun e η' cls d H' a b c q => h e η' cls d H' a b (f.trans c) q
theorem HQ.frm {Q : VK} {K : KE} (f : Frm η H η1 H1) (h : HQ G Q H η K) : HQ G Q H1 η1 K := fun t v η' H' a b c q => h t v η' H' a b (f.trans c) q
theorem HB.frm {Q : Bool → Hp → Prop} {K : Bool → Sto → Prop} (f : Frm η H η1 H1) (h : HB G Q H η K) : HB G Q H1 η1 K := fun t η' H' b c q => h t η' H' b (f.trans c) q
theorem HL.frm {n : Nat} {Q : List V → Hp → Prop} {K : KL} (f : Frm η H η1 H1) (h : HL G n Q H η K) : HL G n Q H1 η1 K := fun ts vs η' H' l a b c q => h ts vs η' H' l a b (f.trans c) q
theorem HQ.here {Q : VK} {K : KE} (h : HQ G Q H η K) (S : StoR G H η) {t : T} {v : V} (r : ValR G H η t v) (k : K t η) : Q v H := h t v η H r S .refl k
end

abbrev TE' := Env → Sto → KX → KE → Prop
abbrev TC' := Env → Sto → KX → (Bool → Sto → Prop) → Prop
abbrev TL' := Env → Sto → KX → KL → Prop
def liftE (G : Glob) (W : WX) (t : TE') : TE := fun σ H Q => ∃ ρ η X K, EnvR G H η σ ρ ∧ StoR G H η ∧ t ρ η X K ∧ HX G W σ H η X ∧ HQ G Q H η K
def liftC (G : Glob) (W : WX) (t : TC') : TT := fun σ H Q => ∃ ρ η X K, EnvR G H η σ ρ ∧ StoR G H η ∧ t ρ η X K ∧ HX G W σ H η X ∧ HB G Q H η K
def liftL (G : Glob) (W : WX) (n : Nat) (t : TL') : TA := fun σ H Q => ∃ ρ η X K, EnvR G H η σ ρ ∧ StoR G H η ∧ t ρ η X K ∧ HX G W σ H η X ∧ HL G n Q H η K

theorem _root_.L2.PE.imp {X : Cx} {e : Expr} {t u : TE} (h : PE X e t) (i : ∀ σ H Q, u σ H Q → t σ H Q) : PE X e u := ⟨fun pins s σ H Q I q => h.run pins s σ H Q I (i σ H Q q)⟩
theorem _root_.L2.PT.imp {X : Cx} {e : Expr} {t u : TT} (h : PT X e t) (i : ∀ σ H Q, u σ H Q → t σ H Q) : PT X e u := ⟨fun pins s σ H Q I q => h.run pins s σ H Q I (i σ H Q q)⟩
theorem _root_.L2.PW.imp {X : Cx} {e : Expr} {t u : TT} (h : PW X e t) (i : ∀ σ H Q, u σ H Q → t σ H Q) : PW X e u := ⟨fun wh pins s σ H Q I q => h.run wh pins s σ H Q I (i σ H Q q)⟩
theorem _root_.L2.PA.imp {X : Cx} {e : List Expr} {t u : TA} (h : PA X e t) (i : ∀ σ H Q, u σ H Q → t σ H Q) : PA X e u := ⟨fun p pins s σ H Q I q => h.run p pins s σ H Q I (i σ H Q q)⟩

/-! ### two parts, one part, many parts -/
section
variable {G : Glob} {W : WX} {σ : L2.St} {H : Hp} {Q : VK}
theorem lift2 {ta tb : TE'} {R : V → V → Hp → Prop} {ρ : Env} {η : Sto} {X : KX} {K' : T → T → Sto → Prop} (hρ : EnvR G H η σ ρ) (hS : StoR G H η) (ht : ta ρ η X fun u η1 => tb ρ η1 X fun w η2 => K' u w η2) (hX : HX G W σ H η X)
    (hR : ∀ u w x y η2 H2, ValR G H2 η2 u x → ValR G H2 η2 w y → StoR G H2 η2 → Frm η H η2 H2 → K' u w η2 → R x y H2) : liftE G W ta σ H fun x H1 => liftE G W tb σ H1 fun y H2 => R x y H2 :=
  ⟨ρ, η, X, _, hρ, hS, ht, hX, fun u x η1 H1 rx S1 f1 k1 => ⟨ρ, η1, X, _, hρ.frm f1, S1, k1, hX.frm f1, fun w y η2 H2 ry S2 f2 k2 => hR u w x y η2 H2 (rx.frm f2) ry S2 (f1.trans f2) k2⟩⟩
theorem lift1 {ta : TE'} {R : V → Hp → Prop} {ρ : Env} {η : Sto} {X : KX} {K' : T → Sto → Prop} (hρ : EnvR G H η σ ρ) (hS : StoR G H η) (ht : ta ρ η X K') (hX : HX G W σ H η X)
    (hR : ∀ u x η2 H2, ValR G H2 η2 u x → StoR G H2 η2 → Frm η H η2 H2 → K' u η2 → R x H2) : liftE G W ta σ H R :=
  ⟨ρ, η, X, _, hρ, hS, ht, hX, fun u x η1 H1 rx S1 f1 k1 => hR u x η1 H1 rx S1 f1 k1⟩
theorem liftN {ta : TL'} {n : Nat} {R : List V → Hp → Prop} {ρ : Env} {η : Sto} {X : KX} {K' : List T → Sto → Prop} (hρ : EnvR G H η σ ρ) (hS : StoR G H η) (ht : ta ρ η X K') (hX : HX G W σ H η X)
    (hR : ∀ u x η2 H2, u.length = n → ValsR G H2 η2 u x → StoR G H2 η2 → Frm η H η2 H2 → K' u η2 → R x H2) : liftL G W n ta σ H R :=
  ⟨ρ, η, X, _, hρ, hS, ht, hX, fun u x η1 H1 l rx S1 f1 k1 => hR u x η1 H1 l rx S1 f1 k1⟩
end
/-- an operation by values keeps step with one by trees -/
def Sim2 (G : Glob) (r : R2) (f : T → T → Sto → KE → Prop) : Prop :=
  ∀ u w x y η H Q K, ValR G H η u x → ValR G H η w y → StoR G H η → f u w η K → HQ G Q H η K → r x y H Q
def Sim1 (G : Glob) (r : V → Hp → VK → Prop) (f : T → Sto → KE → Prop) : Prop :=
  ∀ u x η H Q K, ValR G H η u x → StoR G H η → f u η K → HQ G Q H η K → r x H Q
def SimN (G : Glob) (r : List V → Hp → VK → Prop) (n : Nat) (f : List T → Sto → KE → Prop) : Prop :=
  ∀ us xs η H Q K, us.length = n → ValsR G H η us xs → StoR G H η → f us η K → HQ G Q H η K → r xs H Q
section
variable {G : Glob} {W : WX} {X : Cx} {a b : Expr} {ta tb : TE'} {pos : Pos}
theorem op2 {r : R2} {f : T → T → Sto → KE → Prop} (s : Sim2 G r f) {σ : L2.St} {H : Hp} {Q : VK} (h : liftE G W (fun ρ η X K => ta ρ η X fun u η1 => tb ρ η1 X fun w η2 => f u w η2 K) σ H Q) : tOp r (liftE G W ta) (liftE G W tb) σ H Q := by
  obtain ⟨ρ, η, X, K, hρ, hS, ht, hX, hQ⟩ := h
  exact lift2 hρ hS ht hX fun u w x y η2 H2 rx ry S2 f2 k => s u w x y η2 H2 Q K rx ry S2 k (hQ.frm f2)
theorem q_bin {op : Operator} {r : R2} {f : T → T → Sto → KE → Prop} (ho : OpR X (binaryOp op) r) (s : Sim2 G r f) (ha : PE X a (liftE G W ta)) (hb : PE X b (liftE G W tb)) :
    PE X (.BinOp a op b pos) (liftE G W fun ρ η X K => ta ρ η X fun u η1 => tb ρ η1 X fun w η2 => f u w η2 K) := (pe_op ho ha hb).imp fun _ _ _ h => op2 s h
theorem q_cmp {op : CmpOp} {r : R2} {f : T → T → Sto → KE → Prop} (ho : OpR X (compareOp op) r) (s : Sim2 G r f) (ha : PE X a (liftE G W ta)) (hb : PE X b (liftE G W tb)) (hm : behindInMarks op b = false) :
    PE X (.Compare a [op] [b] pos) (liftE G W fun ρ η X K => ta ρ η X fun u η1 => tb ρ η1 X fun w η2 => f u w η2 K) := (pe_cmpR ho ha hb hm).imp fun _ _ _ h => op2 s h
end
/-! ### operators -/
/-- t + u, the new tuple's object known -/
def rCatF (K : PySem.W.Frag) : R2 := fun x y H Q => ∃ a b xs ys, x = .ref a ∧ y = .ref b ∧ SqT K H a xs ∧ SqT K H b ys ∧ xs.length + ys.length ≤ sizeLine ∧
  (xs = [] → Q (.ref b) H) ∧ (xs ≠ [] → ys = [] → Q (.ref a) H) ∧ (xs ≠ [] → ys ≠ [] → ∀ p o, H p = none → o.dict = none → Q (.ref p) (upd H p (.frz o (.tup (xs ++ ys)))))
theorem frz_tup {P : Program} {w : World} {H : Hp} {h : Heap} {vs : List V} {us : List Value} (hz : vs.length ≤ sizeLine) (r : Vals vs us) : ObjOk P w H (h.push { cls := .type "tuple", data := .seq us.toArray }) h.objs.size (.frz { cls := .type "tuple", data := .seq us.toArray } (.tup vs)) :=
  ⟨Heap.get?_push_size _ rfl, hz, us, r, IsTup.new _ _⟩
/-- a new tuple is laid -/
theorem _root_.L2.Inv.tupF {X : Cx} {pins : List (Addr × Obj)} {σ : L2.St} {H : Hp} {s : Shared} {vs : List V} {us : List Value} {Q : VK} (I : Inv X pins σ H s) (t : Nat) (hz : vs.length ≤ sizeLine) (r : Vals vs us) (q : ∀ p o, H p = none → o.dict = none → Q (.ref p) (upd H p (.frz o (.tup vs)))) :
    EP X pins σ Q (.ref s.heap.objs.size) { s with heap := s.heap.push { cls := .type "tuple", data := .seq us.toArray }, toks := t } :=
  ⟨.ref s.heap.objs.size, _, I.laid (t' := t) (fun b u e => Heap.get?_push_of_some _ e) (Nat.le_refl _) (frz_tup hz r), rfl, q _ _ (I.hok.fresh (Nat.le_refl _)) rfl⟩
theorem nil_iff' {vs : List V} {us : List Value} (r : Vals vs us) : us.toArray.size = 0 ↔ vs = [] := by cases r <;> simp
theorem op_catF {X : Cx} : OpR X (binaryOp .Add) (rCatF X.K) := by
  intro pins s σ H x y v u Q I rx ry h
  obtain ⟨a, b, xs, ys, rfl, rfl, ha, hb, hz, q0, q1, q2⟩ := h
  cases rx; cases ry
  obtain ⟨us, r1, p1, _⟩ := I.tuple ha
  obtain ⟨ws, r2, p2, _⟩ := I.tuple hb
  by_cases hx : xs = []
  · subst hx
    cases r1
    exact cat_tup0 p1 p2 ⟨.ref b, H, I, rfl, q0 rfl⟩
  · have e1 : us ≠ [] := fun z => hx (by subst z; cases r1; rfl)
    refine HT.cat_tup p1 p2 e1 (fun z => ⟨.ref a, H, I, rfl, q1 hx (by subst z; cases r2; rfl)⟩) (fun z => ?_) (by rw [← r1.length, ← r2.length]; exact hz)
    exact I.tupF s.toks (by rw [List.length_append]; exact hz) (r1.append r2) (q2 hx fun w => z (by subst w; cases r2; rfl))
/-- t[i:j], the new tuple's object known -/
def rSlF (K : PySem.W.Frag) : V → Option Int → Option Int → Hp → VK → Prop := fun x lo hi H Q => ∃ a xs, x = .ref a ∧ SqT K H a xs ∧
  (HT.sIx xs.length 0 lo = 0 ∧ HT.sIx xs.length xs.length hi = xs.length → Q (.ref a) H) ∧ (¬ (HT.sIx xs.length 0 lo = 0 ∧ HT.sIx xs.length xs.length hi = xs.length) → ∀ p o, H p = none → o.dict = none → Q (.ref p) (upd H p (.frz o (.tup (cutV xs lo hi)))))
theorem sl_tupF {X : Cx} : SlR X (rSlF X.K) := by
  intro pins s σ H x v vl vu lo hi sl Q I rx hs pl pu h
  obtain ⟨a, xs, rfl, hx, q1, q2⟩ := h
  cases rx
  obtain ⟨us, r, ht, hz⟩ := I.tuple hx
  have hn : us.toArray.size = xs.length := by rw [List.size_toArray]; exact r.length.symm
  refine ⟨"tuple", _, PyProof.Rows.slot_tuple_getitem.lookup, ht.typeIs, ?_⟩
  by_cases hw : HT.sIx xs.length 0 lo = 0 ∧ HT.sIx xs.length xs.length hi = xs.length
  · exact getItem_tuple_whole ht hs pl pu (by rw [hn]; exact hw) ⟨.ref a, H, I, rfl, q1 hw⟩
  · refine HT.getItem_tuple_cut ht hs pl pu (by rw [hn]; exact hw) ?_ (by rw [hn]; exact hz)
    rw [hn]
    exact I.tupF s.toks (Nat.le_trans (cutV_length xs lo hi) hz) ((r.drop (HT.sIx xs.length 0 lo)).take (HT.sIx xs.length xs.length hi - HT.sIx xs.length 0 lo)) (q2 hw)
/-- (a, b, ..), the new tuple's object known -/
def tTupF (t : TA) : TE := fun σ H Q => t σ H fun vs H1 => vs.length ≤ sizeLine ∧ ∀ p o, H1 p = none → o.dict = none → Q (.ref p) (upd H1 p (.frz o (.tup vs)))
theorem pe_tupF {X : Cx} {es : List Expr} {t : TA} {x1} {pos : Pos} (h : PA X es t) : PE X (.Tuple es x1 pos) (tTupF t) := ⟨fun pins s σ H Q I hq =>
  wpAny_Tuple_spliced (thn (h.run pos pins s σ H _ I hq) fun us s1 ⟨vs, H1, I1, r, z, q⟩ => ⟨by rw [← r.length]; exact z, I1.tupF s1.toks z r q⟩)⟩
/-- tuple(x), the new tuple's object known -/
def kTupF (K : PySem.W.Frag) : List V → Hp → VK → Prop := fun xs H Q => ∃ p vs, xs = [.ref p] ∧ ((SqL K H p vs ∧ ∀ q o, H q = none → o.dict = none → Q (.ref q) (upd H q (.frz o (.tup vs)))) ∨ (SqT K H p vs ∧ Q (.ref p) H))
theorem cr_tupF {X : Cx} : CallR X (.type "tuple") (kTupF X.K) := by
  intro pins s σ H xs us Q I r h
  obtain ⟨p, vs, rfl, h⟩ := h
  obtain ⟨u, rfl, ru⟩ := vals1 r
  cases ru
  rcases h with ⟨hs, q⟩ | ⟨hs, q⟩
  · obtain ⟨us, rv, pl, hz⟩ := I.list hs
    refine call_tuple_list pl.isList (fun h' hk => ?_) (by rw [List.size_toArray, ← rv.length]; exact hz)
    have I1 : Inv X pins σ H { s with heap := h' } := I.kept (t' := s.toks) hk
    exact I1.tupF s.toks hz rv q
  · obtain ⟨us, rv, pl, hz⟩ := I.tuple hs
    exact call_tuple_tup pl ⟨.ref p, H, I, rfl, q⟩
theorem OpR.false {X : Cx} {f : Value → Value → Sem Value} : OpR X f (fun _ _ _ _ => False) := fun _ _ _ _ _ _ _ _ _ _ _ _ h => h.elim
section
variable {G : Glob}
def rAddAll (K : PySem.W.Frag) : R2 := fun x y H Q => (∃ i j, x = .int i ∧ y = .int j ∧ Q (.int (i + j)) H) ∨ (∃ i j, x = .str i ∧ y = .str j ∧ i.length + j.length ≤ sizeLine ∧ Q (.str (i ++ j)) H) ∨ rCatF K x y H Q
theorem op_addAll {X : Cx} : OpR X (binaryOp .Add) (rAddAll X.K) := op_add.or (op_add_str.or op_catF)
theorem len_app (x y : Str) : (x ++ y).length = x.length + y.length := by
  show (x.cps ++ y.cps).size = x.cps.size + y.cps.size
  exact Array.size_append
theorem valR_newTup {H : Hp} {η : Sto} {p : Addr} {o : Obj} {ts : List T} {vs : List V} (h : H p = none) (d : o.dict = none) (S : StoR G H η) (r : ValsR G H η ts vs) : ValR G (upd H p (.frz o (.tup vs))) η (.tup ts) (.ref p) :=
  .tup (.inl ⟨⟨o, upd_same, d⟩, S.nz h⟩) (r.frm (Frm.new h))
theorem valR_newLst {H : Hp} {η : Sto} {p : Addr} {ts : List T} {vs : List V} (h : H p = none) (S : StoR G H η) (r : ValsR G H η ts vs) : ValR G (upd H p (.lst vs)) η (.cl ts) (.ref p) :=
  .cl (.inl ⟨.inl upd_same, S.nz h⟩) (r.frm (Frm.new h))
theorem HQ.newTup {Q : VK} {H : Hp} {η : Sto} {K : KE} (hQ : HQ G Q H η K) (S : StoR G H η) {ts : List T} {vs : List V} (r : ValsR G H η ts vs) (k : K (.tup ts) η) : ∀ p o, H p = none → o.dict = none → Q (.ref p) (upd H p (.frz o (.tup vs))) := fun p o hp d =>
  hQ _ _ η _ (valR_newTup hp d S r) (S.new hp) (Frm.new hp) k
theorem HQ.newCl {Q : VK} {H : Hp} {η : Sto} {K : KE} (hQ : HQ G Q H η K) (S : StoR G H η) {ts : List T} {vs : List V} (r : ValsR G H η ts vs) (k : K (.cl ts) η) : ∀ p, H p = none → Q (.ref p) (upd H p (.lst vs)) := fun p hp =>
  hQ _ _ η _ (valR_newLst hp S r) (S.new hp) (Frm.new hp) k
theorem HQ.newLst {Q : VK} {H : Hp} {η : Sto} {K : KE} (hQ : HQ G Q H η K) (S : StoR G H η) {ts : List T} {vs : List V} (r : ValsR G H η ts vs) (k : ∀ p, get η p = none → K (.ref p) ((p, .lst ts) :: η)) : ∀ p, H p = none → Q (.ref p) (upd H p (.lst vs)) := fun p hp =>
  hQ _ _ ((p, .lst ts) :: η) _ (.ref p) (S.newS hp ⟨vs, upd_same, r.frm (Frm.newS hp)⟩) (Frm.newS hp) (k p (S.nn hp))
/-- a binary operator: its guard, its value -/
abbrev bopR (o : Bop) : T → T → Sto → KE → Prop := fun u w η K => bop o u w η K
theorem sim_add : Sim2 G (rAddAll G.K) (bopR .add) := by
  intro u w x y η H Q K rx ry S ⟨g, h⟩ hQ
  cases rx <;> cases ry <;> first
    | exact h.elim
    | exact .inl ⟨_, _, rfl, rfl, hQ.here S (.int _) h⟩
    | (rename_i l1 _ l2
       exact .inr (.inl ⟨_, _, rfl, rfl, g, hQ.here S (.str _ (by rw [len_app]; exact g)) h⟩))
    | (rename_i a vs ts h1 r1 b ws us h2 r2
       refine .inr (.inr ⟨a, b, vs, ws, rfl, rfl, h1.sq, h2.sq, by rw [← r1.length, ← r2.length]; exact g, fun e => ?_, fun _ e => ?_, fun _ _ => hQ.newTup S (r1.append r2) h⟩)
       · subst e; cases r1; exact hQ.here S (.tup h2 r2) h
       · subst e; cases r2; exact hQ.here S (.tup h1 r1) (by have h : K (.tup (_ ++ [])) η := h; rw [List.append_nil] at h; exact h))
theorem op_mulB {X : Cx} : OpR X (binaryOp .Mult) (rI (fun i j => i.natAbs.log2 + j.natAbs.log2 < 1000000) fun i j => .int (i * j)) := op_mulW
theorem op_fdivB {X : Cx} : OpR X (binaryOp .FloorDiv) (rI (fun _ j => j ≠ 0 ∧ j.natAbs.log2 < 9000) fun i j => .int (i.fdiv j)) := opI fun _ _ _ _ _ _ _ hc q => floordiv_int hc.1 q (.inl (PyProof.noPylong_of_log2 hc.2))
theorem sim_int {o : Bop} {C : Int → Int → Prop} {g : Int → Int → Int} (hv : ∀ u w t, bopV o u w = some t → ∃ i j, u = .int i ∧ w = .int j ∧ t = .int (g i j)) (hg : ∀ i j, bopG o (.int i) (.int j) → C i j) :
    Sim2 G (rI C fun i j => .int (g i j)) (bopR o) := by
  intro u w x y η H Q K rx ry S ⟨g', h⟩ hQ
  unfold optF at h
  split at h
  · rename_i t e
    obtain ⟨i, j, rfl, rfl, rfl⟩ := hv _ _ _ e
    cases rx; cases ry
    exact ⟨i, j, rfl, rfl, hg i j g', hQ.here S (.int _) h⟩
  · exact h.elim
theorem sim_sub : Sim2 G (rI0 fun i j => .int (i - j)) (bopR .sub) := by
  intro u w x y η H Q K rx ry S ⟨g, h⟩ hQ
  cases rx <;> cases ry <;> first
    | exact h.elim
    | exact ⟨_, _, rfl, rfl, hQ.here S (.int _) h⟩
theorem sim_mul : Sim2 G (rI (fun i j => i.natAbs.log2 + j.natAbs.log2 < 1000000) fun i j => .int (i * j)) (bopR .mul) := sim_int (fun u w t e => by cases u <;> cases w <;> first | (cases e; exact ⟨_, _, rfl, rfl, rfl⟩) | cases e) fun _ _ h => h
theorem sim_fdiv : Sim2 G (rI (fun _ j => j ≠ 0 ∧ j.natAbs.log2 < 9000) fun i j => .int (i.fdiv j)) (bopR .fdiv) := sim_int (fun u w t e => by cases u <;> cases w <;> first | (cases e; exact ⟨_, _, rfl, rfl, rfl⟩) | cases e) fun _ _ h => h
theorem sim_mod : Sim2 G (rI (fun _ j => j ≠ 0) fun i j => .int (i.fmod j)) (bopR .mod) := sim_int (fun u w t e => by cases u <;> cases w <;> first | (cases e; exact ⟨_, _, rfl, rfl, rfl⟩) | cases e) fun _ _ h => h
theorem sim_pow : Sim2 G (rI CPow fun i j => .int (i ^ j.toNat)) (bopR .pow) := sim_int (fun u w t e => by cases u <;> cases w <;> first | (cases e; exact ⟨_, _, rfl, rfl, rfl⟩) | cases e) fun _ _ h => h
end
end TL

/-! comparisons -/
namespace TL
open PySem PySem.Spec PyProof.Rows L2
mutual
def enc : T → PyData
  | .non => .none
  | .bl b => .bool b
  | .int i => .int i
  | .str s => .str s
  | .tup xs => .tuple (encs xs)
  | .cl xs => .list (encs xs)
  | .dct _ _ => .none
  | .ref _ => .none
def encs : List T → List PyData
  | [] => []
  | x :: xs => enc x :: encs xs
end
mutual
theorem enc_dp {G : Glob} {H : Hp} {η : Sto} : ∀ {t : T} {v : V}, dat t = true → ValR G H η t v → Dp G.K H v (enc t)
  | _, _, _, .non => .non
  | _, _, _, .bl b => .bl b
  | _, _, _, .int i => .int i
  | _, _, _, .str s _ => .str s
  | _, _, h, .tup a r => .tup a.sq (encs_dp h r)
  | _, _, h, .cl a r => .lst a.sq (encs_dp h r)
  | .ref _, _, h, _ => by cases h
  | .dct _ _, _, h, _ => by cases h
theorem encs_dp {G : Glob} {H : Hp} {η : Sto} : ∀ {ts : List T} {vs : List V}, dats ts = true → ValsR G H η ts vs → DpAll G.K H vs (encs ts)
  | _, _, _, .nil => .nil
  | _, _, h, .cons r s => by
    have h : (dat _ && dats _) = true := h
    rw [Bool.and_eq_true] at h
    exact .cons (enc_dp h.1 r) (encs_dp h.2 s)
end
mutual
theorem enc_plain : ∀ {t : T}, dat t = true → (enc t).plain = true
  | .non, _ => rfl
  | .bl _, _ => rfl
  | .int _, _ => rfl
  | .str _, _ => rfl
  | .tup xs, h => encs_plain (ts := xs) h
  | .cl xs, h => encs_plain (ts := xs) h
  | .dct _ _, h => by cases h
  | .ref _, h => by cases h
theorem encs_plain : ∀ {ts : List T}, dats ts = true → PyData.plainAll (encs ts) = true
  | [], _ => rfl
  | t :: ts, h => by
    have h : (dat t && dats ts) = true := h
    rw [Bool.and_eq_true] at h
    show (PyData.plain (enc t) && PyData.plainAll (encs ts)) = true
    rw [enc_plain h.1, encs_plain h.2]; rfl
end
mutual
theorem enc_depth : ∀ {t : T}, dat t = true → (enc t).depth = dep t
  | .non, _ => rfl
  | .bl _, _ => rfl
  | .int _, _ => rfl
  | .str _, _ => rfl
  | .tup xs, h => congrArg (· + 1) (encs_depth (ts := xs) h)
  | .cl xs, h => congrArg (· + 1) (encs_depth (ts := xs) h)
  | .dct _ _, h => by cases h
  | .ref _, h => by cases h
theorem encs_depth : ∀ {ts : List T}, dats ts = true → PyData.depthAll (encs ts) = deps ts
  | [], _ => rfl
  | t :: ts, h => by
    have h : (dat t && dats ts) = true := h
    rw [Bool.and_eq_true] at h
    show max (PyData.depth (enc t)) (PyData.depthAll (encs ts)) = max (dep t) (deps ts)
    rw [enc_depth h.1, encs_depth h.2]
end
mutual
theorem enc_eqv : ∀ {t u : T}, dat t = true → dat u = true → PyData.eqv (enc t) (enc u) = eqv t u
  | .dct _ _, _, h, _ => by cases h
  | .ref _, _, h, _ => by cases h
  | .non, u, _, h => by cases u <;> first | rfl | cases h
  | .bl _, u, _, h => by cases u <;> first | rfl | cases h
  | .int _, u, _, h => by cases u <;> first | rfl | cases h
  | .str _, u, _, h => by cases u <;> first | rfl | cases h
  | .tup xs, u, g, h => by
    cases u <;> first
      | rfl
      | cases h
      | exact encs_eqv (ts := xs) g h
  | .cl xs, u, g, h => by
    cases u <;> first
      | rfl
      | cases h
      | exact encs_eqv (ts := xs) g h
theorem encs_eqv : ∀ {ts us : List T}, dats ts = true → dats us = true → PyData.eqvAll (encs ts) (encs us) = eqvs ts us
  | [], [], _, _ => rfl
  | [], _ :: _, _, _ => rfl
  | _ :: _, [], _, _ => rfl
  | t :: ts, u :: us, h, g => by
    have h : (dat t && dats ts) = true := h
    have g : (dat u && dats us) = true := g
    rw [Bool.and_eq_true] at h g
    show (PyData.eqv (enc t) (enc u) && PyData.eqvAll (encs ts) (encs us)) = (eqv t u && eqvs ts us)
    rw [enc_eqv h.1 g.1, encs_eqv h.2 g.2]
end
theorem encs_any {u : T} : ∀ {ts : List T}, dat u = true → dats ts = true → ((encs ts).any fun y => PyData.eqv y (enc u)) = inT u ts
  | [], _, _ => rfl
  | t :: ts, g, h => by
    have h : (dat t && dats ts) = true := h
    rw [Bool.and_eq_true] at h
    show (PyData.eqv (enc t) (enc u) || (encs ts).any fun y => PyData.eqv y (enc u)) = (eqv t u || inT u ts)
    rw [enc_eqv h.1 g, encs_any g h.2]
/-! ### by values -/
def rEqP (K : PySem.W.Frag) (neg : Bool) : R2 := fun x y H Q => ∃ d e, Dp K H x d ∧ Dp K H y e ∧ d.plain = true ∧ e.plain = true ∧ min d.depth e.depth ≤ 64 ∧ Q (.bl (if neg then !PyData.eqv d e else PyData.eqv d e)) H
theorem op_eqP {X : Cx} (hu : X.A.units + 64 < cLine) : OpR X (compareOp .Eq) (rEqP X.K false) := by
  intro pins s σ H x y v u Q I rx ry h
  obtain ⟨d, e, hd, he, sd, se, hm, q⟩ := h
  obtain ⟨as, r1⟩ := Dp.reads I d x v hd rx
  obtain ⟨bs, r2⟩ := Dp.reads I e y u he ry
  exact SeqAt.eq_plain r1 r2 sd se (by omega) ⟨.bl _, H, I, rfl, q⟩
theorem op_neP {X : Cx} (hu : X.A.units + 64 < cLine) : OpR X (compareOp .NotEq) (rEqP X.K true) := by
  intro pins s σ H x y v u Q I rx ry h
  obtain ⟨d, e, hd, he, sd, se, hm, q⟩ := h
  obtain ⟨as, r1⟩ := Dp.reads I d x v hd rx
  obtain ⟨bs, r2⟩ := Dp.reads I e y u he ry
  exact SeqAt.ne_plain r1 r2 sd se (by omega) ⟨.bl _, H, I, rfl, q⟩
def rInP (K : PySem.W.Frag) (neg : Bool) : R2 := fun x y H Q => ∃ d ds, Dp K H x d ∧ (Dp K H y (.list ds) ∨ Dp K H y (.tuple ds)) ∧ d.plain = true ∧ PyData.plainAll ds = true ∧ min (PyData.depthAll ds) d.depth ≤ 64 ∧
  Q (.bl (if neg then !(ds.any fun z => PyData.eqv z d) else ds.any fun z => PyData.eqv z d)) H
theorem op_inP {X : Cx} (hu : X.A.units + 65 < cLine) : OpR X (compareOp .In) (rInP X.K false) := by
  intro pins s σ H x y v u Q I rx ry h
  obtain ⟨d, ds, hd, he, sd, se, hm, q⟩ := h
  obtain ⟨as, r1⟩ := Dp.reads I d x v hd rx
  rcases he with he | he
  · obtain ⟨bs, r2⟩ := Dp.reads I _ y u he ry
    exact SeqAt.in_list_data r2 r1 se sd (by omega) ⟨.bl _, H, I, rfl, q⟩
  · obtain ⟨bs, r2⟩ := Dp.reads I _ y u he ry
    exact SeqAt.in_tuple_data r2 r1 se sd (by omega) ⟨.bl _, H, I, rfl, q⟩
theorem op_ninP {X : Cx} (hu : X.A.units + 65 < cLine) : OpR X (compareOp .NotIn) (rInP X.K true) := by
  intro pins s σ H x y v u Q I rx ry h
  obtain ⟨d, ds, hd, he, sd, se, hm, q⟩ := h
  obtain ⟨as, r1⟩ := Dp.reads I d x v hd rx
  rcases he with he | he
  · obtain ⟨bs, r2⟩ := Dp.reads I _ y u he ry
    exact SeqAt.notIn_list_data r2 r1 se sd (by omega) ⟨.bl _, H, I, rfl, q⟩
  · obtain ⟨bs, r2⟩ := Dp.reads I _ y u he ry
    exact SeqAt.notIn_tuple_data r2 r1 se sd (by omega) ⟨.bl _, H, I, rfl, q⟩
section
variable {G : Glob}
abbrev copR (o : Cop) : T → T → Sto → KE → Prop := fun u w η K => cop o u w η fun k => K (.bl k) η
theorem deref_dp {H : Hp} {η : Sto} {t : T} {v : V} (S : StoR G H η) (d : dat (deref η t) = true) (r : ValR G H η t v) : Dp G.K H v (enc (deref η t)) := by
  cases t with
  | ref a =>
    cases r
    unfold deref at d ⊢
    simp only at d ⊢
    cases e : get η a with
    | none => rw [e] at d; cases d
    | some o =>
      rw [e] at d
      cases o with
      | lst ts =>
        obtain ⟨vs, h, rs⟩ := S.ob a _ e
        exact .lst (SqL.of h) (encs_dp d rs)
      | _ => cases d
  | _ => exact enc_dp d r
theorem sim_eq : Sim2 G (rEqP G.K false) (copR .eq) := by
  intro u w x y η H Q K rx ry S ⟨g, h⟩ hQ
  have g : (dat (deref η u) && dat (deref η w) && decide (min (dep (deref η u)) (dep (deref η w)) ≤ 64)) = true := g
  rw [Bool.and_eq_true, Bool.and_eq_true, decide_eq_true_eq] at g
  obtain ⟨⟨g1, g2⟩, g3⟩ := g
  refine ⟨_, _, deref_dp S g1 rx, deref_dp S g2 ry, enc_plain g1, enc_plain g2, by rw [enc_depth g1, enc_depth g2]; exact g3, ?_⟩
  rw [enc_eqv g1 g2]
  exact hQ.here S (.bl _) h
theorem sim_ne : Sim2 G (rEqP G.K true) (copR .ne) := by
  intro u w x y η H Q K rx ry S ⟨g, h⟩ hQ
  have g : (dat (deref η u) && dat (deref η w) && decide (min (dep (deref η u)) (dep (deref η w)) ≤ 64)) = true := g
  rw [Bool.and_eq_true, Bool.and_eq_true, decide_eq_true_eq] at g
  obtain ⟨⟨g1, g2⟩, g3⟩ := g
  refine ⟨_, _, deref_dp S g1 rx, deref_dp S g2 ry, enc_plain g1, enc_plain g2, by rw [enc_depth g1, enc_depth g2]; exact g3, ?_⟩
  rw [enc_eqv g1 g2]
  exact hQ.here S (.bl _) h
theorem optF_inv {α : Type} {o : Option α} {K : α → Prop} (h : optF o K) : ∃ t, o = some t ∧ K t := by
  cases o with
  | none => exact h.elim
  | some t => exact ⟨t, rfl, h⟩
theorem sim_ord {o : Cop} {g : Int → Int → Bool} (hv : ∀ u w η k, copV o u w η = some k → ∃ i j, u = .int i ∧ w = .int j ∧ k = g i j) : Sim2 G (rI0 fun i j => .bl (g i j)) (copR o) := by
  intro u w x y η H Q K rx ry S ⟨_, h⟩ hQ
  obtain ⟨k, e, q⟩ := optF_inv h
  obtain ⟨i, j, rfl, rfl, rfl⟩ := hv _ _ _ _ e
  cases rx; cases ry
  exact ⟨i, j, rfl, rfl, hQ.here S (.bl _) q⟩
theorem sim_lt : Sim2 G (rI0 fun i j => .bl (decide (i < j))) (copR .lt) := sim_ord fun u w η k e => by cases u <;> cases w <;> first | (cases e; exact ⟨_, _, rfl, rfl, rfl⟩) | cases e
theorem sim_le : Sim2 G (rI0 fun i j => .bl (decide (i ≤ j))) (copR .le) := sim_ord fun u w η k e => by cases u <;> cases w <;> first | (cases e; exact ⟨_, _, rfl, rfl, rfl⟩) | cases e
theorem sim_gt : Sim2 G (rI0 fun i j => .bl (decide (j < i))) (copR .gt) := sim_ord fun u w η k e => by cases u <;> cases w <;> first | (cases e; exact ⟨_, _, rfl, rfl, rfl⟩) | cases e
theorem sim_ge : Sim2 G (rI0 fun i j => .bl (decide (j ≤ i))) (copR .ge) := sim_ord fun u w η k e => by cases u <;> cases w <;> first | (cases e; exact ⟨_, _, rfl, rfl, rfl⟩) | cases e
theorem isNon_V {H : Hp} {η : Sto} {u : T} {x : V} (r : ValR G H η u x) : decide (x = .non) = isNon u := by
  cases r <;> simp [isNon]
theorem sim_isN : Sim2 G (fun x y H Q => y = .non ∧ Q (.bl (decide (x = .non))) H) (copR .isN) := by
  intro u w x y η H Q K rx ry S ⟨_, h⟩ hQ
  obtain ⟨k, e, q⟩ := optF_inv h
  cases ry <;> cases e
  exact ⟨rfl, by rw [isNon_V rx]; exact hQ.here S (.bl _) q⟩
theorem sim_notN : Sim2 G (fun x y H Q => y = .non ∧ Q (.bl (!decide (x = .non))) H) (copR .notN) := by
  intro u w x y η H Q K rx ry S ⟨_, h⟩ hQ
  obtain ⟨k, e, q⟩ := optF_inv h
  cases ry <;> cases e
  exact ⟨rfl, by rw [isNon_V rx]; exact hQ.here S (.bl _) q⟩
/-- a list or tuple that is read -/
theorem seq_val {H : Hp} {η : Sto} {t : T} {v : V} {xs : List T} (S : StoR G H η) (e : seqOf η t = some xs) (r : ValR G H η t v) : ∃ a vs, v = .ref a ∧ (SqL G.K H a vs ∨ SqT G.K H a vs) ∧ ValsR G H η xs vs := by
  cases r <;> first
    | (rename_i a vs ts h rs
       cases e
       first
         | exact ⟨_, _, rfl, .inr h.sq, rs⟩
         | exact ⟨_, _, rfl, .inl h.sq, rs⟩)
    | (rename_i a
       unfold seqOf at e
       simp only at e
       cases g : get η a with
       | none => rw [g] at e; cases e
       | some o =>
         rw [g] at e
         cases o with
         | lst ts =>
           cases e
           obtain ⟨vs, h, rs⟩ := S.ob a _ g
           exact ⟨a, vs, rfl, .inl (SqL.of h), rs⟩
         | _ => cases e)
    | cases e
theorem sim_inS {o : Cop} (neg : Bool) (ho : o = .inn ∧ neg = false ∨ o = .nin ∧ neg = true) :
    Sim2 G (fun x y H Q => (∃ i j, x = .str i ∧ y = .str j ∧ Q (.bl (if neg then !inStr i j else inStr i j)) H) ∨ rInP G.K neg x y H Q) (copR o) := by
  intro u w x y η H Q K rx ry S ⟨g, h⟩ hQ
  obtain ⟨k, e, q⟩ := optF_inv h
  have key : ∀ xs, seqOf η w = some xs → inOk u xs = true → k = (if neg then !inT u xs else inT u xs) → rInP G.K neg x y H Q := fun xs es ok hk => by
    unfold inOk at ok
    rw [Bool.and_eq_true, Bool.and_eq_true, decide_eq_true_eq] at ok
    obtain ⟨⟨g1, g2⟩, g3⟩ := ok
    obtain ⟨a, vs, rfl, hs, rs⟩ := seq_val S es ry
    refine ⟨enc u, encs xs, enc_dp g1 rx, hs.imp (fun z => .lst z (encs_dp g2 rs)) fun z => .tup z (encs_dp g2 rs), enc_plain g1, encs_plain g2, by rw [enc_depth g1, encs_depth g2]; exact g3, ?_⟩
    rw [encs_any g1 g2, ← hk]
    exact hQ.here S (.bl _) q
  have two : ∀ xs, seqOf η w = some xs → (∀ z, w ≠ .str z) → rInP G.K neg x y H Q := fun xs es ns => by
    rcases ho with ⟨rfl, rfl⟩ | ⟨rfl, rfl⟩
    · have g' : inOk u xs = true := by
        cases w <;> first
          | exact absurd rfl (ns _)
          | (cases u <;> (simp only [copG, es] at g; exact g))
      have e' : some (inT u xs) = some k := by
        cases w <;> first
          | exact absurd rfl (ns _)
          | (cases u <;> (simp only [copV, es] at e; exact e))
      cases e'
      exact key xs es g' rfl
    · have g' : inOk u xs = true := by
        cases w <;> first
          | exact absurd rfl (ns _)
          | (cases u <;> (simp only [copG, es] at g; exact g))
      have e' : some (!inT u xs) = some k := by
        cases w <;> first
          | exact absurd rfl (ns _)
          | (cases u <;> (simp only [copV, es] at e; exact e))
      cases e'
      exact key xs es g' rfl
  cases hs : seqOf η w with
  | some xs =>
    exact .inr (two xs hs fun z ez => by subst ez; cases hs)
  | none =>
    refine .inl ?_
    cases w <;> cases u <;> first
      | (rcases ho with ⟨rfl, rfl⟩ | ⟨rfl, rfl⟩ <;> (simp only [copV, hs] at e; cases e; done))
      | (cases rx; cases ry
         refine ⟨_, _, rfl, rfl, ?_⟩
         rcases ho with ⟨rfl, rfl⟩ | ⟨rfl, rfl⟩ <;> (cases e; exact hQ.here S (.bl _) q))
theorem op_inAll {X : Cx} (hu : X.A.units + 65 < cLine) : OpR X (compareOp .In) (fun x y H Q => (∃ i j, x = .str i ∧ y = .str j ∧ Q (.bl (if false then !inStr i j else inStr i j)) H) ∨ rInP X.K false x y H Q) := op_in_str.or (op_inP hu)
theorem op_ninAll {X : Cx} (hu : X.A.units + 65 < cLine) : OpR X (compareOp .NotIn) (fun x y H Q => (∃ i j, x = .str i ∧ y = .str j ∧ Q (.bl (if true then !inStr i j else inStr i j)) H) ∨ rInP X.K true x y H Q) := L2.op_notIn_str.or (op_ninP hu)
end
end TL

/-! further operations by values -/
namespace TL
open PySem PySem.Spec PyProof.Rows L2
section
variable {G : Glob} {H : Hp} {η : Sto}
theorem ValsR.isEmpty {ts : List T} {vs : List V} (r : ValsR G H η ts vs) : ts.isEmpty = vs.isEmpty := by cases r <;> rfl
theorem KeysR.isEmpty {ts : List T} {ks : List Key} (r : KeysR ts ks) : ts.isEmpty = ks.isEmpty := by cases r <;> rfl
theorem isEmpty_map {α β : Type} (f : α → β) (l : List α) : (l.map f).isEmpty = l.isEmpty := by cases l <;> rfl
theorem tru_val {t : T} {v : V} {k : Bool} (S : StoR G H η) (e : tru η t = some k) (r : ValR G H η t v) : TruV G.K v H k := by
  cases r <;> first
    | (cases e; rfl)
    | (rename_i l
       cases e
       exact ⟨l, rfl⟩)
    | (rename_i a vs ts h rs
       cases e
       first
         | exact .inr (.inl ⟨vs, h.sq, by rw [rs.isEmpty]⟩)
         | exact .inl ⟨vs, h.sq, by rw [rs.isEmpty]⟩)
    | (rename_i h n kr rs
       cases e
       exact .inr (.inr ⟨_, h, by rw [kr.isEmpty, isEmpty_map]⟩))
    | (rename_i a
       unfold tru at e
       simp only at e
       cases g : get η a with
       | none => rw [g] at e; cases e
       | some o =>
         rw [g] at e
         cases o with
         | lst ts =>
           cases e
           obtain ⟨vs, h, rs⟩ := S.ob a _ g
           exact .inl ⟨vs, SqL.of h, by rw [rs.isEmpty]⟩
         | dict ks vs =>
           cases e
           obtain ⟨kvs, h, kr, rs⟩ := S.ob a _ g
           exact .inr (.inr ⟨kvs, h, by rw [kr.isEmpty, isEmpty_map]⟩)
         | _ => cases e)
def tyName : Ty → String
  | .int => "int" | .bool => "bool" | .str => "str" | .tuple => "tuple" | .list => "list" | .dict => "dict"
theorem isT_val {t : T} {v : V} {ty : Ty} {k : Bool} (e : isT η ty t = some k) (r : ValR G H η t v) : ∃ u, TyX G.K H v u ∧ PySem.W.kitOne G.K u (.type (tyName ty)) = some k := by
  cases r with
  | non => exact ⟨_, .base .non, by cases ty <;> (cases e; exact kit_ty (by decide +kernel))⟩
  | bl b => exact ⟨_, .base (.bl b), by cases ty <;> (cases e; exact kit_ty (by decide +kernel))⟩
  | int i => exact ⟨_, .base (.int i), by cases ty <;> (cases e; exact kit_ty (by decide +kernel))⟩
  | str s l => exact ⟨_, .base (.str s), by cases ty <;> (cases e; exact kit_ty (by decide +kernel))⟩
  | ref a => cases ty <;> cases e
  | tup h rs =>
    refine ⟨.type "tuple", ?_, by cases ty <;> (cases e; exact kit_ty (by decide +kernel))⟩
    rcases h with ⟨⟨o, h, _⟩, _⟩ | ⟨o, its, n, hk, hc, _⟩
    · exact .fTuple h
    · exact .kTuple hk hc
  | cl h rs =>
    refine ⟨.type "list", ?_, by cases ty <;> (cases e; exact kit_ty (by decide +kernel))⟩
    rcases h with ⟨h | ⟨o, h⟩, _⟩ | ⟨o, its, n, hk, hc, _⟩
    · exact .base (.lst h)
    · exact .base (.frz h)
    · exact .kList hk hc
  | dct h n kr rs => exact ⟨.type "dict", .base (.dK h), by cases ty <;> (cases e; exact kit_ty (by decide +kernel))⟩

/-- a list or tuple that is read, and where it stands in the store -/
structure SeqR (G : Glob) (H : Hp) (η : Sto) (ts : List T) (src : Option Addr) (v : V) : Prop where
  ex : ∃ a vs, v = .ref a ∧ ValsR G H η ts vs ∧ ((src = none ∧ StL G H η a vs) ∨ (src = none ∧ StT G H η a vs) ∨ (src = some a ∧ H a = some (.lst vs) ∧ TL.get η a = some (.lst ts)))
theorem SeqR.sq {ts : List T} {src : Option Addr} {v : V} (h : SeqR G H η ts src v) : ∃ a vs, v = .ref a ∧ ValsR G H η ts vs ∧ (SqL G.K H a vs ∨ SqT G.K H a vs) := by
  obtain ⟨a, vs, e, r, h | h | h⟩ := h.ex
  · exact ⟨a, vs, e, r, .inl h.2.sq⟩
  · exact ⟨a, vs, e, r, .inr h.2.sq⟩
  · exact ⟨a, vs, e, r, .inl (SqL.of h.2.1)⟩
theorem seqR_of {t : T} {v : V} {xs : List T} (S : StoR G H η) (e : seqOf η t = some xs) (r : ValR G H η t v) : SeqR G H η xs (srcOf t) v := by
  cases r <;> first
    | (rename_i a vs ts h rs
       cases e
       first
         | exact ⟨_, _, rfl, rs, .inr (.inl ⟨rfl, h⟩)⟩
         | exact ⟨_, _, rfl, rs, .inl ⟨rfl, h⟩⟩)
    | (rename_i a
       unfold seqOf at e
       simp only at e
       cases g : get η a with
       | none => rw [g] at e; cases e
       | some o =>
         rw [g] at e
         cases o with
         | lst ts =>
           cases e
           obtain ⟨vs, h, rs⟩ := S.ob a _ g
           exact ⟨a, vs, rfl, rs, .inr (.inr ⟨rfl, h, g⟩)⟩
         | _ => cases e)
    | cases e
end
abbrev TI' := Env → Sto → KX → (List T → Option Addr → Sto → Prop) → Prop
def HV (G : Glob) (Q : VK) (H : Hp) (η : Sto) (K : List T → Option Addr → Sto → Prop) : Prop :=
  ∀ ts src v η' H', SeqR G H' η' ts src v → StoR G H' η' → Frm η H η' H' → K ts src η' → Q v H'
def liftV (G : Glob) (W : WX) (t : TI') : TE := fun σ H Q => ∃ ρ η X K, EnvR G H η σ ρ ∧ StoR G H η ∧ t ρ η X K ∧ HX G W σ H η X ∧ HV G Q H η K

/-! ### rules -/
section
variable {G : Glob} {W : WX} {X : Cx} {a b c : Expr} {ta tb tc : TE'} {pos : Pos} {es : List Expr} {n : Nat} {tl : TL'}
theorem q_tup {x1} (hn : n ≤ 1000) (h : PA X es (liftL G W n tl)) : PE X (.Tuple es x1 pos) (liftE G W fun ρ η X K => tl ρ η X fun ts η' => K (.tup ts) η') := (pe_tupF h).imp fun σ H Q ⟨ρ, η, X, K, hρ, hS, ht, hX, hQ⟩ =>
  liftN hρ hS ht hX fun ts vs η2 H2 l r S2 f2 k => ⟨by rw [← r.length, l, sizeLine_eq]; omega, (hQ.frm f2).newTup S2 r k⟩
theorem q_lst (hn : n ≤ 1000) (h : PA X es (liftL G W n tl)) : PE X (.List es pos) (liftE G W fun ρ η X K => tl ρ η X fun ts η' => ∀ p, get η' p = none → K (.ref p) ((p, .lst ts) :: η')) := (pe_lst h).imp fun σ H Q ⟨ρ, η, X, K, hρ, hS, ht, hX, hQ⟩ =>
  liftN hρ hS ht hX fun ts vs η2 H2 l r S2 f2 k => ⟨by rw [← r.length, l, sizeLine_eq]; omega, (hQ.frm f2).newLst S2 r k⟩
theorem q_lstV (hn : n ≤ 1000) (h : PA X es (liftL G W n tl)) : PE X (.List es pos) (liftE G W fun ρ η X K => tl ρ η X fun ts η' => K (.cl ts) η') := (pe_lst h).imp fun σ H Q ⟨ρ, η, X, K, hρ, hS, ht, hX, hQ⟩ =>
  liftN hρ hS ht hX fun ts vs η2 H2 l r S2 f2 k => ⟨by rw [← r.length, l, sizeLine_eq]; omega, (hQ.frm f2).newCl S2 r k⟩
theorem q_nil : PA X [] (liftL G W 0 fun _ η _ K => K [] η) := pa_nil.imp fun σ H Q ⟨ρ, η, X, K, hρ, hS, ht, hX, hQ⟩ => hQ [] [] η H rfl .nil hS .refl ht
theorem q_cons (ha : PE X a (liftE G W ta)) (h : PA X es (liftL G W n tl)) (hs : starEach (a :: es) X.env = (false, eval a X.env) :: starEach es X.env) :
    PA X (a :: es) (liftL G W (n + 1) fun ρ η X K => ta ρ η X fun t η1 => tl ρ η1 X fun ts η2 => K (t :: ts) η2) := (pa_cons ha h hs).imp fun σ H Q ⟨ρ, η, X, K, hρ, hS, ht, hX, hQ⟩ =>
  lift1 hρ hS ht hX fun u x η1 H1 rx S1 f1 k1 => liftN (hρ.frm f1) S1 k1 (hX.frm f1) fun ts vs η2 H2 l r S2 f2 k2 => hQ (u :: ts) (x :: vs) η2 H2 (congrArg (· + 1) l) (.cons (rx.frm f2) r) S2 (f1.trans f2) k2
theorem q_neg (ha : PE X a (liftE G W ta)) : PE X (.UnaryOp .USub a pos) (liftE G W fun ρ η X K => ta ρ η X fun u η1 => optF (negV u) fun t => K t η1) := (pe_un un_neg ha).imp fun σ H Q ⟨ρ, η, X, K, hρ, hS, ht, hX, hQ⟩ =>
  lift1 hρ hS ht hX fun u x η1 H1 rx S1 f1 k1 => by
    obtain ⟨t, e, q⟩ := optF_inv k1
    cases rx <;> cases e
    exact ⟨_, rfl, (hQ.frm f1).here S1 (.int _) q⟩
theorem q_not (ha : PE X a (liftE G W ta)) (hK : X.K = G.K) : PE X (.UnaryOp .Not a pos) (liftE G W fun ρ η X K => ta ρ η X fun u η1 => optF (tru η1 u) fun k => K (.bl (!k)) η1) := (pe_notT ha).imp fun σ H Q ⟨ρ, η, Y, K, hρ, hS, ht, hX, hQ⟩ =>
  lift1 hρ hS ht hX fun u x η1 H1 rx S1 f1 k1 => by
    obtain ⟨k, e, q⟩ := optF_inv k1
    exact ⟨k, by rw [hK]; exact tru_val S1 e rx, (hQ.frm f1).here S1 (.bl _) q⟩
theorem ifB_if {k : Bool} {A B : Prop} (h : ifB k A B) : if k = true then A else B := by cases k <;> simpa [ifB] using h
theorem ifB_split {k : Bool} {A B A' B' : Prop} (h : ifB k A B) (f : A → A') (g : B → B') : if k = true then A' else B' := by
  cases k with
  | true => rw [if_pos rfl]; exact f h
  | false => rw [if_neg Bool.false_ne_true]; exact g h
theorem q_and {rest : List Expr} (ha : PE X a (liftE G W ta)) (hb : PE X (.BoolOp .And (b :: rest) pos) (liftE G W tb)) (hK : X.K = G.K) :
    PE X (.BoolOp .And (a :: b :: rest) pos) (liftE G W fun ρ η X K => ta ρ η X fun u η1 => optF (tru η1 u) fun k => ifB k (tb ρ η1 X K) (K u η1)) := (pe_andT ha hb).imp fun σ H Q ⟨ρ, η, Y, K, hρ, hS, ht, hX, hQ⟩ =>
  lift1 hρ hS ht hX fun u x η1 H1 rx S1 f1 k1 => by
    obtain ⟨k, e, q⟩ := optF_inv k1
    exact ⟨k, by rw [hK]; exact tru_val S1 e rx, ifB_split q (fun q => ⟨ρ, η1, Y, K, hρ.frm f1, S1, q, hX.frm f1, hQ.frm f1⟩) fun q => (hQ.frm f1).here S1 rx q⟩
theorem q_or {rest : List Expr} (ha : PE X a (liftE G W ta)) (hb : PE X (.BoolOp .Or (b :: rest) pos) (liftE G W tb)) (hK : X.K = G.K) :
    PE X (.BoolOp .Or (a :: b :: rest) pos) (liftE G W fun ρ η X K => ta ρ η X fun u η1 => optF (tru η1 u) fun k => ifB k (K u η1) (tb ρ η1 X K)) := (pe_orT ha hb).imp fun σ H Q ⟨ρ, η, Y, K, hρ, hS, ht, hX, hQ⟩ =>
  lift1 hρ hS ht hX fun u x η1 H1 rx S1 f1 k1 => by
    obtain ⟨k, e, q⟩ := optF_inv k1
    exact ⟨k, by rw [hK]; exact tru_val S1 e rx, ifB_split q (fun q => (hQ.frm f1).here S1 rx q) fun q => ⟨ρ, η1, Y, K, hρ.frm f1, S1, q, hX.frm f1, hQ.frm f1⟩⟩
/-! tests -/
theorem c_val (ha : PE X a (liftE G W ta)) (hK : X.K = G.K) (he : ∀ whole, isTrue a X.env whole = (do let v ← whole; standAt a.pos; holding [v] (truthy v))) :
    PT X a (liftC G W fun ρ η X K => ta ρ η X fun u η1 => optF (tru η1 u) fun k => K k η1) := (pt_truth ha he).imp fun σ H Q ⟨ρ, η, Y, K, hρ, hS, ht, hX, hB⟩ =>
  lift1 hρ hS ht hX fun u x η1 H1 rx S1 f1 k1 => by
    obtain ⟨k, e, q⟩ := optF_inv k1
    exact ⟨k, by rw [hK]; exact tru_val S1 e rx, hB k η1 H1 S1 f1 q⟩
/-- a comparison as a test -/
theorem c_cmp {op : CmpOp} {r : R2} {g : T → T → Sto → Option Bool} {ok : T → T → Sto → Prop} (ho : OpR X (compareOp op) r) (s : Sim2 G r fun u w η K => ok u w η ∧ optF (g u w η) fun k => K (.bl k) η) (ha : PE X a (liftE G W ta)) (hb : PE X b (liftE G W tb)) (hm : behindInMarks op b = false) :
    PT X (.Compare a [op] [b] pos) (liftC G W fun ρ η X K => ta ρ η X fun u η1 => tb ρ η1 X fun w η2 => ok u w η2 ∧ optF (g u w η2) fun k => optF (tru η2 (.bl k)) fun k => K k η2) := (pt_cmpR ho ha hb hm).imp fun σ H Q ⟨ρ, η, Y, K, hρ, hS, ht, hX, hB⟩ =>
  lift2 hρ hS ht hX fun u w x y η2 H2 rx ry S2 f2 ⟨o1, kk⟩ => s u w x y η2 H2 _ (fun t η3 => ∃ k, t = .bl k ∧ η3 = η2 ∧ K k η2) rx ry S2 ⟨o1, by
    obtain ⟨k, e, q⟩ := optF_inv kk
    rw [e]
    exact ⟨k, rfl, rfl, q⟩⟩ fun t v η3 H3 rv S3 f3 ⟨k, et, eη, q⟩ => by
    subst et
    subst eη
    cases rv
    exact ⟨k, rfl, hB _ _ H3 S3 (f2.trans f3) q⟩
variable {cA cB : TC'} {rest : List Expr}
theorem c_not (ha : PT X a (liftC G W cA)) : PT X (.UnaryOp .Not a pos) (liftC G W fun ρ η X K => cA ρ η X fun k η1 => K (!k) η1) := (pt_not ha).imp fun σ H Q ⟨ρ, η, Y, K, hρ, hS, ht, hX, hB⟩ =>
  ⟨ρ, η, Y, _, hρ, hS, ht, hX, fun k η1 H1 S1 f1 q => hB _ η1 H1 S1 f1 q⟩
theorem c_and (ha : PT X a (liftC G W cA)) (hb : PW X (.BoolOp .And (b :: rest) pos) (liftC G W cB)) : PW X (.BoolOp .And (a :: b :: rest) pos) (liftC G W fun ρ η X K => cA ρ η X fun k η1 => ifB k (cB ρ η1 X K) (K false η1)) := (pw_and ha hb).imp fun σ H Q ⟨ρ, η, Y, K, hρ, hS, ht, hX, hB⟩ =>
  ⟨ρ, η, Y, _, hρ, hS, ht, hX, fun k η1 H1 S1 f1 q => ifB_split q (fun q => ⟨ρ, η1, Y, K, hρ.frm f1, S1, q, hX.frm f1, hB.frm f1⟩) fun q => hB _ η1 H1 S1 f1 q⟩
theorem c_or (ha : PT X a (liftC G W cA)) (hb : PW X (.BoolOp .Or (b :: rest) pos) (liftC G W cB)) : PW X (.BoolOp .Or (a :: b :: rest) pos) (liftC G W fun ρ η X K => cA ρ η X fun k η1 => ifB k (K true η1) (cB ρ η1 X K)) := (pw_or ha hb).imp fun σ H Q ⟨ρ, η, Y, K, hρ, hS, ht, hX, hB⟩ =>
  ⟨ρ, η, Y, _, hρ, hS, ht, hX, fun k η1 H1 S1 f1 q => ifB_split q (fun q => hB _ η1 H1 S1 f1 q) fun q => ⟨ρ, η1, Y, K, hρ.frm f1, S1, q, hX.frm f1, hB.frm f1⟩⟩
theorem q_ite (hc : PT X c (liftC G W cA)) (ha : PE X a (liftE G W ta)) (hb : PE X b (liftE G W tb)) : PE X (.IfExp c a b pos) (liftE G W fun ρ η X K => cA ρ η X fun k η1 => ifB k (ta ρ η1 X K) (tb ρ η1 X K)) := (pe_ifExp hc ha hb).imp fun σ H Q ⟨ρ, η, Y, K, hρ, hS, ht, hX, hQ⟩ =>
  ⟨ρ, η, Y, _, hρ, hS, ht, hX, fun k η1 H1 S1 f1 q => ifB_split q (fun q => ⟨ρ, η1, Y, K, hρ.frm f1, S1, q, hX.frm f1, hQ.frm f1⟩) fun q => ⟨ρ, η1, Y, K, hρ.frm f1, S1, q, hX.frm f1, hQ.frm f1⟩⟩
/-- a < b < c -/
theorem chain_imp {r r' : R2} {g g' : T → T → Sto → Option Bool} {ok ok' : T → T → Sto → Prop} (s : Sim2 G r fun u w η K => ok u w η ∧ optF (g u w η) fun k => K (.bl k) η) (s' : Sim2 G r' fun u w η K => ok' u w η ∧ optF (g' u w η) fun k => K (.bl k) η)
    {σ : L2.St} {H : Hp} {Q : VK} {ρ : Env} {η : Sto} {Y : KX} {K : KE} (hρ : EnvR G H η σ ρ) (hS : StoR G H η)
    (ht : ta ρ η Y fun u η1 => tb ρ η1 Y fun w η2 => ok u w η2 ∧ optF (g u w η2) fun k => ifB k (tc ρ η2 Y fun z η3 => ok' w z η3 ∧ optF (g' w z η3) fun k2 => K (.bl k2) η3) (K (.bl false) η2)) (hX : HX G W σ H η Y) (hQ : HQ G Q H η K) :
    tChain r r' (liftE G W ta) (liftE G W tb) (liftE G W tc) σ H Q :=
  lift2 hρ hS ht hX fun u w x y η2 H2 rx ry S2 f2 ⟨o1, kk⟩ => s u w x y η2 H2 _ (fun t η3 => ∃ k, t = .bl k ∧ η3 = η2 ∧ ifB k (tc ρ η2 Y fun z η3 => ok' w z η3 ∧ optF (g' w z η3) fun k2 => K (.bl k2) η3) (K (.bl false) η2)) rx ry S2 ⟨o1, by
      obtain ⟨k, e, q⟩ := optF_inv kk
      rw [e]
      exact ⟨k, rfl, rfl, q⟩⟩ fun t v η3 H3 rv S3 f3 ⟨k, et, eη, q⟩ => by
      subst et
      subst eη
      cases rv
      refine ⟨k, rfl, ifB_split q (fun q => ?_) fun q => (hQ.frm (f2.trans f3)).here S3 (.bl _) q⟩
      exact lift1 (hρ.frm (f2.trans f3)) S3 q (hX.frm (f2.trans f3)) fun z zv η4 H4 rz S4 f4 k4 => s' w z y zv η4 H4 Q K ((ry.frm f3).frm f4) rz S4 k4 (hQ.frm ((f2.trans f3).trans f4))
theorem q_chain {op op' : CmpOp} {r r' : R2} {g g' : T → T → Sto → Option Bool} {ok ok' : T → T → Sto → Prop} (ho : OpR X (compareOp op) r) (ho' : OpR X (compareOp op') r') (s : Sim2 G r fun u w η K => ok u w η ∧ optF (g u w η) fun k => K (.bl k) η) (s' : Sim2 G r' fun u w η K => ok' u w η ∧ optF (g' u w η) fun k => K (.bl k) η)
    (ha : PE X a (liftE G W ta)) (hb : PE X b (liftE G W tb)) (hc : PE X c (liftE G W tc)) (hm : lastMarks [op, op'] [b, c] = false) :
    PE X (.Compare a [op, op'] [b, c] pos) (liftE G W fun ρ η X K => ta ρ η X fun u η1 => tb ρ η1 X fun w η2 => ok u w η2 ∧ optF (g u w η2) fun k => ifB k (tc ρ η2 X fun z η3 => ok' w z η3 ∧ optF (g' w z η3) fun k2 => K (.bl k2) η3) (K (.bl false) η2)) :=
  (pe_chain ho ho' ha hb hc hm).imp fun σ H Q ⟨ρ, η, Y, K, hρ, hS, ht, hX, hQ⟩ => chain_imp s s' hρ hS ht hX hQ
theorem c_chain {op op' : CmpOp} {r r' : R2} {g g' : T → T → Sto → Option Bool} {ok ok' : T → T → Sto → Prop} (ho : OpR X (compareOp op) r) (ho' : OpR X (compareOp op') r') (s : Sim2 G r fun u w η K => ok u w η ∧ optF (g u w η) fun k => K (.bl k) η) (s' : Sim2 G r' fun u w η K => ok' u w η ∧ optF (g' u w η) fun k => K (.bl k) η)
    (ha : PE X a (liftE G W ta)) (hb : PE X b (liftE G W tb)) (hc : PE X c (liftE G W tc)) (hm : lastMarks [op, op'] [b, c] = false) :
    PT X (.Compare a [op, op'] [b, c] pos) (liftC G W fun ρ η X K => ta ρ η X fun u η1 => tb ρ η1 X fun w η2 => ok u w η2 ∧ optF (g u w η2) fun k => ifB k (tc ρ η2 X fun z η3 => ok' w z η3 ∧ optF (g' w z η3) fun k2 => optF (tru η3 (.bl k2)) fun k3 => K k3 η3) (optF (tru η2 (.bl false)) fun k3 => K k3 η2)) :=
  (pt_chain ho ho' ha hb hc hm).imp fun σ H Q ⟨ρ, η, Y, K, hρ, hS, ht, hX, hB⟩ =>
    chain_imp (Q := fun x H' => ∃ k, x = .bl k ∧ Q k H') (K := fun t η' => ∃ k, t = .bl k ∧ K k η') s s' hρ hS (by
      have e : (fun u η1 => tb ρ η1 Y fun w η2 => ok u w η2 ∧ optF (g u w η2) fun k => ifB k (tc ρ η2 Y fun z η3 => ok' w z η3 ∧ optF (g' w z η3) fun k2 => optF (tru η3 (.bl k2)) fun k3 => K k3 η3) (optF (tru η2 (.bl false)) fun k3 => K k3 η2)) =
        (fun u η1 => tb ρ η1 Y fun w η2 => ok u w η2 ∧ optF (g u w η2) fun k => ifB k (tc ρ η2 Y fun z η3 => ok' w z η3 ∧ optF (g' w z η3) fun k2 => (∃ k, T.bl k2 = .bl k ∧ K k η3)) (∃ k, T.bl false = .bl k ∧ K k η2)) := by
        have h : ∀ (b : Bool) (η : Sto), (optF (tru η (.bl b)) fun k3 => K k3 η) = (∃ k, T.bl b = .bl k ∧ K k η) := fun b η => by
          show K b η = _
          simp
        simp only [h]
      dsimp only at ht
      rw [e] at ht
      exact ht) hX fun t v η' H' r S f ⟨k, et, q⟩ => by
        subst et
        cases r
        exact ⟨k, rfl, hB _ _ _ S f q⟩
end
end TL

/-! subscripts, slices, calls, built-ins -/
namespace TL
open PySem PySem.Spec PyProof.Rows L2
section
variable {G : Glob} {H : Hp} {η : Sto}
theorem ValsR.at {ts : List T} {vs : List V} {k : Int} {t : T} (r : ValsR G H η ts vs) (e : atI ts k = some t) : ∃ v, atI vs k = some v ∧ ValR G H η t v := by
  unfold atI at e ⊢
  rw [← r.length]
  cases g : ixN ts.length k with
  | none => rw [g] at e; cases e
  | some j => rw [g] at e; exact r.get e
theorem ValsR.cut {ts : List T} {vs : List V} {lo hi : Option Int} (r : ValsR G H η ts vs) : ValsR G H η (cutT ts lo hi) (cutV vs lo hi) := by
  unfold cutT cutV
  rw [← r.length]
  exact (r.drop _).take _
def rIxLT (K : PySem.W.Frag) : R2 := fun x y H Q => rIxL K x y H Q ∨ rIxT K x y H Q
theorem ix_lt {X : Cx} : IxR X (rIxLT X.K) := ix_list.or ix_tup
theorem sim_idx : Sim2 G (rIxLT G.K) fun u w η K => optF (idxV η u w) fun t => K t η := by
  intro u w x y η H Q K rx ry S h hQ
  obtain ⟨t, e, q⟩ := optF_inv h
  unfold idxV at e
  cases hs : seqOf η u with
  | none => rw [hs] at e; cases e
  | some xs =>
    rw [hs] at e
    cases w with
    | int k =>
      obtain ⟨a, vs, rfl, hq, rs⟩ := seq_val S hs rx
      cases ry
      obtain ⟨v, e2, rv⟩ := rs.at e
      rcases hq with hq | hq
      · exact .inl ⟨a, vs, k, v, rfl, rfl, hq, e2, hQ.here S rv q⟩
      · exact .inr ⟨a, vs, k, v, rfl, rfl, hq, e2, hQ.here S rv q⟩
    | _ => cases e
/-- a list, no tuple -/
theorem seq_list {t : T} {v : V} {xs : List T} (S : StoR G H η) (n : ∀ ys, t ≠ .tup ys) (e : seqOf η t = some xs) (r : ValR G H η t v) : ∃ a vs, v = .ref a ∧ SqL G.K H a vs ∧ ValsR G H η xs vs := by
  cases r with
  | tup h rs => exact absurd rfl (n _)
  | cl h rs => cases e; exact ⟨_, _, rfl, h.sq, rs⟩
  | ref a =>
    unfold seqOf at e
    simp only at e
    cases g : get η a with
    | none => rw [g] at e; cases e
    | some o =>
      rw [g] at e
      cases o with
      | lst ts =>
        cases e
        obtain ⟨vs, h, rs⟩ := S.ob a _ g
        exact ⟨a, vs, rfl, SqL.of h, rs⟩
      | _ => cases e
  | _ => cases e
def rSlAll (K : PySem.W.Frag) : V → Option Int → Option Int → Hp → VK → Prop := fun x i j H Q => rSlF K x i j H Q ∨ rSlL K x i j H Q
theorem sl_all {X : Cx} : SlR X (rSlAll X.K) := sl_tupF.or sl_list
theorem cut_whole {xs : List T} {i j : Option Int} (h : HT.sIx xs.length 0 i = 0 ∧ HT.sIx xs.length xs.length j = xs.length) : cutT xs i j = xs := by
  unfold cutT
  rw [h.1, h.2, List.drop_zero, Nat.sub_zero, List.take_length]
theorem sim_slc {u : T} {x : V} {i j : Option Int} {Q : VK} {K : KE} (rx : ValR G H η u x) (S : StoR G H η) (h : optF (slcV u i j η) fun t => K t η) (hQ : HQ G Q H η K) : rSlAll G.K x i j H Q := by
  obtain ⟨t, e, q⟩ := optF_inv h
  by_cases hu : ∃ xs, u = .tup xs
  · obtain ⟨xs, rfl⟩ := hu
    cases e
    cases rx with
    | @tup a vs _ hq rs =>
      refine .inl ⟨a, vs, rfl, hq.sq, fun hw => ?_, fun _ => hQ.newTup S rs.cut q⟩
      rw [← rs.length] at hw
      rw [cut_whole hw] at q
      exact hQ.here S (.tup hq rs) q
  · have e2 : ∃ xs, seqOf η u = some xs ∧ t = .cl (cutT xs i j) := by
      cases u <;> first
        | exact absurd ⟨_, rfl⟩ hu
        | (unfold slcV at e
           simp only [Option.map_eq_some_iff] at e
           obtain ⟨xs, e1, e2⟩ := e
           exact ⟨xs, e1, e2.symm⟩)
    obtain ⟨xs, e1, rfl⟩ := e2
    obtain ⟨a, vs, rfl, hL, rs⟩ := seq_list S (fun ys z => hu ⟨ys, z⟩) e1 rx
    exact .inr ⟨a, vs, rfl, hL, hQ.newCl S rs.cut q⟩
theorem sim_slcM {u : T} {x : V} {i j : Option Int} {Q : VK} {K : KE} (rx : ValR G H η u x) (S : StoR G H η) (h : optF (slcMV u i j η) fun ts => ∀ p, get η p = none → K (.ref p) ((p, .lst ts) :: η)) (hQ : HQ G Q H η K) : rSlAll G.K x i j H Q := by
  obtain ⟨ts, e, q⟩ := optF_inv h
  have hu : ∀ xs, u ≠ .tup xs := fun xs z => by subst z; cases e
  have e2 : ∃ xs, seqOf η u = some xs ∧ ts = cutT xs i j := by
    cases u <;> first
      | exact absurd rfl (hu _)
      | (unfold slcMV at e
         simp only [Option.map_eq_some_iff] at e
         obtain ⟨xs, e1, e2⟩ := e
         exact ⟨xs, e1, e2.symm⟩)
  obtain ⟨xs, e1, rfl⟩ := e2
  obtain ⟨a, vs, rfl, hL, rs⟩ := seq_list S hu e1 rx
  exact .inr ⟨a, vs, rfl, hL, hQ.newLst S rs.cut q⟩
end
/-! a slice's parts -/
abbrev TO' := Env → Sto → KX → (Option Int → Sto → Prop) → Prop
def HO' (G : Glob) (Q : Option Int → Hp → Prop) (H : Hp) (η : Sto) (K : Option Int → Sto → Prop) : Prop := ∀ b η' H', StoR G H' η' → Frm η H η' H' → K b η' → Q b H'
theorem HO'.frm {G : Glob} {H H1 : Hp} {η η1 : Sto} {Q : Option Int → Hp → Prop} {K : Option Int → Sto → Prop} (f : Frm η H η1 H1) (h : HO' G Q H η K) : HO' G Q H1 η1 K := fun t η' H' b c q => h t η' H' b (f.trans c) q
def liftO (G : Glob) (W : WX) (t : TO') : L2.TO := fun σ H Q => ∃ ρ η X K, EnvR G H η σ ρ ∧ StoR G H η ∧ t ρ η X K ∧ HX G W σ H η X ∧ HO' G Q H η K
theorem _root_.L2.PO.imp {X : Cx} {e : Option Expr} {t u : L2.TO} (h : PO X e t) (i : ∀ σ H Q, u σ H Q → t σ H Q) : PO X e u := ⟨fun pins s σ H Q I q => h.run pins s σ H Q I (i σ H Q q)⟩
section
variable {G : Glob} {W : WX} {X : Cx} {a b c : Expr} {ta tb tc : TE'} {pos : Pos} {es : List Expr} {n : Nat} {tl : TL'} {tO tO2 : TO'} {lo hi : Option Expr} {p2 : Pos}
theorem o_none : PO X none (liftO G W fun _ η _ K => K none η) := po_none.imp fun σ H Q ⟨ρ, η, Y, K, hρ, hS, ht, hX, hQ⟩ => hQ none η H hS .refl ht
theorem o_some (ha : PE X a (liftE G W ta)) : PO X (some a) (liftO G W fun ρ η X K => ta ρ η X fun u η1 => optF (intV u) fun i => K (some i) η1) := (po_some ha).imp fun σ H Q ⟨ρ, η, Y, K, hρ, hS, ht, hX, hQ⟩ =>
  lift1 hρ hS ht hX fun u x η1 H1 rx S1 f1 k1 => by
    obtain ⟨t, e, q⟩ := optF_inv k1
    cases rx <;> cases e
    exact ⟨_, rfl, hQ _ η1 H1 S1 f1 q⟩
theorem q_idx (ha : PE X a (liftE G W ta)) (hb : PE X b (liftE G W tb)) (hK : X.K = G.K) (hs : PlainIx b) : PE X (.Subscript a b pos) (liftE G W fun ρ η X K => ta ρ η X fun u η1 => tb ρ η1 X fun w η2 => optF (idxV η2 u w) fun t => K t η2) := by
  have h : IxR X (rIxLT G.K) := by rw [← hK]; exact ix_lt
  exact (pe_ix h ha hb hs).imp fun _ _ _ h => op2 (f := fun u w η K => optF (idxV η u w) fun t => K t η) sim_idx h
theorem q_slc (ha : PE X a (liftE G W ta)) (hl : PO X lo (liftO G W tO)) (hh : PO X hi (liftO G W tO2)) (hK : X.K = G.K) :
    PE X (.Subscript a (.Slice lo hi none p2) pos) (liftE G W fun ρ η X K => ta ρ η X fun u η1 => tO ρ η1 X fun i η2 => tO2 ρ η2 X fun j η3 => optF (slcV u i j η3) fun t => K t η3) := by
  have h : SlR X (rSlAll G.K) := by rw [← hK]; exact sl_all
  exact (pe_slice h ha hl hh).imp fun σ H Q ⟨ρ, η, Y, K, hρ, hS, ht, hX, hQ⟩ => lift1 hρ hS ht hX fun u x η1 H1 rx S1 f1 k1 =>
    ⟨ρ, η1, Y, _, hρ.frm f1, S1, k1, hX.frm f1, fun i η2 H2 S2 f2 k2 => ⟨ρ, η2, Y, _, (hρ.frm f1).frm f2, S2, k2, (hX.frm f1).frm f2, fun j η3 H3 S3 f3 k3 => sim_slc ((rx.frm f2).frm f3) S3 k3 (((hQ.frm f1).frm f2).frm f3)⟩⟩
theorem q_slcM (ha : PE X a (liftE G W ta)) (hl : PO X lo (liftO G W tO)) (hh : PO X hi (liftO G W tO2)) (hK : X.K = G.K) :
    PE X (.Subscript a (.Slice lo hi none p2) pos) (liftE G W fun ρ η X K => ta ρ η X fun u η1 => tO ρ η1 X fun i η2 => tO2 ρ η2 X fun j η3 => optF (slcMV u i j η3) fun ts => ∀ p, get η3 p = none → K (.ref p) ((p, .lst ts) :: η3)) := by
  have h : SlR X (rSlAll G.K) := by rw [← hK]; exact sl_all
  exact (pe_slice h ha hl hh).imp fun σ H Q ⟨ρ, η, Y, K, hρ, hS, ht, hX, hQ⟩ => lift1 hρ hS ht hX fun u x η1 H1 rx S1 f1 k1 =>
    ⟨ρ, η1, Y, _, hρ.frm f1, S1, k1, hX.frm f1, fun i η2 H2 S2 f2 k2 => ⟨ρ, η2, Y, _, (hρ.frm f1).frm f2, S2, k2, (hX.frm f1).frm f2, fun j η3 H3 S3 f3 k3 => sim_slcM ((rx.frm f2).frm f3) S3 k3 (((hQ.frm f1).frm f2).frm f3)⟩⟩
/-! names -/
theorem q_var {i : Nat} {x : Str} {p : Pos} (hN : X.N[i]? = some x) (hv : Vis X.env.scope x) (hd : (x == ("__debug__" : Str)) = false) (hcd : (x == ("__classdict__" : Str)) = false) : PE X (.Name x p) (liftE G W fun ρ η _ K => optF (nth ρ.v i) fun t => K t η) :=
  (pe_var hN hv hd hcd).imp fun σ H Q ⟨ρ, η, Y, K, hρ, hS, ht, hX, hQ⟩ => by
    obtain ⟨t, e, q⟩ := optF_inv ht
    obtain ⟨v, e2, r⟩ := hρ.val i t e
    exact ⟨v, e2, hQ.here hS r q⟩
theorem q_non {j} : PE X (.Constant .none j pos) (liftE G W fun _ η _ K => K .non η) := pe_non.imp fun σ H Q ⟨ρ, η, Y, K, hρ, hS, ht, hX, hQ⟩ => hQ.here hS .non ht
theorem q_bl {v j} : PE X (.Constant (.bool v) j pos) (liftE G W fun _ η _ K => K (.bl v) η) := pe_bl.imp fun σ H Q ⟨ρ, η, Y, K, hρ, hS, ht, hX, hQ⟩ => hQ.here hS (.bl _) ht
theorem q_int {v j} : PE X (.Constant (.int v) j pos) (liftE G W fun _ η _ K => K (.int v) η) := pe_int.imp fun σ H Q ⟨ρ, η, Y, K, hρ, hS, ht, hX, hQ⟩ => hQ.here hS (.int _) ht
theorem q_str {v : Str} {j} (h : v.length ≤ sizeLine) : PE X (.Constant (.str v) j pos) (liftE G W fun _ η _ K => K (.str v) η) := pe_str.imp fun σ H Q ⟨ρ, η, Y, K, hρ, hS, ht, hX, hQ⟩ => hQ.here hS (.str _ h) ht
/-- a constant of the module -/
def KValR (G : Glob) (t : T) (v : V) : Prop := ∀ H η, ValR G H η t v
theorem q_glob {x : Str} {t : T} {v : V} {u : Value} {p : Pos} (hg : Gl X x) (hm : X.mg x = some u) (r : RelV v u) (k : KValR G t v) (hd : (x == ("__debug__" : Str)) = false) : PE X (.Name x p) (liftE G W fun _ η _ K => K t η) :=
  (pe_glob hg hm r hd).imp fun σ H Q ⟨ρ, η, Y, K, hρ, hS, ht, hX, hQ⟩ => hQ.here hS (k H η) ht
/-! isinstance -/
theorem q_isinst {ty : Ty} {p p1 : Pos} (hg : Gl X "isinstance") (hm : X.mg "isinstance" = none) (hg2 : Gl X (Str.ofString (tyName ty))) (hm2 : X.mg (Str.ofString (tyName ty)) = none) (ha : PE X a (liftE G W ta)) (hK : X.K = G.K)
    (hs : starEach (a :: [.Name (Str.ofString (tyName ty)) p1]) X.env = (false, eval a X.env) :: starEach [.Name (Str.ofString (tyName ty)) p1] X.env) :
    PE X (.Call (.Name "isinstance" p) [a, .Name (Str.ofString (tyName ty)) p1] [] pos) (liftE G W fun ρ η X K => ta ρ η X fun u η1 => optF (isT η1 ty u) fun b => K (.bl b) η1) := by
  have hn : PE X (.Name (Str.ofString (tyName ty)) p1) (tC (.ty (tyName ty))) := by
    cases ty <;> exact pe_bltn hg2 hm2 (by decide +kernel) rfl (by decide) (by decide)
  refine (pe_callB call_isi hg hm (by decide +kernel) (pa_cons ha (pa_cons hn pa_nil (by cases ty <;> rfl)) hs) (by decide) (by decide) hs (by cases ty <;> rfl)).imp fun σ H Q ⟨ρ, η, Y, K, hρ, hS, ht, hX, hQ⟩ => ?_
  refine lift1 hρ hS ht hX fun u x η1 H1 rx S1 f1 k1 => ?_
  obtain ⟨b, e, q⟩ := optF_inv k1
  obtain ⟨t, h1, h2⟩ := isT_val e rx
  exact ⟨x, .ty (tyName ty), t, .type (tyName ty), b, rfl, .ty _, by rw [hK]; exact h1, by rw [hK]; exact h2, (hQ.frm f1).here S1 (.bl _) q⟩
end
end TL

/-! calls of the program's own defs; built-ins; lists by value -/
namespace TL
open PySem PySem.Spec PyProof.Rows L2
/-- what a def promises -/
def prom (G : Glob) (np : Nat) (Φ : List T → Sto → KX → KE → Prop) : Sp := fun vs H Q E => ∃ ts η X K, ts.length = np ∧ ValsR G H η ts vs ∧ StoR G H η ∧ Φ ts η X K ∧
  (∀ e η' cls d H', ExR G H' η' e cls d → StoR G H' η' → Frm η H η' H' → X e η' → E cls d H') ∧ HQ G Q H η K
theorem prom_len {G : Glob} {np : Nat} {Φ : List T → Sto → KX → KE → Prop} {vs : List V} {H : Hp} {Q : VK} {E : XK} (h : prom G np Φ vs H Q E) : vs.length = np := by
  obtain ⟨ts, η, X, K, l, r, _⟩ := h
  rw [← r.length, l]
/-- a def of the program stands where it should, and keeps the promise of its level -/
structure FnK (G : Glob) (n : Nat) (Φ : List T → Sto → KX → KE → Prop) (nm : Str) (ps : List Str) (f : Addr) (fd : FuncData) : Prop where
  ok : ∀ Z, FnOk G.P G.w G.K G.mg G.base (L2.CX G.P G.w) n f fd ps (prom { G with Z := Z } ps.length Φ)
  mg : G.mg nm = some (.ref f)
  kp : PySem.W.keepIn G.K (.ref f) = true
  bd : Binds G.K fd ps []
/-- the context is the law's -/
structure XG (G : Glob) (n : Nat) (W : WX) (X : Cx) : Prop where
  P : X.prog = G.P
  w : X.w = G.w
  K : X.K = G.K
  mg : X.mg = G.mg
  base : X.base = G.base
  calm : X.calm = true
  room : Room n X.A
  tk : Takes X W
section
variable {G : Glob} {W : WX} {X : Cx} {a b c : Expr} {ta tb tc : TE'} {pos : Pos} {es : List Expr} {n m : Nat} {tl tl2 : TL'}
theorem q_call {Φ : List T → Sto → KX → KE → Prop} {nm : Str} {ps : List Str} {f : Addr} {fd : FuncData} {p : Pos} (o : XG G n W X) (F : FnK G m Φ nm ps f fd) (hmn : m ≤ n) (hg : Gl X nm) (ha : PA X (a :: es) (liftL G W ps.length tl)) (hdb : (nm == ("__debug__" : Str)) = false)
    (he : starEach (a :: es) X.env = (false, eval a X.env) :: starEach es X.env) (hpl : (backTo pos (starEach es X.env)).any (·.1) = false) :
    PE X (.Call (.Name nm p) (a :: es) [] pos) (liftE G W fun ρ η X K => tl ρ η X fun ts η' => Φ ts η' X K) := by
  have F1 : FnOk X.prog X.w X.K X.mg X.base (L2.CX X.prog X.w) m f fd ps (prom G ps.length Φ) := by rw [o.P, o.w, o.K, o.mg, o.base]; exact F.ok G.Z
  refine (pe_callSD (E := fun σ => WE W σ) (dvs := []) (ds := []) F1 (o.room.mono hmn) hg (by rw [o.mg]; exact F.mg) (by rw [o.K]; exact F.kp) (by rw [o.K]; exact F.bd) .nil (fun σ => passAt o.tk σ) ha hdb he hpl).imp fun σ H Q ⟨ρ, η, Y, K, hρ, hS, ht, hX, hQ⟩ => ?_
  refine liftN hρ hS ht hX fun ts vs η2 H2 l r S2 f2 k => ?_
  rw [List.append_nil]
  exact ⟨ts, η2, Y, K, l, r, S2, k, fun e η' cls d H' a b c q => hX.frm f2 e η' cls d H' a b c q, hQ.frm f2⟩
/-- a list that is read -/
theorem lst_val {H : Hp} {η : Sto} {t : T} {v : V} {xs : List T} (S : StoR G H η) (e : lstOf η t = some xs) (r : ValR G H η t v) : ∃ a vs, v = .ref a ∧ SqL G.K H a vs ∧ ValsR G H η xs vs := by
  cases r with
  | cl h rs => cases e; exact ⟨_, _, rfl, h.sq, rs⟩
  | ref a =>
    unfold lstOf at e
    simp only at e
    cases g : get η a with
    | none => rw [g] at e; cases e
    | some o =>
      rw [g] at e
      cases o with
      | lst ts =>
        cases e
        obtain ⟨vs, h, rs⟩ := S.ob a _ g
        exact ⟨a, vs, rfl, SqL.of h, rs⟩
      | _ => cases e
  | _ => cases e
/-! list + list -/
def rCatQ (K : PySem.W.Frag) : R2 := fun x y H Q => ∃ l b xs zs, x = .ref l ∧ y = .ref b ∧ SqL K H l xs ∧ SqL K H b zs ∧ xs.length + zs.length ≤ sizeLine ∧ ∀ p, H p = none → Q (.ref p) (upd H p (.lst (xs ++ zs)))
theorem op_catQ : OpR X (binaryOp .Add) (rCatQ X.K) := by
  intro pins s σ H x y v u Q I rx ry h
  obtain ⟨l, b, xs, zs, rfl, rfl, hl, hb, hz, q⟩ := h
  cases rx
  cases ry
  obtain ⟨its, r, p1, _⟩ := I.list hl
  obtain ⟨its2, r2, p2, _⟩ := I.list hb
  obtain ⟨⟨cls, dd, data, sl⟩, n, ho, hc, _, hd⟩ := p1
  obtain ⟨⟨cls2, dd2, data2, sl2⟩, n2, ho2, hc2, _, hd2⟩ := p2
  simp only at hc hd hc2 hd2
  subst hc hd hc2 hd2
  have l1 := r.length
  have l2 := r2.length
  have hsz : its.toArray.size + its2.toArray.size ≤ sizeLine := by simp; omega
  refine concat_meets ⟨_, ho, rfl⟩ ⟨_, ho2, rfl⟩ noFill_list_add seq_list_add PySem.F.slot_list_add PySem.F.entry_list_add (PySem.F.args_list_add_2 _ _) (list_addW l b its.toArray its2.toArray n n2 dd dd2 sl sl2 hsz) ⟨ho, ho2, ?_⟩
  have ea : its.toArray ++ its2.toArray = (its ++ its2).toArray := by simp
  rw [ea]
  exact ⟨.ref _, _, I.lnew (t' := s.toks) (r.append r2) (by rw [List.length_append]; omega), rfl, q _ I.fresh⟩
/-! all, any, sum, tuple, list -/
theorem blsOf_V {H : Hp} {η : Sto} : ∀ {ts : List T} {vs : List V} {bs : List Bool}, blsOf ts = some bs → ValsR G H η ts vs → vs = bs.map V.bl
  | [], _, _, e, r => by cases r; cases e; rfl
  | t :: ts, _, bs, e, r => by
    cases r with
    | cons h r =>
      cases t <;> first
        | (unfold blsOf at e
           simp only [Option.map_eq_some_iff] at e
           obtain ⟨bs', e1, rfl⟩ := e
           cases h
           rw [List.map_cons, blsOf_V e1 r])
        | cases e
theorem intsOf_V {H : Hp} {η : Sto} : ∀ {ts : List T} {vs : List V} {bs : List Int}, intsOf ts = some bs → ValsR G H η ts vs → vs = bs.map V.int
  | [], _, _, e, r => by cases r; cases e; rfl
  | t :: ts, _, bs, e, r => by
    cases r with
    | cons h r =>
      cases t <;> first
        | (unfold intsOf at e
           simp only [Option.map_eq_some_iff] at e
           obtain ⟨bs', e1, rfl⟩ := e
           cases h
           rw [List.map_cons, intsOf_V e1 r])
        | cases e
def aggName : Agg → Str
  | .all => "all" | .any => "any" | .sum => "sum" | .tuple => "tuple" | .list => "list" | .listM => "list" | .max => "max" | .min => "min"
theorem one_star (X : Cx) (h : starEach [a] X.env = (false, eval a X.env) :: starEach [] X.env) {r : List V → Hp → VK → Prop} {id : String} {x : Str} {p : Pos} {t : TE} (hc : CallR X (.builtin id) r) (hg : Gl X x) (hm : X.mg x = none) (hv : bootBuiltins x = some (.builtin id)) (ha : PE X a t)
    (hn : x ≠ "__name__") (hdb : (x == ("__debug__" : Str)) = false) : PE X (.Call (.Name x p) [a] [] pos) (tCB r (tCons t tNil)) :=
  pe_callB hc hg hm hv (pa_cons ha pa_nil h) hn hdb h (by rfl)
theorem q_all {p : Pos} (o : XG G n W X) (hg : Gl X "all") (hm : X.mg "all" = none) (ha : PE X a (liftE G W ta)) (hs : starEach [a] X.env = (false, eval a X.env) :: starEach [] X.env) :
    PE X (.Call (.Name "all" p) [a] [] pos) (liftE G W fun ρ η X K => ta ρ η X fun u η1 => optF (aggS .all η1 u) fun ts => aggF .all ts η1 K) :=
  (one_star X hs (cr_all o.calm) hg hm (by decide +kernel) ha (by decide) (by decide)).imp fun σ H Q ⟨ρ, η, Y, K, hρ, hS, ht, hX, hQ⟩ => lift1 hρ hS ht hX fun u x η2 H2 r S2 f2 k => by
    obtain ⟨ts, e0, k⟩ := optF_inv k
    obtain ⟨t, e, q⟩ := optF_inv (show optF (aggV .all ts) (fun t => K t η2) from k)
    obtain ⟨bs, e1, rfl⟩ := Option.map_eq_some_iff.mp e
    obtain ⟨a, vs, rfl, h1, rs⟩ := lst_val S2 (show lstOf η2 u = some ts from e0) r
    rw [blsOf_V e1 rs] at h1
    exact ⟨a, bs, rfl, by rw [o.K]; exact h1, (hQ.frm f2).here S2 (.bl _) q⟩
theorem q_any {p : Pos} (o : XG G n W X) (hg : Gl X "any") (hm : X.mg "any" = none) (ha : PE X a (liftE G W ta)) (hs : starEach [a] X.env = (false, eval a X.env) :: starEach [] X.env) :
    PE X (.Call (.Name "any" p) [a] [] pos) (liftE G W fun ρ η X K => ta ρ η X fun u η1 => optF (aggS .any η1 u) fun ts => aggF .any ts η1 K) :=
  (one_star X hs (cr_any o.calm) hg hm (by decide +kernel) ha (by decide) (by decide)).imp fun σ H Q ⟨ρ, η, Y, K, hρ, hS, ht, hX, hQ⟩ => lift1 hρ hS ht hX fun u x η2 H2 r S2 f2 k => by
    obtain ⟨ts, e0, k⟩ := optF_inv k
    obtain ⟨t, e, q⟩ := optF_inv (show optF (aggV .any ts) (fun t => K t η2) from k)
    obtain ⟨bs, e1, rfl⟩ := Option.map_eq_some_iff.mp e
    obtain ⟨a, vs, rfl, h1, rs⟩ := lst_val S2 (show lstOf η2 u = some ts from e0) r
    rw [blsOf_V e1 rs] at h1
    exact ⟨a, bs, rfl, by rw [o.K]; exact h1, (hQ.frm f2).here S2 (.bl _) q⟩
theorem q_sum {p : Pos} (o : XG G n W X) (hg : Gl X "sum") (hm : X.mg "sum" = none) (ha : PE X a (liftE G W ta)) (hs : starEach [a] X.env = (false, eval a X.env) :: starEach [] X.env) :
    PE X (.Call (.Name "sum" p) [a] [] pos) (liftE G W fun ρ η X K => ta ρ η X fun u η1 => optF (aggS .sum η1 u) fun ts => aggF .sum ts η1 K) :=
  (one_star X hs (cr_sum o.calm) hg hm (by decide +kernel) ha (by decide) (by decide)).imp fun σ H Q ⟨ρ, η, Y, K, hρ, hS, ht, hX, hQ⟩ => lift1 hρ hS ht hX fun u x η2 H2 r S2 f2 k => by
    obtain ⟨ts, e0, k⟩ := optF_inv k
    obtain ⟨t, e, q⟩ := optF_inv (show optF (aggV .sum ts) (fun t => K t η2) from k)
    obtain ⟨bs, e1, rfl⟩ := Option.map_eq_some_iff.mp e
    obtain ⟨a, vs, rfl, h1, rs⟩ := lst_val S2 (show lstOf η2 u = some ts from e0) r
    rw [intsOf_V e1 rs] at h1
    exact ⟨a, bs, rfl, by rw [o.K]; exact h1, (hQ.frm f2).here S2 (.int _) q⟩
theorem q_tuple {p : Pos} (o : XG G n W X) (hg : Gl X "tuple") (hm : X.mg "tuple" = none) (ha : PE X a (liftE G W ta)) (hs : starEach [a] X.env = (false, eval a X.env) :: starEach [] X.env) :
    PE X (.Call (.Name "tuple" p) [a] [] pos) (liftE G W fun ρ η X K => ta ρ η X fun u η1 => optF (aggS .tuple η1 u) fun ts => aggF .tuple ts η1 K) :=
  (pe_callTy cr_tupF hg hm (by decide +kernel) (pa_cons ha pa_nil hs) (by decide) (by decide) hs (by rfl)).imp fun σ H Q ⟨ρ, η, Y, K, hρ, hS, ht, hX, hQ⟩ => lift1 hρ hS ht hX fun u x η2 H2 rx S2 f2 k => by
    obtain ⟨ts, e0, k⟩ := optF_inv k
    have k : K (.tup ts) η2 := k
    rw [o.K]
    obtain ⟨a, vs, rfl, rs, h | h | h⟩ := (seqR_of S2 (show seqOf η2 u = some ts from e0) rx).ex
    · exact ⟨a, vs, rfl, .inl ⟨h.2.sq, (hQ.frm f2).newTup S2 rs k⟩⟩
    · exact ⟨a, vs, rfl, .inr ⟨h.2.sq, (hQ.frm f2).here S2 (.tup h.2 rs) k⟩⟩
    · exact ⟨a, vs, rfl, .inl ⟨SqL.of h.2.1, (hQ.frm f2).newTup S2 rs k⟩⟩
theorem q_list {p : Pos} (o : XG G n W X) (hg : Gl X "list") (hm : X.mg "list" = none) (ha : PE X a (liftE G W ta)) (hs : starEach [a] X.env = (false, eval a X.env) :: starEach [] X.env) :
    PE X (.Call (.Name "list" p) [a] [] pos) (liftE G W fun ρ η X K => ta ρ η X fun u η1 => optF (aggS .list η1 u) fun ts => aggF .list ts η1 K) :=
  (pe_callTy call_list_of hg hm (by decide +kernel) (pa_cons ha pa_nil hs) (by decide) (by decide) hs (by rfl)).imp fun σ H Q ⟨ρ, η, Y, K, hρ, hS, ht, hX, hQ⟩ => lift1 hρ hS ht hX fun u x η2 H2 rx S2 f2 k => by
    obtain ⟨ts, e0, k⟩ := optF_inv k
    have k : K (.cl ts) η2 := k
    obtain ⟨a, vs, rfl, rs, h⟩ := (seqR_of S2 (show seqOf η2 u = some ts from e0) rx).sq
    exact ⟨a, vs, rfl, by rw [o.K]; exact h, (hQ.frm f2).newCl S2 rs k⟩
theorem q_listM {p : Pos} (o : XG G n W X) (hg : Gl X "list") (hm : X.mg "list" = none) (ha : PE X a (liftE G W ta)) (hs : starEach [a] X.env = (false, eval a X.env) :: starEach [] X.env) :
    PE X (.Call (.Name "list" p) [a] [] pos) (liftE G W fun ρ η X K => ta ρ η X fun u η1 => optF (aggS .listM η1 u) fun ts => aggF .listM ts η1 K) :=
  (pe_callTy call_list_of hg hm (by decide +kernel) (pa_cons ha pa_nil hs) (by decide) (by decide) hs (by rfl)).imp fun σ H Q ⟨ρ, η, Y, K, hρ, hS, ht, hX, hQ⟩ => lift1 hρ hS ht hX fun u x η2 H2 rx S2 f2 k => by
    obtain ⟨ts, e0, k⟩ := optF_inv k
    have k : ∀ p, get η2 p = none → K (.ref p) ((p, .lst ts) :: η2) := k
    obtain ⟨a, vs, rfl, rs, h⟩ := (seqR_of S2 (show seqOf η2 u = some ts from e0) rx).sq
    exact ⟨a, vs, rfl, by rw [o.K]; exact h, (hQ.frm f2).newLst S2 rs k⟩
/-! built-ins of values -/
theorem lenT_V {H : Hp} {η : Sto} {t : T} {v : V} {k : Nat} (S : StoR G H η) (e : lenT η t = some k) (r : ValR G H η t v) :
    (∃ z, v = .str z ∧ z.length ≤ sizeLine ∧ k = z.length) ∨ (∃ p ys, v = .ref p ∧ (SqL G.K H p ys ∨ SqT G.K H p ys) ∧ k = ys.length) ∨ ∃ p kvs, v = .ref p ∧ H p = some (.dK kvs) ∧ k = kvs.length := by
  by_cases hs : ∃ xs, seqOf η t = some xs
  · obtain ⟨xs, hs⟩ := hs
    obtain ⟨a, vs, rfl, hq, rs⟩ := seq_val S hs r
    refine .inr (.inl ⟨a, vs, rfl, hq, ?_⟩)
    rw [← rs.length]
    cases t <;> first
      | (cases hs; done)
      | (cases hs
         cases e
         rfl)
      | (have e : (seqOf η (.ref _)).map List.length = some k := e
         rw [hs] at e
         cases e
         rfl)
  · cases r with
    | str s l => cases e; exact .inl ⟨s, rfl, l, rfl⟩
    | dct h n kr rs =>
      cases e
      refine .inr (.inr ⟨_, _, rfl, h, ?_⟩)
      rw [kr.length, List.length_map]
    | tup h rs => exact absurd ⟨_, rfl⟩ hs
    | cl h rs => exact absurd ⟨_, rfl⟩ hs
    | ref a =>
      have e : (seqOf η (.ref a)).map List.length = some k := e
      cases g : seqOf η (.ref a) with
      | none => rw [g] at e; cases e
      | some xs => exact absurd ⟨_, g⟩ hs
    | _ => cases e
theorem callR_or {f : Value} {r r' : List V → Hp → VK → Prop} (h : CallR X f r) (h' : CallR X f r') : CallR X f fun xs H Q => r xs H Q ∨ r' xs H Q := fun pins s σ H xs us Q I rv q => q.elim (h pins s σ H xs us Q I rv) (h' pins s σ H xs us Q I rv)
theorem call_lenAll : CallR X (.builtin "len") (fun xs H Q => (∃ z, xs = [.str z] ∧ z.length ≤ sizeLine ∧ Q (.int z.length) H) ∨ (∃ p ys, xs = [.ref p] ∧ (SqL X.K H p ys ∨ SqT X.K H p ys) ∧ Q (.int ys.length) H) ∨ ∃ x m, xs = [x] ∧ LenV X.K x H m ∧ Q (.int m) H) :=
  callR_or call_len_str (callR_or call_len_seq call_len)
theorem q_len {p : Pos} (o : XG G n W X) (hg : Gl X "len") (hm : X.mg "len" = none) (ha : PE X a (liftE G W ta)) (hs : starEach [a] X.env = (false, eval a X.env) :: starEach [] X.env) :
    PE X (.Call (.Name "len" p) [a] [] pos) (liftE G W fun ρ η X K => ta ρ η X fun t η1 => optF (bltV .len [t] η1) fun t => K t η1) :=
  (one_star X hs (callR_or call_lenD call_lenAll) hg hm (by decide +kernel) ha (by decide) (by decide)).imp fun σ H Q ⟨ρ, η, Y, K, hρ, hS, ht, hX, hQ⟩ => lift1 hρ hS ht hX fun t x η2 H2 r S2 f2 k => by
    obtain ⟨u, e, q⟩ := optF_inv k
    obtain ⟨m, e1, rfl⟩ := Option.map_eq_some_iff.mp e
    have q' := (hQ.frm f2).here S2 (.int _) q
    rcases lenT_V S2 e1 r with ⟨z, rfl, h, rfl⟩ | ⟨p, ys, rfl, h, rfl⟩ | ⟨p, kvs, rfl, h, rfl⟩
    · exact .inr (.inl ⟨z, rfl, h, q'⟩)
    · exact .inr (.inr (.inl ⟨p, ys, rfl, by rw [o.K]; exact h, q'⟩))
    · exact .inl ⟨p, kvs, rfl, h, q'⟩
theorem q_abs {p : Pos} (hg : Gl X "abs") (hm : X.mg "abs" = none) (ha : PE X a (liftE G W ta)) (hs : starEach [a] X.env = (false, eval a X.env) :: starEach [] X.env) :
    PE X (.Call (.Name "abs" p) [a] [] pos) (liftE G W fun ρ η X K => ta ρ η X fun t η1 => optF (bltV .abs [t] η1) fun t => K t η1) :=
  (one_star X hs call_abs hg hm (by decide +kernel) ha (by decide) (by decide)).imp fun σ H Q ⟨ρ, η, Y, K, hρ, hS, ht, hX, hQ⟩ => lift1 hρ hS ht hX fun t x η2 H2 r S2 f2 k => by
    obtain ⟨u, e, q⟩ := optF_inv k
    cases r <;> cases e
    exact ⟨_, rfl, (hQ.frm f2).here S2 (.int _) q⟩
theorem q_int1 {p : Pos} (hg : Gl X "int") (hm : X.mg "int" = none) (ha : PE X a (liftE G W ta)) (hs : starEach [a] X.env = (false, eval a X.env) :: starEach [] X.env) :
    PE X (.Call (.Name "int" p) [a] [] pos) (liftE G W fun ρ η X K => ta ρ η X fun t η1 => optF (bltV .int [t] η1) fun t => K t η1) :=
  (pe_callTy call_int1 hg hm (by decide +kernel) (pa_cons ha pa_nil hs) (by decide) (by decide) hs (by rfl)).imp fun σ H Q ⟨ρ, η, Y, K, hρ, hS, ht, hX, hQ⟩ => lift1 hρ hS ht hX fun t x η2 H2 r S2 f2 k => by
    obtain ⟨u, e, q⟩ := optF_inv k
    cases r <;> cases e
    · exact .inr ⟨_, rfl, (hQ.frm f2).here S2 (.int _) q⟩
    · exact .inl ⟨_, rfl, (hQ.frm f2).here S2 (.int _) q⟩
theorem q_two {id : String} {nm : Str} {bt : Blt} {r : List V → Hp → VK → Prop} {p : Pos} (hc : CallR X (.builtin id) r) (hg : Gl X nm) (hm : X.mg nm = none) (hv : bootBuiltins nm = some (.builtin id)) (ha : PE X a (liftE G W ta)) (hb : PE X b (liftE G W tb)) (hs : starEach [a, b] X.env = (false, eval a X.env) :: starEach [b] X.env) (hs2 : starEach [b] X.env = (false, eval b X.env) :: starEach [] X.env)
    (hn : nm ≠ "__name__") (hdb : (nm == ("__debug__" : Str)) = false) (hr : ∀ t u x y η H Q K, ValR G H η t x → ValR G H η u y → StoR G H η → (optF (bltV bt [t, u] η) fun t => K t η) → HQ G Q H η K → r [x, y] H Q) :
    PE X (.Call (.Name nm p) [a, b] [] pos) (liftE G W fun ρ η X K => ta ρ η X fun t η1 => tb ρ η1 X fun u η2 => optF (bltV bt [t, u] η2) fun t => K t η2) :=
  (pe_callB hc hg hm hv (pa_cons ha (pa_cons hb pa_nil hs2) hs) hn hdb hs (by rw [hs2]; rfl)).imp fun σ H Q ⟨ρ, η, Y, K, hρ, hS, ht, hX, hQ⟩ => lift2 hρ hS ht hX fun t u x y η2 H2 rx ry S2 f2 k =>
    hr t u x y η2 H2 Q K rx ry S2 k (hQ.frm f2)
theorem q_max2 {p : Pos} (o : XG G n W X) (hg : Gl X "max") (hm : X.mg "max" = none) (ha : PE X a (liftE G W ta)) (hb : PE X b (liftE G W tb)) (hs : starEach [a, b] X.env = (false, eval a X.env) :: starEach [b] X.env) (hs2 : starEach [b] X.env = (false, eval b X.env) :: starEach [] X.env) :
    PE X (.Call (.Name "max" p) [a, b] [] pos) (liftE G W fun ρ η X K => ta ρ η X fun t η1 => tb ρ η1 X fun u η2 => optF (bltV .max2 [t, u] η2) fun t => K t η2) :=
  q_two (call_max2 o.calm) hg hm (by decide +kernel) ha hb hs hs2 (by decide) (by decide) fun t u x y η H Q K rx ry S k hQ => by
    obtain ⟨w, e, q⟩ := optF_inv k
    cases rx <;> cases ry <;> cases e
    exact ⟨_, _, rfl, hQ.here S (.int _) q⟩
theorem q_min2 {p : Pos} (o : XG G n W X) (hg : Gl X "min") (hm : X.mg "min" = none) (ha : PE X a (liftE G W ta)) (hb : PE X b (liftE G W tb)) (hs : starEach [a, b] X.env = (false, eval a X.env) :: starEach [b] X.env) (hs2 : starEach [b] X.env = (false, eval b X.env) :: starEach [] X.env) :
    PE X (.Call (.Name "min" p) [a, b] [] pos) (liftE G W fun ρ η X K => ta ρ η X fun t η1 => tb ρ η1 X fun u η2 => optF (bltV .min2 [t, u] η2) fun t => K t η2) :=
  q_two (call_min2 o.calm) hg hm (by decide +kernel) ha hb hs hs2 (by decide) (by decide) fun t u x y η H Q K rx ry S k hQ => by
    obtain ⟨w, e, q⟩ := optF_inv k
    cases rx <;> cases ry <;> cases e
    exact ⟨_, _, rfl, hQ.here S (.int _) q⟩
/-! xs.append(e) -/
theorem starFew {e : Expr} (X : Cx) (p2 : Pos) (hs : starEach [e] X.env = (false, eval e X.env) :: starEach [] X.env) :
    ((backTo p2 (starEach [e] X.env)).all (fun x => !x.1) && (backToKw p2 (keywordEach [] X.env)).all (fun x => x.1.isSome) && decide ([e].length + ([] : List Keyword).length + (if ([] : List Keyword).isEmpty then 0 else 1) < 30)) = true := by
  rw [hs]; rfl
theorem q_append {p1 p2 : Pos} (o : XG G n W X) (ha : PE X a (liftE G W ta)) (hb : PE X b (liftE G W tb)) (hs : starEach [b] X.env = (false, eval b X.env) :: starEach [] X.env) (hbase : attributeBase a "append" X.env (eval a X.env) = eval a X.env) (hline : (p1.endLine == p2.line) = true) :
    PE X (.Call (.Attribute a "append" p1) [b] [] p2) (liftE G W fun ρ η X K => ta ρ η X fun u η1 => mthT .append u η1 = true ∧ tb ρ η1 X fun t η2 => mthG .append u [t] η2 ∧ optF (mthV .append u [t] η2) fun q => K q.1 q.2) :=
  (pe_bm PySem.F.plainAttrs_list PySem.F.slot_list_append PySem.F.type_list_append mt_append ha (pa_cons hb pa_nil hs) hbase (starFew X p2 hs) hline hs (by rfl)).imp fun σ H Q ⟨ρ, η, Y, K, hρ, hS, ht, hX, hQ⟩ => lift1 hρ hS ht hX fun u x η1 H1 rx S1 f1 ⟨hT, k1⟩ => by
    cases rx with
    | ref l =>
      have hT' : ∃ ts, get η1 l = some (.lst ts) := by
        unfold mthT at hT
        simp only at hT
        cases g : get η1 l with
        | none => rw [g] at hT; cases hT
        | some ob =>
          rw [g] at hT
          cases ob with
          | lst ts => exact ⟨ts, rfl⟩
          | _ => cases hT
      obtain ⟨ts, g⟩ := hT'
      obtain ⟨vs, h1, rs⟩ := S1.ob l _ g
      refine ⟨.inl ⟨rfl, vs, SqL.of h1⟩, lift1 (hρ.frm f1) S1 k1 (hX.frm f1) fun t y η2 H2 ry S2 f2 ⟨hg, k2⟩ => ?_⟩
      obtain ⟨q, e, k2⟩ := optF_inv k2
      unfold mthV at e
      unfold mthG at hg
      simp only at e hg
      cases g2 : get η2 l with
      | none => rw [g2] at e; cases e
      | some ob =>
        rw [g2] at e hg
        cases ob with
        | lst xs =>
          cases e
          obtain ⟨ws, h2, rw2⟩ := S2.ob l _ g2
          refine ⟨l, ws, y, rfl, rfl, h2, by rw [← rw2.length]; exact hg, ?_⟩
          exact (hQ.frm (f1.trans f2)) .non .non _ _ .non (S2.put (u := .lst (xs ++ [t])) g2 ⟨_, upd_same, (rw2.append (.cons ry .nil)).frm (Frm.put g2)⟩) (Frm.put g2) k2
        | _ => cases e
    | _ => cases hT
/-! xs + ys -/
theorem q_cat {x y : Expr} (o : XG G n W X) (ha : PE X x (liftE G W ta)) (hb : PE X y (liftE G W tb)) :
    PE X (.BinOp x .Add y pos) (liftE G W fun ρ η X K => ta ρ η X fun u η1 => tb ρ η1 X fun w η2 => optF (lstOf η2 u) fun xs => optF (lstOf η2 w) fun ys => xs.length + ys.length ≤ sizeLine ∧ ∀ p, get η2 p = none → K (.ref p) ((p, .lst (xs ++ ys)) :: η2)) :=
  (pe_op op_catQ ha hb).imp fun σ H Q ⟨ρ, η, Y, K, hρ, hS, ht, hX, hQ⟩ => lift2 hρ hS ht hX fun u w x y η2 H2 rx ry S2 f2 k => by
    obtain ⟨xs, e1, k⟩ := optF_inv k
    obtain ⟨ys, e2, hl, k2⟩ := optF_inv k
    obtain ⟨a, vs, rfl, h1, rs⟩ := lst_val S2 e1 rx
    obtain ⟨b, ws, rfl, h2, rs2⟩ := lst_val S2 e2 ry
    exact ⟨a, b, vs, ws, rfl, rfl, by rw [o.K]; exact h1, by rw [o.K]; exact h2, by rw [← rs.length, ← rs2.length]; exact hl, (hQ.frm f2).newLst S2 (rs.append rs2) k2⟩
theorem q_catV {x y : Expr} (o : XG G n W X) (ha : PE X x (liftE G W ta)) (hb : PE X y (liftE G W tb)) :
    PE X (.BinOp x .Add y pos) (liftE G W fun ρ η X K => ta ρ η X fun u η1 => tb ρ η1 X fun w η2 => optF (lstOf η2 u) fun xs => optF (lstOf η2 w) fun ys => xs.length + ys.length ≤ sizeLine ∧ K (.cl (xs ++ ys)) η2) :=
  (pe_op op_catQ ha hb).imp fun σ H Q ⟨ρ, η, Y, K, hρ, hS, ht, hX, hQ⟩ => lift2 hρ hS ht hX fun u w x y η2 H2 rx ry S2 f2 k => by
    obtain ⟨xs, e1, k⟩ := optF_inv k
    obtain ⟨ys, e2, hl, k2⟩ := optF_inv k
    obtain ⟨a, vs, rfl, h1, rs⟩ := lst_val S2 e1 rx
    obtain ⟨b, ws, rfl, h2, rs2⟩ := lst_val S2 e2 ry
    exact ⟨a, b, vs, ws, rfl, rfl, by rw [o.K]; exact h1, by rw [o.K]; exact h2, by rw [← rs.length, ← rs2.length]; exact hl, (hQ.frm f2).newCl S2 (rs.append rs2) k2⟩
end
end TL

/-! what is walked; comprehensions; loops -/
namespace TL
open PySem PySem.Spec PyProof.Rows L2
/-! ### another set of hidden lists -/
abbrev Glob.hid (G : Glob) (Z : Addr → Prop) : Glob := { G with Z := Z }
section
variable {G : Glob} {Z : Addr → Prop} {H H' : Hp} {η η' : Sto}
/-- what the values of H lean on stands in H' too, and is not hidden there -/
def Mv (G : Glob) (Z : Addr → Prop) (H H' : Hp) (η η' : Sto) : Prop := ∀ a o, H a = some o → get η a = none → ¬ G.Z a → H' a = some o ∧ get η' a = none ∧ ¬ Z a
theorem Rd.mv (c : Mv G Z H H' η η') {a : Addr} {u : HO} (h : Rd H a u) (e : get η a = none ∧ ¬ G.Z a) : Rd H' a u ∧ get η' a = none ∧ ¬ (G.hid Z).Z a := by
  rcases h with h | ⟨o, h⟩
  · exact ⟨.inl (c a _ h e.1 e.2).1, (c a _ h e.1 e.2).2⟩
  · exact ⟨.inr ⟨o, (c a _ h e.1 e.2).1⟩, (c a _ h e.1 e.2).2⟩
theorem FzT.mv (c : Mv G Z H H' η η') {a : Addr} {vs : List V} (h : FzT H a vs) (e : get η a = none ∧ ¬ G.Z a) : FzT H' a vs ∧ get η' a = none ∧ ¬ (G.hid Z).Z a := by
  obtain ⟨o, h, d⟩ := h
  exact ⟨⟨o, (c a _ h e.1 e.2).1, d⟩, (c a _ h e.1 e.2).2⟩
mutual
theorem ValR.mv (c : Mv G Z H H' η η') {t : T} {v : V} (h : ValR G H η t v) : ValR (G.hid Z) H' η' t v := by
  cases h with
  | non => exact .non
  | bl b => exact .bl b
  | int i => exact .int i
  | str s l => exact .str s l
  | ref a => exact .ref a
  | tup h r => exact .tup (h.imp (fun h => FzT.mv c h.1 h.2) id) (ValsR.mv c r)
  | cl h r => exact .cl (h.imp (fun h => Rd.mv c h.1 h.2) id) (ValsR.mv c r)
  | dct h e k r => exact .dct (c _ _ h e.1 e.2).1 (c _ _ h e.1 e.2).2 k (ValsR.mv c r)
theorem ValsR.mv (c : Mv G Z H H' η η') {ts : List T} {vs : List V} (h : ValsR G H η ts vs) : ValsR (G.hid Z) H' η' ts vs := by
  cases h with
  | nil => exact .nil
  | cons h r => exact .cons (ValR.mv c h) (ValsR.mv c r)
end
theorem FldsR.mv (c : Mv G Z H H' η η') : ∀ {fs : List (Str × T)} {gs : List (Str × V)}, FldsR G H η fs gs → FldsR (G.hid Z) H' η' fs gs
  | [], [], _ => trivial
  | (_, _) :: _, (_, _) :: _, ⟨h1, h2, h3⟩ => ⟨h1, h2.mv c, FldsR.mv c h3⟩
  | [], _ :: _, h => h.elim
  | _ :: _, [], h => h.elim
theorem ObR.mv (c : Mv G Z H H' η η') {a : Addr} {o : Ob} (e : H' a = H a) (h : ObR G H η a o) : ObR (G.hid Z) H' η' a o := by
  cases o with
  | lst ts => obtain ⟨vs, q, r⟩ := h; exact ⟨vs, e.trans q, r.mv c⟩
  | dict ks vs => obtain ⟨kvs, q, k, r⟩ := h; exact ⟨kvs, e.trans q, k, r.mv c⟩
  | ins k fs => obtain ⟨C, dx, gs, hc, q, r⟩ := h; exact ⟨C, dx, gs, hc, e.trans q, r.mv c⟩
theorem StoR.mv (S : StoR G H η) (c : Mv G Z H H' η η) (e : ∀ a o, TL.get η a = some o → H' a = H a) (t : LamX.Tabs G.Tb H') (z : ∀ a, Z a → (∃ o, H' a = some o ∧ HidO o) ∧ TL.get η a = none) : StoR (G.hid Z) H' η :=
  ⟨fun a o g => (S.ob a o g).mv c (e a o g), t, z⟩
theorem EnvR.mv {σ : L2.St} {ρ : Env} (c : Mv G Z H H' η η') (h : EnvR G H η σ ρ) : EnvR (G.hid Z) H' η' σ ρ :=
  ⟨h.len, fun i t e => let ⟨v, a, b⟩ := h.val i t e; ⟨v, a, b.mv c⟩⟩
/-- G with D hidden -/
def hidD (G : Glob) (D : Addr) : Addr → Prop := fun a => G.Z a ∨ a = D
variable {D : Addr}
theorem mv_in (h : H D = none) {o : HO} : Mv G (hidD G D) H (upd H D o) η η := fun a u e m n => ⟨by rw [upd_ne (ne_of_none e h)]; exact e, m, fun z => z.elim n (ne_of_none e h)⟩
theorem mv_grow {o : HO} : Mv (G.hid (hidD G D)) (hidD G D) H (upd H D o) η η := fun a u e m n => ⟨by rw [upd_ne fun z => n (.inr z)]; exact e, m, n⟩
theorem mv_out : Mv (G.hid (hidD G D)) G.Z H H η η := fun a u e m n => ⟨e, m, fun z => n (.inl z)⟩
/-- .. told by the store -/
theorem mv_tell {o : Ob} : Mv (G.hid (hidD G D)) G.Z H H η ((D, o) :: η) := fun a u e m n => ⟨e, by rw [get_cons, if_neg fun z => n (.inr z)]; exact m, fun z => n (.inl z)⟩
theorem StoR.hide (S : StoR G H η) (h : H D = none) {o : HO} (ho : HidO o) : StoR (G.hid (hidD G D)) (upd H D o) η :=
  S.mv (mv_in h) (fun a o g => upd_ne (by rintro rfl; rw [S.nn h] at g; cases g)) (tabs_upd S.tb h) fun a z => by
    rcases z with z | rfl
    · obtain ⟨⟨u, e, hu⟩, n⟩ := S.hz a z
      exact ⟨⟨u, by rw [upd_ne (ne_of_none e h)]; exact e, hu⟩, n⟩
    · exact ⟨⟨o, upd_same, ho⟩, S.nn h⟩
theorem StoR.grow (S : StoR (G.hid (hidD G D)) H η) {o u : HO} (h : H D = some u) (hu : HidO u) (ho : HidO o) : StoR (G.hid (hidD G D)) (upd H D o) η :=
  S.mv mv_grow (fun a o g => upd_ne (by rintro rfl; rw [(S.hz a (.inr rfl)).2] at g; cases g)) (tabs_put S.tb h hu.mu hu.nc) fun a z => by
    refine ⟨?_, (S.hz a z).2⟩
    by_cases ha : a = D
    · subst ha; exact ⟨o, upd_same, ho⟩
    · rw [upd_ne ha]; exact (S.hz a z).1
theorem StoR.show' (S : StoR (G.hid (hidD G D)) H η) : StoR G H η :=
  ⟨fun a o g => (S.ob a o g).mv (G := G.hid (hidD G D)) (Z := G.Z) mv_out rfl, S.tb, fun a z => S.hz a (.inl z)⟩
theorem StoR.tell (S : StoR (G.hid (hidD G D)) H η) (nz : ¬ G.Z D) {vs : List V} {ts : List T} (h : H D = some (.lst vs)) (r : ValsR (G.hid (hidD G D)) H η ts vs) : StoR G H ((D, .lst ts) :: η) := by
  refine ⟨fun a o g => ?_, S.tb, fun a z => ⟨(S.hz a (.inl z)).1, ?_⟩⟩
  · rw [get_cons] at g
    by_cases ha : a = D
    · subst ha
      rw [if_pos rfl] at g
      cases g
      exact ⟨vs, h, r.mv (G := G.hid (hidD G a)) (Z := G.Z) mv_tell⟩
    · rw [if_neg ha] at g
      exact (S.ob a o g).mv (G := G.hid (hidD G D)) (Z := G.Z) mv_tell rfl
  · rw [get_cons, if_neg (by rintro rfl; exact nz z)]
    exact (S.hz a (.inl z)).2
theorem Frm.updD {H0 : Hp} {η0 : Sto} (f : Frm η0 H0 η H) (h : H0 D = none) {o : HO} : Frm η0 H0 η (upd H D o) :=
  ⟨fun b u e n t => by rw [upd_ne (ne_of_none e h)]; exact f.hp b u e n t, f.st⟩
theorem Frm.tell {H0 : Hp} {η0 : Sto} (f : Frm η0 H0 η H) (h : H0 D = none) {o : Ob} : Frm η0 H0 ((D, o) :: η) H :=
  ⟨f.hp, fun b u e n t => by rw [get_cons, if_neg (ne_of_none e h)]; exact f.st b u e n t⟩
end
/-! ### what is walked -/
/-- the turns of J: the items ts, while the list of the store (if it is one) stays -/
structure Wk (G : Glob) (J : L2.It) (ts : List T) (src : Option Addr) (H0 : Hp) (η0 : Sto) : Prop where
  go : ∀ Z, (∀ a, Z a → G.Z a ∨ H0 a = none) → ∀ i H η, i < ts.length → StoR (G.hid Z) H η → Frm η0 H0 η H → stays src ts η → J.go i H
  yld : ∀ Z, (∀ a, Z a → G.Z a ∨ H0 a = none) → ∀ i H η x H', StoR (G.hid Z) H η → Frm η0 H0 η H → stays src ts η → J.yld i H x H' → i < ts.length → ∃ t, ts[i]? = some t ∧ ValR (G.hid Z) H' η t x ∧ StoR (G.hid Z) H' η ∧ Frm η H η H'
  stop : ∀ Z, (∀ a, Z a → G.Z a ∨ H0 a = none) → ∀ H η, StoR (G.hid Z) H η → Frm η0 H0 η H → stays src ts η → J.stop ts.length H
theorem mv_Z {G : Glob} {Z : Addr → Prop} {H : Hp} {η : Sto} (h : ∀ a, Z a → G.Z a ∨ H a = none) : Mv G Z H H η η := fun a o e m n => ⟨e, m, fun z => (h a z).elim n fun q => by rw [e] at q; cases q⟩
section
variable {G : Glob} {H0 : Hp} {η0 : Sto}
theorem getE {ts : List T} {vs : List V} {G : Glob} {H : Hp} {η : Sto} (r : ValsR G H η ts vs) {i : Nat} {x : V} (e : vs[i]? = some x) : ∃ t, ts[i]? = some t ∧ ValR G H η t x := by
  have hi : i < ts.length := by
    rw [r.length]
    exact (List.getElem?_eq_some_iff.mp e).1
  obtain ⟨v, e2, r2⟩ := r.get (List.getElem?_eq_getElem hi)
  rw [e] at e2
  cases e2
  exact ⟨_, List.getElem?_eq_getElem hi, r2⟩
/-- a list -/
theorem wk_list {a : Addr} {vs : List V} {ts : List T} {src : Option Addr} (r : ValsR G H0 η0 ts vs) (h : (src = none ∧ StL G H0 η0 a vs) ∨ (src = some a ∧ H0 a = some (.lst vs) ∧ TL.get η0 a = some (.lst ts))) : Wk G (Itl G.K a) ts src H0 η0 := by
  have key : ∀ Z, (∀ a, Z a → G.Z a ∨ H0 a = none) → ∀ H η, StoR (G.hid Z) H η → Frm η0 H0 η H → stays src ts η → ∃ ws, SqL G.K H a ws ∧ ValsR (G.hid Z) H η ts ws := fun Z hZ H η S f st => by
    rcases h with ⟨rfl, h⟩ | ⟨rfl, h1, h2⟩
    · have h' : StL (G.hid Z) H0 η0 a vs := h.imp (fun h => Rd.mv (mv_Z hZ) h.1 h.2) id
      exact ⟨vs, (h'.frm f).sq, (r.mv (mv_Z hZ)).frm f⟩
    · obtain ⟨ws, e, rs⟩ := S.ob a _ st
      exact ⟨ws, SqL.of e, rs⟩
  refine ⟨fun Z hZ i H η hi S f st => ?_, fun Z hZ i H η x H' S f st y hi => ?_, fun Z hZ H η S f st => ?_⟩
  · obtain ⟨ws, hq, rs⟩ := key Z hZ H η S f st
    obtain ⟨v, e, _⟩ := rs.get (List.getElem?_eq_getElem hi)
    exact ⟨ws, v, hq, e⟩
  · obtain ⟨ws, hq, rs⟩ := key Z hZ H η S f st
    obtain ⟨rfl, y⟩ := y
    obtain ⟨t, e, q⟩ := getE rs (y ws hq)
    exact ⟨t, e, q, S, .refl⟩
  · obtain ⟨ws, hq, rs⟩ := key Z hZ H η S f st
    exact ⟨ws, hq, Nat.le_of_eq rs.length.symm⟩
theorem wk_tup {a : Addr} {vs : List V} {ts : List T} (r : ValsR G H0 η0 ts vs) (h : StT G H0 η0 a vs) : Wk G (Itt G.K a) ts none H0 η0 := by
  have key : ∀ Z, (∀ a, Z a → G.Z a ∨ H0 a = none) → ∀ H η, StoR (G.hid Z) H η → Frm η0 H0 η H → ∃ ws, SqT G.K H a ws ∧ ValsR (G.hid Z) H η ts ws := fun Z hZ H η S f => by
    have h' : StT (G.hid Z) H0 η0 a vs := h.imp (fun h => FzT.mv (mv_Z hZ) h.1 h.2) id
    exact ⟨vs, (h'.frm f).sq, (r.mv (mv_Z hZ)).frm f⟩
  refine ⟨fun Z hZ i H η hi S f st => ?_, fun Z hZ i H η x H' S f st y hi => ?_, fun Z hZ H η S f st => ?_⟩
  · obtain ⟨ws, hq, rs⟩ := key Z hZ H η S f
    obtain ⟨v, e, _⟩ := rs.get (List.getElem?_eq_getElem hi)
    exact ⟨ws, v, hq, e⟩
  · obtain ⟨ws, hq, rs⟩ := key Z hZ H η S f
    obtain ⟨rfl, y⟩ := y
    obtain ⟨t, e, q⟩ := getE rs (y ws hq)
    exact ⟨t, e, q, S, .refl⟩
  · obtain ⟨ws, hq, rs⟩ := key Z hZ H η S f
    exact ⟨ws, hq, Nat.le_of_eq rs.length.symm⟩
theorem rangeL_length {lo : Int} {n : Nat} : (rangeL lo n).length = n := by unfold rangeL; rw [List.length_map, List.length_range]
theorem wk_range {lo : Int} {n : Nat} : Wk G (Itr lo n) (rangeL lo n) none H0 η0 := by
  refine ⟨fun Z hZ i H η hi S f st => by rw [rangeL_length] at hi; exact hi, fun Z hZ i H η x H' S f st y hi => ?_, fun Z hZ H η S f st => by rw [rangeL_length]; exact Nat.le_refl _⟩
  obtain ⟨rfl, rfl⟩ := y
  rw [rangeL_length] at hi
  exact ⟨.int (lo + i), by unfold rangeL; rw [List.getElem?_map, List.getElem?_range hi]; rfl, .int _, S, .refl⟩
theorem wk_chars {x : Str} : Wk G (Its x) (charsL x) none H0 η0 := by
  have hl : (charsL x).length = x.cps.size := by unfold charsL; simp
  refine ⟨fun Z hZ i H η hi S f st => by rw [hl] at hi; exact hi, fun Z hZ i H η v H' S f st y hi => ?_, fun Z hZ H η S f st => by rw [hl]; exact Nat.le_refl _⟩
  obtain ⟨rfl, c, e, rfl⟩ := y
  refine ⟨.str ⟨#[c]⟩, ?_, .str _ (by show 1 ≤ sizeLine; rw [sizeLine_eq]; omega), S, .refl⟩
  unfold charsL
  rw [List.getElem?_map, Array.getElem?_toList, e]
  rfl
end
def HI (G : Glob) (R : L2.It → Hp → Prop) (H : Hp) (η : Sto) (K : List T → Option Addr → Sto → Prop) : Prop :=
  ∀ ts src J η' H', Wk G J ts src H' η' → ts.length ≤ sizeLine → StoR G H' η' → Frm η H η' H' → K ts src η' → R J H'
theorem HI.frm {G : Glob} {H H1 : Hp} {η η1 : Sto} {Q : L2.It → Hp → Prop} {K : List T → Option Addr → Sto → Prop} (f : Frm η H η1 H1) (h : HI G Q H η K) : HI G Q H1 η1 K := fun ts src J η' H' a l b c q => h ts src J η' H' a l b (f.trans c) q
def liftI (G : Glob) (W : WX) (t : TI') : TI := fun σ H R => ∃ ρ η X K, EnvR G H η σ ρ ∧ StoR G H η ∧ t ρ η X K ∧ HX G W σ H η X ∧ HI G R H η K
section
variable {G : Glob} {W : WX} {X : Cx} {tg a b c : Expr} {ta tb tc : TE'} {pos : Pos} {es : List Expr} {n m : Nat} {tl tl2 : TL'}
theorem i_seq (hK : X.K = G.K) (ha : PE X a (liftE G W ta)) : PI X tg a (liftI G W fun ρ η X K => ta ρ η X fun u η1 => optF (seqOf η1 u) fun ts => K ts (srcOf u) η1) := by
  refine ⟨fun pins s σ H R I ⟨ρ, η, Y, K, hρ, hS, ht, hX, hI⟩ => ?_⟩
  refine thn (ha.run pins s σ H (fun x H1 => ∃ ts src η1, SeqR G H1 η1 ts src x ∧ StoR G H1 η1 ∧ Frm η H η1 H1 ∧ K ts src η1) I (lift1 hρ hS ht hX fun u x η1 H1 rx S1 f1 k1 => ?_)) fun v s1 ⟨x, H1, I1, r1, ts, src, η1, sq, S1, f1, k1⟩ => ?_
  · obtain ⟨ts, e, q⟩ := optF_inv k1
    exact ⟨ts, _, η1, seqR_of S1 e rx, S1, f1, q⟩
  obtain ⟨p, vs, rfl, rs, h⟩ := sq.ex
  cases r1
  have fin : ∀ b ∈ [s1.heap.objs.size], FpOk X pins H1 b := fun b hb => by
    have e : b = s1.heap.objs.size := by simpa using hb
    subst e
    exact I1.fpOk (Nat.le_refl _) (I1.hok.fresh (Nat.le_refl _))
  have lst : SqL G.K H1 p vs → Wk G (Itl G.K p) ts src H1 η1 → wpAny (model X.prog X.w) X.A (pyIter (.ref p)) (PIE X pins σ tg R) X.xe s1 := fun hq wk => by
    rw [← hK] at hq wk
    obtain ⟨its, rv, pl, hz⟩ := I1.list hq
    refine wpAny_pyIter_list pl.isList ?_
    exact ⟨s1.heap.objs.size, [s1.heap.objs.size], _, _, H1, rfl, I1.kept (t' := s1.toks) fun b o e => Heap.get?_push_of_some _ e, turn_list p _, ⟨_, Heap.get?_push_size _ rfl, rfl, rfl⟩, fin, hI ts src _ η1 H1 wk (by rw [rs.length]; exact hz) S1 f1 k1⟩
  rcases h with ⟨e, h⟩ | ⟨e, h⟩ | ⟨e, h1, h2⟩
  · exact lst h.sq (wk_list rs (.inl ⟨e, h⟩))
  · subst e
    have hq := h.sq
    have wk := wk_tup rs h
    rw [← hK] at hq wk
    obtain ⟨its, rv, pl, hz⟩ := I1.tuple hq
    refine wpAny_pyIter_tuple (show s1.heap.IsTuple p its.toArray from pl) ?_
    exact ⟨s1.heap.objs.size, [s1.heap.objs.size], _, _, H1, rfl, I1.kept (t' := s1.toks) fun b o e => Heap.get?_push_of_some _ e, turn_tuple p _, ⟨_, Heap.get?_push_size _ rfl, rfl, rfl⟩, fin, hI ts none _ η1 H1 wk (by rw [rs.length]; exact hz) S1 f1 k1⟩
  · exact lst (SqL.of h1) (wk_list rs (.inr ⟨e, h1, h2⟩))
theorem _root_.L2.PI.imp {X : Cx} {tg e : Expr} {t u : TI} (h : PI X tg e t) (i : ∀ σ H R, u σ H R → t σ H R) : PI X tg e u := ⟨fun pins s σ H Q I q => h.run pins s σ H Q I (i σ H Q q)⟩
theorem i_chars (ha : PE X a (liftE G W ta)) : PI X tg a (liftI G W fun ρ η X K => ta ρ η X fun u η1 => optF (strV u) fun x => K (charsL x) none η1) :=
  (pi_str ha).imp fun σ H R ⟨ρ, η, Y, K, hρ, hS, ht, hX, hI⟩ => lift1 hρ hS ht hX fun u x η1 H1 rx S1 f1 k1 => by
    obtain ⟨z, e, q⟩ := optF_inv k1
    cases rx with
    | str s l =>
      cases e
      exact ⟨_, rfl, hI _ none _ η1 H1 wk_chars (by unfold charsL; rw [List.length_map, Array.length_toList]; exact l) S1 f1 q⟩
    | _ => cases e
theorem i_range {p : Pos} (hg : Gl X "range") (hm : X.mg "range" = none) (ha : PE X a (liftE G W ta)) (hs : starEach [a] X.env = (false, eval a X.env) :: starEach [] X.env) :
    PI X tg (.Call (.Name "range" p) [a] [] pos) (liftI G W fun ρ η X K => ta ρ η X fun u η1 => optF (intV u) fun n => small n ∧ K (rangeL 0 n.toNat) none η1) :=
  (pi_range1 hg hm (pa_cons ha pa_nil hs) hs).imp fun σ H R ⟨ρ, η, Y, K, hρ, hS, ht, hX, hI⟩ => lift1 hρ hS ht hX fun u x η1 H1 rx S1 f1 k1 => by
    obtain ⟨z, e, ⟨q1, q2⟩, q⟩ := optF_inv k1
    cases rx <;> cases e
    exact ⟨_, rfl, q1, by omega, hI _ none _ η1 H1 wk_range (by rw [rangeL_length, sizeLine_eq]; omega) S1 f1 q⟩
theorem i_range2 {p : Pos} (hg : Gl X "range") (hm : X.mg "range" = none) (ha : PE X a (liftE G W ta)) (hb : PE X b (liftE G W tb)) (hs : starEach [a, b] X.env = (false, eval a X.env) :: starEach [b] X.env) (hs2 : starEach [b] X.env = (false, eval b X.env) :: starEach [] X.env) :
    PI X tg (.Call (.Name "range" p) [a, b] [] pos) (liftI G W fun ρ η X K => ta ρ η X fun u η1 => tb ρ η1 X fun w η2 => optF (intV u) fun m => optF (intV w) fun n => small m ∧ small n ∧ n - m ≤ 16777216 ∧ K (rangeL m (n - m).toNat) none η2) :=
  (pi_range2 hg hm (pa_cons ha (pa_cons hb pa_nil hs2) hs) (by rw [hs, hs2]; rfl) (by rw [hs2]; rfl)).imp fun σ H R ⟨ρ, η, Y, K, hρ, hS, ht, hX, hI⟩ => lift2 hρ hS ht hX fun u w x y η1 H1 rx ry S1 f1 k1 => by
    obtain ⟨m, e, k1⟩ := optF_inv k1
    obtain ⟨z, e2, ⟨q1, q2⟩, ⟨q3, q4⟩, q5, q⟩ := optF_inv k1
    cases rx <;> cases e
    cases ry <;> cases e2
    exact ⟨_, _, rfl, ⟨q1, by omega, q3, by omega⟩, hI _ none _ η1 H1 wk_range (by rw [rangeL_length, sizeLine_eq]; omega) S1 f1 q⟩
end
/-! ### targets -/
def gT (K : PySem.W.Frag) : Tg → TG
  | .name i => gName i
  | .two i j => gTup K 2 (gCons (gName i) (gCons (gName j) gNil))
def tgIx : Tg → List Nat
  | .name i => [i]
  | .two i j => [i, j]
theorem nth_setv {i j : Nat} {t : T} : ∀ {l : List (Option T)} {u : T}, nth (setv l i t) j = some u → (j = i ∧ u = t ∧ i < l.length) ∨ (j ≠ i ∧ nth l j = some u) := by
  intro l
  induction l generalizing i j with
  | nil => intro u h; cases h
  | cons a r ih =>
    intro u h
    cases i with
    | zero =>
      cases j with
      | zero => cases h; exact .inl ⟨rfl, rfl, by simp⟩
      | succ j => exact .inr ⟨by simp, h⟩
    | succ i =>
      cases j with
      | zero => exact .inr ⟨by simp, h⟩
      | succ j =>
        rcases ih (i := i) (j := j) h with ⟨rfl, e, l⟩ | ⟨n, e⟩
        · exact .inl ⟨rfl, e, by simpa using l⟩
        · exact .inr ⟨by simpa using n, e⟩
theorem setv_length {t : T} : ∀ {l : List (Option T)} {i : Nat}, (setv l i t).length = l.length
  | [], _ => rfl
  | _ :: _, 0 => rfl
  | _ :: r, i + 1 => congrArg (· + 1) (setv_length (l := r) (i := i))
theorem nth_get {l : List (Option T)} {i : Nat} {t : T} : nth l i = some t ↔ l[i]? = some (some t) := by
  induction l generalizing i with
  | nil => simp [nth]
  | cons a r ih =>
    cases i with
    | zero => simp [nth]
    | succ i => simpa [nth] using ih
section
variable {G : Glob} {H : Hp} {η : Sto} {σ : L2.St} {ρ : Env}
theorem EnvR.set (h : EnvR G H η σ ρ) {t : T} {v : V} (r : ValR G H η t v) {i : Nat} {x : Option T} : EnvR G H η (σ.set i (some v)) ⟨setv ρ.v i t, x⟩ := by
  refine ⟨by show (σ.set i _).length = (setv ρ.v i t).length; rw [List.length_set, setv_length]; exact h.len, fun j u e => ?_⟩
  rcases nth_setv e with ⟨rfl, rfl, hl⟩ | ⟨hn, e⟩
  · exact ⟨v, by rw [List.getElem?_set_self (by rw [h.len]; exact hl)], r⟩
  · obtain ⟨w, e2, r2⟩ := h.val j u e
    exact ⟨w, by rw [List.getElem?_set_ne hn.symm]; exact e2, r2⟩
theorem EnvR.x' (h : EnvR G H η σ ρ) {x : Option T} : EnvR G H η σ ⟨ρ.v, x⟩ := ⟨h.len, h.val⟩
theorem setvs_length : ∀ {own : List Nat} {l : List (Option T)}, (setvs l own).length = l.length
  | [], _ => rfl
  | i :: r, l => by show (setvs (l.set i none) r).length = _; rw [setvs_length, List.length_set]
theorem nth_setvs : ∀ {own : List Nat} {l : List (Option T)} {j : Nat} {t : T}, nth (setvs l own) j = some t → j ∉ own ∧ nth l j = some t
  | [], _, _, _, h => ⟨by simp, h⟩
  | i :: r, l, j, t, h => by
    obtain ⟨h1, h2⟩ := nth_setvs (own := r) (l := l.set i none) h
    rw [nth_get] at h2 ⊢
    by_cases hij : i = j
    · subst hij
      rw [List.getElem?_set_self'] at h2
      cases e : l[i]? <;> rw [e] at h2 <;> simp at h2
    · rw [List.getElem?_set_ne hij] at h2
      exact ⟨by simp only [List.mem_cons, not_or]; exact ⟨fun z => hij z.symm, h1⟩, h2⟩
theorem wipe_out' {i : Nat} : ∀ {vs : List Nat} {σ : L2.St}, i ∉ vs → (wipe σ vs)[i]? = σ[i]?
  | [], _, _ => rfl
  | v :: vs, σ, h => by
    simp only [List.mem_cons, not_or] at h
    show ((wipe σ vs).set v none)[i]? = _
    rw [List.getElem?_set_ne (fun z => h.1 z.symm)]
    exact wipe_out' h.2
theorem EnvR.wipe (h : EnvR G H η σ ρ) {own : List Nat} {x : Option T} : EnvR G H η (wipe σ own) ⟨setvs ρ.v own, x⟩ := by
  refine ⟨by rw [wipe_length]; show σ.length = (setvs ρ.v own).length; rw [setvs_length]; exact h.len, fun i t e => ?_⟩
  obtain ⟨h1, h2⟩ := nth_setvs e
  obtain ⟨v, e2, r⟩ := h.val i t h2
  exact ⟨v, by rw [wipe_out' h1]; exact e2, r⟩
theorem wipe_get {vs : List Nat} : ∀ {σ : L2.St} {i : Nat}, i ∈ vs → i < σ.length → (L2.wipe σ vs)[i]? = some none := by
  induction vs with
  | nil => intro σ i h; cases h
  | cons v vs ih =>
    intro σ i h hl
    show ((L2.wipe σ vs).set v none)[i]? = _
    by_cases e : v = i
    · subst e
      rw [List.getElem?_set_self (by rw [wipe_length]; exact hl)]
    · rw [List.getElem?_set_ne e]
      exact ih (by simpa [Ne.symm e] using h) hl
theorem wipe_ext {vs : List Nat} {σ σ' : L2.St} (hl : σ'.length = σ.length) (h : ∀ i, i ∉ vs → σ'[i]? = σ[i]?) : L2.wipe σ' vs = L2.wipe σ vs := by
  refine List.ext_getElem? fun i => ?_
  by_cases hi : i ∈ vs
  · by_cases hlt : i < σ.length
    · rw [wipe_get hi hlt, wipe_get hi (by rw [hl]; exact hlt)]
    · rw [List.getElem?_eq_none (by rw [wipe_length]; omega), List.getElem?_eq_none (by rw [wipe_length]; omega)]
  · rw [wipe_out' hi, wipe_out' hi]; exact h i hi
theorem wipe_wipe {vs : List Nat} {σ : L2.St} : L2.wipe (L2.wipe σ vs) vs = L2.wipe σ vs := wipe_ext (wipe_length _ _) fun i hi => wipe_out' hi
theorem wipe_set {vs : List Nat} {σ : L2.St} {i : Nat} {v : V} (h : i ∈ vs) : L2.wipe (σ.set i (some v)) vs = L2.wipe σ vs := wipe_ext (List.length_set ..) fun j hj => List.getElem?_set_ne (by rintro rfl; exact hj h)
/-- a target takes its value -/
theorem gT_ok {tg : Tg} {t : T} {v : V} {w : List (Option T)} {x : Option T} {Q : L2.St → Hp → Prop} (hρ : EnvR G H η σ ρ) (r : ValR G H η t v) (e : bindTg tg t ρ.v = some w)
    (h : ∀ σ', EnvR G H η σ' ⟨w, x⟩ → (∀ vs, (∀ i ∈ tgIx tg, i ∈ vs) → L2.wipe σ' vs = L2.wipe σ vs) → Q σ' H) : gT G.K tg v σ H Q := by
  cases tg with
  | name i =>
    cases e
    exact h _ (hρ.set r) fun vs hv => wipe_set (hv i List.mem_cons_self)
  | two i j =>
    cases r with
    | tup a rs =>
      rename_i p vs ts
      match ts, rs, e with
      | [t1, t2], rs, e =>
        cases e
        obtain ⟨v1, v2, rfl, r1, r2⟩ := rs.two
        refine ⟨p, [v1, v2], rfl, a.sq, rfl, v1, [v2], rfl, v2, [], rfl, rfl, ?_⟩
        exact h _ ((hρ.set (x := x) r1).set r2) fun vs hv => (wipe_set (hv j (List.mem_cons_of_mem _ List.mem_cons_self))).trans (wipe_set (hv i List.mem_cons_self))
      | [], rs, e => cases e
      | [_], rs, e => cases e
      | _ :: _ :: _ :: _, rs, e => cases e
    | _ => cases e
end
end TL

/-! comprehensions -/
namespace TL
open PySem PySem.Spec PyProof.Rows L2
abbrev noX : KX := fun _ _ => False
abbrev noW : WX := fun _ _ _ _ => False
/-- one turn of a comprehension -/
abbrev lcF (own : List Nat) (tg : Tg) (tc : TC') (te : TE') (ρ : Env) : T → Sto → KL → Prop := fun x η' Kr => optF (bindTg tg x (setvs ρ.v own)) fun v => tc ⟨v, ρ.x⟩ η' noX fun k η2 => ifB k (te ⟨v, ρ.x⟩ η2 noX fun u η3 => Kr [u] η3) (Kr [] η2)
theorem HX.no {G : Glob} {W : WX} {σ : L2.St} {H : Hp} {η : Sto} : HX G W σ H η noX := fun _ _ _ _ _ _ _ _ q => q.elim
theorem tLc_of {G : Glob} {W : WX} {tg : Tg} {own : List Nat} {wi : TI'} {tc : TC'} {te : TE'} {σ : L2.St} {H : Hp} {Q : VK} (hv : ∀ i ∈ tgIx tg, i ∈ own)
    {ρ : Env} {η : Sto} {Y : KX} {K : List T → Sto → Prop} (hρ : EnvR G H η σ ρ) (hS : StoR G H η) (ht : wi ρ η Y fun ts sr η1 => wcomp (stays sr ts) (lcF own tg tc te ρ) ts [] η1 K) (hX : HX G W σ H η Y)
    (hV : ∀ ts D vs η' H' η1 H1, Frm η H η1 H1 → H1 D = none → Frm η1 H1 η' H' → H' D = some (.lst vs) → (get η' D = none ∧ ¬ G.Z D) → ValsR (G.hid (hidD G D)) H' η' ts vs → StoR (G.hid (hidD G D)) H' η' → K ts η' → Q (.ref D) H') :
    tLc (liftI G W wi) (gT G.K tg) (fun σ H Q => ∃ Z, liftC (G.hid Z) noW tc σ H Q) (fun σ H Q => ∃ Z, liftE (G.hid Z) noW te σ H Q) own σ H Q := by
  refine ⟨ρ, η, Y, _, hρ, hS, ht, hX, fun ts src J η1 H1 wk hl S1 f1 k1 D hD => ?_⟩
  have hZ : ∀ a, hidD G D a → G.Z a ∨ H1 a = none := fun a z => z.imp id fun e => by rw [e]; exact hD
  have nD := S1.nz hD
  refine ⟨fun i m H' => i ≤ ts.length ∧ m = ts.length - i ∧ ∃ η' acc us, H' D = some (.lst acc) ∧ acc.length ≤ i ∧ StoR (G.hid (hidD G D)) H' η' ∧ Frm η1 H1 η' H' ∧ ValsR (G.hid (hidD G D)) H' η' us acc ∧ wcomp (stays src ts) (lcF own tg tc te ρ) (ts.drop i) us η' K,
    ⟨ts.length, Nat.zero_le _, rfl, η1, [], [], upd_same, Nat.le_refl _, S1.hide hD hid_lst, Frm.new hD, .nil, k1⟩, ?_⟩
  rintro i m H' ⟨hi, rfl, η', acc, us, hDa, ha, S', f', rs, hw⟩
  by_cases hlt : i < ts.length
  · rw [List.drop_eq_getElem_cons hlt] at hw
    obtain ⟨st, hw⟩ := hw
    refine .inr ⟨wk.go _ hZ i H' η' hlt S' f' st, fun H'' => ∃ m', m' < ts.length - i ∧ (i + 1 ≤ ts.length ∧ m' = ts.length - (i + 1) ∧ ∃ η' acc us, H'' D = some (.lst acc) ∧ acc.length ≤ i + 1 ∧ StoR (G.hid (hidD G D)) H'' η' ∧ Frm η1 H1 η' H'' ∧ ValsR (G.hid (hidD G D)) H'' η' us acc ∧ wcomp (stays src ts) (lcF own tg tc te ρ) (ts.drop (i + 1)) us η' K), fun _ h => h, fun x H2 y => ?_⟩
    obtain ⟨t, et, rx, S2, f2⟩ := wk.yld _ hZ i H' η' x H2 S' f' st y hlt
    rw [List.getElem?_eq_getElem hlt] at et
    cases et
    obtain ⟨v, ev, hw⟩ := optF_inv hw
    have f12 := f'.trans f2
    have fin : ∀ {η3 : Sto} {H3 : Hp} {us3 : List T} {acc3 : List V}, StoR (G.hid (hidD G D)) H3 η3 → Frm η' H2 η3 H3 → H3 D = some (.lst acc3) → acc3.length ≤ i + 1 → ValsR (G.hid (hidD G D)) H3 η3 us3 acc3 → Frm η1 H1 η3 H3 → wcomp (stays src ts) (lcF own tg tc te ρ) (ts.drop (i + 1)) us3 η3 K →
        ∃ m', m' < ts.length - i ∧ (i + 1 ≤ ts.length ∧ m' = ts.length - (i + 1) ∧ ∃ η' acc us, H3 D = some (.lst acc) ∧ acc.length ≤ i + 1 ∧ StoR (G.hid (hidD G D)) H3 η' ∧ Frm η1 H1 η' H3 ∧ ValsR (G.hid (hidD G D)) H3 η' us acc ∧ wcomp (stays src ts) (lcF own tg tc te ρ) (ts.drop (i + 1)) us η' K) :=
      fun {η3 H3 us3 acc3} S3 f3 hd hal rs3 fr k3 => ⟨ts.length - (i + 1), by omega, hlt, rfl, η3, acc3, us3, hd, hal, S3, fr, rs3, k3⟩
    have keepD : ∀ {η3 : Sto} {H3 : Hp}, Frm η' H' η3 H3 → H3 D = some (.lst acc) := fun f => f.hp D _ hDa (S'.hz D (.inr rfl)).2 (fun _ z => by cases z)
    have envs : EnvR (G.hid (hidD G D)) H2 η' (L2.wipe σ own) ⟨setvs ρ.v own, ρ.x⟩ := by
      have e1 : EnvR G H1 η1 (L2.wipe σ own) ⟨setvs ρ.v own, ρ.x⟩ := (hρ.frm f1).wipe
      have e2 : EnvR (G.hid (hidD G D)) H1 η1 (L2.wipe σ own) ⟨setvs ρ.v own, ρ.x⟩ := e1.mv (mv_Z hZ)
      exact e2.frm f12
    refine gT_ok (G := G.hid (hidD G D)) (x := ρ.x) envs rx ev fun σ2 hρ2 hwp => ⟨(hwp own hv).trans wipe_wipe, hidD G D, ⟨v, ρ.x⟩, η', noX, _, hρ2, S2, hw, .no, fun k η3 H3 S3 f3 k3 => ?_⟩
    cases k with
    | true =>
      rw [if_pos rfl]
      have k3 : te ⟨v, ρ.x⟩ η3 noX fun u η3 => wcomp (stays src ts) (lcF own tg tc te ρ) (ts.drop (i + 1)) (us ++ [u]) η3 K := k3
      refine ⟨hidD G D, ⟨v, ρ.x⟩, η3, noX, _, hρ2.frm f3, S3, k3, .no, fun u y η4 H4 ry S4 f4 k4 => ⟨acc, keepD ((f2.trans f3).trans f4), by omega, ?_⟩⟩
      have hd := keepD ((f2.trans f3).trans f4)
      have S5 := S4.grow (o := .lst (acc ++ [y])) hd hid_lst hid_lst
      have fD : Frm η1 H1 η4 (upd H4 D (.lst (acc ++ [y]))) := ((f12.trans f3).trans f4).updD hD
      refine ⟨ts.length - (i + 1), by omega, hlt, rfl, η4, acc ++ [y], us ++ [u], upd_same, by rw [List.length_append]; exact Nat.succ_le_succ ha, S5, fD, ?_, k4⟩
      exact ((rs.frm ((f2.trans f3).trans f4)).append (.cons ry .nil)).mv (G := G.hid (hidD G D)) mv_grow
    | false =>
      have k3 : wcomp (stays src ts) (lcF own tg tc te ρ) (ts.drop (i + 1)) (us ++ []) η3 K := k3
      rw [List.append_nil] at k3
      exact fin S3 f3 (keepD (f2.trans f3)) (by omega) (rs.frm (f2.trans f3)) (f12.trans f3) k3
  · have e : i = ts.length := by omega
    subst e
    rw [List.drop_length] at hw
    obtain ⟨st, hw⟩ := hw
    refine .inl ⟨wk.stop _ hZ H' η' S' f' st, ?_⟩
    exact hV us D acc η' H' η1 H1 f1 hD f' hDa ⟨(S'.hz D (.inr rfl)).2, nD.2⟩ rs S' hw
section
variable {G : Glob} {W : WX} {X : Cx} {elt tgE iter : Expr} {ifs : List Expr} {scope : Scope} {own : List (Str × Nat)} {pos : Pos} {tg : Tg} {wi : TI'} {tc : TC'} {te : TE'}
/-- what the parts of a comprehension keep -/
structure LcOk (G : Glob) (W : WX) (X : Cx) (elt tgE iter : Expr) (ifs : List Expr) (scope : Scope) (own : List (Str × Nat)) (tg : Tg) (wi : TI') (tc : TC') (te : TE') : Prop where
  hc : X.calm = true
  hN : X.N.Nodup
  hi : PI X tgE iter (liftI G W wi)
  ok : BlkOk X.N X.env.scope scope own
  hg : ∀ (s : Shared) (H : Hp) (C : Addr) (cl : List (Str × Addr)) (fp : List Addr), PG (X.blk s H scope (compEnvC scope cl C X.env) fp) tgE (gT G.K tg)
  ht : ∀ Z (s : Shared) (H : Hp) (C : Addr) (cl : List (Str × Addr)) (fp : List Addr), PTs (X.blk s H scope (compEnvC scope cl C X.env) fp) ifs (liftC (G.hid Z) noW tc)
  he : ∀ Z (s : Shared) (H : Hp) (C : Addr) (cl : List (Str × Addr)) (fp : List Addr), PE (X.blk s H scope (compEnvC scope cl C X.env) fp) elt (liftE (G.hid Z) noW te)
  hs : ∀ x, foldedSetIterable iter X.env x = pure x
  hv : ∀ i ∈ tgIx tg, i ∈ own.map (·.2)
theorem pe_any {X : Cx} {e : Expr} {α : Type} {t : α → TE} (h : ∀ a, PE X e (t a)) : PE X e fun σ H Q => ∃ a, t a σ H Q := ⟨fun pins s σ H Q I ⟨a, q⟩ => (h a).run pins s σ H Q I q⟩
theorem pts_any {X : Cx} {e : List Expr} {α : Type} {t : α → TT} (h : ∀ a, PTs X e (t a)) : PTs X e fun σ H Q => ∃ a, t a σ H Q := ⟨fun pins s σ H Q I ⟨a, q⟩ => (h a).run pins s σ H Q I q⟩
theorem q_lc0 (o : LcOk G W X elt tgE iter ifs scope own tg wi tc te) : PE X (.ListComp elt [⟨tgE, iter, ifs, 0⟩] scope pos) (tLc (liftI G W wi) (gT G.K tg) (fun σ H Q => ∃ Z, liftC (G.hid Z) noW tc σ H Q) (fun σ H Q => ∃ Z, liftE (G.hid Z) noW te σ H Q) (own.map (·.2))) :=
  pe_lc o.hc o.hN o.hi o.ok o.hg (fun s H C cl fp => pts_any fun Z => o.ht Z s H C cl fp) (fun s H C cl fp => pe_any fun Z => o.he Z s H C cl fp) o.hs
abbrev wLc (own : List Nat) (tg : Tg) (wi : TI') (tc : TC') (te : TE') : TE' := fun ρ η X K => wi ρ η X fun ts sr η1 => wcomp (stays sr ts) (lcF own tg tc te ρ) ts [] η1 fun us η' => K (.cl us) η'
abbrev wLcM (own : List Nat) (tg : Tg) (wi : TI') (tc : TC') (te : TE') : TE' := fun ρ η X K => wi ρ η X fun ts sr η1 => wcomp (stays sr ts) (lcF own tg tc te ρ) ts [] η1 fun us η' => ∀ p, get η' p = none → K (.ref p) ((p, .lst us) :: η')
theorem lc_imp {own : List Nat} (hv : ∀ i ∈ tgIx tg, i ∈ own) {σ : L2.St} {H : Hp} {Q : VK} (h : liftE G W (wLc own tg wi tc te) σ H Q) : tLc (liftI G W wi) (gT G.K tg) (fun σ H Q => ∃ Z, liftC (G.hid Z) noW tc σ H Q) (fun σ H Q => ∃ Z, liftE (G.hid Z) noW te σ H Q) own σ H Q := by
  obtain ⟨ρ, η, Y, K, hρ, hS, ht, hX, hQ⟩ := h
  exact tLc_of hv hρ hS ht hX fun ts D vs η' H' η1 H1 f1 h1 f2 hD n rs S k => hQ (.cl ts) (.ref D) η' H' (.cl (.inl ⟨.inl hD, n⟩) (rs.mv (G := G.hid (hidD G D)) (Z := G.Z) mv_out)) S.show' (f1.trans f2) k
theorem lcM_imp {own : List Nat} (hv : ∀ i ∈ tgIx tg, i ∈ own) {σ : L2.St} {H : Hp} {Q : VK} (h : liftE G W (wLcM own tg wi tc te) σ H Q) : tLc (liftI G W wi) (gT G.K tg) (fun σ H Q => ∃ Z, liftC (G.hid Z) noW tc σ H Q) (fun σ H Q => ∃ Z, liftE (G.hid Z) noW te σ H Q) own σ H Q := by
  obtain ⟨ρ, η, Y, K, hρ, hS, ht, hX, hQ⟩ := h
  exact tLc_of hv hρ hS ht hX fun ts D vs η' H' η1 H1 f1 h1 f2 hD n rs S k => hQ (.ref D) (.ref D) ((D, .lst ts) :: η') H' (.ref D) (S.tell n.2 hD rs) (f1.trans (f2.tell h1)) (k D n.1)

/-- a comprehension as a value; as a list that may change -/
theorem q_lc (o : LcOk G W X elt tgE iter ifs scope own tg wi tc te) : PE X (.ListComp elt [⟨tgE, iter, ifs, 0⟩] scope pos) (liftE G W (wLc (own.map (·.2)) tg wi tc te)) := (q_lc0 o).imp fun σ H Q h => lc_imp o.hv h
theorem q_lcM (o : LcOk G W X elt tgE iter ifs scope own tg wi tc te) : PE X (.ListComp elt [⟨tgE, iter, ifs, 0⟩] scope pos) (liftE G W (wLcM (own.map (·.2)) tg wi tc te)) := (q_lc0 o).imp fun σ H Q h => lcM_imp o.hv h
end
end TL

/-! statements -/
namespace TL
open PySem PySem.Spec PyProof.Rows L2
abbrev TS' := Dn → Env → Sto → Prop
structure HD (G : Glob) (D : Ends) (H : Hp) (η : Sto) (d : Dn) : Prop where
  nx : ∀ σ' ρ' η' H', EnvR G H' η' σ' ρ' → StoR G H' η' → Frm η H η' H' → d.nx ρ' η' → D.nx σ' H'
  rt : HQ G D.rt H η d.rt
  bk : ∀ σ' ρ' η' H', EnvR G H' η' σ' ρ' → StoR G H' η' → Frm η H η' H' → d.bk ρ' η' → D.bk σ' H'
  ct : ∀ σ' ρ' η' H', EnvR G H' η' σ' ρ' → StoR G H' η' → Frm η H η' H' → d.ct ρ' η' → D.ct σ' H'
theorem HD.frm {G : Glob} {D : Ends} {H H1 : Hp} {η η1 : Sto} {d : Dn} (f : Frm η H η1 H1) (h : HD G D H η d) : HD G D H1 η1 d :=
  ⟨fun σ' ρ' η' H' a b c q => h.nx σ' ρ' η' H' a b (f.trans c) q, h.rt.frm f, fun σ' ρ' η' H' a b c q => h.bk σ' ρ' η' H' a b (f.trans c) q, fun σ' ρ' η' H' a b c q => h.ct σ' ρ' η' H' a b (f.trans c) q⟩
abbrev HXs (G : Glob) (W : WX) (H : Hp) (η : Sto) (Y : KX) : Prop := ∀ σ, HX G W σ H η Y
theorem HXs.frm {G : Glob} {W : WX} {H H1 : Hp} {η η1 : Sto} {Y : KX} (f : Frm η H η1 H1) (h : HXs G W H η Y) : HXs G W H1 η1 Y := fun σ => (h σ).frm f
def liftS (G : Glob) (W : WX) (t : TS') : TS := fun D σ H => ∃ ρ η d, EnvR G H η σ ρ ∧ StoR G H η ∧ t d ρ η ∧ HXs G W H η d.X ∧ HD G D H η d
theorem _root_.L2.PS.imp {X : Cx} {e : Stmt} {t u : TS} (h : PS X e t) (i : ∀ D σ H, u D σ H → t D σ H) : PS X e u := ⟨fun pins s σ H D I q => h.run pins s σ H D I (i D σ H q)⟩
theorem _root_.L2.PSs.imp {X : Cx} {e : List Stmt} {t u : TS} (h : PSs X e t) (i : ∀ D σ H, u D σ H → t D σ H) : PSs X e u := ⟨fun pins s σ H D I q => h.run pins s σ H D I (i D σ H q)⟩
section
variable {G : Glob} {W : WX} {X : Cx} {e a b c : Expr} {ta tb tc : TE'} {cA : TC'} {pos : Pos} {ss rest : List Stmt} {s : Stmt} {t u : TS'}
theorem s_nil : PSs X [] (liftS G W fun D ρ η => D.nx ρ η) := pss_nil.imp fun D σ H ⟨ρ, η, d, hρ, hS, ht, hX, hD⟩ => hD.nx σ ρ η H hρ hS .refl ht
theorem s_cons (h1 : PS X s (liftS G W t)) (h2 : PSs X rest (liftS G W u)) : PSs X (s :: rest) (liftS G W fun D ρ η => t ⟨fun ρ' η' => u D ρ' η', D.rt, D.bk, D.ct, D.X⟩ ρ η) :=
  (pss_cons h1 h2).imp fun D σ H ⟨ρ, η, d, hρ, hS, ht, hX, hD⟩ => ⟨ρ, η, _, hρ, hS, ht, hX, fun σ' ρ' η' H' a b f q => ⟨ρ', η', d, a, b, q, HXs.frm f hX, hD.frm f⟩, hD.rt, hD.bk, hD.ct⟩
theorem s_weak {ss : List Stmt} (h : PSs X ss (liftS G W u)) : PSs X ss (liftS G W fun D ρ η => ∃ η', Sub η' η ∧ u D ρ η') :=
  h.imp fun D σ H ⟨ρ, η, d, hρ, hS, ⟨η', hs, ht⟩, hX, hD⟩ => ⟨ρ, η', d, hρ.frm hs.frm, hS.sub hs, ht, HXs.frm hs.frm hX, hD.frm hs.frm⟩
theorem s_pass : PS X (.Pass pos) (liftS G W fun D ρ η => D.nx ρ η) := ps_pass.imp fun D σ H ⟨ρ, η, d, hρ, hS, ht, hX, hD⟩ => hD.nx σ ρ η H hρ hS .refl ht
theorem s_brk : PS X (.Break pos) (liftS G W fun D ρ η => D.bk ρ η) := ps_break.imp fun D σ H ⟨ρ, η, d, hρ, hS, ht, hX, hD⟩ => hD.bk σ ρ η H hρ hS .refl ht
theorem s_cont : PS X (.Continue pos) (liftS G W fun D ρ η => D.ct ρ η) := ps_continue.imp fun D σ H ⟨ρ, η, d, hρ, hS, ht, hX, hD⟩ => hD.ct σ ρ η H hρ hS .refl ht
theorem s_retN : PS X (.Return none pos) (liftS G W fun D ρ η => D.rt .non η) := ps_retN.imp fun D σ H ⟨ρ, η, d, hρ, hS, ht, hX, hD⟩ => hD.rt.here hS .non ht
theorem s_ret (ha : PE X e (liftE G W ta)) : PS X (.Return (some e) pos) (liftS G W fun D ρ η => ta ρ η D.X D.rt) := (ps_ret ha).imp fun D σ H ⟨ρ, η, d, hρ, hS, ht, hX, hD⟩ => ⟨ρ, η, _, _, hρ, hS, ht, hX σ, hD.rt⟩
theorem s_expr (ha : PE X e (liftE G W ta)) (hs : swapsWith e none pos.line X.env = pure false) : PS X (.Expr e pos) (liftS G W fun D ρ η => ta ρ η D.X fun _ η' => D.nx ρ η') := (ps_expr ha hs).imp fun D σ H ⟨ρ, η, d, hρ, hS, ht, hX, hD⟩ =>
  ⟨ρ, η, _, _, hρ, hS, ht, hX σ, fun t v η' H' r S f k => hD.nx σ ρ η' H' (hρ.frm f) S f k⟩
theorem s_set {i : Nat} {x : Str} {p : Pos} (hN : X.N.Nodup) (hi : X.N[i]? = some x) (hx : Loc X.env.scope x) (ha : PE X e (liftE G W ta)) (hs : swapsWith e (some (.Name x p)) pos.line X.env = pure false) (hf : X.fn x = true ∨ X.env.scope.names.lookup x = some .local) :
    PS X (.Assign [.Name x p] e pos) (liftS G W fun D ρ η => ta ρ η D.X fun t η' => D.nx (ρ.put i t) η') := (ps_set hN hi hx ha hs hf).imp fun D σ H ⟨ρ, η, d, hρ, hS, ht, hX, hD⟩ =>
  ⟨ρ, η, _, _, hρ, hS, ht, hX σ, fun t v η' H' r S f k => hD.nx _ _ η' H' ((hρ.frm f).set r) S f k⟩
/-- name = [..] -/
theorem set_lc {i : Nat} {D : Ends} {σ : L2.St} {H : Hp} {w : TE'} (h : liftS G W (fun D ρ η => w ρ η D.X fun t η' => D.nx (ρ.put i t) η') D σ H) : liftE G W w σ H (fun x H1 => gName i x σ H1 D.nx) := by
  obtain ⟨ρ, η, d, hρ, hS, ht, hX, hD⟩ := h
  exact ⟨ρ, η, _, _, hρ, hS, ht, hX σ, fun t v η' H' r S f k => hD.nx _ _ η' H' ((hρ.frm f).set r) S f k⟩
section
variable {elt tgE iter : Expr} {ifs : List Expr} {scope : Scope} {own : List (Str × Nat)} {tg : Tg} {wi : TI'} {tc' : TC'} {te : TE'}
theorem s_setLc {i : Nat} {y : Str} {py spos : Pos} (o : LcOk G W X elt tgE iter ifs scope own tg wi tc' te) (hy : X.N[i]? = some y) (hyl : X.env.scope.names.lookup y = some .local) (hsw : swapsWith (.ListComp elt [⟨tgE, iter, ifs, 0⟩] scope pos) (some (.Name y py)) spos.line X.env = pure true) :
    PS X (.Assign [.Name y py] (.ListComp elt [⟨tgE, iter, ifs, 0⟩] scope pos) spos) (liftS G W fun D ρ η => wLc (own.map (·.2)) tg wi tc' te ρ η D.X fun t η' => D.nx (ρ.put i t) η') :=
  (ps_setLc o.hc o.hN hy hyl hsw o.hi o.ok o.hg (fun s H C cl fp => pts_any fun Z => o.ht Z s H C cl fp) (fun s H C cl fp => pe_any fun Z => o.he Z s H C cl fp) o.hs).imp fun D σ H h => lc_imp o.hv (set_lc h)
theorem s_setLcM {i : Nat} {y : Str} {py spos : Pos} (o : LcOk G W X elt tgE iter ifs scope own tg wi tc' te) (hy : X.N[i]? = some y) (hyl : X.env.scope.names.lookup y = some .local) (hsw : swapsWith (.ListComp elt [⟨tgE, iter, ifs, 0⟩] scope pos) (some (.Name y py)) spos.line X.env = pure true) :
    PS X (.Assign [.Name y py] (.ListComp elt [⟨tgE, iter, ifs, 0⟩] scope pos) spos) (liftS G W fun D ρ η => wLcM (own.map (·.2)) tg wi tc' te ρ η D.X fun t η' => D.nx (ρ.put i t) η') :=
  (ps_setLc o.hc o.hN hy hyl hsw o.hi o.ok o.hg (fun s H C cl fp => pts_any fun Z => o.ht Z s H C cl fp) (fun s H C cl fp => pe_any fun Z => o.he Z s H C cl fp) o.hs).imp fun D σ H h => lcM_imp o.hv (set_lc h)
end
theorem s_unp {tg : Tg} {tgE : Expr} (hg : PG X tgE (gT G.K tg)) (ha : PE X e (liftE G W ta)) (hs : swapsWithSole [tgE] e pos.line X.env = pure false) (hw : swappedStores [tgE] e X.env = pure none) (h1 : (assignEach [tgE] X.env).map (·.2) = [assign tgE X.env]) :
    PS X (.Assign [tgE] e pos) (liftS G W fun D ρ η => ta ρ η D.X fun t η' => optF (bindTg tg t ρ.v) fun v => D.nx ⟨v, ρ.x⟩ η') := (ps_asg ha hg hs hw h1).imp fun D σ H ⟨ρ, η, d, hρ, hS, ht, hX, hD⟩ =>
  ⟨ρ, η, _, _, hρ, hS, ht, hX σ, fun t v η' H' r S f k => by
    obtain ⟨w, ew, q⟩ := optF_inv k
    exact gT_ok (hρ.frm f) r ew fun σ' hσ _ => hD.nx σ' _ η' H' hσ S f q⟩
theorem s_par {i j : Nat} {x y : Str} {px py pt : Pos} {kt k2 pt2} (hc : X.calm = true) (hN : X.N.Nodup) (hi : X.N[i]? = some x) (hj : X.N[j]? = some y) (hij : i ≠ j) (hx : X.env.scope.names.lookup x = some .local) (hy : X.env.scope.names.lookup y = some .local)
    (hp : PS X (.Assign [.Tuple [.Name x px, .Name y py] kt pt] (.Tuple [a, b] k2 pt2) pos) (tPar i j (tCons (liftE G W ta) (tCons (liftE G W tb) tNil)))) :
    PS X (.Assign [.Tuple [.Name x px, .Name y py] kt pt] (.Tuple [a, b] k2 pt2) pos) (liftS G W fun D ρ η => ta ρ η D.X fun t η1 => tb ρ η1 D.X fun u η2 => D.nx ((ρ.put i t).put j u) η2) := hp.imp fun D σ H ⟨ρ, η, d, hρ, hS, ht, hX, hD⟩ =>
  lift2 (K' := fun t u η2 => d.nx ((ρ.put i t).put j u) η2) hρ hS ht (hX σ) fun t u x y η2 H2 rx ry S2 f2 k => ⟨x, y, rfl, hD.nx _ _ η2 H2 (((hρ.frm f2).set (x := ρ.x) rx).set ry) S2 f2 k⟩
theorem s_setIdx {o i : Expr} {to ti : TE'} {tpos : Pos} (ha : PE X e (liftE G W ta)) (ho : PE X o (liftE G W to)) (hi : PE X i (liftE G W ti)) (hns : ∀ v, assign (.Subscript o i tpos) X.env v = (do
      let ov ← holding [v] (eval o X.env)
      let iv ← holding [v, ov] (eval i X.env)
      standAt tpos
      holding [v, ov, iv] (setItem ov iv v)
      release [v, ov, iv] [])) (hs : swapsWithSole [.Subscript o i tpos] e pos.line X.env = pure false) (hw : swappedStores [.Subscript o i tpos] e X.env = pure none) :
    PS X (.Assign [.Subscript o i tpos] e pos) (liftS G W fun D ρ η => ta ρ η D.X fun t η1 => to ρ η1 D.X fun u η2 => ti ρ η2 D.X fun w η3 => optF (setV u w η3 t) fun η4 => D.nx ρ η4) := (ps_asg ha (pg_sub ho hi set_list hns) hs hw rfl).imp fun D σ H ⟨ρ, η, d, hρ, hS, ht, hX, hD⟩ =>
  lift1 hρ hS ht (hX σ) fun t x η1 H1 rx S1 f1 k1 => lift2 (K' := fun u w η3 => optF (setV u w η3 t) fun η4 => d.nx ρ η4) (hρ.frm f1) S1 k1 ((hX σ).frm f1) fun u w y z η3 H3 ry rz S3 f3 k3 => by
    obtain ⟨η4, e4, q⟩ := optF_inv k3
    cases ry <;> first
      | (cases e4; done)
      | (rename_i p
         cases rz <;> first
           | (cases e4; done)
           | (rename_i k
              unfold setV at e4
              simp only at e4
              cases g : get η3 p with
              | none => rw [g] at e4; cases e4
              | some ob =>
                rw [g] at e4
                cases ob with
                | lst xs =>
                  simp only [Option.map_eq_some_iff] at e4
                  obtain ⟨j, ej, rfl⟩ := e4
                  obtain ⟨vs, hv, rs⟩ := S3.ob p _ g
                  have fp : Frm η3 H3 (TL.put η3 p (.lst (xs.set j t))) (upd H3 p (.lst (vs.set j x))) := Frm.put g
                  refine ⟨p, vs, k, j, rfl, rfl, hv, by rw [← rs.length]; exact ej, ?_⟩
                  exact hD.nx σ ρ _ _ (((hρ.frm f1).frm f3).frm fp) (S3.put g ⟨_, upd_same, (ValsR.set (rx.frm f3) j rs).frm fp⟩) ((f1.trans f3).trans fp) q
                | _ => cases e4))
theorem s_if {p q : List Stmt} (hc : PT X c (liftC G W cA)) (h1 : PSs X p (liftS G W t)) (h2 : PSs X q (liftS G W u)) : PS X (.If c p q pos) (liftS G W fun D ρ η => cA ρ η D.X fun k η1 => ifB k (t D ρ η1) (u D ρ η1)) := (ps_if hc h1 h2).imp fun D σ H ⟨ρ, η, d, hρ, hS, ht, hX, hD⟩ =>
  ⟨ρ, η, _, _, hρ, hS, ht, hX σ, fun k η1 H1 S1 f1 q => ifB_split q (fun q => ⟨ρ, η1, d, hρ.frm f1, S1, q, HXs.frm f1 hX, hD.frm f1⟩) fun q => ⟨ρ, η1, d, hρ.frm f1, S1, q, HXs.frm f1 hX, hD.frm f1⟩⟩
theorem s_for {tg : Tg} {tgE iter : Expr} {body : List Stmt} {wi : TI'} (hp : PassesOwn (model X.prog X.w) X.A X.env X.xe) (hc : X.calm = true) (hi : PI X tgE iter (liftI G W wi)) (hg : PG X tgE (gT G.K tg)) (hb : PSs X body (liftS G W t)) (hs : ∀ x, foldedSetIterable iter X.env x = pure x) :
    PS X (.For tgE iter body [] pos) (liftS G W fun D ρ η => wi ρ η D.X fun ts sr η1 => wfor (stays sr ts) tg t D ts ρ η1) := (ps_for hp hc hi hg hb hs).imp fun D σ H ⟨ρ, η, d, hρ, hS, ht, hX, hD⟩ => by
  refine ⟨ρ, η, _, _, hρ, hS, ht, hX σ, fun ts src J η1 H1 wk hl S1 f1 k1 => ?_⟩
  have hZ : ∀ a, G.Z a → G.Z a ∨ H1 a = none := fun a z => .inl z
  refine ⟨fun i m σ' H' => i ≤ ts.length ∧ m = ts.length - i ∧ ∃ ρ' η', EnvR G H' η' σ' ρ' ∧ StoR G H' η' ∧ Frm η1 H1 η' H' ∧ wfor (stays src ts) tg t d (ts.drop i) ρ' η', ⟨_, Nat.zero_le _, rfl, ρ, η1, hρ.frm f1, S1, .refl, k1⟩, ?_⟩
  rintro i m σ' H' ⟨hi, rfl, ρ', η', hρ', S', f', hw⟩
  by_cases hlt : i < ts.length
  · rw [List.drop_eq_getElem_cons hlt] at hw
    obtain ⟨st, hw⟩ := hw
    refine .inr ⟨wk.go _ hZ i H' η' hlt S' f' st, fun σ'' H'' => ∃ m', m' < ts.length - i ∧ (i + 1 ≤ ts.length ∧ m' = ts.length - (i + 1) ∧ ∃ ρ' η', EnvR G H'' η' σ'' ρ' ∧ StoR G H'' η' ∧ Frm η1 H1 η' H'' ∧ wfor (stays src ts) tg t d (ts.drop (i + 1)) ρ' η'), fun _ _ h => h, fun x H2 y => ?_⟩
    obtain ⟨t', et, rx, S2, f2⟩ := wk.yld _ hZ i H' η' x H2 S' f' st y hlt
    rw [List.getElem?_eq_getElem hlt] at et
    cases et
    obtain ⟨v, ev, hw⟩ := optF_inv hw
    have f12 := f'.trans f2
    have nxt : ∀ σ3 ρ3 η3 H3, EnvR G H3 η3 σ3 ρ3 → StoR G H3 η3 → Frm η' H2 η3 H3 → wfor (stays src ts) tg t d (ts.drop (i + 1)) ρ3 η3 → ∃ m', m' < ts.length - i ∧ (i + 1 ≤ ts.length ∧ m' = ts.length - (i + 1) ∧ ∃ ρ' η', EnvR G H3 η' σ3 ρ' ∧ StoR G H3 η' ∧ Frm η1 H1 η' H3 ∧ wfor (stays src ts) tg t d (ts.drop (i + 1)) ρ' η') :=
      fun σ3 ρ3 η3 H3 hρ3 S3 f3 k3 => ⟨ts.length - (i + 1), by omega, hlt, rfl, ρ3, η3, hρ3, S3, f12.trans f3, k3⟩
    refine gT_ok (x := ρ'.x) (hρ'.frm f2) rx ev fun σ2 hρ2 _ => ⟨⟨v, ρ'.x⟩, η', _, hρ2, S2, hw, HXs.frm (f1.trans f12) hX, ?_⟩
    exact ⟨nxt, hD.rt.frm (f1.trans f12), fun σ3 ρ3 η3 H3 hρ3 S3 f3 k3 => hD.nx σ3 ρ3 η3 H3 hρ3 S3 ((f1.trans f12).trans f3) k3, nxt⟩
  · have e : i = ts.length := by omega
    subst e
    rw [List.drop_length] at hw
    obtain ⟨st, hw⟩ := hw
    exact .inl ⟨wk.stop _ hZ H' η' S' f' st, hD.nx σ' ρ' η' H' hρ' S' (f1.trans f') hw⟩
theorem s_while {body : List Stmt} (hp : PassesOwn (model X.prog X.w) X.A X.env X.xe) (hc : PT X c (liftC G W cA)) (hb : PSs X body (liftS G W t)) :
    PS X (.While c body [] pos) (liftS G W fun D ρ η => ∃ n, wwhile (fun ρ' η' K => cA ρ' η' D.X K) t D n ρ η) := (ps_while hp hc hb).imp fun D σ H ⟨ρ, η, d, hρ, hS, ⟨n, ht⟩, hX, hD⟩ => by
  refine ⟨fun m σ' H' => ∃ ρ' η', EnvR G H' η' σ' ρ' ∧ StoR G H' η' ∧ Frm η H η' H' ∧ wwhile (fun ρ' η' K => cA ρ' η' d.X K) t d m ρ' η', ⟨n, ρ, η, hρ, hS, .refl, ht⟩, ?_⟩
  rintro m σ' H' ⟨ρ', η', hρ', S', f', hw⟩
  cases m with
  | zero => exact hw.elim
  | succ m =>
    refine ⟨ρ', η', d.X, _, hρ', S', hw, (hX σ').frm f', fun k η1 H1 S1 f1 q => ifB_split q (fun q => ?_) fun q => hD.nx σ' ρ' η1 H1 (hρ'.frm f1) S1 (f'.trans f1) q⟩
    have f2 := f'.trans f1
    have nxt : ∀ σ3 ρ3 η3 H3, EnvR G H3 η3 σ3 ρ3 → StoR G H3 η3 → Frm η1 H1 η3 H3 → wwhile (fun ρ' η' K => cA ρ' η' d.X K) t d m ρ3 η3 → ∃ m', m' < m + 1 ∧ ∃ ρ' η', EnvR G H3 η' σ3 ρ' ∧ StoR G H3 η' ∧ Frm η H η' H3 ∧ wwhile (fun ρ' η' K => cA ρ' η' d.X K) t d m' ρ' η' :=
      fun σ3 ρ3 η3 H3 hρ3 S3 f3 k3 => ⟨m, Nat.lt_succ_self _, ρ3, η3, hρ3, S3, f2.trans f3, k3⟩
    refine ⟨fun σ'' H'' => ∃ m', m' < m + 1 ∧ ∃ ρ' η', EnvR G H'' η' σ'' ρ' ∧ StoR G H'' η' ∧ Frm η H η' H'' ∧ wwhile (fun ρ' η' K => cA ρ' η' d.X K) t d m' ρ' η', fun _ _ h => h, ρ', η1, _, hρ'.frm f1, S1, q, HXs.frm f2 hX, ?_⟩
    exact ⟨nxt, hD.rt.frm f2, fun σ3 ρ3 η3 H3 hρ3 S3 f3 k3 => hD.nx σ3 ρ3 η3 H3 hρ3 S3 (f2.trans f3) k3, nxt⟩
/-- a list of the store that nobody changes any more -/
theorem q_frz {i : Nat} {x : Str} {p : Pos} (hN : X.N[i]? = some x) (hv : Vis X.env.scope x) (hd : (x == ("__debug__" : Str)) = false) (hcd : (x == ("__classdict__" : Str)) = false) : PE X (.Name x p) (liftE G W fun ρ η _ K => optF (frzV (nth ρ.v i) η) fun q => K (.cl q.1) (TL.del η q.2)) :=
  (pe_var hN hv hd hcd).imp fun σ H Q ⟨ρ, η, Y, K, hρ, hS, ht, hX, hQ⟩ => by
    obtain ⟨⟨xs, a⟩, e, q⟩ := optF_inv ht
    have e' : nth ρ.v i = some (.ref a) ∧ get η a = some (.lst xs) := by
      cases hn : nth ρ.v i with
      | none => rw [hn] at e; cases e
      | some t =>
        rw [hn] at e
        cases t with
        | ref b =>
          unfold frzV at e
          simp only at e
          cases g : get η b with
          | none => rw [g] at e; cases e
          | some o =>
            rw [g] at e
            cases o with
            | lst ys => cases e; exact ⟨rfl, g⟩
            | _ => cases e
        | _ => cases e
    obtain ⟨e1, g⟩ := e'
    obtain ⟨v, e2, r⟩ := hρ.val i _ e1
    cases r
    obtain ⟨vs, hv, rs⟩ := hS.ob a _ g
    have f : Frm η H (TL.del η a) H := Sub.del.frm
    refine ⟨.ref a, e2, hQ (.cl xs) (.ref a) (TL.del η a) H (.cl (.inl ⟨.inl hv, ?_, fun z => ?_⟩) (rs.frm f)) (hS.sub Sub.del) f q⟩
    · rw [get_del, if_pos rfl]
    · rw [(hS.hz a z).2] at g; cases g
theorem q_weak (ha : PE X a (liftE G W ta)) : PE X a (liftE G W fun ρ η X K => ta ρ η X fun u η' => ∃ η'', Sub η'' η' ∧ K u η'') := ha.imp fun σ H Q ⟨ρ, η, Y, K, hρ, hS, ht, hX, hQ⟩ =>
  lift1 hρ hS ht hX fun u x η1 H1 rx S1 f1 ⟨η2, hs, k⟩ => hQ u x η2 H1 (rx.frm hs.frm) (S1.sub hs) (f1.trans hs.frm) k
end
end TL

set_option maxHeartbeats 2000000
/-! an exception whose __init__ says super().__init__(f), self.f = f -/
namespace TL
open PySem PySem.Spec PyProof.Rows L2
open PySem.W in
abbrev exCx (P : Program) (w : World) (K : PySem.W.Frag) (mg : Str → Option Value) (base : Heap) (N : List Str) (qual : Str) (scope : Scope) (f : Addr) (cd : Value) (cc : Addr) (A : Around) (outer : List PySem.Env) (s : Shared) (H : Hp) : Cx where
  prog := P
  w := w
  K := K
  mg := mg
  base := base
  A := A.deeper (ksEnv qual scope s.heap.objs.size f cd cc)
  N := N
  s_0 := s
  H_0 := H
  env := ksEnv qual scope s.heap.objs.size f cd cc
  outer := outer
  stack := ksEnv qual scope s.heap.objs.size f cd cc :: outer
  ex := []
  calm := true
  fn := fun _ => false
  pn := []
  xe := fun _ _ => False
/-- what such an __init__ promises -/
def spExn (C : Addr) (fld : Str) : Sp := fun vs H Q _ => ∃ e y, vs = [.ref e, y] ∧ H e = some (exo e C none) ∧ ∀ dx, H dx = none → dx ≠ e → Q .non (upd (upd H dx (exd dx [(fld, y)])) e (exo e C (some dx)))
section
variable {P : Program} {w : World} {K : PySem.W.Frag} {mg : Str → Option Value} {base : Heap} {CX : CXT} {k : Nat} {name qual : Str} {params : Arguments} {scope : Scope} {dV kV doc pm ct oc : Value} {an od : Option Addr} {osl : Array (Option Value)}
  {C fI cc cda : Addr} {fld : Str} {ccl cl : Value} {cdd cld : Option Addr} {vs : Array Value} {ccs csl : Array (Option Value)} {file : Str} {tf : Tok} {ar : Arg} {p0 p1 p2 p3 p4 p5 p6 p7 p8 p9 : Pos}
abbrev exBody (fld : Str) (p0 p1 p2 p3 p4 p5 p6 p7 p8 p9 : Pos) : List Stmt := [.Expr (.Call (.Attribute (.Call (.Name "super" p0) [] [] p1) "__init__" p2) [.Name fld p3] [] p4) p5, .Assign [.Attribute (.Name "self" p6) fld p7] (.Name fld p8) p9]
/-- what the scope of such an __init__ says -/
structure ExScope (scope : Scope) (fld : Str) : Prop where
  kind : scope.kind = .function
  co : scope.isCoroutine = false
  gen : scope.isGenerator = false
  sup : scope.names.lookup ("super" : Str) = some .globalImplicit
  cls : scope.names.lookup ("__class__" : Str) = some .free
  slf : scope.names.lookup ("self" : Str) = some .local
  fl : scope.names.lookup fld = some .local
  nocell : ∀ x ∈ scope.names, x.2 ≠ .cell
  free : ∀ x ∈ scope.names, x.2 = .free → x.1 = "__class__"
  ne : fld ≠ "self"
  nd : (fld == ("__debug__" : Str)) = false
  nc : (fld == ("__classdict__" : Str)) = false
theorem exn_inv (S : ExScope scope fld) {A : Around} {outer : List PySem.Env} {s : Shared} {H : Hp} (hd : A.handled = none) (e0 : Env0 P w K mg base A outer s H) (hcell : K.lookup cc = some ⟨cl, cld, .cell (some (.ref C)), csl⟩) {e : Addr} {y : V} {u : Value} (ry : RelV y u)
    {h1 : Heap} {tk : Nat} (hn : h1.Ns s.heap.objs.size fun x => ([("self", .ref e), (fld, u)] : List (Str × Value)).reverse.lookup x) (hk : ∀ b o, s.heap.get? b = some o → h1.get? b = some o) :
    Inv (exCx P w K mg base ["self", fld] qual scope fI (.ref cda) cc A outer s H) [] [some (.ref e), some y] H { s with heap := h1, toks := tk } := by
  have hcc : base.get? cc = some ⟨cl, cld, .cell (some (.ref C)), csl⟩ := e0.mod.kin _ _ hcell
  have lkc : ∀ x c, ([("__class__", cc)] : List (Str × Addr)).lookup x = some c → x = "__class__" ∧ c = cc := fun x c h => by
    rw [List.lookup_cons] at h
    split at h
    · rename_i hb
      exact ⟨by simpa using hb, (Option.some.inj h).symm⟩
    · cases h
  have noA : ∀ b : Addr, b ∉ ([] : List Addr) := fun b z => by simp at z
  refine ⟨⟨e0.mod, S.kind, rfl, rfl, Nat.le_refl _, fun y z c h1 h2 => ?_, fun y hy => ?_, fun y c z _ => absurd z (by simp), fun _ => hd, Around.frames_deeper e0.frames, .inr ⟨rfl, rfl⟩, fun b z => absurd z (noA b), e0.bs, e0.bsz, fun b _ _ => noA b, fun b z => absurd z (noA b), e0.funs, e0.frf⟩,
    rfl, e0.bare, Un.kept hk, ⟨_, hn, fun i x v h1 h2 h3 => ?_⟩, fun y c h => ?_, e0.hok.fresh (Nat.le_refl _), fun y c h => ?_, fun p hp => absurd (show p ∈ ([] : List (Addr × Obj)) from hp) (by simp), e0.hok.kept hk, rfl⟩
  · exact (lkc _ _ h1).1.trans (lkc _ _ h2).1.symm
  · have hy : scope.names.lookup y = some .cell ∨ scope.names.lookup y = some .free := hy
    rcases hy with hy | hy
    · exact absurd rfl (S.nocell _ (PySem.mem_of_lookup hy))
    · have := S.free _ (PySem.mem_of_lookup hy) rfl
      subst this
      exact ⟨cc, rfl⟩
  · match i, h1, h2 with
    | 0, h1, h2 =>
      cases h1
      cases h2
      refine ⟨.ref e, rfl, .inl ⟨S.slf, ?_⟩⟩
      show ([(fld, u), ("self", .ref e)] : List (Str × Value)).lookup ("self" : Str) = _
      rw [List.lookup_cons]
      have : (("self" : Str) == fld) = false := by simpa using S.ne.symm
      rw [this]
      rfl
    | 1, h1, h2 =>
      cases h1
      cases h2
      refine ⟨u, ry, .inl ⟨S.fl, ?_⟩⟩
      show ([(fld, u), ("self", .ref e)] : List (Str × Value)).lookup fld = _
      rw [List.lookup_cons]
      simp
    | i + 2, h1, h2 => simp at h1
  · obtain ⟨_, rfl⟩ := lkc _ _ h
    exact ⟨_, _, hk _ _ (e0.bs _ _ hcc).1, rfl⟩
  · obtain ⟨_, rfl⟩ := lkc _ _ h
    exact (e0.bs _ _ hcc).2
/-- super().__init__(..) of a ValueError, run -/
theorem exn_super {X : Cx} {pins : List (Addr × Obj)} {σ : L2.St} {H : Hp} {s : Shared} {e u : Addr} {rest : List Value} {A : Around} {E : Value → Shared → Prop} {Q : Value → Shared → Prop} (T : OexC X.K C) (I : Inv X pins σ H s) (he : H e = some (exo e C none)) (hu : s.heap.get? u = some (PySem.W.kxs_mw "ValueError.__init__" e)) (hl : rest.length ≤ sizeLine)
    (h : ∀ s', Inv X pins σ H s' → Q .none s') : wpAny (model X.prog X.w) A (call (.ref u) rest) Q E s := by
  obtain ⟨nm, q, N, bs, bm, sn, sub, ab, col, dd, k0, k1, k2, k3, k5, hC, hbm⟩ := T.cls
  obtain ⟨t1, ho⟩ := exo_at I.hok he
  obtain ⟨hp, g, dr, t, os⟩ := s
  refine wpAny_call (codeAny_of_tree ?_)
  show wpAny _ A.in1 (callAny (.ref u) { pos := rest, kw := [] }) _ _ _
  simp only [callAny]
  refine wpAny_bind (wpAny_load hu ?_)
  have hmw : (Value.type "method-wrapper" == Value.type "method" || Value.type "method-wrapper" == Value.type "builtin_function_or_method" || Value.type "method-wrapper" == Value.type "method-wrapper") = true := by decide
  simp only [PySem.W.kxs_mw, hmw, if_true]
  refine PySem.W.KFB.if_so (by decide) ?_
  refine wpAny_bind (PySem.W.check_bound_init F.excBase_ValueError.toExcCallFacts (I.kIn _ _ hC) ho rfl (wpAny_bind (wpAny_pure (wpAny_pure ?_))))
  refine ⟨plainId_quiet F.excBase_ValueError.init.plain _, codeAny_builtin F.excBase_ValueError.initEntry ?_⟩
  refine PySem.W.exc_init_tree (cls := .ref C) (t0 := t1) (dv := none) (c2 := .none) (c3 := .none) (b4 := .bool false) ho hl fun h' kp hx ht => ?_
  have J := I.write (t' := t) (x := e) (e := e) (o := exo e C none) (by rw [he]; exact True.intro) (.inl rfl) kp ⟨_, hx⟩ (exo_ok hx)
  have eu : upd H e (exo e C none) = H := funext fun b => by
    by_cases hb : b = e
    · subst hb; rw [upd_same, he]
    · rw [upd_ne hb]
  rw [eu] at J
  exact h _ J
theorem exCallEq {env : PySem.Env} (hline : (p2.endLine == p4.line) = true) : eval (.Call (.Attribute (.Call (.Name "super" p0) [] [] p1) "__init__" p2) [.Name fld p3] [] p4) env = (do
      let ov ← attributeBase (.Call (.Name "super" p0) [] [] p1) "__init__" env (eval (.Call (.Name "super" p0) [] [] p1) env)
      standAt p2.atName
      let (f, first) ← holding [ov] (getMethod ov "__init__" (do return (← importBound (.Call (.Name "super" p0) [] [] p1) env).getD true))
      callWith p4 f first (backTo p4 (starEach [.Name fld p3] env)) []) := by
  have e : methodCallPos true (.Call (.Name "super" p0) [] [] p1) env p2 p4 = pure p4 := by
    unfold methodCallPos
    rw [hline]
    rfl
  have e2 : ∀ ov, methodCall (.Call (.Name "super" p0) [] [] p1) "__init__" p2 p4 env ov 1 (backTo p4 (starEach [.Name fld p3] env)) [] = (do
      let (f, first) ← holding [ov] (getMethod ov "__init__" (do return (← importBound (.Call (.Name "super" p0) [] [] p1) env).getD true))
      callWith p4 f first (backTo p4 (starEach [.Name fld p3] env)) []) := fun ov => by
    show (holding [ov] (getMethod ov "__init__" _) >>= fun q => methodCallPos true (.Call (.Name "super" p0) [] [] p1) env p2 p4 >>= fun cp => callWith cp q.1 q.2 _ _) = _
    rw [e]
    rfl
  show (attributeBase _ _ _ _ >>= fun ov => standAt p2.atName >>= fun _ => methodCall (.Call (.Name "super" p0) [] [] p1) "__init__" p2 p4 env ov 1 (backTo p4 (starEach [.Name fld p3] env)) []) = _
  simp only [e2]
open PySem.W in
theorem exn_ok (lk : K.lookup fI = some ⟨oc, od, .func (ksFn name qual params (exBody fld p0 p1 p2 p3 p4 p5 p6 p7 p8 p9) scope dV kV doc pm an (.ref cda) ct cc), osl⟩) (hcd : codeIn K (.ref cda) qual = true)
    (hcode : K.lookup cda = some ⟨ccl, cdd, .fields vs, ccs⟩) (hvs : vs[2]? = some (.str file tf)) (hfile : ((P.main.file : Str) == file) = true) (hcell : K.lookup cc = some ⟨cl, cld, .cell (some (.ref C)), csl⟩)
    (hp : (params.posonlyargs ++ params.args).head? = some ar) (har : ar.arg = "self") (T : OexC K C) (hsi : ks_superIn K C C "__init__" = some (some (.builtin "ValueError.__init__"))) (hVE : subIn K (.ref C) (.type "ValueError") = some true) (hself : mroIn K C (.ref C) = some true)
    (hth : nsIn K cStatics "thirdparty.any" = some none) (hsup : mg "super" = none) (S : ExScope scope fld) (hfl : findIn K (.ref C) fld = some none) (htop : (P.main.scope.names.lookup ("super" : Str)).isSome = false) (hline : (p2.endLine == p4.line) = true) :
    FnOk P w K mg base CX (k + 1) fI (ksFn name qual params (exBody fld p0 p1 p2 p3 p4 p5 p6 p7 p8 p9) scope dV kV doc pm an (.ref cda) ct cc) ["self", fld] (spExn C fld) := by
  refine ⟨fun vs H Q E ⟨e, y, hv, _⟩ => by rw [hv]; rfl, fun A outer s H args us ws Q E hr e0 hb r hsp => ?_⟩
  obtain ⟨e, y, rfl, he, hq⟩ := hsp
  cases r with
  | cons r1 rr =>
  cases rr with
  | cons ry rr =>
  cases rr
  cases r1
  rename_i u
  have KX : K.In s.heap := e0.mod.kin.keeps fun b o q => (e0.bs b o q).1
  have lim : s.heap.NoLimit := e0.mod.nolimit.keeps fun b o q => (e0.bs b o q).1
  refine ks_codeAny_call_defAt hr.depth (KX _ _ lk) rfl lim (codeRec_of KX hcd) rfl hb S.nocell (fun x hx => ?_) (fun h1 hn hk => ?_) S.co S.gen S.kind
  · have hx : x ∈ ([("self", Value.ref e), (fld, u)] : List (Str × Value)) := hx
    rcases List.mem_cons.mp hx with rfl | hx
    · exact S.slf
    · obtain rfl := List.mem_singleton.mp hx
      exact S.fl
  have I1 : Inv (exCx P w K mg base ["self", fld] qual scope fI (.ref cda) cc A outer s H) [] [some (.ref e), some y] H { s with heap := h1, toks := s.toks + 2 } := exn_inv S hr.hd e0 hcell ry hn hk
  have KX1 : K.In h1 := KX.keeps hk
  obtain ⟨cdC, hcC⟩ : ∃ cdC, clsIn K C = some cdC := by
    cases z : clsIn K C with
    | none => unfold mroIn at hself; rw [z] at hself; cases hself
    | some cd => exact ⟨cd, rfl⟩
  obtain ⟨oD, hD1, hD2⟩ : ∃ oD, h1.get? C = some oD ∧ oD.data = .cls cdC := by
    unfold clsIn at hcC
    split at hcC
    · rename_i c d cd' sl ho
      cases hcC
      exact ⟨_, KX1 _ _ ho, rfl⟩
    · cases hcC
  obtain ⟨t1, ho⟩ := exo_at I1.hok he
  have ho : h1.get? e = _ := ho
  have II : InstAt h1 e _ C none := ⟨ho, rfl, rfl, trivial⟩
  have hec : e ≠ C := ks_ne KX1 II hcC
  have I0 := I1
  obtain ⟨mb, hb1, hb2⟩ := I0.mod.blt
  generalize hXX : exCx P w K mg base ["self", fld] qual scope fI (.ref cda) cc A outer s H = XX at I1
  have xP : XX.prog = P := by rw [← hXX]
  have xw : XX.w = w := by rw [← hXX]
  have xK : XX.K = K := by rw [← hXX]
  have xA : XX.A = A.deeper (ksEnv qual scope s.heap.objs.size fI (.ref cda) cc) := by rw [← hXX]
  have xe : XX.env = ksEnv qual scope s.heap.objs.size fI (.ref cda) cc := by rw [← hXX]
  have xN : XX.N = ([("self" : Str), fld] : List Str) := by rw [← hXX]
  have pf : PE XX (.Name fld p3) (tVar 1) := pe_var (by rw [xN]; rfl) (by rw [xe]; exact .inl S.fl) S.nd S.nc
  have pf8 : PE XX (.Name fld p8) (tVar 1) := pe_var (by rw [xN]; rfl) (by rw [xe]; exact .inl S.fl) S.nd S.nc
  have ps6 : PE XX (.Name "self" p6) (tVar 0) := pe_var (by rw [xN]; rfl) (by rw [xe]; exact .inl S.slf) (by decide) (by decide)
  -- the second statement
  have two : ∀ s2, Inv XX [] [some (.ref e), some y] H s2 → wpAny (model P w) (A.deeper (ksEnv qual scope s.heap.objs.size fI (.ref cda) cc)) (execs [.Assign [.Attribute (.Name "self" p6) fld p7] (.Name fld p8) p9] (ksEnv qual scope s.heap.objs.size fI (.ref cda) cc))
      (fun f s' => CR CX outer P w H s Q E (.ok (.ret (match f with | .ret v => v | _ => .none))) s') (fun _ _ => False) s2 := fun s2 I2 => by
    have ps : PSs XX [.Assign [.Attribute (.Name "self" p6) fld p7] (.Name fld p8) p9] (tOst XX.K fld (tVar 0) (tVar 1)) := pss_one (ps_ost ps6 pf8 rfl)
    have rn := ps.run [] s2 _ H { nx := fun _ H' => Q .non H', rt := Q } I2 ⟨y, rfl, .ref e, rfl, e, C, rfl, by rw [xK]; exact T, by rw [xK]; exact hfl, .inl ⟨he, fun dx hx hne => hq dx hx hne⟩⟩
    rw [xP, xw, xA, xe] at rn
    refine wpAny_mono rn (fun f s' hs => ?_) fun x s' z => by rw [← hXX] at z; exact z
    cases f with
    | next =>
      obtain ⟨σ', H', J, q⟩ := hs
      have hb' := J.base
      have ho' := J.hok
      have hs' := J.os
      rw [← hXX] at hb' ho' hs'
      exact ⟨.non, H', hs', J.bare, hb', ho', rfl, q⟩
    | ret v =>
      obtain ⟨x, σ', H', J, rx, q⟩ := hs
      have hb' := J.base
      have ho' := J.hok
      have hs' := J.os
      rw [← hXX] at hb' ho' hs'
      exact ⟨x, H', hs', J.bare, hb', ho', rx, q⟩
    | brk => obtain ⟨_, _, _, q⟩ := hs; exact q.elim
    | cont => obtain ⟨_, _, _, q⟩ := hs; exact q.elim
  have quiet : interactive (ksEnv qual scope s.heap.objs.size fI (.ref cda) cc) = false := by simp [interactive, S.kind]
  change _root_.PySem.wpAt (model P w) (A.deeper (ksEnv qual scope s.heap.objs.size fI (.ref cda) cc)) (.func (exBody fld p0 p1 p2 p3 p4 p5 p6 p7 p8 p9) (ksEnv qual scope s.heap.objs.size fI (.ref cda) cc)) (execs (exBody fld p0 p1 p2 p3 p4 p5 p6 p7 p8 p9) (ksEnv qual scope s.heap.objs.size fI (.ref cda) cc)) _ _ _
  refine ks_wpAt_execs_cons (ks_wpAt_Expr_any (ks_wpAt_MethodCall (ks_wpAt_super_base S.sup S.cls (by decide) rfl (KX1 _ _ lk) rfl hp rfl (KX1 _ _ hcode) rfl hvs hfile htop ?_) (exCallEq hline)) quiet rfl)
  rw [har]
  refine ks_loadName_global S.kind S.sup (Calls.loadGlobal_builtin (env := ksEnv qual scope s.heap.objs.size fI (.ref cda) cc) (I0.mod.glob.keeps I0.bk) hsup (hb1.keeps I0.bk) ((hb2 _ (by decide)).trans (by decide +kernel)) ⟨rfl, ?_⟩)
  refine wpAny_loadName_free S.kind S.cls rfl ⟨_, KX1 _ _ hcell, rfl⟩ ?_
  obtain ⟨mL, hL, hlk⟩ := id I1.loc
  have hvis : Vis XX.env.scope ("self" : Str) := by rw [xe]; exact .inl S.slf
  obtain ⟨u0, ru0, hu0⟩ := hlk 0 "self" (.ref e) (by rw [xN]; rfl) rfl hvis
  obtain rfl : u0 = Value.ref e := ru0
  have hmv : mL "self" = some (.ref e) := by
    rcases hu0 with ⟨_, q⟩ | ⟨q, _⟩
    · exact q
    · have q' : scope.names.lookup ("self" : Str) = some .cell ∨ scope.names.lookup ("self" : Str) = some .free := by rw [xe] at q; exact q
      rw [S.slf] at q'
      rcases q' with z | z <;> cases z
  have hLn : h1.Ns s.heap.objs.size mL := by rw [xe] at hL; exact hL
  refine wpAny_loadName_local S.kind S.slf hLn hmv ?_
  refine ks_wpAny_isType_cls hD1 hD2 ⟨rfl, ?_⟩
  refine ks_wpAny_call_super hD1 hD2 ho rfl (fun c z => by cases z) (looks_mroIn KX1 hself) (fun h2 hso kp => ?_)
  have I2 : Inv XX [] [some (.ref e), some y] H { s with heap := h2, toks := s.toks + 2 } := I1.kept (t' := s.toks + 2) kp
  have KX2 : K.In h2 := KX1.keeps kp
  have II2 : InstAt h2 e _ C none := ⟨kp _ _ ho, rfl, rfl, trivial⟩
  have hI : Looks (model P w) h2 (isInstance (.ref e) (.type "ValueError")) true := (II2.type).andThen (looks_subIn KX2 hVE)
  unfold ks_superIn at hsi
  rw [hcC] at hsi
  refine kxs_getMethod kxs_ValueError hso (looks_opaque KX2 hth) (l₀ := cdC.mro) (fun A Q E s k q => wpAny_bind ((looks_clsIn KX2 hcC) A _ E s k (wpAny_pure q))) rfl KX2 hsi hI hec (by decide) ?_
  have kq : ∀ b o, h2.get? b = some o → (h2.push (kxs_mw "ValueError.__init__" e)).get? b = some o := fun b o z => Heap.get?_push_of_some _ z
  have hmw : (h2.push (kxs_mw "ValueError.__init__" e)).get? h2.objs.size = some (kxs_mw "ValueError.__init__" e) := Heap.get?_push_size _ rfl
  have I3 : Inv XX [(h2.objs.size, kxs_mw "ValueError.__init__" e)] [some (.ref e), some y] H { s with heap := h2.push (kxs_mw "ValueError.__init__" e), toks := s.toks + 2 + 1 } := (I2.kept (t' := s.toks + 2 + 1) kq).pins_of fun p hp => by
    have ep : p = (h2.objs.size, kxs_mw "ValueError.__init__" e) := by simpa using (show p ∈ ([(h2.objs.size, kxs_mw "ValueError.__init__" e)] : List (Addr × Obj)) from hp)
    subst ep
    exact ⟨hmw, I2.hok.fresh (Nat.le_refl _), Nat.ne_of_gt I2.lt, I2.nofs (Nat.le_refl _), fun v z => by cases z⟩
  refine kxs_callWith (i := "ValueError.__init__") (x := e) rfl ?_
  have arg := (pa_cons pf pa_nil (by rfl)).run p4 _ _ _ H (fun vs H' => vs = [y] ∧ H' = H) I3 ⟨y, rfl, rfl, rfl⟩
  rw [xP, xw, xA, xe] at arg
  refine Calls.evalArgs_plain (wpAny_mono arg (fun us s4 ⟨vs4, H4, I4, r4, ev, eH⟩ => ?_) fun x s' z => by rw [← hXX] at z; exact z.elim)
  subst ev
  rw [eH] at I4
  obtain ⟨uz, rfl, rz⟩ := vals1 r4
  have hmw4 : s4.heap.get? h2.objs.size = some (kxs_mw "ValueError.__init__" e) := (I4.pin (h2.objs.size, kxs_mw "ValueError.__init__" e) (by simp)).1
  have I4 := I4.pins_of (pins' := []) fun p hp => I4.pin p (List.mem_append_left _ (by simpa using hp))
  refine ⟨hmw4, ?_⟩
  have go := exn_super (A := A.deeper (ksEnv qual scope s.heap.objs.size fI (.ref cda) cc)) (E := fun _ _ => False) (Q := fun v s' => v = .none ∧ Inv XX [] [some (.ref e), some y] H s') (C := C) (rest := [uz]) (by rw [xK]; exact T) I4 he hmw4 (by show 1 ≤ sizeLine; rw [sizeLine_eq]; omega) fun s' J => ⟨rfl, J⟩
  rw [xP, xw] at go
  refine wpAny_mono go (fun v s' ⟨_, J⟩ => ?_) fun _ _ z => z.elim
  show _root_.PySem.wpAt _ _ _ _ _ _ _
  refine wpAt_of_wpAny (wpAny_mono (two s' J) (fun _ _ z => z) fun _ _ z => z.elim)
end
end TL

set_option maxHeartbeats 2000000
/-! raise; a lambda handed to a def that catches -/
namespace TL
open PySem PySem.Spec PyProof.Rows L2
section
variable {G : Glob} {W : WX} {X : Cx} {a b c : Expr} {ta tb tc : TE'} {pos : Pos} {es : List Expr} {n m : Nat}
/-- what is known of an exception class with such an __init__ -/
structure ExnC (G : Glob) (i : Nat) (C : Addr) (fld : Str) : Prop where
  xs : G.xs[i]? = some (C, fld)
  T : OexC G.K C
  init : ∃ fI fd, PySem.W.findIn G.K (.ref C) "__init__" = some (some (.ref fI)) ∧ PySem.W.typeIn G.K (.ref fI) = some (.type "function") ∧ FnOk G.P G.w G.K G.mg G.base (L2.CX G.P G.w) 1 fI fd ["self", fld] (spExn C fld) ∧ Binds G.K fd ["self", fld] []
theorem s_raise {i : Nat} {x : Str} {C : Addr} {fld : Str} {p : Pos} (o : XG G n W X) (hn : 2 ≤ n) (F : ExnC G i C fld) (hg : Gl X x) (hm : X.mg x = some (.ref C)) (ha : PE X a (liftE G W ta)) (hdb : (x == ("__debug__" : Str)) = false) (hs : starEach [a] X.env = (false, eval a X.env) :: starEach [] X.env) :
    PS X (.Raise (some (.Call (.Name x p) [a] [] pos)) none pos2) (liftS G W fun D ρ η => ta ρ η D.X fun u η' => D.X ⟨i, u⟩ η') := by
  obtain ⟨fI, fd, f1, f2, f3, f4⟩ := F.init
  have f3' : FnOk X.prog X.w X.K X.mg X.base (L2.CX X.prog X.w) 1 fI fd ["self", fld] (spExn C fld) := by rw [o.P, o.w, o.K, o.mg, o.base]; exact f3
  have mk := pmk_oex (X := X) (ds := []) (dvs := []) (p := p) (pos := pos) (by rw [o.K]; exact F.T) (by rw [o.K]; exact f1) (by rw [o.K]; exact f2) f3' (o.room.mono hn) (by rw [o.K]; exact f4) .nil (passes_call o.tk fun _ _ _ _ h => h.elim) hg hm (pa_cons ha pa_nil hs) hdb hs (by rfl)
  refine (ps_raise o.calm o.tk mk).imp fun D σ H ⟨ρ, η, d, hρ, hS, ht, hX, hD⟩ => ?_
  refine lift1 hρ hS ht (hX σ) fun u v η1 H1 rv S1 fr k1 => ⟨by show 1 ≤ 1000; omega, fun e he => ⟨e, v, rfl, upd_same, fun dx hdx hne => ⟨rfl, dx, [(fld, v)], upd_same, ?_, ?_, ?_⟩⟩⟩
  · rw [upd_ne hne, upd_same]
  · rwa [upd_ne hne] at hdx
  · have hdx : H1 dx = none := by rwa [upd_ne hne] at hdx
    have eH : upd (L2.del (upd (upd (upd H1 e (exo e C none)) dx (exd dx [(fld, v)])) e (exo e C (some dx))) e) dx (.xd [(fld, v)]) = upd H1 dx (.xd [(fld, v)]) := funext fun z => by
      by_cases h1 : z = dx
      · subst h1; rw [upd_same, upd_same]
      · rw [upd_ne h1, upd_ne h1]
        by_cases h2 : z = e
        · subst h2; rw [del_same, he]
        · rw [del_ne h2, upd_ne h2, upd_ne h1, upd_ne h2]
    rw [eH]
    exact hX σ ⟨i, u⟩ η1 (.ref C) (some dx) _ ⟨C, fld, dx, v, F.xs, rfl, rfl, upd_same, rv.frm (Frm.new hdx)⟩ (S1.new hdx) (fr.trans (Frm.new hdx)) k1
/-! a def: try: call() except C as e: return e.f / return '' -/
theorem Takes.len {X : Cx} {W : WX} (t : Takes X W) : Takes X fun cls d σ H => σ.length = X.N.length → W cls d σ H := fun u s' ⟨a, B, sI, pins, σ, H, cls, d, e, I, nb, up, sky, na, os, ag, w⟩ => t u s' ⟨a, B, sI, pins, σ, H, cls, d, e, I, nb, up, sky, na, os, ag, w I.len⟩
open LamX in
def TTref (CS : Addr) (fld : Str) (ret : Str) : (XK → Hp → VK → Prop) → Hp → VK → Prop := fun tl H Q => tl (fun cls d H' => cls = .ref CS ∧ ∃ dd fs v, d = some dd ∧ H' dd = some (.xd fs) ∧ fs.lookup fld = some v ∧ Q v H') H fun _ H' => Q (.str ret) H'
open LamX in
theorem ref_gives {Ng : List Str} {x call e exn q fld ret : Str} {sg : Scope} {g CS : Addr} {cdg : Value} {j : Nat} {p1 p2 p3 p4 p5 p6 p7 p8 p9 p10 p11 : Pos} (T : XfC X.K CS) (hno : PySem.W.findIn X.K (.ref CS) fld = some none) (hex : PySem.W.exmOne X.K (.ref CS) (.ref CS) = some true)
    (hge : sg.names.lookup exn = some .globalImplicit) (hme : X.mg exn = some (.ref CS)) (hde : (exn == ("__debug__" : Str)) = false) (hN : Ng = [call, e]) (hnd : Ng.Nodup) (hle : sg.names.lookup e = some .local) (hd1 : (e == ("__debug__" : Str)) = false) (hd2 : (e == ("__classdict__" : Str)) = false) :
    GivesTo X Ng x sg g cdg [.Try [.Expr (.Call (.Name call p1) [] [] p2) p3] [.ExceptHandler (some (.Name exn p4)) (some e) [.Return (some (.Attribute (.Name e p5) fld p6)) p7] p8] [] [] p9, .Return (some (.Constant (.str ret) j p10)) p11] call q (TTref CS fld ret) := by
  intro f c' s H Q tl act hc h
  generalize hY : (cxOf C8.CX0 X.prog X.w X.K X.mg X.base Ng x sg g cdg X.A X.stack s H C8.E0) = Y at act ⊢
  have yN : Y.N = Ng := by rw [← hY]; rfl
  have yK : Y.K = X.K := by rw [← hY]; rfl
  have ymg : Y.mg = X.mg := by rw [← hY]; rfl
  have ysc : Y.env.scope = sg := by rw [← hY]; rfl
  have yst : Y.stack = Y.env :: Y.outer := by rw [← hY]; rfl
  have yfr : Y.env.frame = some Y.env.locals := by rw [← hY]; rfl
  have hgl : Gl Y.nox exn := by show Y.env.scope.names.lookup exn = _; rw [ysc]; exact hge
  refine ⟨_, pss_cons (ps_try_as (X := Y.nox) (c := .ref CS) (i := 1) (n := e) (tb := fun W D σ H => ∃ Ech : XK, (∀ cls d σ' H', Ech cls d H' → σ'.length = Ng.length → W cls d σ' H') ∧ σ[0]? = some (some (.ref f)) ∧ H c' = some (CodeO c' q) ∧ tl Ech H fun _ H' => D.nx σ H')
    (ts := fun a cls d => tRet (tXf a cls d CS fld (tVar 1))) yst yfr (by show Y.N.Nodup; rw [yN]; exact hnd) (by show Y.N[1]? = _; rw [yN, hN]; rfl) (by show Y.env.scope.names.lookup e = _; rw [ysc]; exact hle) ⟨hgl, hde, .inl (by show Y.mg exn = _; rw [ymg]; exact hme)⟩ L2.takes0 (fun W pn xe tk _ => ?_) fun a oe cls d pn hz hf => ?_) (pss_one (ps_ret pe_str)), ?_⟩
  · refine ⟨fun pins s' σ H' D I h' => ?_⟩
    obtain ⟨Ech, hW, h1, h2, h3⟩ := h'
    have hp := act (fun cls d σ H => σ.length = (Y.tr pn xe).N.length → W cls d σ H) pn xe Ech p1 p2 (Takes.len tk) (fun cls d σ' H' z hl => hW cls d σ' H' z (by have hl : σ'.length = Y.N.length := hl; rw [hl, yN]))
    have hq := pss_one (ps_expr (pos := p3) hp rfl)
    exact hq.run pins s' σ H' D I ⟨h1, h2, h3⟩
  · refine pss_one (ps_ret (pe_xf (X := Y.nox) (by show XfC Y.K CS; rw [yK]; exact T) (by show PySem.W.findIn Y.K _ _ = _; rw [yK]; exact hno) hz hf (pe_var (by show Y.N[1]? = _; rw [yN, hN]; rfl) (.inl (by show Y.env.scope.names.lookup e = _; rw [ysc]; exact hle)) hd1 hd2) rfl))
  · have hst : (L2.start Ng [V.ref f])[0]? = some (some (V.ref f)) := rfl
    refine ⟨_, fun cls d σ' H' ⟨ec, dd, fs, v, e1, e2, e3, q⟩ hl => ⟨true, by rw [ec]; show PySem.W.exmOne Y.K _ _ = _; rw [yK]; exact hex, fun _ a ha => ?_, fun z => by cases z⟩, hst, hc, h⟩
    have hl : 1 < σ'.length := by rw [hl, hN]; exact Nat.lt_succ_self 1
    exact ⟨.ref a, by rw [List.getElem?_set_self hl], rfl, ec, dd, fs, v, e1, e2, e3, q⟩
/-- the def that catches, as it stands -/
structure HofC (G : Glob) (nm : Str) (ci : Nat) (ret : Str) (g : Addr) (Ng : List Str) (call : Str) (sg : Scope) (cdv : Value) (bg : List Stmt) : Prop where
  ex : ∃ (pg : Arguments) (dV kV doc pm ct oc : Value) (an od : Option Addr) (osl : Array (Option Value)), G.K.lookup g = some ⟨oc, od, .func (PySem.W.fnOf nm nm pg bg sg dV kV doc pm an cdv ct), osl⟩ ∧ L2.Binds G.K (PySem.W.fnOf nm nm pg bg sg dV kV doc pm an cdv ct) [call] []
  cd : PySem.W.codeIn G.K cdv nm = true
  kp : PySem.W.keepIn G.K (.ref g) = true
  mg : G.mg nm = some (.ref g)
  sc : FnScope Ng [call] sg
  n0 : Ng[0]? = some call
  vis : Vis sg call
  gives : ∃ C fld, G.xs[ci]? = some (C, fld) ∧ ∀ (X : Cx) (q : Str), X.K = G.K → X.mg = G.mg → LamX.GivesTo X Ng nm sg g cdv bg call q (TTref C fld ret)
  d1 : (nm == ("__debug__" : Str)) = false
  d2 : (call == ("__debug__" : Str)) = false
  d3 : (call == ("__classdict__" : Str)) = false
open LamX in
theorem q_hof {nm : Str} {ci : Nat} {ret : Str} {g cA PA' : Addr} {Ng : List Str} {call : Str} {sg : Scope} {cdv : Value} {bg : List Stmt} {params : Arguments} {body : Expr} {scope : Scope} {p lpos : Pos} {te : TE'} {k : Nat} (o : XG G n W X) (hn : k + 2 ≤ n) (F : HofC G nm ci ret g Ng call sg cdv bg)
    (hg : Gl X nm) (hlen : ret.length ≤ sizeLine) (TB : TabB X.base X.mg cA PA') (hcode : X.env.code = .ref cA) (hmT : (PA', X.env.qual ++ "<lambda>") ∈ G.Tb) (hu : ∀ p ∈ G.Tb, p.1 = PA' → p.2 = X.env.qual ++ "<lambda>") (L : LamS X.env.scope scope) (hdef : defaultsOf params X.env = ([], []))
    (hbind : ∀ (q : Str) (cl : List (Str × Addr)) (pm cv ctv : Value), bindArgs (PySem.W.kla_fn "<lambda>" q params body scope cl pm cv ctv) ⟨[], []⟩ = pure [])
    (hbody : ∀ (A : Around) (outer : List PySem.Env) (s : Shared) (H : Hp) (E : XK) (f c' : Addr), Room k (A.deeper (lamEnv X scope s.heap.objs.size f c')) → PE (lamCx X A outer s H E scope f c') body (liftE G (fun cls d _ H' => E cls d H') te)) :
    PE X (.Call (.Name nm p) [.Lambda params body scope lpos] [] pos) (liftE G W fun ρ η X K => te ρ η (fun e η' => e.cls = ci ∧ K e.arg η') fun _ η' => K (.str ret) η') := by
  obtain ⟨pg, dV, kV, doc, pm, ct, oc, an, od, osl, lk, hb⟩ := F.ex
  obtain ⟨C, fld, hxs, hG⟩ := F.gives
  refine (pe_lamcall (X := X) (T := G.Tb) (TT := TTref C fld ret) (Ng := Ng) (t := fun E => liftE G (fun cls d _ H' => E cls d H') te) hg (by rw [o.mg]; exact F.mg) (by rw [o.K]; exact F.kp) (by rw [o.K]; exact lk) (by rw [o.K]; exact F.cd) (by rw [o.K]; exact hb) F.sc F.n0 F.vis
    (hG X _ o.K o.mg) TB hcode hmT hu (o.room.mono hn) L hdef hbind hbody F.d1 F.d2 F.d3).imp fun σ H Q ⟨ρ, η, Y, K, hρ, hS, ht, hX, hQ⟩ => ⟨hS.tb, fun H1 eN T1 => ?_⟩
  have f : Frm η H η H1 := ⟨fun b u e _ t => eN b u e t, fun _ _ _ n _ => n⟩
  have S1 : StoR G H1 η := ⟨fun a u e => by
    obtain ⟨v, hv, nt, _⟩ := (hS.ob a u e).there
    exact (hS.ob a u e).frm f (by rw [eN a v hv nt, hv]), T1, fun a z => by
    obtain ⟨⟨u, e, hu⟩, nn⟩ := hS.hz a z
    exact ⟨⟨u, eN a _ e hu.nt, hu⟩, nn⟩⟩
  refine ⟨ρ, η, _, _, hρ.frm f, S1, ht, fun e η' cls d H' hr S' f' ⟨hc, k⟩ => ?_, fun t v η' H' r S' f' k => hQ (.str ret) (.str ret) η' H' (.str _ hlen) S' (f.trans f') k⟩
  obtain ⟨C', f'', dx, v, h1, h2, h3, h4, h5⟩ := hr
  rw [hc, hxs] at h1
  cases h1
  exact ⟨h2, dx, _, v, h3, h4, by simp, hQ e.arg v η' H' h5 S' (f.trans f') k⟩
end
end TL

set_option maxHeartbeats 1000000
/-! dicts by value; calls with keywords -/
namespace TL
open PySem PySem.Spec PyProof.Rows L2
section
variable {G : Glob} {H : Hp} {η : Sto}
theorem keyR_of {t : T} {v : V} (h : keyT t = true) (r : ValR G H η t v) : ∃ k, keyR t k ∧ v = kV k := by
  cases r with
  | int i => exact ⟨.inl i, rfl, rfl⟩
  | str s l => exact ⟨.inr s, rfl, rfl⟩
  | _ => cases h
theorem beq_eq_decide' {α : Type} [BEq α] [LawfulBEq α] [DecidableEq α] (a b : α) : (a == b) = decide (a = b) := by
  by_cases h : a = b <;> simp [h]
theorem keyR_eqv {t u : T} {a b : Key} (h : keyR t a) (g : keyR u b) : eqv t u = decide (a = b) := by
  cases t <;> cases a <;> first
    | (cases h; done)
    | (cases u <;> cases b <;> first
        | (cases g; done)
        | (cases h; cases g; first | exact (beq_eq_decide' _ _).trans (by simp) | simp [eqv]))
theorem dget_val {k : T} {key : Key} (hk : keyR k key) : ∀ {kvs : List (Key × V)} {ks vs : List T}, KeysR ks (kvs.map (·.1)) → ValsR G H η vs (kvs.map (·.2)) → (dgetT k ks vs = none ∧ valV kvs key = none) ∨ ∃ t v, dgetT k ks vs = some t ∧ valV kvs key = some v ∧ ValR G H η t v
  | [], _, _, hks, hvs => by
    cases hks; cases hvs
    exact .inl ⟨rfl, rfl⟩
  | p :: kvs, _, _, hks, hvs => by
    cases hks with
    | @cons c cs _ _ h1 h2 =>
    cases hvs with
    | @cons w ws _ _ r1 r2 =>
    have e := keyR_eqv h1 hk
    unfold dgetT valV
    rw [e, List.find?_cons]
    by_cases q : p.1 = key
    · rw [decide_eq_true q]
      exact .inr ⟨w, p.2, by simp, by simp, r1⟩
    · rw [decide_eq_false q]
      have ih := dget_val hk h2 r2
      simpa [valV] using ih
theorem zip_map {k : T} {key : Key} {v : T} {y : V} (hk : keyR k key) (rv : ValR G H η v y) : ∀ {kvs : List (Key × V)} {ks vs : List T}, KeysR ks (kvs.map (·.1)) → ValsR G H η vs (kvs.map (·.2)) →
    KeysR ks ((kvs.map fun kv => if kv.1 = key then (kv.1, y) else kv).map (·.1)) ∧ ValsR G H η (List.zipWith (fun c w => if eqv c k = true then v else w) ks vs) ((kvs.map fun kv => if kv.1 = key then (kv.1, y) else kv).map (·.2)) ∧ (ks.any fun c => eqv c k) = kvs.any fun kv => decide (kv.1 = key)
  | [], _, _, hks, hvs => by
    cases hks; cases hvs
    exact ⟨.nil, .nil, rfl⟩
  | p :: kvs, _, _, hks, hvs => by
    cases hks with
    | @cons c cs _ _ h1 h2 =>
    cases hvs with
    | @cons w ws _ _ r1 r2 =>
    obtain ⟨a1, a2, a3⟩ := zip_map hk rv h2 r2
    have e := keyR_eqv h1 hk
    simp only [List.map_cons, List.zipWith_cons_cons, List.any_cons, e, a3, and_true]
    by_cases q : p.1 = key
    · simp only [q, if_true, decide_true, and_true]
      have h1 : keyR c p.1 := h1
      rw [q] at h1
      exact ⟨.cons h1 a1, .cons rv a2⟩
    · simp only [q, if_false, decide_false, Bool.false_eq_true, and_true]
      exact ⟨.cons h1 a1, .cons r1 a2⟩
theorem KeysR.snoc : ∀ {ks : List T} {xs : List Key} {k : T} {x : Key}, KeysR ks xs → keyR k x → KeysR (ks ++ [k]) (xs ++ [x])
  | _, _, _, _, .nil, h => .cons h .nil
  | _, _, _, _, .cons a r, h => .cons a (r.snoc h)
theorem put_val {k : T} {key : Key} {v : T} {y : V} (hk : keyR k key) (rv : ValR G H η v y) {kvs : List (Key × V)} {ks vs : List T} (h1 : KeysR ks (kvs.map (·.1))) (h2 : ValsR G H η vs (kvs.map (·.2))) :
    KeysR (dputT k v ks vs).1 ((putK kvs key y).map (·.1)) ∧ ValsR G H η (dputT k v ks vs).2 ((putK kvs key y).map (·.2)) := by
  obtain ⟨a1, a2, a3⟩ := zip_map hk rv h1 h2
  unfold dputT putK
  rw [a3]
  split
  · exact ⟨a1, a2⟩
  · rw [List.map_append, List.map_append]
    exact ⟨h1.snoc hk, h2.append (.cons rv .nil)⟩
/-- pairs laid into a dict, one after another -/
theorem dictOf_val : ∀ {ps : List T} {ws : List V} {ks vs : List T} {kvs : List (Key × V)} {q : List T × List T}, ValsR G H η ps ws → dictOf ps ks vs = some q → KeysR ks (kvs.map (·.1)) → ValsR G H η vs (kvs.map (·.2)) →
    ∃ (as : List Addr) (more : List (Key × V)), ws = as.map V.ref ∧ Paired (fun p kv => SqT G.K H p [kV kv.1, kv.2]) as more ∧ KeysR q.1 ((mergeK kvs more).map (·.1)) ∧ ValsR G H η q.2 ((mergeK kvs more).map (·.2))
  | [], _, ks, vs, kvs, q, r, e, h1, h2 => by
    cases r
    cases e
    exact ⟨[], [], rfl, .nil, h1, h2⟩
  | p :: ps, _, ks, vs, kvs, q, r, e, h1, h2 => by
    cases r with
    | cons rp r =>
    cases rp with
    | @tup a us ts st rs =>
      match ts, rs, e with
      | [k, v], rs, e =>
        obtain ⟨ku, vu, rfl, rk, rv⟩ := rs.two
        unfold dictOf at e
        split at e
        · rename_i hk
          obtain ⟨key, kr, rfl⟩ := keyR_of hk rk
          obtain ⟨b1, b2⟩ := put_val kr rv h1 h2
          obtain ⟨as, more, rfl, hp, c1, c2⟩ := dictOf_val r e b1 b2
          exact ⟨a :: as, (key, vu) :: more, rfl, .cons st.sq hp, c1, c2⟩
        · cases e
      | [], rs, e => cases e
      | [_], rs, e => cases e
      | _ :: _ :: _ :: _, rs, e => cases e
    | _ => cases e
end
/-! dict(pairs) -/
section
variable {X : Cx}
theorem prs_of {pins : List (Addr × Obj)} {σ : L2.St} {H : Hp} {s : Shared} (I : Inv X pins σ H s) : ∀ {as : List Addr} {kvs : List (Key × V)}, Paired (fun p kv => SqT X.K H p [kV kv.1, kv.2]) as kvs →
    ∃ (prs : List (Value × Value)) (kws : List (Key × Value)), KV kvs kws ∧ prs.length = as.length ∧ kws.length = as.length ∧ (∀ (j : Nat) (k v : Value), prs[j]? = some (k, v) → (∃ b, as[j]? = some b ∧ IsTup s.heap b #[k, v]) ∧ ∃ key, kws[j]? = some (key, v) ∧ (mixKind X.prog X.w).is key k = true)
  | _, _, .nil => ⟨[], [], .nil, rfl, rfl, fun j k v e => by simp at e⟩
  | _, _, .cons (a := p) (b := kv) h t => by
    obtain ⟨prs, kws, r, l1, l2, hp⟩ := prs_of I t
    obtain ⟨us, rv, ht, _⟩ := I.tuple h
    obtain ⟨u, y, ei, ru, ry⟩ := vals2 rv
    subst ei
    refine ⟨(u, y) :: prs, (kv.1, y) :: kws, .cons ⟨rfl, ry⟩ r, by rw [List.length_cons, List.length_cons, l1], by rw [List.length_cons, List.length_cons, l2], fun j k v e => ?_⟩
    cases j with
    | zero =>
      have e' : (u, y) = (k, v) := Option.some.inj e
      cases e'
      exact ⟨⟨p, rfl, ht⟩, kv.1, rfl, kV_is ru⟩
    | succ j => exact hp j k v (by simpa using e)
/-- a tuple without a dict -/
def PlT (K : PySem.W.Frag) (H : Hp) (a : Addr) (vs : List V) : Prop := FzT H a vs ∨ KwT K a vs
theorem plT_at {pins : List (Addr × Obj)} {σ : L2.St} {H : Hp} {s : Shared} (I : Inv X pins σ H s) {a : Addr} {vs : List V} (h : PlT X.K H a vs) : ∃ us, Vals vs us ∧ PySem.PlainSeq "tuple" s.heap a us.toArray ∧ vs.length ≤ sizeLine := by
  rcases h with ⟨o, h, hd⟩ | ⟨o, its, n, h1, h2, h3, h4, h5, h6⟩
  · obtain ⟨e, hz, us, r, o', e', hc, n, hdat⟩ := (show ObjOk X.prog X.w H s.heap a (.frz o (.tup vs)) from I.hok a _ h)
    rw [e] at e'
    cases e'
    exact ⟨us, r, ⟨o, n, e, hc, hd, hdat⟩, hz⟩
  · refine ⟨its.toList, h6, ⟨o, n, I.kIn _ _ h1, h2, h3, by rw [h4]⟩, ?_⟩
    rw [h6.length, Array.length_toList]
    exact h5
def rDictF (K : PySem.W.Frag) : List V → Hp → VK → Prop := fun xs H Q => ∃ (a : Addr) (as : List Addr) (kvs : List (Key × V)), xs = [.ref a] ∧ (SqL K H a (as.map V.ref) ∨ PlT K H a (as.map V.ref)) ∧ Paired (fun p kv => SqT K H p [kV kv.1, kv.2]) as kvs ∧
    ∀ p, H p = none → Q (.ref p) (upd H p (.dK (mergeK [] kvs)))
theorem cr_dictF (hcalm : X.calm = true) : CallR X (.type "dict") (rDictF X.K) := by
  intro pins s σ H xs us Q I r q
  obtain ⟨a, as, kvs, rfl, hq, hp, q⟩ := q
  rcases hq with hq | hq
  · exact call_dictP hcalm pins s σ H _ us Q I r ⟨a, as, kvs, rfl, hq, hp, q⟩
  · obtain ⟨u, rfl, rx⟩ := vals1 r
    cases rx
    obtain ⟨its, rv, pl, hz⟩ := plT_at I hq
    have ei := refs_at rv
    subst ei
    rw [List.length_map] at hz
    obtain ⟨prs, kws, rel, l1, l2, hpr⟩ := prs_of I hp
    have hit : PySem.PairItems s.heap (as.map Value.ref).toArray (fun j => as.getD j 0) prs := ⟨by simp [l1], fun j k v e => by
      obtain ⟨⟨b, e1, e2⟩, _⟩ := hpr j k v e
      refine ⟨by simp [e1], .inl ?_⟩
      have : as.getD j 0 = b := by rw [List.getD_eq_getElem?_getD, e1]; rfl
      show s.heap.IsTuple (as.getD j 0) #[k, v]
      rw [this]
      exact e2⟩
    refine PySem.call_dict_pairs (knd := mixKind X.prog X.w) (kvs := kws) (PySem.PairArg.tuple a (as.map Value.ref).toArray (fun j => as.getD j 0) prs) (I.ok.hd hcalm) ⟨pl, hit⟩ ⟨by rw [l2, l1], fun j k v e => ?_⟩ (by rw [l1]; exact hz) fun h' tk hd' kp => ?_
    · obtain ⟨_, key, e1, e2⟩ := hpr j k v e
      exact ⟨key, e1, e2⟩
    · have hm : (s.heap.objs.size == sysModules) = false := beq_eq_false_iff_ne.mpr (Nat.ne_of_gt I.big)
      have hlen : (mergeK [] kvs).length ≤ sizeLine := by
        refine Nat.le_trans (length_mergeK kvs []) ?_
        have : kvs.length = as.length := by rw [rel.length, l2]
        rw [List.length_nil, Nat.zero_add, this]
        exact hz
      exact ⟨.ref s.heap.objs.size, upd H s.heap.objs.size (.dK (mergeK [] kvs)), I.laid (t' := tk) (fun b o e => kp b o (by simp) e) (Nat.le_refl _) (show ObjOk X.prog X.w _ _ _ (.dK (mergeK [] kvs)) from ⟨hlen, hm, merged [] kws, KV.merge rel .nil, hd'⟩), rfl, q _ (I.hok.fresh (Nat.le_refl _))⟩
end
section
variable {G : Glob} {W : WX} {X : Cx} {a b c : Expr} {ta tb tc : TE'} {pos : Pos} {es : List Expr} {n m : Nat} {tl tl2 : TL'}
theorem seqR_plain {H : Hp} {η : Sto} {ts : List T} {src : Option Addr} {v : V} (h : SeqR G H η ts src v) : ∃ a vs, v = .ref a ∧ ValsR G H η ts vs ∧ (SqL G.K H a vs ∨ PlT G.K H a vs) := by
  obtain ⟨a, vs, e, r, h | h | h⟩ := h.ex
  · exact ⟨a, vs, e, r, .inl h.2.sq⟩
  · exact ⟨a, vs, e, r, .inr (h.2.imp (fun h => h.1) id)⟩
  · exact ⟨a, vs, e, r, .inl (SqL.of h.2.1)⟩
theorem q_dict {p : Pos} (o : XG G n W X) (hg : Gl X "dict") (hm : X.mg "dict" = none) (ha : PE X a (liftE G W ta)) (hs : starEach [a] X.env = (false, eval a X.env) :: starEach [] X.env) :
    PE X (.Call (.Name "dict" p) [a] [] pos) (liftE G W fun ρ η X K => ta ρ η X fun t η1 => optF (bltV .dict [t] η1) fun t => K t η1) :=
  (pe_callTy (cr_dictF o.calm) hg hm (by decide +kernel) (pa_cons ha pa_nil hs) (by decide) (by decide) hs (by rfl)).imp fun σ H Q ⟨ρ, η, Y, K, hρ, hS, ht, hX, hQ⟩ => lift1 hρ hS ht hX fun t x η2 H2 rx S2 f2 k => by
    obtain ⟨u, e, q⟩ := optF_inv k
    obtain ⟨w, e1, rfl⟩ := Option.map_eq_some_iff.mp e
    obtain ⟨ps, e2, e3⟩ := Option.bind_eq_some_iff.mp e1
    obtain ⟨p', vs, rfl, rs, hq⟩ := seqR_plain (seqR_of S2 e2 rx)
    obtain ⟨as, more, rfl, hp, c1, c2⟩ := dictOf_val (kvs := []) rs e3 .nil .nil
    refine ⟨p', as, more, rfl, by rw [o.K]; exact hq, by rw [o.K]; exact hp, fun d hd => ?_⟩
    have f3 : Frm η2 H2 η2 (upd H2 d (.dK (mergeK [] more))) := Frm.new hd
    exact hQ _ _ η2 _ (.dct upd_same (S2.nz hd) c1 (c2.frm f3)) (S2.new hd) (f2.trans f3) q
theorem q_get2 {k d : Expr} {tk td : TE'} {p1 p2 : Pos} (o : XG G n W X) (ha : PE X a (liftE G W ta)) (hk : PE X k (liftE G W tk)) (hd : PE X d (liftE G W td)) (m : M2 X a "get" p1 k d p2) :
    PE X (.Call (.Attribute a "get" p1) [k, d] [] p2) (liftE G W fun ρ η X K => ta ρ η X fun u η1 => mthT .get2 u η1 = true ∧ tk ρ η1 X fun t1 η2 => td ρ η2 X fun t2 η3 => mthG .get2 u [t1, t2] η3 ∧ optF (mthV .get2 u [t1, t2] η3) fun q => K q.1 q.2) :=
  (pe_dget2 (by have := o.room.un; omega) ha hk hd m).imp fun σ H Q ⟨ρ, η, Y, K, hρ, hS, ht, hX, hQ⟩ => lift1 hρ hS ht hX fun u x η1 H1 rx S1 f1 hTk => by
    obtain ⟨hT, k1⟩ := hTk
    cases rx with
    | @dct ad kvs ks vs e n' kr vr =>
      refine ⟨_, rfl, .inl ⟨_, .inl e⟩, ?_⟩
      refine lift2 (K' := fun t1 t2 η3 => mthG .get2 (.dct ks vs) [t1, t2] η3 ∧ optF (mthV .get2 (.dct ks vs) [t1, t2] η3) fun q => K q.1 q.2) (hρ.frm f1) S1 k1 (hX.frm f1) fun t1 t2 y z η3 H3 ry rz S3 f3 ⟨g, k3⟩ => ?_
      obtain ⟨q, e3, k3⟩ := optF_inv k3
      cases e3
      obtain ⟨key, kr1, rfl⟩ := keyR_of g ry
      have e' := f3.hp _ _ e n'.1 (fun _ z => by cases z)
      refine ⟨valV kvs key, .inl ⟨kvs, key, .inl e', rfl, rfl⟩, ?_⟩
      rcases dget_val kr1 kr (vr.frm f3) with ⟨d1, d2⟩ | ⟨t, v, d1, d2, rv⟩
      · rw [d2]
        rw [d1] at k3
        exact (hQ.frm (f1.trans f3)).here S3 rz k3
      · rw [d2]
        rw [d1] at k3
        exact (hQ.frm (f1.trans f3)).here S3 rv k3
    | _ => cases hT
/-! f(a, .., k = v, ..) -/
structure KwB (K : PySem.W.Frag) (fd : FuncData) (ps : List Str) (n : Nat) (ks : List Str) (perm : List Nat) : Prop where
  to : ∀ (s : Shared) (us ws : List Value), K.In s.heap → us.length = n → ws.length = ks.length → BindsTo s fd ⟨us, ks.zip ws⟩ (ps.zip (perm.map fun i => (us ++ ws).getD i .none))
  len : perm.length = ps.length
theorem vals_perm {vs : List V} {us : List Value} (r : Vals vs us) (perm : List Nat) : Vals (perm.map fun i => vs.getD i .non) (perm.map fun i => us.getD i .none) := by
  induction perm with
  | nil => exact .nil
  | cons i rest ih =>
    refine .cons ?_ ih
    show RelV (vs.getD i .non) (us.getD i .none)
    rw [List.getD_eq_getElem?_getD, List.getD_eq_getElem?_getD]
    cases e : vs[i]? with
    | none => rw [r.none_of e]; rfl
    | some v =>
      obtain ⟨u, e2, r2⟩ := r.get e
      rw [e2]
      exact r2
theorem valsR_perm {H : Hp} {η : Sto} {ts : List T} {vs : List V} (r : ValsR G H η ts vs) (perm : List Nat) : ValsR G H η (perm.map fun i => ts.getD i .non) (perm.map fun i => vs.getD i .non) := by
  induction perm with
  | nil => exact .nil
  | cons i rest ih =>
    refine .cons ?_ ih
    show ValR G H η (ts.getD i .non) (vs.getD i .non)
    rw [List.getD_eq_getElem?_getD, List.getD_eq_getElem?_getD]
    cases e : ts[i]? with
    | none =>
      have : vs[i]? = none := by rw [List.getElem?_eq_none_iff] at e ⊢; rw [← r.length]; exact e
      rw [this]
      exact .non
    | some t =>
      obtain ⟨v, e2, r2⟩ := r.get e
      rw [e2]
      exact r2
theorem run_kw {CX : CXT} {k : Nat} {f : Addr} {fd : FuncData} {ps ks : List Str} {perm : List Nat} {sp : Sp} {E : L2.St → XK} {pins : List (Addr × Obj)} {σ : L2.St} {H : Hp} {s : Shared} {Q : VK} {us ws : List Value} {vs zs : List V} (F : FnOk X.prog X.w X.K X.mg X.base CX k f fd ps sp) (hr : Room k X.A) (hb : KwB X.K fd ps n ks perm) (hx : PassesAt CX X σ (E σ))
    (I : Inv X pins σ H s) (r : Vals vs us) (rz : Vals zs ws) (l1 : vs.length = n) (l2 : zs.length = ks.length) (h : sp (perm.map fun i => (vs ++ zs).getD i .non) H Q (E σ)) : wpAny (model X.prog X.w) X.A (call (.ref f) us (ks.zip ws)) (EP X pins σ Q) X.xe s := by
  have b := hb.to s us ws I.kIn (by rw [← r.length]; exact l1) (by rw [← rz.length]; exact l2)
  refine wpAny_call (codeAny_mono (F.run X.A X.stack s H ⟨us, ks.zip ws⟩ _ _ Q (E σ) hr I.env0 b (vals_perm (r.append rz) perm) h) fun res s' hq => ?_)
  match res, hq with
  | .error e, hq => exact hx pins H s e s' I hq
  | .ok (.ret u), hq => exact I.after hq
  | .ok .next, hq => exact False.elim hq
  | .ok .brk, hq => exact False.elim hq
  | .ok .cont, hq => exact False.elim hq
/-- the keywords' values, one after another -/
theorem k_nil : PK X [] (liftL G W 0 fun _ η _ K => K [] η) := ⟨fun pos pins s σ H Q I h => pk_nil.run pos pins s σ H Q I (by
  obtain ⟨ρ, η, Y, K, hρ, hS, ht, hX, hQ⟩ := h
  exact hQ [] [] η H rfl .nil hS .refl ht)⟩
theorem k_cons {nm : Option Str} {kpos : Pos} {kws : List Keyword} (ha : PE X a (liftE G W ta)) (h : PK X kws (liftL G W n tl)) : PK X (⟨nm, a, kpos⟩ :: kws) (liftL G W (n + 1) fun ρ η X K => ta ρ η X fun t η1 => tl ρ η1 X fun ts η2 => K (t :: ts) η2) := ⟨fun pos pins s σ H Q I hq => (pk_cons ha h).run pos pins s σ H Q I (by
  obtain ⟨ρ, η, Y, K, hρ, hS, ht, hX, hQ⟩ := hq
  exact lift1 hρ hS ht hX fun u x η1 H1 rx S1 f1 k1 => liftN (hρ.frm f1) S1 k1 (hX.frm f1) fun ts vs η2 H2 l r S2 f2 k2 => hQ (u :: ts) (x :: vs) η2 H2 (congrArg (· + 1) l) (.cons (rx.frm f2) r) S2 (f1.trans f2) k2)⟩
theorem q_callK {Φ : List T → Sto → KX → KE → Prop} {nm : Str} {ps ks : List Str} {f : Addr} {fd : FuncData} {perm : List Nat} {kws : List Keyword} {p : Pos} {k : Nat} (o : XG G n W X) (F : FnK G k Φ nm ps f fd) (hkn : k ≤ n) (B : KwB G.K fd ps m ks perm) (hg : Gl X nm) (ha : PA X es (liftL G W m tl)) (hkw : PK X kws (liftL G W ks.length tl2)) (hdb : (nm == ("__debug__" : Str)) = false)
    (hall : (backToKw pos (keywordEach kws X.env)).all (·.1.isSome) = true) (hks : (backToKw pos (keywordEach kws X.env)).filterMap (·.1) = ks) (hnil : es = [] → m = 0 ∧ ∀ ρ η X K, tl ρ η X K → K [] η) (he : ∀ e es', es = e :: es' → starEach (e :: es') X.env = (false, eval e X.env) :: starEach es' X.env)
    (hpl : ((backTo pos (starEach es X.env)).any (·.1) || (backToKw pos (keywordEach kws X.env)).any (·.1.isNone)) = false) :
    PE X (.Call (.Name nm p) es kws pos) (liftE G W fun ρ η X K => tl ρ η X fun ts η1 => tl2 ρ η1 X fun us η2 => Φ (perm.map fun i => (ts ++ us).getD i .non) η2 X K) := by
  have F1 : FnOk X.prog X.w X.K X.mg X.base (L2.CX X.prog X.w) k f fd ps (prom G ps.length Φ) := by rw [o.P, o.w, o.K, o.mg, o.base]; exact F.ok G.Z
  have B1 : KwB X.K fd ps m ks perm := by rw [o.K]; exact B
  have tail : ∀ {pins : List (Addr × Obj)} {σ : L2.St} {H H1 : Hp} {s1 : Shared} {Q : VK} {ρ : Env} {η η1 : Sto} {Y : KX} {K : KE} {us : List Value} {vs : List V} {ts : List T}, EnvR G H η σ ρ → HX G W σ H η Y → HQ G Q H η K → Inv X pins σ H1 s1 → Vals vs us → ts.length = m → ValsR G H1 η1 ts vs → StoR G H1 η1 → Frm η H η1 H1 →
      (tl2 ρ η1 Y fun us η2 => Φ (perm.map fun i => (ts ++ us).getD i .non) η2 Y K) → wpAny (model X.prog X.w) X.A (evalAll ((backToKw pos (keywordEach kws X.env)).map (·.2))) (fun ws s2 => X.K.In s2.heap ∧ wpAny (model X.prog X.w) X.A (call (.ref f) us (((backToKw pos (keywordEach kws X.env)).filterMap (·.1)).zip ws)) (EP X pins σ Q) X.xe s2) X.xe s1 :=
    fun {pins σ H H1 s1 Q ρ η η1 Y K us vs ts} hρ hX hQ I1 r1 l1 rs S1 f1 k1 => by
      refine thn (hkw.run pos pins s1 σ H1 (fun zs H2 => ∃ ts2 η2, ts2.length = ks.length ∧ ValsR G H2 η2 ts2 zs ∧ StoR G H2 η2 ∧ Frm η1 H1 η2 H2 ∧ Φ (perm.map fun i => (ts ++ ts2).getD i .non) η2 Y K) I1 ⟨ρ, η1, Y, _, hρ.frm f1, S1, k1, hX.frm f1, fun ts2 zs η2 H2 l2 r2 S2 f2 k2 => ⟨ts2, η2, l2, r2, S2, f2, k2⟩⟩) fun ws s2 ⟨zs, H2, I2, rz, ts2, η2, l2, r2, S2, f2, k2⟩ => ⟨I2.kIn, ?_⟩
      rw [hks]
      refine run_kw (E := fun σ => WE W σ) F1 (o.room.mono hkn) B1 (passAt o.tk σ) I2 r1 rz (by rw [← rs.length]; exact l1) (by rw [← r2.length]; exact l2) ?_
      refine ⟨_, η2, Y, K, by rw [List.length_map]; exact B.len, valsR_perm ((rs.frm f2).append r2) perm, S2, k2, fun e η' cls d H' a b c q => hX e η' cls d H' a b ((f1.trans f2).trans c) q, hQ.frm (f1.trans f2)⟩
  refine ⟨fun pins s σ H Q I h => ?_⟩
  obtain ⟨ρ, η, Y, K, hρ, hS, ht, hX, hQ⟩ := h
  refine wpAny_Call_Name_kw (ld_glob I hg (by rw [o.mg]; exact F.mg) ?_ hdb)
  cases es with
  | nil =>
    refine PySem.W.callWith_KW0 (h₀ := X.base) I.ok.mod.kin (by rw [o.K]; exact F.kp) hall ?_ hpl
    obtain ⟨hm0, ht0⟩ := hnil rfl
    subst hm0
    exact tail hρ hX hQ I .nil rfl .nil hS .refl (ht0 _ _ _ _ ht)
  | cons e es' =>
    refine PySem.W.callWith_KW (h₀ := X.base) I.ok.mod.kin (by rw [o.K]; exact F.kp) hall ?_ hpl (he e es' rfl)
    refine thn (ha.run pos pins s σ H (fun vs H1 => ∃ ts η1, ts.length = m ∧ ValsR G H1 η1 ts vs ∧ StoR G H1 η1 ∧ Frm η H η1 H1 ∧ tl2 ρ η1 Y fun us η2 => Φ (perm.map fun i => (ts ++ us).getD i .non) η2 Y K) I ⟨ρ, η, Y, _, hρ, hS, ht, hX, fun ts vs η1 H1 l r S f k => ⟨ts, η1, l, r, S, f, k⟩⟩) fun us s1 ⟨vs, H1, I1, r1, ts, η1, l1, rs, S1, f1, k1⟩ => ?_
    exact tail hρ hX hQ I1 r1 l1 rs S1 f1 k1
end
end TL

set_option maxHeartbeats 2000000
/-! len of a set comprehension of keys -/
namespace TL
open PySem PySem.Spec PyProof.Rows L2
section
variable {X : Cx}
/-- {elt for target in iter}, elt a key: D the new set -/
def tSk (P : Program) (w : World) (wi : TI) (g : TG) (te : TE) (vs : List Nat) : TE := fun σ H Q => wi σ H fun J H1 => ∀ D, H1 D = none → ∃ Z : Nat → Nat → Hp → Prop, (∃ m, Z 0 m (upd H1 D (SetK P w D (fun _ => false) 0))) ∧ ∀ i m H, Z i m H →
  (J.stop i H ∧ Q (.ref D) H) ∨ (J.go i H ∧ ∃ Nx : Hp → Prop, (∀ H', Nx H' → ∃ m', m' < m ∧ Z (i + 1) m' H') ∧ ∀ x H', J.yld i H x H' → g x (L2.wipe σ vs) H' fun σ2 H2 => L2.wipe σ2 vs = L2.wipe σ vs ∧
    te σ2 H2 fun y H4 => ∃ (c : Key) (S : Key → Bool) (n : Nat), y = kV c ∧ H4 D = some (SetK P w D S n) ∧ n + 1 < scanBound ∧ Nx (upd H4 D (SetK P w D (fun j => S j || decide (j = c)) (if S c = true then n else n + 1))))
theorem sk_fresh {P : Program} {w : World} {h : Heap} : (h.push { cls := .type "set", dict := none, data := .set #[] 0 (.fresh 0 0 (!w.params.followText "set-order")) }).SetOf (mixKind P w) h.objs.size (fun _ => false) 0 :=
  ⟨_, #[], 0, _, Heap.get?_push_size _ rfl, ⟨rfl, rfl, rfl⟩, rfl, (fun e he => by simp at he), (fun k => by simp), (by decide), (by rfl), rfl⟩
theorem pe_sk {elt tg iter : Expr} {scope : Scope} {own : List (Str × Nat)} {pos : Pos} {wi : TI} {g : TG} {te : TE} (hc : X.calm = true) (hN : X.N.Nodup) (hi : PI X tg iter wi) (ok : BlkOk X.N X.env.scope scope own)
    (hg : ∀ (t : Shared) (H : Hp) (C : Addr) (cl : List (Str × Addr)) (fp : List Addr), PG (X.blk t H scope (compEnvC scope cl C X.env) fp) tg g)
    (he : ∀ (t : Shared) (H : Hp) (C : Addr) (cl : List (Str × Addr)) (fp : List Addr), PE (X.blk t H scope (compEnvC scope cl C X.env) fp) elt te) (hs : ∀ x, foldedSetIterable iter X.env x = pure x) :
    PE X (.SetComp elt [⟨tg, iter, [], 0⟩] scope pos) (tSk X.prog X.w wi g te (own.map (·.2))) := by
  refine ⟨fun pins t0 σ H Q I0 hh => ?_⟩
  rw [PpSet.eval_SetComp]
  have hfr : ∀ y ∈ scope.names, y.2 = .free → ∃ c, X.env.cells.lookup y.1 = some c := fun y hy e => (ok.free y hy e).elim (fun k => I0.ok.has _ (.inl k)) fun k => I0.ok.has _ (.inr k)
  refine wpAny_comprehension_free (use := none) rfl hs (closure_ok hfr) ok.kind (fun y hy e => by rw [ok.uniq y hy, e]) (thn (hi.run pins t0 σ H _ I0 hh) fun xv t1 hx => thn hx fun itv t2 h2 => ?_)
  obtain ⟨it, fp, tn, J, H2, rfl, I2, T, st2, fk2, q⟩ := h2
  refine PpSet.newSet_ok (newEnv_comp ?_)
  generalize hDe : t2.heap.objs.size = D
  have hD0 : H2 D = none := I2.hok.fresh (Nat.le_of_eq hDe)
  obtain ⟨Z, ⟨m0, z0⟩, turn⟩ := q D hD0
  generalize ht3 : ({ t2 with heap := t2.heap.push { cls := .type "set", dict := none, data := .set #[] 0 (.fresh 0 0 (!X.w.params.followText "set-order")) } } : Shared) = t3
  generalize hHD : upd H2 D (SetK X.prog X.w D (fun _ => false) 0) = HD at z0
  have I3 : Inv X pins σ HD t3 := by
    rw [← ht3, ← hHD]
    refine I2.laid (t' := t2.toks) (fun b o e => Heap.get?_push_of_some _ e) (Nat.le_of_eq hDe) ?_
    rw [← hDe]
    exact setK_new sk_fresh
  have heap3 : t3.heap = t2.heap.push { cls := .type "set", dict := none, data := .set #[] 0 (.fresh 0 0 (!X.w.params.followText "set-order")) } := by rw [← ht3]
  have small : ∀ b ∈ fp, b < t2.heap.objs.size := fun b hb => (T.obj _ _ st2 b hb).elim fun _ e => Heap.lt_size e.1
  have fk3 : ∀ b ∈ fp, FpOk X pins HD b ∧ b < t3.heap.objs.size := fun b hb => by
    have lt := small b hb
    refine ⟨⟨?_, (fk2 b hb).2⟩, by rw [heap3, Heap.size_push]; exact Nat.lt_succ_of_lt lt⟩
    rw [← hHD, upd_ne (by rw [← hDe]; exact Nat.ne_of_lt lt)]
    exact (fk2 b hb).1
  have st3 : tn 0 t3.heap := T.keep _ _ _ st2 fun b _ o e => by rw [heap3]; exact Heap.get?_push_of_some _ e
  have I4 := block_start I3 ok hN fk3
  generalize hcl : cellsFrom (t3.heap.objs.size + 1) scope.names (cloFrom X.env.cells scope.names []) = cl at I4 ⊢
  have pg := hg t3 HD t3.heap.objs.size cl fp
  have pe := he t3 HD t3.heap.objs.size cl fp
  have dist : ∀ b ∈ fp, HD b = none := fun b hb => (fk3 b hb).1.1
  show codeAny _ _ (.compStart (.SetComp elt [⟨tg, iter, [], 0⟩] scope pos) 0 (.ref it) (.ref D) (compEnvC scope cl t3.heap.objs.size X.env)) (compPost (model X.prog X.w) X.A X.xe none (EP X pins σ Q) (.ref D) t3.heap.objs.size) { t3 with heap := pushCells (t3.heap.push { cls := .type "dict", data := .dict #[] }) scope.names }
  generalize hcenv : compEnvC scope cl t3.heap.objs.size X.env = ce at I4 pg pe ⊢
  have ceL : ce.locals = t3.heap.objs.size := by subst hcenv; rfl
  generalize ht4 : ({ t3 with heap := pushCells (t3.heap.push { cls := .type "dict", data := .dict #[] }) scope.names } : Shared) = t4 at I4 ⊢
  have st4 : tn 0 t4.heap := T.keep _ _ _ st3 fun b _ o e => by rw [← ht4]; exact pushCells_keeps _ _ _ _ (Heap.get?_push_of_some _ e)
  have own' : ∀ {τ : L2.St} {Hc : Hp} {tc : Shared}, Inv (X.blk t3 HD scope ce fp) [] τ Hc tc → (∀ b ∈ fp, Hc b = none) → ∀ b ∈ fp, FpOk (X.blk t3 HD scope ce fp) [] Hc b := fun {τ Hc tc} J hn b hb =>
    ⟨hn b hb, (J.ok.exf b hb).1, J.ok.exfs b hb, .inl hb, fun x c e => (J.ok.exf b hb).2 x c e, fun p hp => absurd (show p ∈ ([] : List (Addr × Obj)) ++ [] from hp) (by simp)⟩
  have loop : codeAny (model X.prog X.w) X.A (.compLoop (.SetComp elt [⟨tg, iter, [], 0⟩] scope pos) 0 (.ref it) (.ref D) ce) (compPost (model X.prog X.w) X.A X.xe none (EP X pins σ Q) (.ref D) t3.heap.objs.size) t4 := by
    refine PpSet.compLoopS_any (fun n tc => ∃ i Hc, Inv (X.blk t3 HD scope ce fp) [] (L2.wipe σ (own.map (·.2))) Hc tc ∧ tn i tc.heap ∧ (∀ b ∈ fp, Hc b = none) ∧ Z i n Hc) ?_ m0 ⟨0, HD, I4, st4, dist, z0⟩
    rintro n t5 ⟨i, H5, I5, st5, n5, z5⟩
    rcases turn i n H5 z5 with ⟨stop, qq⟩ | ⟨go, Nx, hNx, step⟩
    · refine thnF (T.done (X.blk t3 HD scope ce fp) rfl rfl rfl hc i [] t5 _ H5 (fun _ _ => False) I5 (own' I5 n5) st5 stop) fun r t6 ⟨hr, I6⟩ => ?_
      subst hr
      have I7 : Inv X pins σ H5 t6 := I3.call' (ch := fp) I6.os I6.base I6.hok I6.bare fun b hb => ⟨(fk3 b hb).1.2.2.2.1, (fk3 b hb).1.2.1, (fk3 b hb).1.2.2.2.2.1, (fk3 b hb).1.2.2.2.2.2⟩
      have nC : H5 t3.heap.objs.size = none := by rw [← ceL]; exact I6.free
      obtain ⟨mm, hn, _⟩ := I6.loc
      have hn : t6.heap.Ns t3.heap.objs.size mm := by rw [← ceL]; exact hn
      refine ⟨mm, hn, fun h'' sb => ?_⟩
      obtain ⟨g0, g1, g2, g3, g4, g5⟩ := I3.fpOk (Nat.le_refl _) nC
      exact ⟨.ref D, H5, I7.turned (t' := t6.toks) (fun b o hb e => (sb.2 b hb).trans e) g0 g1 g3 g4 g5, rfl, qq⟩
    · refine thnF (T.item (X.blk t3 HD scope ce fp) rfl rfl rfl hc i [] t5 _ H5 (fun _ _ => False) I5 (own' I5 n5) st5 go) fun r t6 ⟨u, hr, h6⟩ => ?_
      subst hr
      refine thnF h6 fun _ t7 ⟨x, H7, I7, r7, y7, st7, n7⟩ => ?_
      have J7 := I7.pinned (own' I7 n7) (T.obj _ _ st7)
      refine thnF (pg.run _ t7 _ H7 x u _ J7 r7 (step x H7 y7)) fun _ t8 ⟨σ8, H8, I8, hw8, q8⟩ => ?_
      refine wpAny_tests_nil ?_
      rw [if_pos rfl]
      refine thnF (pe.run _ t8 σ8 H8 _ I8 q8) fun z t10 ⟨yv, H10, I10, r10, c, S0, n0, ey, hD10, hz10, nx⟩ => ?_
      subst ey
      refine call_set_add (knd := mixKind X.prog X.w) (kV_is r10) (key_scan r10) (setK_get (X := X.blk t3 HD scope ce fp) I10 hD10) hz10 fun h' sb new => ?_
      have there : ∃ o, h'.get? D = some o := new.elim fun o e => by obtain ⟨_, _, _, ho, _⟩ := e; exact ⟨o, ho⟩
      have I11 := I10.write (e := D) (t' := t10.toks + 1) (by rw [hD10]; trivial) (.inl rfl) (fun b o hb ho => (sb.2 b hb).trans ho) there (setK_new new)
      obtain ⟨m', hm, z'⟩ := hNx _ nx
      have pin' : ∀ b ∈ fp, ∀ o, t7.heap.get? b = some o → h'.get? b = some o ∧ upd H10 D (SetK X.prog X.w D (fun j => S0 j || decide (j = c)) (if S0 c = true then n0 else n0 + 1)) b = none := fun b hb o e =>
        have zz := I11.pin (b, o) (List.mem_append_right _ (List.mem_append_right _ (mem_pinsAt hb e)))
        ⟨zz.1, zz.2.1⟩
      have hl : (L2.wipe σ (own.map (·.2))).length = σ8.length := by rw [← hw8, L2.wipe_length]
      refine ⟨m', hm, i + 1, _, (I11.unpinned (pins := [])).weak hl (fun j v e => ?_), T.keep _ _ _ st7 fun b hb o e => (pin' b hb o e).1, fun b hb => ?_, z'⟩
      · rw [← hw8] at e
        exact (L2.wipe_some e).1
      · obtain ⟨o, e, _⟩ := T.obj _ _ st7 b hb
        exact (pin' b hb o e).2
  exact PpSet.codeAny_compStart_set loop (T.self X.A 0 _ _ _ st4 loop)
/-- len of such a set -/
theorem cr_lenK : CallR X (.builtin "len") fun xs H Q => ∃ D S n, xs = [.ref D] ∧ H D = some (SetK X.prog X.w D S n) ∧ Q (.int n) H := by
  intro pins s σ H xs us Q I r h
  obtain ⟨D, S, n, rfl, hD, q⟩ := h
  obtain ⟨u, rfl, ru⟩ := vals1 r
  cases ru
  obtain ⟨o, es, ep, t, ho, hex, hd, _, _, hb, hf, hn⟩ := setK_get I hD
  have hb : es.size < 4096 := hb
  exact call_len_set ho hex hd hf (by omega) ⟨.int n, H, I.tok _, ⟨_, by rw [hn]⟩, q⟩
end
/-! as a rule of the small language -/
theorem hid_setK {P : Program} {w : World} {D : Addr} {S : Key → Bool} {n : Nat} : HidO (SetK P w D S n) := by
  refine ⟨trivial, fun _ z => (by unfold SetK at z; cases z), fun c q z => ?_⟩
  unfold SetK LamX.CodeO at z
  injection z with z
  let ob : Obj := { cls := .none, data := .fields #[.none, .str q 0] }
  let hp : Heap := { objs := Array.replicate (max c D + 1) ob }
  have get : ∀ a, a ≤ max c D → hp.get? a = some ob := fun a ha => by
    have e : hp.objs[a]? = some ob := by
      show (Array.replicate (max c D + 1) ob)[a]? = some ob
      rw [Array.getElem?_replicate, if_pos (Nat.lt_succ_of_le ha)]
    unfold Heap.get?
    rw [e]
  have yes : (∃ (oc : Obj) (vs : Array Value) (t : Tok), hp.get? c = some oc ∧ oc.data = .fields vs ∧ vs[1]? = some (.str q t)) := ⟨ob, _, 0, get c (Nat.le_max_left _ _), rfl, rfl⟩
  rw [← congrFun z hp] at yes
  obtain ⟨o, es, ep, t, ho, _, hd, _⟩ := yes
  rw [get D (Nat.le_max_right _ _)] at ho
  cases ho
  cases hd
def hasK (ks : List Key) (j : Key) : Bool := ks.any fun k => decide (k = j)
theorem inT_key {u : T} {c : Key} (hu : keyR u c) : ∀ {us : List T} {ks : List Key}, KeysR us ks → inT u us = hasK ks c
  | _, _, .nil => rfl
  | _, _, .cons h r => by
    unfold inT hasK
    rw [keyR_eqv h hu, inT_key hu r]
    rfl
theorem dedup_snoc {us : List T} {u : T} : dedup (us ++ [u]) = addD (dedup us) u := by unfold dedup; rw [List.foldl_append]; rfl
structure SkR (us : List T) (S : Key → Bool) (n : Nat) : Prop where
  ex : ∃ ks, KeysR (dedup us) ks ∧ ∀ j, S j = hasK ks j
  num : n = (dedup us).length
theorem SkR.snoc {us : List T} {S : Key → Bool} {n : Nat} (h : SkR us S n) {u : T} {c : Key} (hu : keyR u c) : SkR (us ++ [u]) (fun j => S j || decide (j = c)) (if S c = true then n else n + 1) := by
  obtain ⟨⟨ks, h1, h2⟩, h3⟩ := h
  have e := inT_key hu h1
  have ed : dedup (us ++ [u]) = if hasK ks c = true then dedup us else dedup us ++ [u] := by rw [dedup_snoc]; unfold addD; rw [e]
  rw [h2 c]
  by_cases hc : hasK ks c = true
  · rw [if_pos hc] at ed ⊢
    refine ⟨⟨ks, by rw [ed]; exact h1, fun j => ?_⟩, by rw [ed]; exact h3⟩
    rw [h2 j]
    by_cases hj : j = c
    · subst hj; rw [hc]; rfl
    · rw [decide_eq_false hj, Bool.or_false]
  · rw [if_neg hc] at ed ⊢
    refine ⟨⟨ks ++ [c], by rw [ed]; exact h1.snoc hu, fun j => ?_⟩, by rw [ed, List.length_append, h3]; rfl⟩
    rw [h2 j]
    unfold hasK
    rw [List.any_append]
    simp [eq_comm]
theorem dedup_le {us : List T} : (dedup us).length ≤ us.length := by
  have key : ∀ (l acc : List T), (l.foldl addD acc).length ≤ acc.length + l.length := by
    intro l
    induction l with
    | nil => intro acc; exact Nat.le_refl _
    | cons u l ih =>
      intro acc
      refine Nat.le_trans (ih (addD acc u)) ?_
      unfold addD
      split
      · rw [List.length_cons]; omega
      · rw [List.length_append, List.length_cons, List.length_cons, List.length_nil]; omega
  have := key us []
  rw [List.length_nil, Nat.zero_add] at this
  exact this
section
variable {G : Glob} {W : WX} {X : Cx} {elt tgE iter : Expr} {scope : Scope} {own : List (Str × Nat)} {pos p1 p2 : Pos} {tg : Tg} {wi : TI'} {te : TE'} {n : Nat}
abbrev lsF (own : List Nat) (tg : Tg) (te : TE') (ρ : Env) : T → Sto → KL → Prop := fun x η' Kr => optF (bindTg tg x (setvs ρ.v own)) fun v => te ⟨v, ρ.x⟩ η' noX fun u η3 => keyT u = true ∧ Kr [u] η3
theorem q_lenSet (o : XG G n W X) (hN : X.N.Nodup) (hi : PI X tgE iter (liftI G W wi)) (ok : BlkOk X.N X.env.scope scope own)
    (hg : ∀ (s : Shared) (H : Hp) (C : Addr) (cl : List (Str × Addr)) (fp : List Addr), PG (X.blk s H scope (compEnvC scope cl C X.env) fp) tgE (gT G.K tg))
    (he : ∀ Z (s : Shared) (H : Hp) (C : Addr) (cl : List (Str × Addr)) (fp : List Addr), PE (X.blk s H scope (compEnvC scope cl C X.env) fp) elt (liftE (G.hid Z) noW te)) (hs : ∀ x, foldedSetIterable iter X.env x = pure x) (hv : ∀ i ∈ tgIx tg, i ∈ own.map (·.2))
    (hgl : Gl X "len") (hm : X.mg "len" = none) :
    PE X (.Call (.Name "len" p1) [.SetComp elt [⟨tgE, iter, [], 0⟩] scope pos] [] p2) (liftE G W fun ρ η X K => wi ρ η X fun ts sr η1 => ts.length ≤ 1000 ∧ wcomp (stays sr ts) (lsF (own.map (·.2)) tg te ρ) ts [] η1 fun us η' => K (.int (dedup us).length) η') := by
  have core : PE X (.SetComp elt [⟨tgE, iter, [], 0⟩] scope pos) (tSk X.prog X.w (liftI G W wi) (gT G.K tg) (fun σ H Q => ∃ Z, liftE (G.hid Z) noW te σ H Q) (own.map (·.2))) := pe_sk o.calm hN hi ok hg (fun s H C cl fp => pe_any fun Z => he Z s H C cl fp) hs
  refine (one_star X (by rfl) cr_lenK hgl hm (by decide +kernel) core (by decide) (by decide)).imp fun σ H Q ⟨ρ, η, Y, K, hρ, hS, ht, hX, hQ⟩ => ?_
  refine ⟨ρ, η, Y, _, hρ, hS, ht, hX, fun ts src J η1 H1 wk hl S1 f1 ⟨hsz, k1⟩ D hD => ?_⟩
  have hZ : ∀ a, hidD G D a → G.Z a ∨ H1 a = none := fun a z => z.imp id fun e => by rw [e]; exact hD
  have nD := S1.nz hD
  refine ⟨fun i m H' => i ≤ ts.length ∧ m = ts.length - i ∧ ∃ η' us S n, H' D = some (SetK X.prog X.w D S n) ∧ us.length ≤ i ∧ SkR us S n ∧ StoR (G.hid (hidD G D)) H' η' ∧ Frm η1 H1 η' H' ∧ wcomp (stays src ts) (lsF (own.map (·.2)) tg te ρ) (ts.drop i) us η' fun us η' => K (.int (dedup us).length) η',
    ⟨ts.length, Nat.zero_le _, rfl, η1, [], _, 0, upd_same, Nat.le_refl _, ⟨⟨[], .nil, fun j => rfl⟩, rfl⟩, S1.hide hD hid_setK, Frm.new hD, k1⟩, ?_⟩
  rintro i m H' ⟨hi', rfl, η', us, S, nn, hDa, hlu, sk, S', f', hw⟩
  by_cases hlt : i < ts.length
  · rw [List.drop_eq_getElem_cons hlt] at hw
    obtain ⟨st, hw⟩ := hw
    refine .inr ⟨wk.go _ hZ i H' η' hlt S' f' st, fun H'' => ∃ m', m' < ts.length - i ∧ (i + 1 ≤ ts.length ∧ m' = ts.length - (i + 1) ∧ ∃ η' us S n, H'' D = some (SetK X.prog X.w D S n) ∧ us.length ≤ i + 1 ∧ SkR us S n ∧ StoR (G.hid (hidD G D)) H'' η' ∧ Frm η1 H1 η' H'' ∧ wcomp (stays src ts) (lsF (own.map (·.2)) tg te ρ) (ts.drop (i + 1)) us η' fun us η' => K (.int (dedup us).length) η'), fun _ h => h, fun x H2 y => ?_⟩
    obtain ⟨t, et, rx, S2, f2⟩ := wk.yld _ hZ i H' η' x H2 S' f' st y hlt
    rw [List.getElem?_eq_getElem hlt] at et
    cases et
    obtain ⟨v, ev, hw⟩ := optF_inv hw
    have f12 := f'.trans f2
    have keepD : ∀ {η3 : Sto} {H3 : Hp}, Frm η' H' η3 H3 → H3 D = some (SetK X.prog X.w D S nn) := fun f => f.hp D _ hDa (S'.hz D (.inr rfl)).2 hid_setK.nt
    have envs : EnvR (G.hid (hidD G D)) H2 η' (L2.wipe σ (own.map (·.2))) ⟨setvs ρ.v (own.map (·.2)), ρ.x⟩ := by
      have e1 : EnvR G H1 η1 (L2.wipe σ (own.map (·.2))) ⟨setvs ρ.v (own.map (·.2)), ρ.x⟩ := (hρ.frm f1).wipe
      have e2 : EnvR (G.hid (hidD G D)) H1 η1 (L2.wipe σ (own.map (·.2))) ⟨setvs ρ.v (own.map (·.2)), ρ.x⟩ := e1.mv (mv_Z hZ)
      exact e2.frm f12
    refine gT_ok (G := G.hid (hidD G D)) (x := ρ.x) envs rx ev fun σ2 hρ2 hwp => ⟨(hwp _ hv).trans wipe_wipe, hidD G D, ⟨v, ρ.x⟩, η', noX, _, hρ2, S2, hw, .no, fun u y η4 H4 ry S4 f4 ⟨hk, k4⟩ => ?_⟩
    obtain ⟨c, kr, rfl⟩ := keyR_of hk ry
    have hd := keepD (f2.trans f4)
    have hb : nn + 1 < scanBound := by
      have h1 := sk.num
      have h2 := dedup_le (us := us)
      show nn + 1 < 4096
      omega
    refine ⟨c, S, nn, rfl, hd, hb, ts.length - (i + 1), by omega, hlt, rfl, η4, us ++ [u], _, _, upd_same, by rw [List.length_append]; exact Nat.succ_le_succ hlu, sk.snoc kr, S4.grow hd hid_setK hid_setK, (f12.trans f4).updD hD, k4⟩
  · have e : i = ts.length := by omega
    subst e
    rw [List.drop_length] at hw
    obtain ⟨st, hw⟩ := hw
    refine .inl ⟨wk.stop _ hZ H' η' S' f' st, D, S, nn, rfl, hDa, ?_⟩
    rw [sk.num]
    exact (hQ.frm (f1.trans f')).here S'.show' (.int _) hw
end
end TL

set_option maxHeartbeats 1000000
/-! a text of the program held against a text of the small language -/
namespace TL
open PySem PySem.Spec PyProof.Rows L2
/-! ### what the checker knows -/
structure KwP where
  f : Nat
  n : Nat
  ks : List Str
  perm : List Nat
structure HofP where
  nm : Str
  ci : Nat
  ret : Str
structure Gs where
  fns : List (Str × List Str)
  glb : List (Str × T)
  exn : List Str
  kws : List KwP
  hofs : List HofP
  blt : List Str
structure Sx where
  N : List Str
  sc : Scope
  /-- none: a def; some: a comprehension's block -/
  blk : Option Scope
  lam : Bool
def kindIs (sc : Scope) (x : Str) (k : NameKind) : Bool := decide (sc.names.lookup x = some k)
def visB (sc : Scope) (x : Str) : Bool := kindIs sc x .local || kindIs sc x .cell || kindIs sc x .free
def locB (sc : Scope) (x : Str) : Bool := kindIs sc x .local || kindIs sc x .cell
def nmOk (x : Str) : Bool := !(x == ("__debug__" : Str)) && !(x == ("__classdict__" : Str))
def glB (S : Sx) (x : Str) : Bool := kindIs S.sc x .globalImplicit && nmOk x
def bltB (g : Gs) (S : Sx) (x : Str) : Bool := glB S x && g.blt.contains x
def noStar : Expr → Bool
  | .Starred .. => false
  | _ => true
def plainIxB : Expr → Bool
  | .Slice .. => false
  | _ => true
/-- its truth is its value's -/
def plainC : Expr → Bool
  | .UnaryOp .Not .. => false
  | .BoolOp .. => false
  | .IfExp .. => false
  | .Compare .. => false
  | _ => true
def noComp : Expr → Bool
  | .ListComp .. => false
  | .SetComp .. => false
  | .DictComp .. => false
  | _ => true
def noSet : Expr → Bool
  | .Set .. => false
  | _ => true
def notCall0 : Expr → Bool
  | .Call (.Name _ _) [] [] _ => false
  | _ => true
def isBoolOp : Expr → Bool
  | .BoolOp .. => true
  | _ => false
def bopIs : Bop → Operator → Bool
  | .add, .Add => true | .sub, .Sub => true | .mul, .Mult => true | .fdiv, .FloorDiv => true | .mod, .Mod => true | .pow, .Pow => true
  | _, _ => false
def copIs : Cop → CmpOp → Bool
  | .eq, .Eq => true | .ne, .NotEq => true | .lt, .Lt => true | .le, .LtE => true | .gt, .Gt => true | .ge, .GtE => true
  | .isN, .Is => true | .notN, .IsNot => true | .inn, .In => true | .nin, .NotIn => true
  | _, _ => false
def ownP (N : List Str) (own : List Nat) : List (Str × Nat) := own.map fun i => (N.getD i "", i)
def inner (S : Sx) (scope : Scope) : Sx := ⟨S.N, relS scope S.sc, some scope, false⟩
/-- a name that is stored -/
def stoB (S : Sx) (i : Nat) (x : Str) : Bool := decide (S.N[i]? = some x) && locB S.sc x && (match S.blk with
  | none => true
  | some scope => kindIs scope x .cell || kindIs S.sc x .local)
def ckTg (S : Sx) (t : Expr) : Tg → Bool
  | .name i => match t with
    | .Name x _ => stoB S i x
    | _ => false
  | .two i j => match t with
    | .Tuple es _ _ => (match es with
      | [.Name x _, .Name y _] => stoB S i x && stoB S j y
      | _ => false)
    | _ => false
mutual
def teq : T → T → Bool
  | .non, .non => true
  | .bl a, .bl b => a == b
  | .int i, .int j => decide (i = j)
  | .str x, .str y => decide (x = y)
  | .tup xs, .tup ys => teqs xs ys
  | .cl xs, .cl ys => teqs xs ys
  | .dct as bs, .dct cs ds => teqs as cs && teqs bs ds
  | .ref a, .ref b => decide (a = b)
  | _, _ => false
def teqs : List T → List T → Bool
  | [], [] => true
  | x :: xs, y :: ys => teq x y && teqs xs ys
  | _, _ => false
end
mutual
theorem teq_ok : ∀ {t u : T}, teq t u = true → t = u
  | .non, u, h => by cases u <;> first | rfl | exact Bool.noConfusion h
  | .bl a, u, h => by cases u <;> first | exact congrArg T.bl (by simpa [teq] using h) | exact Bool.noConfusion h
  | .int a, u, h => by cases u <;> first | exact congrArg T.int (by simpa [teq] using h) | exact Bool.noConfusion h
  | .str a, u, h => by cases u <;> first | exact congrArg T.str (by simpa [teq] using h) | exact Bool.noConfusion h
  | .ref a, u, h => by cases u <;> first | exact congrArg T.ref (by simpa [teq] using h) | exact Bool.noConfusion h
  | .tup xs, u, h => by cases u <;> first | exact congrArg T.tup (teqs_ok (ts := xs) h) | exact Bool.noConfusion h
  | .cl xs, u, h => by cases u <;> first | exact congrArg T.cl (teqs_ok (ts := xs) h) | exact Bool.noConfusion h
  | .dct xs ys, u, h => by
    cases u <;> first
      | exact Bool.noConfusion h
      | (rename_i cs ds
         have h : (teqs xs cs && teqs ys ds) = true := h
         rw [Bool.and_eq_true] at h
         rw [teqs_ok h.1, teqs_ok h.2])
theorem teqs_ok : ∀ {ts us : List T}, teqs ts us = true → ts = us
  | [], [], _ => rfl
  | [], _ :: _, h => Bool.noConfusion h
  | _ :: _, [], h => Bool.noConfusion h
  | x :: xs, y :: ys, h => by
    have h : (teq x y && teqs xs ys) = true := h
    rw [Bool.and_eq_true] at h
    rw [teq_ok h.1, teqs_ok h.2]
end
def kwName (k : Keyword) : Option Str := k.arg
mutual
def ckE (g : Gs) : Sx → Expr → E → Bool
  | S, a, .var i => match a with
    | .Name x _ => decide (S.N[i]? = some x) && visB S.sc x && nmOk x
    | _ => false
  | S, a, .cst t => match a, t with
    | .Constant .none _ _, .non => true
    | .Constant (.bool b) _ _, .bl c => b == c
    | .Constant (.int i) _ _, .int j => decide (i = j)
    | .Constant (.str x) _ _, .str y => decide (x = y) && decide (x.length ≤ sizeLine)
    | _, _ => false
  | S, a, .gcst i t => match a with
    | .Name x _ => glB S x && (match g.glb[i]? with
      | some (y, u) => decide (x = y) && teq t u
      | none => false)
    | _ => false
  | S, a, .tup es => match a with
    | .Tuple as _ _ => ckEs g S as es && decide (as.length ≤ 1000)
    | _ => false
  | S, a, .lst es => match a with
    | .List as _ => ckEs g S as es && decide (as.length ≤ 1000)
    | _ => false
  | S, a, .lstV es => match a with
    | .List as _ => ckEs g S as es && decide (as.length ≤ 1000)
    | _ => false
  | S, a, .bin o x y => match a with
    | .BinOp l op r _ => bopIs o op && ckE g S l x && ckE g S r y
    | _ => false
  | S, a, .neg x => match a with
    | .UnaryOp .USub l _ => ckE g S l x
    | _ => false
  | S, a, .cat x y => match a with
    | .BinOp l .Add r _ => ckE g S l x && ckE g S r y
    | _ => false
  | S, a, .catV x y => match a with
    | .BinOp l .Add r _ => ckE g S l x && ckE g S r y
    | _ => false
  | S, a, .lc own tg src c elt => match a with
    | .ListComp el [⟨tgE, iter, ifs, 0⟩] scope _ => blkC S.N S.sc scope (ownP S.N own) && (tgIx tg).all (own.contains ·) && noSet iter && ckTg (inner S scope) tgE tg && ckI g S iter src && ckE g (inner S scope) el elt && (match ifs, c with
      | [], .tt => true
      | [], _ => false
      | i :: more, c => more.isEmpty && ckC g (inner S scope) i c)
    | _ => false
  | S, a, .lcM own tg src c elt => match a with
    | .ListComp el [⟨tgE, iter, ifs, 0⟩] scope _ => blkC S.N S.sc scope (ownP S.N own) && (tgIx tg).all (own.contains ·) && noSet iter && ckTg (inner S scope) tgE tg && ckI g S iter src && ckE g (inner S scope) el elt && (match ifs, c with
      | [], .tt => true
      | [], _ => false
      | i :: more, c => more.isEmpty && ckC g (inner S scope) i c)
    | _ => false
  | S, a, .cmp o x y => match a with
    | .Compare l [op] [r] _ => copIs o op && !behindInMarks op r && ckE g S l x && ckE g S r y
    | _ => false
  | S, a, .chain o1 o2 x y z => match a with
    | .Compare l [op, op'] [m, r] _ => copIs o1 op && copIs o2 op' && !lastMarks [op, op'] [m, r] && ckE g S l x && ckE g S m y && ckE g S r z
    | _ => false
  | S, a, .and x y => match a with
    | .BoolOp .And (l :: r :: more) p => ckE g S l x && (match more with
      | [] => ckE g S r y
      | m :: more => ckE g S (.BoolOp .And (r :: m :: more) p) y)
    | _ => false
  | S, a, .or x y => match a with
    | .BoolOp .Or (l :: r :: more) p => ckE g S l x && (match more with
      | [] => ckE g S r y
      | m :: more => ckE g S (.BoolOp .Or (r :: m :: more) p) y)
    | _ => false
  | S, a, .not x => match a with
    | .UnaryOp .Not l _ => ckE g S l x
    | _ => false
  | S, a, .ite c x y => match a with
    | .IfExp t l r _ => ckC g S t c && ckE g S l x && ckE g S r y
    | _ => false
  | S, a, .idx x i => match a with
    | .Subscript l r _ => plainIxB r && ckE g S l x && ckE g S r i
    | _ => false
  | S, a, .slc x lo hi => match a with
    | .Subscript l (.Slice b e none _) _ => ckE g S l x && ckO g S b lo && ckO g S e hi
    | _ => false
  | S, a, .slcM x lo hi => match a with
    | .Subscript l (.Slice b e none _) _ => ckE g S l x && ckO g S b lo && ckO g S e hi
    | _ => false
  | S, a, .isinst x t => match a with
    | .Call (.Name f _) [l, .Name y _] [] _ => decide (f = "isinstance") && decide (y = Str.ofString (tyName t)) && bltB g S f && bltB g S y && noStar l && ckE g S l x
    | _ => false
  | S, a, .call f es => match a with
    | .Call (.Name x _) (l :: more) [] _ => glB S x && (l :: more).all noStar && ckEs g S (l :: more) es && (match g.fns[f]? with
      | some (nm, ps) => decide (x = nm) && decide ((l :: more).length = ps.length)
      | none => false)
    | _ => false
  | S, a, .callK f es kw perm => match a with
    | .Call (.Name x _) as kws _ => glB S x && as.all noStar && ckEs g S as es && ckKs g S kws kw && (match g.fns[f]? with
      | some (nm, ps) => decide (x = nm) && (g.kws.any fun k => decide (k.f = f) && decide (k.n = as.length) && decide (k.perm = perm) && decide (kws.map kwName = k.ks.map some))
      | none => false)
    | _ => false
  | S, a, .agg ag x => match a with
    | .Call (.Name f _) [l] [] _ => decide (f = aggName ag) && bltB g S f && noStar l && ckE g S l x && (match ag with
      | .max => false
      | .min => false
      | _ => true)
    | _ => false
  | S, a, .blt b es => match b, es with
    | .len, .cons x .nil => (match a with
      | .Call (.Name f _) [l] [] _ => decide (f = "len") && bltB g S f && noStar l && ckE g S l x
      | _ => false)
    | .abs, .cons x .nil => (match a with
      | .Call (.Name f _) [l] [] _ => decide (f = "abs") && bltB g S f && noStar l && ckE g S l x
      | _ => false)
    | .int, .cons x .nil => (match a with
      | .Call (.Name f _) [l] [] _ => decide (f = "int") && bltB g S f && noStar l && ckE g S l x
      | _ => false)
    | .dict, .cons x .nil => (match a with
      | .Call (.Name f _) [l] [] _ => decide (f = "dict") && bltB g S f && noStar l && ckE g S l x
      | _ => false)
    | .max2, .cons x (.cons y .nil) => (match a with
      | .Call (.Name f _) [l, r] [] _ => decide (f = "max") && bltB g S f && noStar l && noStar r && ckE g S l x && ckE g S r y
      | _ => false)
    | .min2, .cons x (.cons y .nil) => (match a with
      | .Call (.Name f _) [l, r] [] _ => decide (f = "min") && bltB g S f && noStar l && noStar r && ckE g S l x && ckE g S r y
      | _ => false)
    | _, _ => false
  | S, a, .mth m o es => match m, es with
    | .append, .cons x .nil => (match a with
      | .Call (.Attribute l nm p1) [r] [] p2 => decide (nm = "append") && notCall0 l && decide (p1.endLine = p2.line) && noStar r && ckE g S l o && ckE g S r x
      | _ => false)
    | .get2, .cons x (.cons y .nil) => (match a with
      | .Call (.Attribute l nm p1) [r, q] [] p2 => decide (nm = "get") && notCall0 l && decide (p1.endLine = p2.line) && noStar r && noStar q && ckE g S l o && ckE g S r x && ckE g S q y
      | _ => false)
    | _, _ => false
  | S, a, .lenSet own tg src elt => match a with
    | .Call (.Name f _) [.SetComp el [⟨tgE, iter, [], 0⟩] scope _] [] _ => decide (f = "len") && bltB g S f && blkC S.N S.sc scope (ownP S.N own) && (tgIx tg).all (own.contains ·) && noSet iter && ckTg (inner S scope) tgE tg && ckI g S iter src && ckE g (inner S scope) el elt
    | _ => false
  | S, a, .hof ci e ret => match a with
    | .Call (.Name f _) [.Lambda ⟨[], [], none, [], [], none, []⟩ body scope _] [] _ => S.lam && glB S f && LamX.lamSB S.sc scope && (g.hofs.any fun h => decide (h.nm = f) && decide (h.ci = ci) && decide (h.ret = ret)) && ckE g ⟨S.N, scope, some scope, false⟩ body e
    | _ => false
  | _, _, .exc => false
  | S, a, .frz i => match a with
    | .Name x _ => decide (S.N[i]? = some x) && visB S.sc x && nmOk x
    | _ => false
  | S, a, .weak e => ckE g S a e
def ckEs (g : Gs) : Sx → List Expr → Es → Bool
  | _, [], .nil => true
  | S, a :: as, .cons e es => noStar a && ckE g S a e && ckEs g S as es
  | _, _, _ => false
def ckKs (g : Gs) : Sx → List Keyword → Es → Bool
  | _, [], .nil => true
  | S, k :: ks, .cons e es => k.arg.isSome && ckE g S k.value e && ckKs g S ks es
  | _, _, _ => false
def ckC (g : Gs) : Sx → Expr → C → Bool
  | S, a, .and x y => match a with
    | .BoolOp .And (l :: r :: more) p => ckC g S l x && (match more with
      | [] => ckC g S r y
      | m :: more => ckC g S (.BoolOp .And (r :: m :: more) p) y)
    | _ => false
  | S, a, .or x y => match a with
    | .BoolOp .Or (l :: r :: more) p => ckC g S l x && (match more with
      | [] => ckC g S r y
      | m :: more => ckC g S (.BoolOp .Or (r :: m :: more) p) y)
    | _ => false
  | S, a, .not x => match a with
    | .UnaryOp .Not l _ => ckC g S l x
    | _ => false
  | S, a, .cmp o x y => match a with
    | .Compare l [op] [r] _ => copIs o op && !behindInMarks op r && ckE g S l x && ckE g S r y
    | _ => false
  | S, a, .chain o1 o2 x y z => match a with
    | .Compare l [op, op'] [m, r] _ => copIs o1 op && copIs o2 op' && !lastMarks [op, op'] [m, r] && ckE g S l x && ckE g S m y && ckE g S r z
    | _ => false
  | S, a, .val e => plainC a && ckE g S a e
  | _, _, .tt => false
def ckI (g : Gs) : Sx → Expr → It → Bool
  | S, a, .seq e => ckE g S a e
  | S, a, .chars e => ckE g S a e
  | S, a, .range e => match a with
    | .Call (.Name f _) [l] [] _ => decide (f = "range") && bltB g S f && noStar l && ckE g S l e
    | _ => false
  | S, a, .range2 e d => match a with
    | .Call (.Name f _) [l, r] [] _ => decide (f = "range") && bltB g S f && noStar l && noStar r && ckE g S l e && ckE g S r d
    | _ => false
  | _, _, .zip _ _ => false
  | _, _, .enum _ => false
def ckO (g : Gs) : Sx → Option Expr → Op → Bool
  | _, none, .no => true
  | S, some a, .some e => ckE g S a e
  | _, _, _ => false
end
end TL

set_option maxHeartbeats 4000000
/-! what the checker lets pass is so -/
namespace TL
open PySem PySem.Spec PyProof.Rows L2
def LamK (G : Glob) (X : Cx) : Prop := ∃ cA PA', X.env.code = .ref cA ∧ LamX.TabB X.base X.mg cA PA' ∧ (PA', X.env.qual ++ "<lambda>") ∈ G.Tb ∧ ∀ p ∈ G.Tb, p.1 = PA' → p.2 = X.env.qual ++ "<lambda>"
structure CxOk (G : Glob) (n : Nat) (W : WX) (X : Cx) (S : Sx) : Prop extends XG G n W X where
  hN : X.N = S.N
  nd : S.N.Nodup
  sc : X.env.scope = S.sc
  fn : ∀ x, (match S.blk with | none => True | some scope => scope.names.lookup x = some .cell) → X.fn x = true
  lam : S.lam = true → LamK G X
structure GOk (G : Glob) (g : Gs) (k : Nat) (Φ : Nat → List T → Sto → KX → KE → Prop) (fa : Nat → Addr) (fdt : Nat → FuncData) : Prop where
  fns : ∀ (i : Nat) nm ps, g.fns[i]? = some (nm, ps) → FnK G k (Φ i) nm ps (fa i) (fdt i)
  glb : ∀ (i : Nat) nm t, g.glb[i]? = some (nm, t) → ∃ v u, G.mg nm = some u ∧ RelV v u ∧ ∀ Z, KValR (G.hid Z) t v
  exn : ∀ (i : Nat) nm, g.exn[i]? = some nm → ∃ C fld, ExnC G i C fld ∧ G.mg nm = some (.ref C)
  kws : ∀ p ∈ g.kws, ∀ nm ps, g.fns[p.f]? = some (nm, ps) → KwB G.K (fdt p.f) ps p.n p.ks p.perm
  hofs : ∀ h ∈ g.hofs, (∃ gA Ng call sg cdv bg, HofC G h.nm h.ci h.ret gA Ng call sg cdv bg) ∧ h.ret.length ≤ sizeLine
  blt : ∀ nm ∈ g.blt, G.mg nm = none
theorem FnK.hid {G : Glob} {k : Nat} {Φ : List T → Sto → KX → KE → Prop} {nm : Str} {ps : List Str} {f : Addr} {fd : FuncData} (F : FnK G k Φ nm ps f fd) (Z : Addr → Prop) : FnK (G.hid Z) k Φ nm ps f fd := ⟨F.ok, F.mg, F.kp, F.bd⟩
theorem ExnC.hid {G : Glob} {i : Nat} {C : Addr} {fld : Str} (F : ExnC G i C fld) (Z : Addr → Prop) : ExnC (G.hid Z) i C fld := ⟨F.xs, F.T, F.init⟩
theorem HofC.hid {G : Glob} {nm : Str} {ci : Nat} {ret : Str} {g : Addr} {Ng : List Str} {call : Str} {sg : Scope} {cdv : Value} {bg : List Stmt} (F : HofC G nm ci ret g Ng call sg cdv bg) (Z : Addr → Prop) : HofC (G.hid Z) nm ci ret g Ng call sg cdv bg :=
  ⟨F.ex, F.cd, F.kp, F.mg, F.sc, F.n0, F.vis, F.gives, F.d1, F.d2, F.d3⟩
section
variable {G : Glob} {g : Gs} {k n : Nat} {Φ : Nat → List T → Sto → KX → KE → Prop} {fa : Nat → Addr} {fdt : Nat → FuncData} {W : WX} {X : Cx} {S : Sx}
theorem GOk.hid (Y : GOk G g k Φ fa fdt) (Z : Addr → Prop) : GOk (G.hid Z) g k Φ fa fdt :=
  ⟨fun i nm ps h => (Y.fns i nm ps h).hid Z, Y.glb, fun i nm h => let ⟨C, fld, a, b⟩ := Y.exn i nm h; ⟨C, fld, a.hid Z, b⟩, Y.kws, fun h hh => let ⟨⟨gA, Ng, call, sg, cdv, bg, a⟩, b⟩ := Y.hofs h hh; ⟨⟨gA, Ng, call, sg, cdv, bg, a.hid Z⟩, b⟩, Y.blt⟩
theorem CxOk.gl (o : CxOk G n W X S) {x : Str} (h : kindIs S.sc x .globalImplicit = true) : Gl X x := by
  show X.env.scope.names.lookup x = _
  rw [o.sc]
  exact of_decide_eq_true h
theorem CxOk.vis (o : CxOk G n W X S) {x : Str} (h : visB S.sc x = true) : Vis X.env.scope x := by
  unfold visB kindIs at h
  simp only [Bool.or_eq_true, decide_eq_true_eq] at h
  unfold Vis
  rw [o.sc]
  rcases h with (h | h) | h
  · exact .inl h
  · exact .inr (.inl h)
  · exact .inr (.inr h)
theorem CxOk.loc (o : CxOk G n W X S) {x : Str} (h : locB S.sc x = true) : L2.Loc X.env.scope x := by
  unfold locB kindIs at h
  simp only [Bool.or_eq_true, decide_eq_true_eq] at h
  unfold L2.Loc
  rw [o.sc]
  exact h
theorem nm1 {x : Str} (h : nmOk x = true) : (x == ("__debug__" : Str)) = false ∧ (x == ("__classdict__" : Str)) = false := by
  unfold nmOk at h
  simp only [Bool.and_eq_true, Bool.not_eq_true'] at h
  exact h
theorem gl1 {x : Str} (h : glB S x = true) : kindIs S.sc x .globalImplicit = true ∧ (x == ("__debug__" : Str)) = false := by
  unfold glB at h
  rw [Bool.and_eq_true] at h
  exact ⟨h.1, (nm1 h.2).1⟩
theorem blt1 (Y : GOk G g k Φ fa fdt) (o : CxOk G n W X S) {x : Str} (h : bltB g S x = true) : Gl X x ∧ X.mg x = none := by
  unfold bltB at h
  rw [Bool.and_eq_true] at h
  refine ⟨o.gl (gl1 h.1).1, ?_⟩
  rw [o.mg]
  exact Y.blt x (by simpa using h.2)
theorem star_of {a : Expr} (h : noStar a = true) {es : List Expr} {env : PySem.Env} : starEach (a :: es) env = (false, eval a env) :: starEach es env := by cases a <;> first | rfl | exact Bool.noConfusion h
theorem stars {env : PySem.Env} {pos : Pos} : ∀ {es : List Expr}, es.all noStar = true → (backTo pos (starEach es env)).any (·.1) = false
  | [], _ => rfl
  | a :: es, h => by
    rw [List.all_cons, Bool.and_eq_true] at h
    rw [star_of h.1]
    exact stars (es := es) h.2
theorem plainIx_of {a : Expr} (h : plainIxB a = true) : PlainIx a := by cases a <;> first | exact fun _ _ => rfl | exact Bool.noConfusion h
theorem plainC_of {a : Expr} (h : plainC a = true) {env : PySem.Env} : ∀ whole, isTrue a env whole = (do let v ← whole; standAt a.pos; holding [v] (truthy v)) := by
  cases a <;> first
    | exact fun _ => rfl
    | exact Bool.noConfusion h
    | (rename_i op _ _
       cases op <;> first
         | exact fun _ => rfl
         | exact Bool.noConfusion h)
theorem noSet_of {a : Expr} (h : noSet a = true) {env : PySem.Env} : ∀ x, foldedSetIterable a env x = pure x := by cases a <;> first | exact fun _ => rfl | exact Bool.noConfusion h
theorem swaps_of {a : Expr} (h : noComp a = true) {t : Option Expr} {l : Nat} {env : PySem.Env} : swapsWith a t l env = pure false := by cases a <;> first | rfl | exact Bool.noConfusion h
theorem base_of {a : Expr} (h : notCall0 a = true) {nm : Str} {env : PySem.Env} {whole : Sem Value} : attributeBase a nm env whole = whole := by
  cases a <;> first
    | rfl
    | (rename_i f args kws pos
       cases f <;> first
         | rfl
         | (cases args <;> first
             | rfl
             | (cases kws <;> first
                 | rfl
                 | exact Bool.noConfusion h)))
/-- the context of a comprehension's block -/
theorem CxOk.blk' (o : CxOk G n W X S) {scope : Scope} (hk : scope.kind = .function) (Z : Addr → Prop) (s : Shared) (H : Hp) (C : Addr) (cl : List (Str × Addr)) (fp : List Addr) :
    CxOk (G.hid Z) n noW (X.blk s H scope (compEnvC scope cl C X.env) fp) (inner S scope) where
  P := o.P
  w := o.w
  K := o.K
  mg := o.mg
  base := o.base
  calm := o.calm
  room := o.room
  tk := L2.takes0
  hN := o.hN
  nd := o.nd
  sc := by
    show relS scope X.env.scope = relS scope S.sc
    rw [o.sc]
  fn := fun x h => by
    show (scope.names.lookup x == some NameKind.cell) = true
    have h : scope.names.lookup x = some .cell := h
    rw [h]
    rfl
  lam := fun h => Bool.noConfusion h
theorem sto_ok (o : CxOk G n W X S) {i : Nat} {x : Str} (h : stoB S i x = true) : X.N[i]? = some x ∧ L2.Loc X.env.scope x ∧ (X.fn x = true ∨ X.env.scope.names.lookup x = some .local) := by
  unfold stoB at h
  rw [Bool.and_eq_true, Bool.and_eq_true, decide_eq_true_eq] at h
  obtain ⟨⟨h1, h2⟩, h3⟩ := h
  refine ⟨by rw [o.hN]; exact h1, o.loc h2, ?_⟩
  have f := o.fn x
  cases hb : S.blk with
  | none => rw [hb] at f; exact .inl (f trivial)
  | some scope =>
    rw [hb] at h3 f
    unfold kindIs at h3
    simp only [Bool.or_eq_true, decide_eq_true_eq] at h3
    rcases h3 with h3 | h3
    · exact .inl (f h3)
    · exact .inr (by rw [o.sc]; exact h3)
theorem tg_ok (o : CxOk G n W X S) {t : Expr} {tg : Tg} (h : ckTg S t tg = true) : PG X t (gT G.K tg) := by
  cases tg with
  | name i =>
    cases t <;> first
      | exact Bool.noConfusion h
      | (obtain ⟨h1, h2, h3⟩ := sto_ok o h
         exact pg_name (by rw [o.hN]; exact o.nd) h1 h2 h3)
  | two i j =>
    cases t <;> first
      | exact Bool.noConfusion h
      | (rename_i es kk pp
         match es, h with
         | [.Name x _, .Name y _], h =>
           have h : (stoB S i x && stoB S j y) = true := h
           rw [Bool.and_eq_true] at h
           obtain ⟨h1, h2, h3⟩ := sto_ok o h.1
           obtain ⟨g1, g2, g3⟩ := sto_ok o h.2
           have hN : X.N.Nodup := by rw [o.hN]; exact o.nd
           show PG X _ (gTup G.K 2 (gCons (gName i) (gCons (gName j) gNil)))
           rw [← o.K]
           exact pg_tup o.calm (pgs_cons (pg_name hN h1 h2 h3) (pgs_cons (pg_name hN g1 g2 g3) pgs_nil)))
theorem bop_ok {o : Bop} {op : Operator} (h : bopIs o op = true) : ∃ r, OpR X (binaryOp op) r ∧ (X.K = G.K → Sim2 G r (bopR o)) := by
  cases o <;> cases op <;> first
    | exact Bool.noConfusion h
    | exact ⟨_, op_addAll, fun e => by rw [e]; exact sim_add⟩
    | exact ⟨_, op_sub, fun _ => sim_sub⟩
    | exact ⟨_, op_mulB, fun _ => sim_mul⟩
    | exact ⟨_, op_fdivB, fun _ => sim_fdiv⟩
    | exact ⟨_, op_modN, fun _ => sim_mod⟩
    | exact ⟨_, op_pow, fun _ => sim_pow⟩
theorem cop_ok (hu : X.A.units + 65 < cLine) {o : Cop} {op : CmpOp} (h : copIs o op = true) : ∃ r, OpR X (compareOp op) r ∧ (X.K = G.K → Sim2 G r (copR o)) := by
  cases o <;> cases op <;> first
    | exact Bool.noConfusion h
    | exact ⟨_, op_eqP (by omega), fun e => by rw [e]; exact sim_eq⟩
    | exact ⟨_, op_neP (by omega), fun e => by rw [e]; exact sim_ne⟩
    | exact ⟨_, op_lt, fun _ => sim_lt⟩
    | exact ⟨_, op_le, fun _ => sim_le⟩
    | exact ⟨_, op_gt, fun _ => sim_gt⟩
    | exact ⟨_, op_ge, fun _ => sim_ge⟩
    | exact ⟨_, op_isN, fun _ => sim_isN⟩
    | exact ⟨_, op_notN, fun _ => sim_notN⟩
    | exact ⟨_, op_inAll hu, fun e => by rw [e]; exact sim_inS false (.inl ⟨rfl, rfl⟩)⟩
    | exact ⟨_, op_ninAll hu, fun e => by rw [e]; exact sim_inS true (.inr ⟨rfl, rfl⟩)⟩
theorem own_ok {N : List Str} {own : List Nat} : (ownP N own).map (·.2) = own := by
  unfold ownP
  rw [List.map_map]
  exact List.map_id own
theorem lamCx_ok {k : Nat} {A : Around} {outer : List PySem.Env} {s : Shared} {H : Hp} {E : XK} {scope : Scope} {f c' : Addr} (o : CxOk G n W X S) (L : LamX.LamS X.env.scope scope) (hr : Room k (A.deeper (LamX.lamEnv X scope s.heap.objs.size f c'))) :
    CxOk G k (fun cls d _ H' => E cls d H') (LamX.lamCx X A outer s H E scope f c') ⟨S.N, scope, some scope, false⟩ where
  P := o.P
  w := o.w
  K := o.K
  mg := o.mg
  base := o.base
  calm := rfl
  room := hr
  tk := takes_of rfl rfl rfl rfl
  hN := o.hN
  nd := o.nd
  sc := rfl
  fn := fun x h => absurd rfl (L.own _ (PySem.mem_of_lookup (show scope.names.lookup x = some .cell from h))).2
  lam := fun h => Bool.noConfusion h
end
end TL

set_option maxHeartbeats 4000000
/-! soundness: expressions -/
namespace TL
open PySem PySem.Spec PyProof.Rows L2
theorem _root_.L2.PTs.imp {X : Cx} {e : List Expr} {t u : TT} (h : PTs X e t) (i : ∀ σ H Q, u σ H Q → t σ H Q) : PTs X e u := ⟨fun pins s σ H Q I q => h.run pins s σ H Q I (i σ H Q q)⟩
theorem filterMap_some : ∀ {kws : List Keyword} {ks : List Str}, kws.map kwName = ks.map some → kws.filterMap kwName = ks
  | [], [], _ => rfl
  | [], _ :: _, h => by simp at h
  | _ :: _, [], h => by simp at h
  | q :: kws, x :: ks, h => by
    rw [List.map_cons, List.map_cons] at h
    injection h with h1 h2
    rw [List.filterMap_cons, h1, filterMap_some h2]
def PTW (X : Cx) (a : Expr) (t : TT) : Prop := PT X a t ∧ (isBoolOp a = true → PW X a t)
section
variable (g : Gs) (k : Nat) (Φ : Nat → List T → Sto → KX → KE → Prop) (fa : Nat → Addr) (fdt : Nat → FuncData)
/-- a comprehension's parts -/
theorem lc_ok {G : Glob} {n : Nat} {W : WX} {X : Cx} {S : Sx} (o : CxOk G n W X S) {own : List Nat} {tg : Tg} {src : It} {c : C} {elt : E} {el tgE iter : Expr} {ifs : List Expr} {scope : Scope}
    (h1 : blkC S.N S.sc scope (ownP S.N own) = true) (h2 : (tgIx tg).all (own.contains ·) = true) (h3 : noSet iter = true) (h4 : ckTg (inner S scope) tgE tg = true) (hi : PI X tgE iter (liftI G W (wI Φ src)))
    (he : ∀ Z (X' : Cx), CxOk (G.hid Z) n noW X' (inner S scope) → PE X' el (liftE (G.hid Z) noW (wE Φ elt))) (ht : ∀ Z (X' : Cx), CxOk (G.hid Z) n noW X' (inner S scope) → PTs X' ifs (liftC (G.hid Z) noW (wC Φ c))) :
    LcOk G W X el tgE iter ifs scope (ownP S.N own) tg (wI Φ src) (wC Φ c) (wE Φ elt) := by
  have ok : BlkOk X.N X.env.scope scope (ownP S.N own) := by rw [o.hN, o.sc]; exact blkOk_by h1
  exact {
    hc := o.calm
    hN := by rw [o.hN]; exact o.nd
    hi := hi
    ok := ok
    hg := fun s H C cl fp => tg_ok (G := G.hid G.Z) (o.blk' ok.kind G.Z s H C cl fp) h4
    ht := fun Z s H C cl fp => ht Z _ (o.blk' ok.kind Z s H C cl fp)
    he := fun Z s H C cl fp => he Z _ (o.blk' ok.kind Z s H C cl fp)
    hs := noSet_of h3
    hv := fun i hi => by
      rw [own_ok]
      have := List.all_eq_true.mp h2 i hi
      simpa using this }
mutual
theorem okE : ∀ (e : E) {G : Glob} {n : Nat} {W : WX} {X : Cx} {S : Sx} {a : Expr}, GOk G g k Φ fa fdt → CxOk G n W X S → k ≤ n → 2 ≤ n → (S.lam = true → k + 2 ≤ n) → 2 ≤ k → ckE g S a e = true → PE X a (liftE G W (wE Φ e))
  | .var i, G, n, W, X, S, a, Y, o, kn, n2, hl, k2, h => by
    cases a <;> first
      | exact Bool.noConfusion h
      | (rename_i x p
         have h : (decide (S.N[i]? = some x) && visB S.sc x && nmOk x) = true := h
         simp only [Bool.and_eq_true, decide_eq_true_eq] at h
         obtain ⟨⟨h1, h2⟩, h3⟩ := h
         exact q_var (by rw [o.hN]; exact h1) (o.vis h2) (nm1 h3).1 (nm1 h3).2)
  | .cst t, G, n, W, X, S, a, Y, o, kn, n2, hl, k2, h => by
    cases a <;> first
      | exact Bool.noConfusion h
      | (rename_i c j p
         cases c <;> cases t <;> first
           | exact Bool.noConfusion h
           | exact q_non
           | (have h := eq_of_beq (show (_ == _) = true from h); subst h; exact q_bl)
           | (have h := of_decide_eq_true (show decide (_ = _) = true from h); subst h; exact q_int)
           | (rename_i x y
              have h : (decide (x = y) && decide (x.length ≤ sizeLine)) = true := h
              simp only [Bool.and_eq_true, decide_eq_true_eq] at h
              obtain ⟨rfl, h2⟩ := h
              exact q_str h2))
  | .gcst i t, G, n, W, X, S, a, Y, o, kn, n2, hl, k2, h => by
    cases a <;> first
      | exact Bool.noConfusion h
      | (rename_i x p
         have h : (glB S x && (match g.glb[i]? with
           | some (y, u) => decide (x = y) && teq t u
           | none => false)) = true := h
         rw [Bool.and_eq_true] at h
         obtain ⟨h1, h2⟩ := h
         cases e : g.glb[i]? with
         | none => rw [e] at h2; exact Bool.noConfusion h2
         | some q =>
           obtain ⟨y, u⟩ := q
           rw [e] at h2
           simp only [Bool.and_eq_true, decide_eq_true_eq] at h2
           obtain ⟨rfl, h3⟩ := h2
           cases teq_ok h3
           obtain ⟨v, w, a1, a2, a3⟩ := Y.glb i x t e
           exact q_glob (o.gl (gl1 h1).1) (by rw [o.mg]; exact a1) a2 (a3 G.Z) (gl1 h1).2)
  | .tup es, G, n, W, X, S, a, Y, o, kn, n2, hl, k2, h => by
    cases a <;> first
      | exact Bool.noConfusion h
      | (rename_i as x1 p
         have h : (ckEs g S as es && decide (as.length ≤ 1000)) = true := h
         simp only [Bool.and_eq_true, decide_eq_true_eq] at h
         exact q_tup h.2 (okEs es Y o kn n2 hl k2 h.1))
  | .lst es, G, n, W, X, S, a, Y, o, kn, n2, hl, k2, h => by
    cases a <;> first
      | exact Bool.noConfusion h
      | (rename_i as p
         have h : (ckEs g S as es && decide (as.length ≤ 1000)) = true := h
         simp only [Bool.and_eq_true, decide_eq_true_eq] at h
         exact q_lst h.2 (okEs es Y o kn n2 hl k2 h.1))
  | .lstV es, G, n, W, X, S, a, Y, o, kn, n2, hl, k2, h => by
    cases a <;> first
      | exact Bool.noConfusion h
      | (rename_i as p
         have h : (ckEs g S as es && decide (as.length ≤ 1000)) = true := h
         simp only [Bool.and_eq_true, decide_eq_true_eq] at h
         exact q_lstV h.2 (okEs es Y o kn n2 hl k2 h.1))
  | .bin b x y, G, n, W, X, S, a, Y, o, kn, n2, hl, k2, h => by
    cases a <;> first
      | exact Bool.noConfusion h
      | (rename_i l op r p
         have h : (bopIs b op && ckE g S l x && ckE g S r y) = true := h
         simp only [Bool.and_eq_true] at h
         obtain ⟨⟨h1, h2⟩, h3⟩ := h
         obtain ⟨rr, ho, hs⟩ := bop_ok (X := X) (G := G) h1
         exact q_bin ho (hs o.K) (okE x Y o kn n2 hl k2 h2) (okE y Y o kn n2 hl k2 h3))
  | .neg x, G, n, W, X, S, a, Y, o, kn, n2, hl, k2, h => by
    cases a <;> first
      | exact Bool.noConfusion h
      | (rename_i op l p
         cases op <;> first
           | exact Bool.noConfusion h
           | exact q_neg (okE x Y o kn n2 hl k2 h))
  | .cat x y, G, n, W, X, S, a, Y, o, kn, n2, hl, k2, h => by
    cases a <;> first
      | exact Bool.noConfusion h
      | (rename_i l op r p
         cases op <;> first
           | exact Bool.noConfusion h
           | (have h : (ckE g S l x && ckE g S r y) = true := h
              rw [Bool.and_eq_true] at h
              exact q_cat o.toXG (okE x Y o kn n2 hl k2 h.1) (okE y Y o kn n2 hl k2 h.2)))
  | .catV x y, G, n, W, X, S, a, Y, o, kn, n2, hl, k2, h => by
    cases a <;> first
      | exact Bool.noConfusion h
      | (rename_i l op r p
         cases op <;> first
           | exact Bool.noConfusion h
           | (have h : (ckE g S l x && ckE g S r y) = true := h
              rw [Bool.and_eq_true] at h
              exact q_catV o.toXG (okE x Y o kn n2 hl k2 h.1) (okE y Y o kn n2 hl k2 h.2)))
  | .lc own tg src c elt, G, n, W, X, S, a, Y, o, kn, n2, hl, k2, h => by
    rw [ckE.eq_def] at h
    dsimp only at h
    split at h
    · rename_i el tgE iter ifs scope p
      simp only [Bool.and_eq_true] at h
      obtain ⟨⟨⟨⟨⟨⟨h1, h2⟩, h3⟩, h4⟩, h5⟩, h6⟩, h7⟩ := h
      have L : LcOk G W X el tgE iter ifs scope (ownP S.N own) tg (wI Φ src) (wC Φ c) (wE Φ elt) := lc_ok Φ o h1 h2 h3 h4 (okI src Y o kn n2 hl k2 h5) (fun Z X' o' => okE elt (Y.hid Z) o' kn n2 (fun z => Bool.noConfusion z) k2 h6) fun Z X' o' => by
        cases ifs with
        | nil =>
          cases c <;> first
            | exact Bool.noConfusion h7
            | exact pts_nil.imp fun σ H Q ⟨ρ, η, _, K, hρ, hS, ht, hX, hB⟩ => hB true η H hS .refl ht
        | cons i more =>
          rw [Bool.and_eq_true, List.isEmpty_iff] at h7
          obtain ⟨rfl, h7⟩ := h7
          exact pts_one (okC c (Y.hid Z) o' kn n2 (fun z => Bool.noConfusion z) k2 h7).1
      have q := q_lc (pos := p) L
      rw [own_ok] at q
      exact q
    · exact Bool.noConfusion h
  | .lcM own tg src c elt, G, n, W, X, S, a, Y, o, kn, n2, hl, k2, h => by
    rw [ckE.eq_def] at h
    dsimp only at h
    split at h
    · rename_i el tgE iter ifs scope p
      simp only [Bool.and_eq_true] at h
      obtain ⟨⟨⟨⟨⟨⟨h1, h2⟩, h3⟩, h4⟩, h5⟩, h6⟩, h7⟩ := h
      have L : LcOk G W X el tgE iter ifs scope (ownP S.N own) tg (wI Φ src) (wC Φ c) (wE Φ elt) := lc_ok Φ o h1 h2 h3 h4 (okI src Y o kn n2 hl k2 h5) (fun Z X' o' => okE elt (Y.hid Z) o' kn n2 (fun z => Bool.noConfusion z) k2 h6) fun Z X' o' => by
        cases ifs with
        | nil =>
          cases c <;> first
            | exact Bool.noConfusion h7
            | exact pts_nil.imp fun σ H Q ⟨ρ, η, _, K, hρ, hS, ht, hX, hB⟩ => hB true η H hS .refl ht
        | cons i more =>
          rw [Bool.and_eq_true, List.isEmpty_iff] at h7
          obtain ⟨rfl, h7⟩ := h7
          exact pts_one (okC c (Y.hid Z) o' kn n2 (fun z => Bool.noConfusion z) k2 h7).1
      have q := q_lcM (pos := p) L
      rw [own_ok] at q
      exact q
    · exact Bool.noConfusion h
  | .cmp b x y, G, n, W, X, S, a, Y, o, kn, n2, hl, k2, h => by
    rw [ckE.eq_def] at h
    dsimp only at h
    split at h
    · rename_i l op r p
      simp only [Bool.and_eq_true, Bool.not_eq_true'] at h
      obtain ⟨⟨⟨h1, h2⟩, h3⟩, h4⟩ := h
      obtain ⟨rr, ho, hs⟩ := cop_ok (X := X) (G := G) (by have := o.room.un; omega) h1
      exact q_cmp ho (hs o.K) (okE x Y o kn n2 hl k2 h3) (okE y Y o kn n2 hl k2 h4) h2
    · exact Bool.noConfusion h
  | .chain o1 o2 x y z, G, n, W, X, S, a, Y, o, kn, n2, hl, k2, h => by
    rw [ckE.eq_def] at h
    dsimp only at h
    split at h
    · rename_i l op op' m r p
      simp only [Bool.and_eq_true, Bool.not_eq_true'] at h
      obtain ⟨⟨⟨⟨⟨h1, h2⟩, h3⟩, h4⟩, h5⟩, h6⟩ := h
      obtain ⟨r1, ho1, hs1⟩ := cop_ok (X := X) (G := G) (by have := o.room.un; omega) h1
      obtain ⟨r2, ho2, hs2⟩ := cop_ok (X := X) (G := G) (by have := o.room.un; omega) h2
      exact q_chain (ok := fun u w η => copG o1 u w η = true) (g := copV o1) (ok' := fun u w η => copG o2 u w η = true) (g' := copV o2) ho1 ho2 (hs1 o.K) (hs2 o.K) (okE x Y o kn n2 hl k2 h4) (okE y Y o kn n2 hl k2 h5) (okE z Y o kn n2 hl k2 h6) h3
    · exact Bool.noConfusion h
  | .and x y, G, n, W, X, S, a, Y, o, kn, n2, hl, k2, h => by
    rw [ckE.eq_def] at h
    dsimp only at h
    split at h
    · rename_i l r more p
      rw [Bool.and_eq_true] at h
      obtain ⟨h1, h2⟩ := h
      refine q_and (okE x Y o kn n2 hl k2 h1) ?_ o.K
      cases more with
      | nil => exact pe_one (okE y Y o kn n2 hl k2 h2)
      | cons m more => exact okE y Y o kn n2 hl k2 h2
    · exact Bool.noConfusion h
  | .or x y, G, n, W, X, S, a, Y, o, kn, n2, hl, k2, h => by
    rw [ckE.eq_def] at h
    dsimp only at h
    split at h
    · rename_i l r more p
      rw [Bool.and_eq_true] at h
      obtain ⟨h1, h2⟩ := h
      refine q_or (okE x Y o kn n2 hl k2 h1) ?_ o.K
      cases more with
      | nil => exact pe_one (okE y Y o kn n2 hl k2 h2)
      | cons m more => exact okE y Y o kn n2 hl k2 h2
    · exact Bool.noConfusion h
  | .not x, G, n, W, X, S, a, Y, o, kn, n2, hl, k2, h => by
    cases a <;> first
      | exact Bool.noConfusion h
      | (rename_i op l p
         cases op <;> first
           | exact Bool.noConfusion h
           | exact q_not (okE x Y o kn n2 hl k2 h) o.K)
  | .ite c x y, G, n, W, X, S, a, Y, o, kn, n2, hl, k2, h => by
    cases a <;> first
      | exact Bool.noConfusion h
      | (rename_i t l r p
         have h : (ckC g S t c && ckE g S l x && ckE g S r y) = true := h
         simp only [Bool.and_eq_true] at h
         exact q_ite (okC c Y o kn n2 hl k2 h.1.1).1 (okE x Y o kn n2 hl k2 h.1.2) (okE y Y o kn n2 hl k2 h.2))
  | .idx x i, G, n, W, X, S, a, Y, o, kn, n2, hl, k2, h => by
    cases a <;> first
      | exact Bool.noConfusion h
      | (rename_i l r p
         have h : (plainIxB r && ckE g S l x && ckE g S r i) = true := h
         simp only [Bool.and_eq_true] at h
         exact q_idx (okE x Y o kn n2 hl k2 h.1.2) (okE i Y o kn n2 hl k2 h.2) o.K (plainIx_of h.1.1))
  | .slc x lo hi, G, n, W, X, S, a, Y, o, kn, n2, hl, k2, h => by
    rw [ckE.eq_def] at h
    dsimp only at h
    split at h
    · rename_i l b e p1 p
      simp only [Bool.and_eq_true] at h
      exact q_slc (okE x Y o kn n2 hl k2 h.1.1) (okO lo Y o kn n2 hl k2 h.1.2) (okO hi Y o kn n2 hl k2 h.2) o.K
    · exact Bool.noConfusion h
  | .slcM x lo hi, G, n, W, X, S, a, Y, o, kn, n2, hl, k2, h => by
    rw [ckE.eq_def] at h
    dsimp only at h
    split at h
    · rename_i l b e p1 p
      simp only [Bool.and_eq_true] at h
      exact q_slcM (okE x Y o kn n2 hl k2 h.1.1) (okO lo Y o kn n2 hl k2 h.1.2) (okO hi Y o kn n2 hl k2 h.2) o.K
    · exact Bool.noConfusion h
  | .isinst x t, G, n, W, X, S, a, Y, o, kn, n2, hl, k2, h => by
    rw [ckE.eq_def] at h
    dsimp only at h
    split at h
    · rename_i f p l y p1 p2
      simp only [Bool.and_eq_true, decide_eq_true_eq] at h
      obtain ⟨⟨⟨⟨⟨rfl, rfl⟩, h3⟩, h4⟩, h5⟩, h6⟩ := h
      obtain ⟨a1, a2⟩ := blt1 Y o h3
      obtain ⟨b1, b2⟩ := blt1 Y o h4
      exact q_isinst a1 a2 b1 b2 (okE x Y o kn n2 hl k2 h6) o.K (star_of h5)
    · exact Bool.noConfusion h
  | .call f es, G, n, W, X, S, a, Y, o, kn, n2, hl, k2, h => by
    rw [ckE.eq_def] at h
    dsimp only at h
    split at h
    · rename_i x p l more p2
      simp only [Bool.and_eq_true] at h
      obtain ⟨⟨⟨h1, h2⟩, h3⟩, h4⟩ := h
      cases e : g.fns[f]? with
      | none => rw [e] at h4; exact Bool.noConfusion h4
      | some q =>
        obtain ⟨nm, ps⟩ := q
        rw [e] at h4
        simp only [Bool.and_eq_true, decide_eq_true_eq] at h4
        obtain ⟨rfl, h5⟩ := h4
        have ha := okEs es Y o kn n2 hl k2 h3
        rw [h5] at ha
        rw [List.all_cons, Bool.and_eq_true] at h2
        exact q_call o.toXG (Y.fns f x ps e) kn (o.gl (gl1 h1).1) ha (gl1 h1).2 (star_of h2.1) (stars h2.2)
    · exact Bool.noConfusion h
  | .callK f es kw perm, G, n, W, X, S, a, Y, o, kn, n2, hl, k2, h => by
    rw [ckE.eq_def] at h
    dsimp only at h
    split at h
    · rename_i x p as kws p2
      simp only [Bool.and_eq_true] at h
      obtain ⟨⟨⟨⟨h1, h2⟩, h3⟩, h4⟩, h5⟩ := h
      cases e : g.fns[f]? with
      | none => rw [e] at h5; exact Bool.noConfusion h5
      | some q =>
        obtain ⟨nm, ps⟩ := q
        rw [e] at h5
        simp only [Bool.and_eq_true, decide_eq_true_eq] at h5
        obtain ⟨rfl, h6⟩ := h5
        obtain ⟨kp, hkp, hq⟩ := List.any_eq_true.mp h6
        simp only [Bool.and_eq_true, decide_eq_true_eq] at hq
        obtain ⟨⟨⟨rfl, c2⟩, rfl⟩, c4⟩ := hq
        have B := Y.kws kp hkp x ps e
        rw [c2] at B
        obtain ⟨hk, k1, k2', k3⟩ := okKs kw Y o kn n2 hl k2 h4
        have hlen : kws.length = kp.ks.length := by have := congrArg List.length c4; rwa [List.length_map, List.length_map] at this
        rw [hlen] at hk
        refine q_callK o.toXG (Y.fns kp.f x ps e) kn B (o.gl (gl1 h1).1) (okEs es Y o kn n2 hl k2 h3) hk (gl1 h1).2 (k1 _) (by rw [k2']; exact filterMap_some c4) (fun e0 => ?_) (fun e1 es' ee => ?_) (by rw [stars h2, k3]; rfl)
        · subst e0
          refine ⟨rfl, fun ρ η X K hh => ?_⟩
          cases es with
          | nil => exact hh
          | cons _ _ => exact Bool.noConfusion h3
        · subst ee
          rw [List.all_cons, Bool.and_eq_true] at h2
          exact star_of h2.1
    · exact Bool.noConfusion h
  | .agg ag x, G, n, W, X, S, a, Y, o, kn, n2, hl, k2, h => by
    rw [ckE.eq_def] at h
    dsimp only at h
    split at h
    · rename_i f p l p2
      simp only [Bool.and_eq_true, decide_eq_true_eq] at h
      obtain ⟨⟨⟨⟨rfl, h3⟩, h4⟩, h5⟩, h6⟩ := h
      obtain ⟨a1, a2⟩ := blt1 Y o h3
      have hx := okE x Y o kn n2 hl k2 h5
      cases ag with
      | all => exact q_all o.toXG a1 a2 hx (star_of h4)
      | any => exact q_any o.toXG a1 a2 hx (star_of h4)
      | sum => exact q_sum o.toXG a1 a2 hx (star_of h4)
      | tuple => exact q_tuple o.toXG a1 a2 hx (star_of h4)
      | list => exact q_list o.toXG a1 a2 hx (star_of h4)
      | listM => exact q_listM o.toXG a1 a2 hx (star_of h4)
      | max => exact Bool.noConfusion h6
      | min => exact Bool.noConfusion h6
    · exact Bool.noConfusion h
  | .blt b es, G, n, W, X, S, a, Y, o, kn, n2, hl, k2, h => by
    cases b with
      | len => (
        match es, h with
        | .cons x .nil, h =>
          rw [ckE.eq_def] at h
          dsimp only at h
          split at h
          · rename_i f p l p2 _
            simp only [Bool.and_eq_true, decide_eq_true_eq] at h
            obtain ⟨⟨⟨rfl, h3⟩, h4⟩, h5⟩ := h
            obtain ⟨a1, a2⟩ := blt1 Y o h3
            exact q_len o.toXG a1 a2 (okE x Y o kn n2 hl k2 h5) (star_of h4)
          · exact Bool.noConfusion h
        | .nil, h => exact Bool.noConfusion h
        | .cons _ (.cons _ _), h => exact Bool.noConfusion h)
      | abs => (
        match es, h with
        | .cons x .nil, h =>
          rw [ckE.eq_def] at h
          dsimp only at h
          split at h
          · rename_i f p l p2 _
            simp only [Bool.and_eq_true, decide_eq_true_eq] at h
            obtain ⟨⟨⟨rfl, h3⟩, h4⟩, h5⟩ := h
            obtain ⟨a1, a2⟩ := blt1 Y o h3
            exact q_abs a1 a2 (okE x Y o kn n2 hl k2 h5) (star_of h4)
          · exact Bool.noConfusion h
        | .nil, h => exact Bool.noConfusion h
        | .cons _ (.cons _ _), h => exact Bool.noConfusion h)
      | int => (
        match es, h with
        | .cons x .nil, h =>
          rw [ckE.eq_def] at h
          dsimp only at h
          split at h
          · rename_i f p l p2 _
            simp only [Bool.and_eq_true, decide_eq_true_eq] at h
            obtain ⟨⟨⟨rfl, h3⟩, h4⟩, h5⟩ := h
            obtain ⟨a1, a2⟩ := blt1 Y o h3
            exact q_int1 a1 a2 (okE x Y o kn n2 hl k2 h5) (star_of h4)
          · exact Bool.noConfusion h
        | .nil, h => exact Bool.noConfusion h
        | .cons _ (.cons _ _), h => exact Bool.noConfusion h)
      | max2 => (
        match es, h with
        | .cons x (.cons y .nil), h =>
          rw [ckE.eq_def] at h
          dsimp only at h
          split at h
          · rename_i f p l r p2 _
            simp only [Bool.and_eq_true, decide_eq_true_eq] at h
            obtain ⟨⟨⟨⟨⟨rfl, h3⟩, h4⟩, h5⟩, h6⟩, h7⟩ := h
            obtain ⟨a1, a2⟩ := blt1 Y o h3
            exact q_max2 o.toXG a1 a2 (okE x Y o kn n2 hl k2 h6) (okE y Y o kn n2 hl k2 h7) (star_of h4) (star_of h5)
          · exact Bool.noConfusion h
        | .nil, h => exact Bool.noConfusion h
        | .cons _ .nil, h => exact Bool.noConfusion h
        | .cons _ (.cons _ (.cons _ _)), h => exact Bool.noConfusion h)
      | min2 => (
        match es, h with
        | .cons x (.cons y .nil), h =>
          rw [ckE.eq_def] at h
          dsimp only at h
          split at h
          · rename_i f p l r p2 _
            simp only [Bool.and_eq_true, decide_eq_true_eq] at h
            obtain ⟨⟨⟨⟨⟨rfl, h3⟩, h4⟩, h5⟩, h6⟩, h7⟩ := h
            obtain ⟨a1, a2⟩ := blt1 Y o h3
            exact q_min2 o.toXG a1 a2 (okE x Y o kn n2 hl k2 h6) (okE y Y o kn n2 hl k2 h7) (star_of h4) (star_of h5)
          · exact Bool.noConfusion h
        | .nil, h => exact Bool.noConfusion h
        | .cons _ .nil, h => exact Bool.noConfusion h
        | .cons _ (.cons _ (.cons _ _)), h => exact Bool.noConfusion h)
      | dict => (
        match es, h with
        | .cons x .nil, h =>
          rw [ckE.eq_def] at h
          dsimp only at h
          split at h
          · rename_i f p l p2 _
            simp only [Bool.and_eq_true, decide_eq_true_eq] at h
            obtain ⟨⟨⟨rfl, h3⟩, h4⟩, h5⟩ := h
            obtain ⟨a1, a2⟩ := blt1 Y o h3
            exact q_dict o.toXG a1 a2 (okE x Y o kn n2 hl k2 h5) (star_of h4)
          · exact Bool.noConfusion h
        | .nil, h => exact Bool.noConfusion h
        | .cons _ (.cons _ _), h => exact Bool.noConfusion h)
  | .mth m b es, G, n, W, X, S, a, Y, o, kn, n2, hl, k2, h => by
    cases m with
      | index => (
        match es, h with
        | .nil, h => exact Bool.noConfusion h
        | .cons _ .nil, h => exact Bool.noConfusion h
        | .cons _ (.cons _ _), h => exact Bool.noConfusion h)
      | append => (
        match es, h with
        | .cons x .nil, h =>
          rw [ckE.eq_def] at h
          dsimp only at h
          split at h
          · rename_i l nm p1 r p2 _
            simp only [Bool.and_eq_true, decide_eq_true_eq] at h
            obtain ⟨⟨⟨⟨⟨rfl, h2⟩, h3⟩, h4⟩, h5⟩, h6⟩ := h
            exact q_append o.toXG (okE b Y o kn n2 hl k2 h5) (okE x Y o kn n2 hl k2 h6) (star_of h4) (base_of h2) (by rw [h3]; exact beq_self_eq_true _)
          · exact Bool.noConfusion h
        | .nil, h => exact Bool.noConfusion h
        | .cons _ (.cons _ _), h => exact Bool.noConfusion h)
      | get2 => (
        match es, h with
        | .cons x (.cons y .nil), h =>
          rw [ckE.eq_def] at h
          dsimp only at h
          split at h
          · rename_i l nm p1 r q p2 _
            simp only [Bool.and_eq_true, decide_eq_true_eq] at h
            obtain ⟨⟨⟨⟨⟨⟨⟨rfl, h2⟩, h3⟩, h4⟩, h5⟩, h6⟩, h7⟩, h8⟩ := h
            have s1 : starEach [r, q] X.env = (false, eval r X.env) :: starEach [q] X.env := star_of h4
            have s2 : starEach [q] X.env = (false, eval q X.env) :: starEach [] X.env := star_of h5
            exact q_get2 o.toXG (okE b Y o kn n2 hl k2 h6) (okE x Y o kn n2 hl k2 h7) (okE y Y o kn n2 hl k2 h8) ⟨base_of h2, by rw [s1, s2]; rfl, by rw [h3]; exact beq_self_eq_true _, by rw [s1, s2]; rfl⟩
          · exact Bool.noConfusion h
        | .nil, h => exact Bool.noConfusion h
        | .cons _ .nil, h => exact Bool.noConfusion h
        | .cons _ (.cons _ (.cons _ _)), h => exact Bool.noConfusion h)
  | .lenSet own tg src elt, G, n, W, X, S, a, Y, o, kn, n2, hl, k2, h => by
    rw [ckE.eq_def] at h
    dsimp only at h
    split at h
    · rename_i f p el tgE iter scope p2 p3
      simp only [Bool.and_eq_true, decide_eq_true_eq] at h
      obtain ⟨⟨⟨⟨⟨⟨⟨rfl, h1⟩, h2⟩, h3⟩, h4⟩, h5⟩, h6⟩, h7⟩ := h
      obtain ⟨a1, a2⟩ := blt1 Y o h1
      have ok : BlkOk X.N X.env.scope scope (ownP S.N own) := by rw [o.hN, o.sc]; exact blkOk_by h2
      have q := q_lenSet (p1 := p) (pos := p2) (p2 := p3) (te := wE Φ elt) o.toXG (by rw [o.hN]; exact o.nd) (okI src Y o kn n2 hl k2 h6) ok (fun s H C cl fp => tg_ok (G := G.hid G.Z) (o.blk' ok.kind G.Z s H C cl fp) h5)
        (fun Z s H C cl fp => okE elt (Y.hid Z) (o.blk' ok.kind Z s H C cl fp) kn n2 (fun z => Bool.noConfusion z) k2 h7) (noSet_of h4) (fun i hi => by
          rw [own_ok]
          have := List.all_eq_true.mp h3 i hi
          simpa using this) a1 a2
      rw [own_ok] at q
      exact q
    · exact Bool.noConfusion h
  | .hof ci e ret, G, n, W, X, S, a, Y, o, kn, n2, hl, k2, h => by
    rw [ckE.eq_def] at h
    dsimp only at h
    split at h
    · rename_i f p body scope p2 p3
      simp only [Bool.and_eq_true, decide_eq_true_eq] at h
      obtain ⟨⟨⟨⟨h1, h2⟩, h3⟩, h4⟩, h5⟩ := h
      obtain ⟨hp, hm, hq⟩ := List.any_eq_true.mp h4
      simp only [Bool.and_eq_true, decide_eq_true_eq] at hq
      obtain ⟨⟨rfl, rfl⟩, rfl⟩ := hq
      obtain ⟨⟨gA, Ng, call, sg, cdv, bg, F⟩, hlen⟩ := Y.hofs hp hm
      obtain ⟨cA, PA', c1, c2, c3, c4⟩ := o.lam h1
      have L : LamX.LamS X.env.scope scope := by rw [o.sc]; exact LamX.lamS_by h3
      exact q_hof (k := k) o.toXG (hl h1) F (o.gl (gl1 h2).1) hlen c2 c1 c3 c4 L rfl (fun _ _ _ _ _ => rfl) fun A outer s H E f c' hr => okE e Y (lamCx_ok o L hr) (Nat.le_refl k) k2 (fun z => Bool.noConfusion z) k2 h5
    · exact Bool.noConfusion h
  | .exc, G, n, W, X, S, a, Y, o, kn, n2, hl, k2, h => Bool.noConfusion h
  | .frz i, G, n, W, X, S, a, Y, o, kn, n2, hl, k2, h => by
    cases a <;> first
      | exact Bool.noConfusion h
      | (rename_i x p
         have h : (decide (S.N[i]? = some x) && visB S.sc x && nmOk x) = true := h
         simp only [Bool.and_eq_true, decide_eq_true_eq] at h
         obtain ⟨⟨h1, h2⟩, h3⟩ := h
         exact q_frz (by rw [o.hN]; exact h1) (o.vis h2) (nm1 h3).1 (nm1 h3).2)
  | .weak e, G, n, W, X, S, a, Y, o, kn, n2, hl, k2, h => q_weak (okE e Y o kn n2 hl k2 h)
theorem okEs : ∀ (es : Es) {G : Glob} {n : Nat} {W : WX} {X : Cx} {S : Sx} {as : List Expr}, GOk G g k Φ fa fdt → CxOk G n W X S → k ≤ n → 2 ≤ n → (S.lam = true → k + 2 ≤ n) → 2 ≤ k → ckEs g S as es = true → PA X as (liftL G W as.length (wEs Φ es))
  | .nil, G, n, W, X, S, as, Y, o, kn, n2, hl, k2, h => by
    cases as with
    | nil => exact q_nil
    | cons a as => exact Bool.noConfusion h
  | .cons e es, G, n, W, X, S, as, Y, o, kn, n2, hl, k2, h => by
    cases as with
    | nil => exact Bool.noConfusion h
    | cons a as =>
      have h : (noStar a && ckE g S a e && ckEs g S as es) = true := h
      simp only [Bool.and_eq_true] at h
      exact q_cons (okE e Y o kn n2 hl k2 h.1.2) (okEs es Y o kn n2 hl k2 h.2) (star_of h.1.1)
theorem okKs : ∀ (es : Es) {G : Glob} {n : Nat} {W : WX} {X : Cx} {S : Sx} {ks : List Keyword}, GOk G g k Φ fa fdt → CxOk G n W X S → k ≤ n → 2 ≤ n → (S.lam = true → k + 2 ≤ n) → 2 ≤ k → ckKs g S ks es = true →
    PK X ks (liftL G W ks.length (wEs Φ es)) ∧ (∀ pos, (backToKw pos (keywordEach ks X.env)).all (·.1.isSome) = true) ∧ (∀ pos, (backToKw pos (keywordEach ks X.env)).filterMap (·.1) = ks.filterMap kwName) ∧ ∀ pos, (backToKw pos (keywordEach ks X.env)).any (·.1.isNone) = false
  | .nil, G, n, W, X, S, ks, Y, o, kn, n2, hl, k2, h => by
    cases ks with
    | nil => exact ⟨k_nil, fun _ => rfl, fun _ => rfl, fun _ => rfl⟩
    | cons q ks => exact Bool.noConfusion h
  | .cons e es, G, n, W, X, S, ks, Y, o, kn, n2, hl, k2, h => by
    cases ks with
    | nil => exact Bool.noConfusion h
    | cons q ks =>
      obtain ⟨nm, v, kp⟩ := q
      have h : (nm.isSome && ckE g S v e && ckKs g S ks es) = true := h
      simp only [Bool.and_eq_true] at h
      obtain ⟨⟨h1, h2⟩, h3⟩ := h
      obtain ⟨b1, b2, b3, b4⟩ := okKs es Y o kn n2 hl k2 h3
      obtain ⟨x, rfl⟩ := Option.isSome_iff_exists.mp h1
      exact ⟨k_cons (okE e Y o kn n2 hl k2 h2) b1, fun pos => b2 pos, fun pos => congrArg (x :: ·) (b3 pos), fun pos => b4 pos⟩
theorem okC : ∀ (c : C) {G : Glob} {n : Nat} {W : WX} {X : Cx} {S : Sx} {a : Expr}, GOk G g k Φ fa fdt → CxOk G n W X S → k ≤ n → 2 ≤ n → (S.lam = true → k + 2 ≤ n) → 2 ≤ k → ckC g S a c = true → PTW X a (liftC G W (wC Φ c))
  | .and x y, G, n, W, X, S, a, Y, o, kn, n2, hl, k2, h => by
    rw [ckC.eq_def] at h
    dsimp only at h
    split at h
    · rename_i l r more p
      rw [Bool.and_eq_true] at h
      obtain ⟨h1, h2⟩ := h
      have hb : PW X (.BoolOp .And (r :: more) p) (liftC G W (wC Φ y)) := by
        cases more with
        | nil => exact pw_and1 (okC y Y o kn n2 hl k2 h2).1
        | cons m more => exact (okC y Y o kn n2 hl k2 h2).2 rfl
      have q := c_and (okC x Y o kn n2 hl k2 h1).1 hb
      exact ⟨q.pt, fun _ => q⟩
    · exact Bool.noConfusion h
  | .or x y, G, n, W, X, S, a, Y, o, kn, n2, hl, k2, h => by
    rw [ckC.eq_def] at h
    dsimp only at h
    split at h
    · rename_i l r more p
      rw [Bool.and_eq_true] at h
      obtain ⟨h1, h2⟩ := h
      have hb : PW X (.BoolOp .Or (r :: more) p) (liftC G W (wC Φ y)) := by
        cases more with
        | nil => exact pw_or1 (okC y Y o kn n2 hl k2 h2).1
        | cons m more => exact (okC y Y o kn n2 hl k2 h2).2 rfl
      have q := c_or (okC x Y o kn n2 hl k2 h1).1 hb
      exact ⟨q.pt, fun _ => q⟩
    · exact Bool.noConfusion h
  | .not x, G, n, W, X, S, a, Y, o, kn, n2, hl, k2, h => by
    cases a <;> first
      | exact Bool.noConfusion h
      | (rename_i op l p
         cases op <;> first
           | exact Bool.noConfusion h
           | exact ⟨c_not (okC x Y o kn n2 hl k2 h).1, fun z => Bool.noConfusion z⟩)
  | .val e, G, n, W, X, S, a, Y, o, kn, n2, hl, k2, h => by
    have h : (plainC a && ckE g S a e) = true := h
    rw [Bool.and_eq_true] at h
    exact ⟨c_val (okE e Y o kn n2 hl k2 h.2) o.K (plainC_of h.1), fun z => by cases a <;> first | exact Bool.noConfusion z | exact Bool.noConfusion h.1⟩
  | .cmp b x y, G, n, W, X, S, a, Y, o, kn, n2, hl, k2, h => by
    rw [ckC.eq_def] at h
    dsimp only at h
    split at h
    · rename_i l op r p
      simp only [Bool.and_eq_true, Bool.not_eq_true'] at h
      obtain ⟨⟨⟨h1, h2⟩, h3⟩, h4⟩ := h
      obtain ⟨rr, ho, hs⟩ := cop_ok (X := X) (G := G) (by have := o.room.un; omega) h1
      exact ⟨c_cmp (ok := fun u w η => copG b u w η = true) (g := copV b) ho (hs o.K) (okE x Y o kn n2 hl k2 h3) (okE y Y o kn n2 hl k2 h4) h2, fun z => Bool.noConfusion z⟩
    · exact Bool.noConfusion h
  | .chain o1 o2 x y z, G, n, W, X, S, a, Y, o, kn, n2, hl, k2, h => by
    rw [ckC.eq_def] at h
    dsimp only at h
    split at h
    · rename_i l op op' m r p
      simp only [Bool.and_eq_true, Bool.not_eq_true'] at h
      obtain ⟨⟨⟨⟨⟨h1, h2⟩, h3⟩, h4⟩, h5⟩, h6⟩ := h
      obtain ⟨r1, ho1, hs1⟩ := cop_ok (X := X) (G := G) (by have := o.room.un; omega) h1
      obtain ⟨r2, ho2, hs2⟩ := cop_ok (X := X) (G := G) (by have := o.room.un; omega) h2
      exact ⟨c_chain (ok := fun u w η => copG o1 u w η = true) (g := copV o1) (ok' := fun u w η => copG o2 u w η = true) (g' := copV o2) ho1 ho2 (hs1 o.K) (hs2 o.K) (okE x Y o kn n2 hl k2 h4) (okE y Y o kn n2 hl k2 h5) (okE z Y o kn n2 hl k2 h6) h3, fun z => Bool.noConfusion z⟩
    · exact Bool.noConfusion h
  | .tt, G, n, W, X, S, a, Y, o, kn, n2, hl, k2, h => Bool.noConfusion h
theorem okI : ∀ (it : It) {G : Glob} {n : Nat} {W : WX} {X : Cx} {S : Sx} {tgE a : Expr}, GOk G g k Φ fa fdt → CxOk G n W X S → k ≤ n → 2 ≤ n → (S.lam = true → k + 2 ≤ n) → 2 ≤ k → ckI g S a it = true → PI X tgE a (liftI G W (wI Φ it))
  | .seq e, G, n, W, X, S, tgE, a, Y, o, kn, n2, hl, k2, h => i_seq o.K (okE e Y o kn n2 hl k2 h)
  | .chars e, G, n, W, X, S, tgE, a, Y, o, kn, n2, hl, k2, h => i_chars (okE e Y o kn n2 hl k2 h)
  | .range e, G, n, W, X, S, tgE, a, Y, o, kn, n2, hl, k2, h => by
    rw [ckI.eq_def] at h
    dsimp only at h
    split at h
    · rename_i f p l p2
      simp only [Bool.and_eq_true, decide_eq_true_eq] at h
      obtain ⟨⟨⟨rfl, h3⟩, h4⟩, h5⟩ := h
      obtain ⟨a1, a2⟩ := blt1 Y o h3
      exact i_range a1 a2 (okE e Y o kn n2 hl k2 h5) (star_of h4)
    · exact Bool.noConfusion h
  | .range2 e d, G, n, W, X, S, tgE, a, Y, o, kn, n2, hl, k2, h => by
    rw [ckI.eq_def] at h
    dsimp only at h
    split at h
    · rename_i f p l r p2
      simp only [Bool.and_eq_true, decide_eq_true_eq] at h
      obtain ⟨⟨⟨⟨⟨rfl, h3⟩, h4⟩, h5⟩, h6⟩, h7⟩ := h
      obtain ⟨a1, a2⟩ := blt1 Y o h3
      exact i_range2 a1 a2 (okE e Y o kn n2 hl k2 h6) (okE d Y o kn n2 hl k2 h7) (star_of h4) (star_of h5)
    · exact Bool.noConfusion h
  | .zip e d, G, n, W, X, S, tgE, a, Y, o, kn, n2, hl, k2, h => Bool.noConfusion h
  | .enum e, G, n, W, X, S, tgE, a, Y, o, kn, n2, hl, k2, h => Bool.noConfusion h
theorem okO : ∀ (p : Op) {G : Glob} {n : Nat} {W : WX} {X : Cx} {S : Sx} {a : Option Expr}, GOk G g k Φ fa fdt → CxOk G n W X S → k ≤ n → 2 ≤ n → (S.lam = true → k + 2 ≤ n) → 2 ≤ k → ckO g S a p = true → PO X a (liftO G W (wO Φ p))
  | .no, G, n, W, X, S, a, Y, o, kn, n2, hl, k2, h => by
    cases a with
    | none => exact o_none
    | some a => exact Bool.noConfusion h
  | .some e, G, n, W, X, S, a, Y, o, kn, n2, hl, k2, h => by
    cases a with
    | none => exact Bool.noConfusion h
    | some a => exact o_some (okE e Y o kn n2 hl k2 h)
end
end
end TL

set_option maxHeartbeats 4000000
/-! statements: checker and soundness -/
namespace TL
open PySem PySem.Spec PyProof.Rows L2
def fnK (sc : Scope) : Bool := match sc.kind with
  | .function => true
  | _ => false
theorem fnK_ok {sc : Scope} (h : fnK sc = true) : sc.kind = .function := by
  unfold fnK at h
  split at h
  · assumption
  · exact Bool.noConfusion h
def parB (S : Sx) (i j : Nat) (x y : Str) (px py : Pos) (a b : Expr) : Bool :=
  decide (S.N[i]? = some x) && decide (S.N[j]? = some y) && decide (i ≠ j) && kindIs S.sc x .local && kindIs S.sc y .local && noStar a && noStar b && decide (py.line = px.line) && !(foldedForSure 8 a && foldedForSure 8 b) && !(constantsAlone 8 a && constantsAlone 8 b)
def notTup : Expr → Bool
  | .Tuple .. => false
  | _ => true
def isTup2 : Expr → Bool
  | .Tuple [_, _] _ _ => true
  | _ => false
def noOwn (scope : Scope) (y : Str) : Bool := !(scope.names.any fun (n, k) => n == y && (k == .local || k == .cell))
mutual
def ckS (g : Gs) : Sx → Stmt → S → Bool
  | S, s, .expr e => match s with
    | .Expr a _ => noComp a && ckE g S a e
    | _ => false
  | S, s, .ret e => match s with
    | .Return (some a) _ => ckE g S a e
    | _ => false
  | _, s, .retN => match s with
    | .Return none _ => true
    | _ => false
  | S, s, .set i e => match s with
    | .Assign [.Name x p] a _ => (match noComp a with
      | true => stoB S i x && ckE g S a e
      | false => (match a, e with
        | .ListComp el gens scope lp, .lc own tg src c elt => decide (S.N[i]? = some x) && kindIs S.sc x .local && decide (p.line = lp.line) && noOwn scope x && fnK S.sc && ckE g S (.ListComp el gens scope lp) (.lc own tg src c elt)
        | .ListComp el gens scope lp, .lcM own tg src c elt => decide (S.N[i]? = some x) && kindIs S.sc x .local && decide (p.line = lp.line) && noOwn scope x && fnK S.sc && ckE g S (.ListComp el gens scope lp) (.lcM own tg src c elt)
        | _, _ => false))
    | _ => false
  | S, s, .par i j e d => match s with
    | .Assign [.Tuple [.Name x px, .Name y py] _ _] (.Tuple [a, b] _ _) _ => fnK S.sc && parB S i j x y px py a b && ckE g S a e && ckE g S b d
    | _ => false
  | S, s, .unp tg e => match s with
    | .Assign [t] a _ => isTup2 t && notTup a && noComp a && ckTg S t tg && ckE g S a e
    | _ => false
  | S, s, .setIdx o i e => match s with
    | .Assign [.Subscript l r _] a _ => plainIxB r && noComp a && ckE g S a e && ckE g S l o && ckE g S r i
    | _ => false
  | S, s, .iff c x y => match s with
    | .If t p q _ => ckC g S t c && ckSs g S p x && ckSs g S q y
    | _ => false
  | S, s, .for tg it b => match s with
    | .For t iter body [] _ => noSet iter && ckTg S t tg && ckI g S iter it && ckSs g S body b
    | _ => false
  | S, s, .while c b => match s with
    | .While t body [] _ => ckC g S t c && ckSs g S body b
    | _ => false
  | _, s, .brk => match s with
    | .Break _ => true
    | _ => false
  | _, s, .cont => match s with
    | .Continue _ => true
    | _ => false
  | _, s, .pass => match s with
    | .Pass _ => true
    | _ => false
  | S, s, .raise c e => match s with
    | .Raise (some (.Call (.Name x _) [a] [] _)) none _ => glB S x && noStar a && ckE g S a e && decide (g.exn[c]? = some x)
    | _ => false
  | _, _, .tryE _ _ _ _ => false
  | _, _, .weak => false
def ckSs (g : Gs) : Sx → List Stmt → Ss → Bool
  | _, ss, .nil => ss.isEmpty
  | S, ss, .cons .weak r => ckSs g S ss r
  | S, ss, .cons st r => match ss with
    | [] => false
    | s :: ss => ckS g S s st && ckSs g S ss r
end
theorem par_swap {x y : Str} {px py pt pt2 : Pos} {kt k2 : Nat} {a b : Expr} {env : PySem.Env} (hk : env.scope.kind = .function) (hx : env.scope.names.lookup x = some .local) (hy : env.scope.names.lookup y = some .local) (hxy : x ≠ y) (hl : py.line = px.line) (ha : noStar a = true) (hb : noStar b = true)
    (h1 : (foldedForSure 8 a && foldedForSure 8 b) = false) (h2 : (constantsAlone 8 a && constantsAlone 8 b) = false) :
    swappedStores [.Tuple [.Name x px, .Name y py] kt pt] (.Tuple [a, b] k2 pt2) env = pure (some [x, y]) := by
  have bk : env.blockKind = .function := by unfold PySem.Env.blockKind; rw [hk]; rfl
  have kx : env.kindOf x = some .local := hx
  have ky : env.kindOf y = some .local := hy
  have hs : ([a, b].any fun | .Starred .. => true | _ => false) = false := by
    cases a <;> first | exact Bool.noConfusion ha | (cases b <;> first | exact Bool.noConfusion hb | rfl)
  have hyx : (y == x) = false := by simpa using hxy.symm
  unfold swappedStores
  simp only [bk, kx, ky, hl, Expr.pos, List.head?_cons, Option.map_some, Option.getD_some, List.filterMap_cons, List.filterMap_nil, List.length_cons, List.length_nil, beq_self_eq_true, Bool.and_self, Bool.true_and, if_true, List.all_cons, List.all_nil, Bool.and_true, h1, h2]
  simp [hxy, List.eraseDups_cons, hyx]
  intro h
  exfalso
  rcases h with h | h
  · cases a <;> first | exact Bool.noConfusion h | exact Bool.noConfusion ha
  · cases b <;> first | exact Bool.noConfusion h | exact Bool.noConfusion hb
section
variable (g : Gs) (k : Nat) (Φ : Nat → List T → Sto → KX → KE → Prop) (fa : Nat → Addr) (fdt : Nat → FuncData)
/-- a comprehension that passed: its parts -/
theorem lc_parts {G : Glob} {n : Nat} {W : WX} {X : Cx} {S : Sx} (Y : GOk G g k Φ fa fdt) (o : CxOk G n W X S) (kn : k ≤ n) (n2 : 2 ≤ n) (hl : S.lam = true → k + 2 ≤ n) (k2 : 2 ≤ k) {own : List Nat} {tg : Tg} {src : It} {c : C} {elt : E} {el : Expr} {gens : List Comprehension} {scope : Scope} {p : Pos}
    (h : ckE g S (.ListComp el gens scope p) (.lc own tg src c elt) = true) : ∃ tgE iter ifs, gens = [⟨tgE, iter, ifs, 0⟩] ∧ LcOk G W X el tgE iter ifs scope (ownP S.N own) tg (wI Φ src) (wC Φ c) (wE Φ elt) := by
  rw [ckE.eq_def] at h
  dsimp only at h
  split at h
  · rename_i el' tgE iter ifs scope' p' heq
    cases heq
    simp only [Bool.and_eq_true] at h
    obtain ⟨⟨⟨⟨⟨⟨h1, h2⟩, h3⟩, h4⟩, h5⟩, h6⟩, h7⟩ := h
    refine ⟨tgE, iter, ifs, rfl, lc_ok Φ o h1 h2 h3 h4 (okI g k Φ fa fdt src Y o kn n2 hl k2 h5) (fun Z X' o' => okE g k Φ fa fdt elt (Y.hid Z) o' kn n2 (fun z => Bool.noConfusion z) k2 h6) fun Z X' o' => ?_⟩
    cases ifs with
    | nil =>
      cases c <;> first
        | exact Bool.noConfusion h7
        | exact pts_nil.imp fun σ H Q ⟨ρ, η, _, K, hρ, hS, ht, hX, hB⟩ => hB true η H hS .refl ht
    | cons i more =>
      rw [Bool.and_eq_true, List.isEmpty_iff] at h7
      obtain ⟨rfl, h7⟩ := h7
      exact pts_one (okC g k Φ fa fdt c (Y.hid Z) o' kn n2 (fun z => Bool.noConfusion z) k2 h7).1
  · exact Bool.noConfusion h
theorem sw_set {X : Cx} {S : Sx} {G : Glob} {n : Nat} {W : WX} (o : CxOk G n W X S) {el : Expr} {gens : List Comprehension} {scope : Scope} {p lp : Pos} {x : Str} {l : Nat} (h2 : kindIs S.sc x .local = true) (h3 : p.line = lp.line) (h4 : noOwn scope x = true) (h5 : fnK S.sc = true) :
    X.env.scope.names.lookup x = some .local ∧ swapsWith (.ListComp el gens scope lp) (some (.Name x p)) l X.env = pure true := by
  have hx : X.env.scope.names.lookup x = some .local := by rw [o.sc]; exact of_decide_eq_true h2
  refine ⟨hx, sw_true (by rw [o.sc]; exact fnK_ok h5) hx (by rw [h3]; exact beq_self_eq_true _) ?_⟩
  unfold noOwn at h4
  simpa using h4
theorem swSole {t a : Expr} {l : Nat} {env : PySem.Env} (h : noComp a = true) : swapsWithSole [t] a l env = pure false := swaps_of h
theorem swStores {t a : Expr} {env : PySem.Env} (h : notTup a = true) : swappedStores [t] a env = pure none := by
  unfold swappedStores
  cases t <;> cases a <;> first | rfl | exact Bool.noConfusion h
theorem swStores2 {l r a : Expr} {p : Pos} {env : PySem.Env} : swappedStores [.Subscript l r p] a env = pure none := by
  unfold swappedStores
  cases a <;> rfl
theorem asgSub {l r : Expr} {p : Pos} {env : PySem.Env} (h : plainIxB r = true) : ∀ v, assign (.Subscript l r p) env v = (do
      let ov ← holding [v] (eval l env)
      let iv ← holding [v, ov] (eval r env)
      standAt p
      holding [v, ov, iv] (setItem ov iv v)
      release [v, ov, iv] []) := by
  intro v
  cases r <;> first | rfl | exact Bool.noConfusion h
mutual
theorem okS : ∀ (s : S) {G : Glob} {n : Nat} {W : WX} {X : Cx} {S : Sx} {a : Stmt}, GOk G g k Φ fa fdt → CxOk G n W X S → PassesOwn (model X.prog X.w) X.A X.env X.xe → k ≤ n → 2 ≤ n → (S.lam = true → k + 2 ≤ n) → 2 ≤ k → ckS g S a s = true → PS X a (liftS G W (wS Φ s))
  | .expr e, G, n, W, X, S, a, Y, o, hp, kn, n2, hl, k2, h => by
    rw [ckS.eq_def] at h
    dsimp only at h
    split at h
    · rw [Bool.and_eq_true] at h
      exact s_expr (okE g k Φ fa fdt e Y o kn n2 hl k2 h.2) (swaps_of h.1)
    · exact Bool.noConfusion h
  | .ret e, G, n, W, X, S, a, Y, o, hp, kn, n2, hl, k2, h => by
    rw [ckS.eq_def] at h
    dsimp only at h
    split at h
    · exact s_ret (okE g k Φ fa fdt e Y o kn n2 hl k2 h)
    · exact Bool.noConfusion h
  | .retN, G, n, W, X, S, a, Y, o, hp, kn, n2, hl, k2, h => by
    rw [ckS.eq_def] at h
    dsimp only at h
    split at h
    · exact s_retN
    · exact Bool.noConfusion h
  | .set i e, G, n, W, X, S, a, Y, o, hp, kn, n2, hl, k2, h => by
    rw [ckS.eq_def] at h
    dsimp only at h
    split at h
    · rename_i x p b q
      split at h
      · rename_i hn
        rw [Bool.and_eq_true] at h
        obtain ⟨h1, h2⟩ := h
        obtain ⟨b1, b2, b3⟩ := sto_ok o h1
        exact s_set (by rw [o.hN]; exact o.nd) b1 b2 (okE g k Φ fa fdt e Y o kn n2 hl k2 h2) (swaps_of hn) b3
      · split at h
        · rename_i el gens scope lp own tg src c elt _
          simp only [Bool.and_eq_true, decide_eq_true_eq] at h
          obtain ⟨⟨⟨⟨⟨h1, h2⟩, h3⟩, h4⟩, h5⟩, h6⟩ := h
          obtain ⟨tgE, iter, ifs, rfl, L⟩ := lc_parts g k Φ fa fdt Y o kn n2 hl k2 h6
          obtain ⟨hx, hsw⟩ := sw_set (l := q.line) o h2 h3 h4 h5
          have r := s_setLc (i := i) L (by rw [o.hN]; exact h1) hx hsw
          rw [own_ok] at r
          exact r
        · rename_i el gens scope lp own tg src c elt _
          simp only [Bool.and_eq_true, decide_eq_true_eq] at h
          obtain ⟨⟨⟨⟨⟨h1, h2⟩, h3⟩, h4⟩, h5⟩, h6⟩ := h
          obtain ⟨tgE, iter, ifs, rfl, L⟩ := lc_parts g k Φ fa fdt Y o kn n2 hl k2 (show ckE g S _ (.lc own tg src c elt) = true from h6)
          obtain ⟨hx, hsw⟩ := sw_set (l := q.line) o h2 h3 h4 h5
          have r := s_setLcM (i := i) L (by rw [o.hN]; exact h1) hx hsw
          rw [own_ok] at r
          exact r
        · exact Bool.noConfusion h
    · exact Bool.noConfusion h
  | .par i j e d, G, n, W, X, S, a, Y, o, hp, kn, n2, hl, k2, h => by
    rw [ckS.eq_def] at h
    dsimp only at h
    split at h
    · rename_i x px y py kt pt b c k2' pt2 q
      simp only [Bool.and_eq_true] at h
      obtain ⟨⟨⟨h0, h1⟩, h2⟩, h3⟩ := h
      unfold parB at h1
      simp only [Bool.and_eq_true, decide_eq_true_eq, Bool.not_eq_true'] at h1
      obtain ⟨⟨⟨⟨⟨⟨⟨⟨⟨a1, a2⟩, a3⟩, a4⟩, a5⟩, a6⟩, a7⟩, a8⟩, a9⟩, a10⟩ := h1
      have hx : X.env.scope.names.lookup x = some .local := by rw [o.sc]; exact of_decide_eq_true a4
      have hy : X.env.scope.names.lookup y = some .local := by rw [o.sc]; exact of_decide_eq_true a5
      have hN : X.N.Nodup := by rw [o.hN]; exact o.nd
      have hi : X.N[i]? = some x := by rw [o.hN]; exact a1
      have hj : X.N[j]? = some y := by rw [o.hN]; exact a2
      have hxy : x ≠ y := fun z => a3 (nodup_ix hN hi (z ▸ hj))
      have P := ps_par (pt := pt) (kt := kt) (k2 := k2') (pt2 := pt2) (pos := q) o.calm hN hi hj a3 hx hy (pa_cons (okE g k Φ fa fdt e Y o kn n2 hl k2 h2) (pa_cons (okE g k Φ fa fdt d Y o kn n2 hl k2 h3) pa_nil (star_of a7)) (star_of a6)) (par_swap (by rw [o.sc]; exact fnK_ok h0) hx hy hxy a8 a6 a7 (by simpa using a9) (by simpa using a10)) rfl
      exact s_par o.calm hN hi hj a3 hx hy P
    · exact Bool.noConfusion h
  | .unp tg e, G, n, W, X, S, a, Y, o, hp, kn, n2, hl, k2, h => by
    rw [ckS.eq_def] at h
    dsimp only at h
    split at h
    · simp only [Bool.and_eq_true] at h
      obtain ⟨⟨⟨⟨h1, h2⟩, h3⟩, h4⟩, h5⟩ := h
      refine s_unp (tg_ok o h4) (okE g k Φ fa fdt e Y o kn n2 hl k2 h5) (swSole h3) (swStores h2) ?_
      rename_i t b q
      cases t <;> first | rfl | exact Bool.noConfusion h1
    · exact Bool.noConfusion h
  | .setIdx oo i e, G, n, W, X, S, a, Y, o, hp, kn, n2, hl, k2, h => by
    rw [ckS.eq_def] at h
    dsimp only at h
    split at h
    · simp only [Bool.and_eq_true] at h
      obtain ⟨⟨⟨⟨h1, h2⟩, h3⟩, h4⟩, h5⟩ := h
      exact s_setIdx (okE g k Φ fa fdt e Y o kn n2 hl k2 h3) (okE g k Φ fa fdt oo Y o kn n2 hl k2 h4) (okE g k Φ fa fdt i Y o kn n2 hl k2 h5) (asgSub h1) (swSole h2) swStores2
    · exact Bool.noConfusion h
  | .iff c x y, G, n, W, X, S, a, Y, o, hp, kn, n2, hl, k2, h => by
    rw [ckS.eq_def] at h
    dsimp only at h
    split at h
    · simp only [Bool.and_eq_true] at h
      exact s_if (okC g k Φ fa fdt c Y o kn n2 hl k2 h.1.1).1 (okSs x Y o hp kn n2 hl k2 h.1.2) (okSs y Y o hp kn n2 hl k2 h.2)
    · exact Bool.noConfusion h
  | .for tg it b, G, n, W, X, S, a, Y, o, hp, kn, n2, hl, k2, h => by
    rw [ckS.eq_def] at h
    dsimp only at h
    split at h
    · simp only [Bool.and_eq_true] at h
      exact s_for hp o.calm (okI g k Φ fa fdt it Y o kn n2 hl k2 h.1.2) (tg_ok o h.1.1.2) (okSs b Y o hp kn n2 hl k2 h.2) (noSet_of h.1.1.1)
    · exact Bool.noConfusion h
  | .while c b, G, n, W, X, S, a, Y, o, hp, kn, n2, hl, k2, h => by
    rw [ckS.eq_def] at h
    dsimp only at h
    split at h
    · simp only [Bool.and_eq_true] at h
      exact s_while hp (okC g k Φ fa fdt c Y o kn n2 hl k2 h.1).1 (okSs b Y o hp kn n2 hl k2 h.2)
    · exact Bool.noConfusion h
  | .brk, G, n, W, X, S, a, Y, o, hp, kn, n2, hl, k2, h => by
    rw [ckS.eq_def] at h
    dsimp only at h
    split at h
    · exact s_brk
    · exact Bool.noConfusion h
  | .cont, G, n, W, X, S, a, Y, o, hp, kn, n2, hl, k2, h => by
    rw [ckS.eq_def] at h
    dsimp only at h
    split at h
    · exact s_cont
    · exact Bool.noConfusion h
  | .pass, G, n, W, X, S, a, Y, o, hp, kn, n2, hl, k2, h => by
    rw [ckS.eq_def] at h
    dsimp only at h
    split at h
    · exact s_pass
    · exact Bool.noConfusion h
  | .raise c e, G, n, W, X, S, a, Y, o, hp, kn, n2, hl, k2, h => by
    rw [ckS.eq_def] at h
    dsimp only at h
    split at h
    · simp only [Bool.and_eq_true, decide_eq_true_eq] at h
      obtain ⟨⟨⟨h1, h2⟩, h3⟩, h4⟩ := h
      obtain ⟨C, fld, F, hm⟩ := Y.exn c _ h4
      exact s_raise o.toXG n2 F (o.gl (gl1 h1).1) (by rw [o.mg]; exact hm) (okE g k Φ fa fdt e Y o kn n2 hl k2 h3) (gl1 h1).2 (star_of h2)
    · exact Bool.noConfusion h
  | .tryE _ _ _ _, G, n, W, X, S, a, Y, o, hp, kn, n2, hl, k2, h => Bool.noConfusion h
  | .weak, G, n, W, X, S, a, Y, o, hp, kn, n2, hl, k2, h => Bool.noConfusion h
theorem okSs : ∀ (ss : Ss) {G : Glob} {n : Nat} {W : WX} {X : Cx} {S : Sx} {as : List Stmt}, GOk G g k Φ fa fdt → CxOk G n W X S → PassesOwn (model X.prog X.w) X.A X.env X.xe → k ≤ n → 2 ≤ n → (S.lam = true → k + 2 ≤ n) → 2 ≤ k → ckSs g S as ss = true → PSs X as (liftS G W (wSs Φ ss))
  | .nil, G, n, W, X, S, as, Y, o, hp, kn, n2, hl, k2, h => by
    cases as with
    | nil => exact s_nil
    | cons a as => exact Bool.noConfusion h
  | .cons st r, G, n, W, X, S, as, Y, o, hp, kn, n2, hl, k2, h => by
    have ih := fun {as} (h : ckSs g S as r = true) => okSs r (as := as) Y o hp kn n2 hl k2 h
    have hs := fun {a} (h : ckS g S a st = true) => okS st (a := a) Y o hp kn n2 hl k2 h
    cases as with
    | nil => cases st <;> first | exact Bool.noConfusion h | exact s_weak (ih h)
    | cons a as =>
      have key : (ckS g S a st && ckSs g S as r) = true → PSs X (a :: as) (liftS G W fun D ρ η => wS Φ st ⟨fun ρ' η' => wSs Φ r D ρ' η', D.rt, D.bk, D.ct, D.X⟩ ρ η) := fun h => by
        rw [Bool.and_eq_true] at h
        exact s_cons (hs h.1) (ih h.2)
      cases st <;> first | exact s_weak (ih h) | exact key h
end
end
end TL

set_option maxHeartbeats 4000000
/-! all defs of a table keep what the small language says -/
namespace TL
open PySem PySem.Spec PyProof.Rows L2
structure DefT where
  nm : Str
  N : List Str
  np : Nat
  st : Stmt
  ir : Ss
  lam : Bool
def DefT.ps (d : DefT) : List Str := d.N.take d.np
def DefT.ok (g : Gs) (d : DefT) : Bool := C8.scC d.N d.ps (defScope d.st) && decide (d.np ≤ d.N.length) && ckSs g ⟨d.N, defScope d.st, none, d.lam⟩ (defBody d.st) d.ir
def fdOf (d : DefT) : Fd := ⟨d.np, d.N.length, d.ir⟩
/-- where the defs stand -/
structure TabOk (G : Glob) (ds : List DefT) (fa : Nat → Addr) (fdt : Nat → FuncData) : Prop where
  fd : ∀ (i : Nat) d, ds[i]? = some d → FunD G.K d.nm d.nm (defArgs d.st) (defBody d.st) (defScope d.st) [] [] (fa i) (fdt i)
  mg : ∀ (i : Nat) d, ds[i]? = some d → G.mg d.nm = some (.ref (fa i))
  bd : ∀ (i : Nat) d, ds[i]? = some d → Binds G.K (fdt i) d.ps []
  lam : ∀ (i : Nat) d, ds[i]? = some d → d.lam = true → ∃ cA PA', (fdt i).code = .ref cA ∧ LamX.TabB G.base G.mg cA PA' ∧ (PA', (d.nm ++ ".<locals>.") ++ "<lambda>") ∈ G.Tb ∧ ∀ p ∈ G.Tb, p.1 = PA' → p.2 = (d.nm ++ ".<locals>.") ++ "<lambda>"
/-- the rest of what the checker leans on -/
structure RestOk (G : Glob) (g : Gs) (fdt : Nat → FuncData) : Prop where
  glb : ∀ (i : Nat) nm t, g.glb[i]? = some (nm, t) → ∃ v u, G.mg nm = some u ∧ RelV v u ∧ ∀ Z, KValR (G.hid Z) t v
  exn : ∀ (i : Nat) nm, g.exn[i]? = some nm → ∃ C fld, ExnC G i C fld ∧ G.mg nm = some (.ref C)
  kws : ∀ p ∈ g.kws, ∀ nm ps, g.fns[p.f]? = some (nm, ps) → KwB G.K (fdt p.f) ps p.n p.ks p.perm
  hofs : ∀ h ∈ g.hofs, (∃ gA Ng call sg cdv bg, HofC G h.nm h.ci h.ret gA Ng call sg cdv bg) ∧ h.ret.length ≤ sizeLine
  blt : ∀ nm ∈ g.blt, G.mg nm = none
theorem getElem_app_some {α : Type} {ts : List α} {m i : Nat} {t : α} (h : (ts.map some ++ List.replicate m none)[i]? = some (some t)) : ts[i]? = some t := by
  by_cases hi : i < ts.length
  · rw [List.getElem?_append_left (by simpa using hi), List.getElem?_map] at h
    cases e : ts[i]? with
    | none => rw [e] at h; cases h
    | some u => rw [e] at h; cases h; rfl
  · rw [List.getElem?_append_right (by simpa using hi), List.getElem?_replicate] at h
    split at h <;> cases h
theorem start_env {G : Glob} {H : Hp} {η : Sto} {N : List Str} {ts : List T} {vs : List V} (r : ValsR G H η ts vs) (hl : ts.length ≤ N.length) : EnvR G H η (L2.start N vs) ⟨ts.map some ++ List.replicate (N.length - ts.length) none, none⟩ := by
  refine ⟨?_, fun i t e => ?_⟩
  · show (L2.start N vs).length = (ts.map some ++ List.replicate (N.length - ts.length) none).length
    unfold L2.start
    rw [List.length_append, List.length_append, List.length_map, List.length_map, List.length_replicate, List.length_replicate, r.length]
  · have e := getElem_app_some (nth_get.mp e)
    obtain ⟨v, e2, r2⟩ := r.get e
    refine ⟨v, ?_, r2⟩
    unfold L2.start
    rw [List.getElem?_append_left (by rw [List.length_map]; exact (List.getElem?_eq_some_iff.mp e2).1), List.getElem?_map, e2]
    rfl
theorem fns_ok {G : Glob} {g : Gs} {ds : List DefT} {fa : Nat → Addr} {fdt : Nat → FuncData} (hg : g.fns = ds.map fun d => (d.nm, d.ps)) (hck : ds.all (·.ok g) = true) (T : TabOk G ds fa fdt) (R : RestOk G g fdt) :
    ∀ (n i : Nat) (d : DefT), ds[i]? = some d → ∀ Z, FnOk G.P G.w G.K G.mg G.base (L2.CX G.P G.w) (3 * n + 2) (fa i) (fdt i) d.ps (prom (G.hid Z) d.ps.length (wcall (ds.map fdOf) n i)) := by
  intro n
  induction n with
  | zero => exact fun i d hd Z => ⟨fun vs H Q E h => prom_len h, fun A outer s H args us vs Q E _ _ _ _ ⟨ts, η, X, K, _, _, _, h, _⟩ => h.elim⟩
  | succ n ih =>
    intro i d hd Z
    have hok := List.all_eq_true.mp hck d (List.mem_of_getElem? hd)
    unfold DefT.ok at hok
    simp only [Bool.and_eq_true, decide_eq_true_eq] at hok
    obtain ⟨⟨h1, h2⟩, h3⟩ := hok
    have S := C8.fnScope_by h1
    have hps : d.ps.length = d.np := by unfold DefT.ps; rw [List.length_take]; omega
    have Y : GOk (G.hid Z) g (3 * n + 2) (wcall (ds.map fdOf) n) fa fdt := by
      refine GOk.hid ⟨fun j nm ps hj => ?_, R.glb, R.exn, R.kws, R.hofs, R.blt⟩ Z
      rw [hg, List.getElem?_map] at hj
      cases e : ds[j]? with
      | none => rw [e] at hj; cases hj
      | some d' =>
        rw [e] at hj
        cases hj
        exact ⟨fun Z => ih j d' e Z, T.mg j d' e, (T.fd j d' e).kp, T.bd j d' e⟩
    have lamF := T.lam i d hd
    obtain ⟨oc, od, dV, kV, doc, pm, an, cdv, ct, osl, efd, lk, hcd, _, _⟩ := (T.fd i d hd).ex
    rw [efd] at lk lamF ⊢
    refine fn_of lk hcd S (fun vs H Q E h => prom_len h) fun A outer s H vs Q E hr hsp => ?_
    obtain ⟨ts, η, X, K, hl, rv, hS, hw, hE, hQ⟩ := hsp
    have hF : (ds.map fdOf)[i]? = some (fdOf d) := by rw [List.getElem?_map, hd]; rfl
    have hw' : ts.length = d.np ∧ wSs (wcall (ds.map fdOf) n) d.ir ⟨fun _ η' => K .non η', K, fun _ _ => False, fun _ _ => False, X⟩ ⟨ts.map some ++ List.replicate (d.N.length - d.np) none, none⟩ η := by
      have hw : (match (ds.map fdOf)[i]? with
        | some d => ts.length = d.np ∧ wSs (wcall (ds.map fdOf) n) d.body ⟨fun _ η' => K .non η', K, fun _ _ => False, fun _ _ => False, X⟩ ⟨ts.map some ++ List.replicate (d.nl - d.np) none, none⟩ η
        | none => False) := hw
      rw [hF] at hw
      exact hw
    obtain ⟨hl2, hw⟩ := hw'
    refine ⟨liftS (G.hid Z) (fun cls d _ H' => E cls d H') (wSs (wcall (ds.map fdOf) n) d.ir), ?_, _, η, _, start_env rv (by omega), hS, by rw [hl2]; exact hw, fun σ e η' cls dd H' a b c q => hE e η' cls dd H' a b c q, ?_⟩
    · refine okSs g (3 * n + 2) (wcall (ds.map fdOf) n) fa fdt d.ir (n := 3 * n + 4) (S := ⟨d.N, defScope d.st, none, d.lam⟩) Y ?_ (passes_of rfl) (by omega) (by omega) (fun _ => by omega) (by omega) h3
      exact {
        P := rfl
        w := rfl
        K := rfl
        mg := rfl
        base := rfl
        calm := rfl
        room := hr
        tk := takes_of rfl rfl rfl rfl
        hN := rfl
        nd := S.nd
        sc := rfl
        fn := fun _ _ => rfl
        lam := fun hl => by
          obtain ⟨cA, PA', c1, c2, c3, c4⟩ := lamF hl
          exact ⟨cA, PA', c1, c2, c3, c4⟩ }
    · exact ⟨fun σ' ρ' η' H' _ b c q => hQ .non .non η' H' .non b c q, hQ, fun σ' ρ' η' H' _ b c q => q.elim, fun σ' ρ' η' H' _ b c q => q.elim⟩
end TL

set_option maxHeartbeats 4000000
/-! what the head tells, by Bools -/
namespace TL
open PySem PySem.Spec PyProof.Rows L2
/-! ### constants of the module -/
mutual
def kT (K : PySem.W.Frag) : T → Value → Bool
  | .non, u => match u with
    | .none => true
    | _ => false
  | .bl b, u => match u with
    | .bool c => b == c
    | _ => false
  | .int i, u => match u with
    | .int j _ => decide (i = j)
    | _ => false
  | .str x, u => match u with
    | .str y _ => decide (x = y) && decide (x.length ≤ sizeLine)
    | _ => false
  | .tup ts, u => match u with
    | .ref a => (match K.lookup a with
      | some ⟨.type c, none, .seq its _, _⟩ => decide (c = "tuple") && decide (its.size ≤ sizeLine) && kTs K ts its.toList
      | _ => false)
    | _ => false
  | .cl ts, u => match u with
    | .ref a => (match K.lookup a with
      | some ⟨.type c, none, .seq its _, _⟩ => decide (c = "list") && decide (its.size ≤ sizeLine) && kTs K ts its.toList
      | _ => false)
    | _ => false
  | _, _ => false
def kTs (K : PySem.W.Frag) : List T → List Value → Bool
  | [], us => us.isEmpty
  | t :: ts, us => match us with
    | u :: us => kT K t u && kTs K ts us
    | [] => false
end
mutual
theorem kT_ok {G : Glob} : ∀ {t : T} {u : Value}, kT G.K t u = true → ∃ v, RelV v u ∧ ∀ Z H η, ValR (G.hid Z) H η t v
  | .non, u, h => by cases u <;> first | exact ⟨.non, rfl, fun _ _ _ => .non⟩ | exact Bool.noConfusion h
  | .bl b, u, h => by
    cases u <;> first
      | exact Bool.noConfusion h
      | (have e := eq_of_beq (show (_ == _) = true from h)
         subst e
         exact ⟨.bl _, rfl, fun _ _ _ => .bl _⟩)
  | .int i, u, h => by
    cases u <;> first
      | exact Bool.noConfusion h
      | (have e := of_decide_eq_true (show decide (_ = _) = true from h)
         subst e
         exact ⟨.int _, ⟨_, rfl⟩, fun _ _ _ => .int _⟩)
  | .str x, u, h => by
    cases u <;> first
      | exact Bool.noConfusion h
      | (rename_i y t
         have h : (decide (x = y) && decide (x.length ≤ sizeLine)) = true := h
         simp only [Bool.and_eq_true, decide_eq_true_eq] at h
         obtain ⟨e, h2⟩ := h
         subst e
         exact ⟨.str x, ⟨_, rfl⟩, fun _ _ _ => .str _ h2⟩)
  | .tup ts, u, h => by
    cases u <;> first
      | exact Bool.noConfusion h
      | (rename_i a
         have h : (match G.K.lookup a with
           | some ⟨.type c, none, .seq its _, _⟩ => decide (c = "tuple") && decide (its.size ≤ sizeLine) && kTs G.K ts its.toList
           | _ => false) = true := h
         split at h
         · rename_i c its n sl e
           simp only [Bool.and_eq_true, decide_eq_true_eq] at h
           obtain ⟨⟨rfl, h1⟩, h2⟩ := h
           obtain ⟨vs, r1, r2⟩ := kTs_ok h2
           exact ⟨.ref a, rfl, fun Z H η => .tup (.inr ⟨_, its, n, e, rfl, rfl, rfl, h1, r1⟩) (r2 Z H η)⟩
         · exact Bool.noConfusion h)
  | .cl ts, u, h => by
    cases u <;> first
      | exact Bool.noConfusion h
      | (rename_i a
         have h : (match G.K.lookup a with
           | some ⟨.type c, none, .seq its _, _⟩ => decide (c = "list") && decide (its.size ≤ sizeLine) && kTs G.K ts its.toList
           | _ => false) = true := h
         split at h
         · rename_i c its n sl e
           simp only [Bool.and_eq_true, decide_eq_true_eq] at h
           obtain ⟨⟨rfl, h1⟩, h2⟩ := h
           obtain ⟨vs, r1, r2⟩ := kTs_ok h2
           exact ⟨.ref a, rfl, fun Z H η => .cl (.inr ⟨_, its, n, e, rfl, rfl, rfl, h1, r1⟩) (r2 Z H η)⟩
         · exact Bool.noConfusion h)
  | .dct _ _, u, h => Bool.noConfusion h
  | .ref _, u, h => Bool.noConfusion h
theorem kTs_ok {G : Glob} : ∀ {ts : List T} {us : List Value}, kTs G.K ts us = true → ∃ vs, Vals vs us ∧ ∀ Z H η, ValsR (G.hid Z) H η ts vs
  | [], us, h => by
    cases us with
    | nil => exact ⟨[], .nil, fun _ _ _ => .nil⟩
    | cons _ _ => exact Bool.noConfusion h
  | t :: ts, us, h => by
    cases us with
    | nil => exact Bool.noConfusion h
    | cons u us =>
      have h : (kT G.K t u && kTs G.K ts us) = true := h
      rw [Bool.and_eq_true] at h
      obtain ⟨v, a1, a2⟩ := kT_ok h.1
      obtain ⟨vs, b1, b2⟩ := kTs_ok h.2
      exact ⟨v :: vs, .cons a1 b1, fun Z H η => .cons (a2 Z H η) (b2 Z H η)⟩
end
def glbB (K : PySem.W.Frag) (q : Str × T) : Bool := match PySem.W.nsIn K mainGlobals q.1 with
  | some (some u) => kT K q.2 u
  | _ => false
theorem glbB_ok {G : Glob} {h : Heap} (X : G.K.In h) (N : h.Ns mainGlobals G.mg) {q : Str × T} (e : glbB G.K q = true) : ∃ v u, G.mg q.1 = some u ∧ RelV v u ∧ ∀ Z, KValR (G.hid Z) q.2 v := by
  unfold glbB at e
  split at e
  · rename_i u hu
    obtain ⟨v, a, b⟩ := kT_ok e
    exact ⟨v, u, PySem.W.mg_of X N hu, a, fun Z H η => b Z H η⟩
  · exact Bool.noConfusion e
/-! ### exception classes -/
def oexB (K : PySem.W.Frag) (C : Addr) : Bool := match K.lookup C with
  | some ⟨.type ct, _, .cls cd, sl⟩ => decide (ct = "type") && (match cd.mro, sl.toList with
    | .ref C' :: bm, [_, _, _, _, some (.builtin n), _] => decide (C' = C) && PySem.HandSPX.refsVE bm && cd.hasDict && !cd.hasDel && decide (n = "ValueError.__new__")
    | _, _ => false)
  | _ => false
theorem oexB_ok {K : PySem.W.Frag} {C : Addr} (h : oexB K C = true) : ∃ nm q N bs bm sn sub ab col dd k0 k1 k2 k3 k5, K.lookup C = some (excClassObj nm q C N bs bm true sn sub ab col dd k0 k1 k2 k3 k5 "ValueError.__new__") ∧ PySem.HandSPX.refsVE bm = true := by
  unfold oexB at h
  split at h
  · rename_i ct dd cd sl e
    rw [Bool.and_eq_true, decide_eq_true_eq] at h
    obtain ⟨rfl, h⟩ := h
    split at h
    · rename_i C' bm k0 k1 k2 k3 n k5 hm hs
      simp only [Bool.and_eq_true, decide_eq_true_eq, Bool.not_eq_true'] at h
      obtain ⟨⟨⟨⟨rfl, h2⟩, h3⟩, h4⟩, rfl⟩ := h
      obtain ⟨nm, bs, mro, ns, qn, hd, sn, sub, ab, col, del⟩ := cd
      dsimp only at hm h3 h4
      subst hm h3 h4
      have hsl : sl = #[k0, k1, k2, k3, some (.builtin "ValueError.__new__"), k5] := by
        obtain ⟨l⟩ := sl
        simp only at hs
        rw [hs]
      subst hsl
      exact ⟨nm, qn, ns, bs, bm, sn, sub, ab, col, dd, k0, k1, k2, k3, k5, e, h2⟩
    · exact Bool.noConfusion h
  · exact Bool.noConfusion h
def exScB (sc : Scope) (fld : Str) : Bool := fnK sc && !sc.isCoroutine && !sc.isGenerator && kindIs sc "super" .globalImplicit && kindIs sc "__class__" .free && kindIs sc "self" .local && kindIs sc fld .local &&
  (sc.names.all fun y => !decide (y.2 = .cell) && (!decide (y.2 = .free) || decide (y.1 = "__class__"))) && !decide (fld = "self") && nmOk fld
theorem exScB_ok {sc : Scope} {fld : Str} (h : exScB sc fld = true) : ExScope sc fld := by
  unfold exScB kindIs at h
  simp only [Bool.and_eq_true, Bool.not_eq_true', decide_eq_true_eq, decide_eq_false_iff_not, List.all_eq_true, Bool.or_eq_true] at h
  obtain ⟨⟨⟨⟨⟨⟨⟨⟨⟨h1, h2⟩, h3⟩, h4⟩, h5⟩, h6⟩, h7⟩, h8⟩, h9⟩, h10⟩ := h
  exact ⟨fnK_ok h1, h2, h3, h4, h5, h6, h7, fun x hx => (h8 x hx).1, fun x hx e => (h8 x hx).2.elim (fun z => absurd e z) id, h9, (nm1 h10).1, (nm1 h10).2⟩
/-- the body says: super().__init__(f), self.f = f -/
def exBdB (fld : Str) : List Stmt → Bool
  | [.Expr (.Call (.Attribute (.Call (.Name s0 _) [] [] _) i0 p2) [.Name f3 _] [] p4) _, .Assign [.Attribute (.Name s6 _) f7 _] (.Name f8 _) _] =>
    decide (s0 = "super") && decide (i0 = "__init__") && decide (f3 = fld) && decide (s6 = "self") && decide (f7 = fld) && decide (f8 = fld) && decide (p2.endLine = p4.line)
  | _ => false
theorem exBdB_ok {fld : Str} {b : List Stmt} (h : exBdB fld b = true) : ∃ p0 p1 p2 p3 p4 p5 p6 p7 p8 p9, b = exBody fld p0 p1 p2 p3 p4 p5 p6 p7 p8 p9 ∧ (p2.endLine == p4.line) = true := by
  unfold exBdB at h
  split at h
  · simp only [Bool.and_eq_true, decide_eq_true_eq] at h
    obtain ⟨⟨⟨⟨⟨⟨rfl, rfl⟩, rfl⟩, rfl⟩, rfl⟩, rfl⟩, h7⟩ := h
    exact ⟨_, _, _, _, _, _, _, _, _, _, rfl, by rw [h7]; exact beq_self_eq_true _⟩
  · exact Bool.noConfusion h
/-- two plain parameters -/
def twoPs (a : Arguments) (x y : Str) : Bool := match a with
  | ⟨[], [p, q], none, [], [], none, []⟩ => decide (p.arg = x) && decide (q.arg = y)
  | _ => false
def isNoneV : Value → Bool
  | .none => true
  | _ => false
def exnB (P : Program) (K : PySem.W.Frag) (nm fld : Str) : Bool :=
  He.eqO (PySem.W.nsIn K mainGlobals nm) (some (some (.ref (He.ga K nm)))) && oexB K (He.ga K nm) && PySem.W.keepIn K (.ref (He.ga K nm)) &&
  He.eqO (PySem.W.findIn K (.ref (He.ga K nm)) "__setattr__") (some (some (.builtin "object.__setattr__"))) && decide (PySem.W.subIn K (.ref (He.ga K nm)) (.type "BaseException") = some true) && decide (PySem.W.typeIn K (.ref (He.ga K nm)) = some (.type "type")) &&
  He.eqO (PySem.W.findIn K (.ref (He.ga K nm)) "__init__") (some (some (.ref (He.ma K (He.ga K nm) "__init__")))) && decide (PySem.W.typeIn K (.ref (He.ma K (He.ga K nm) "__init__")) = some (.type "function")) &&
  He.eqO (PySem.W.ks_superIn K (He.ga K nm) (He.ga K nm) "__init__") (some (some (.builtin "ValueError.__init__"))) && decide (PySem.W.subIn K (.ref (He.ga K nm)) (.type "ValueError") = some true) && decide (PySem.W.mroIn K (He.ga K nm) (.ref (He.ga K nm)) = some true) &&
  He.eqO (PySem.W.nsIn K cStatics "thirdparty.any") (some none) && He.eqO (PySem.W.nsIn K mainGlobals "super") (some none) && He.eqO (PySem.W.findIn K (.ref (He.ga K nm)) fld) (some none) && !(P.main.scope.names.lookup ("super" : Str)).isSome &&
  xfB K (He.ga K nm) && decide (PySem.W.exmOne K (.ref (He.ga K nm)) (.ref (He.ga K nm)) = some true) &&
  (match K.lookup (He.ma K (He.ga K nm) "__init__") with
  | some ⟨_, _, .func ⟨_, qual, params, .stmts body, scope, gl, [(cn, cc)], dV, _, _, _, _, .ref cda, _, bl⟩, _⟩ =>
    decide (gl = mainGlobals) && decide (bl = builtinsNs) && decide (cn = "__class__") && isNoneV dV && twoPs params "self" fld && exBdB fld body && exScB scope fld && PySem.W.codeIn K (.ref cda) qual &&
    (match K.lookup cc with
    | some ⟨_, _, .cell (some (.ref D)), _⟩ => decide (D = He.ga K nm)
    | _ => false) && (match K.lookup cda with
    | some ⟨_, _, .fields vs, _⟩ => (match (vs[2]? : Option Value) with
      | some (.str file _) => P.main.file == file
      | _ => false)
    | _ => false)
  | _ => false)
theorem exnB_ok {G : Glob} {h : Heap} (X : G.K.In h) (N : h.Ns mainGlobals G.mg) {nm fld : Str} {i : Nat} (hx : G.xs[i]? = some (He.ga G.K nm, fld)) (e : exnB G.P G.K nm fld = true)
    (hb : ∀ (q1 q2 : Arg) name qual body scope kV doc pm an cd ct cc, q1.arg = "self" → q2.arg = fld → ∀ us : List Value, us.length = 2 → bindArgs (PySem.W.ksFn name qual ⟨[], [q1, q2], none, [], [], none, []⟩ body scope .none kV doc pm an cd ct cc) ⟨us, []⟩ = pure ((["self", fld] : List Str).zip us)) :
    ExnC G i (He.ga G.K nm) fld ∧ G.mg nm = some (.ref (He.ga G.K nm)) ∧ XfC G.K (He.ga G.K nm) ∧ PySem.W.findIn G.K (.ref (He.ga G.K nm)) fld = some none ∧ PySem.W.exmOne G.K (.ref (He.ga G.K nm)) (.ref (He.ga G.K nm)) = some true := by
  unfold exnB at e
  simp only [Bool.and_eq_true, decide_eq_true_eq, Bool.not_eq_true'] at e
  obtain ⟨⟨⟨⟨⟨⟨⟨⟨⟨⟨⟨⟨⟨⟨⟨⟨⟨e1, e2⟩, e3⟩, e4⟩, e5⟩, e6⟩, e7⟩, e8⟩, e9⟩, e10⟩, e11⟩, e12⟩, e13⟩, e14⟩, e15⟩, e16⟩, e17⟩, e18⟩ := e
  have hC : OexC G.K (He.ga G.K nm) := ⟨oexB_ok e2, He.eqO_ok e4, e5, e6, e3⟩
  refine ⟨⟨hx, hC, ?_⟩, PySem.W.mg_of X N (He.eqO_ok e1), xfB_ok e16, He.eqO_ok e14, e17⟩
  split at e18
  · rename_i oc od name qual params body scope gl cn cc dV kV doc pm an cda ct bl osl lk
    simp only [Bool.and_eq_true, decide_eq_true_eq] at e18
    obtain ⟨⟨⟨⟨⟨⟨⟨⟨⟨rfl, rfl⟩, rfl⟩, a4⟩, a5⟩, a6⟩, a7⟩, a8⟩, a9⟩, a10⟩ := e18
    split at a9
    · rename_i c1 c2 D c3 lcc
      have a9 := of_decide_eq_true a9
      subst a9
      split at a10
      · rename_i d1 d2 vs d3 lcd
        split at a10
        · rename_i file tf hvs
          obtain ⟨p0, p1, p2, p3, p4, p5, p6, p7, p8, p9, rfl, hline⟩ := exBdB_ok a6
          unfold twoPs at a5
          split at a5
          · rename_i q1 q2
            simp only [Bool.and_eq_true, decide_eq_true_eq] at a5
            obtain ⟨b1, b2⟩ := a5
            cases dV <;> first
              | exact Bool.noConfusion a4
              | (refine ⟨_, _, He.eqO_ok e7, e8, exn_ok (k := 0) lk a8 lcd hvs a10 lcc rfl b1 hC (He.eqO_ok e9) e10 e11 (He.eqO_ok e12) (PySem.W.mg_none_of X N (He.eqO_ok e13)) (exScB_ok a7) (He.eqO_ok e14) e15 hline, ?_⟩
                 refine Binds.all fun us hl => ?_
                 exact hb q1 q2 _ _ _ _ _ _ _ _ _ _ _ b1 b2 us hl)
          · exact Bool.noConfusion a5
        · exact Bool.noConfusion a10
      · exact Bool.noConfusion a10
    · exact Bool.noConfusion a9
  · exact Bool.noConfusion e18
end TL

set_option maxHeartbeats 4000000
/-! the end: a row of defs, its facts, the law's promise -/
namespace TL
open PySem PySem.Spec PyProof.Rows L2
def DefT.D (d : DefT) : He.DefD := ⟨(d.nm, none), d.nm, d.nm, defArgs d.st, defBody d.st, defScope d.st, [], []⟩
/-- a def that catches: try: call() except exn as e: return e.fld / return ret -/
structure HofT where
  h : HofP
  d : DefT
  call : Str
  e : Str
  exn : Str
  fld : Str
def hofBd (call exn e fld ret : Str) : List Stmt → Bool
  | [.Try [.Expr (.Call (.Name c1 _) [] [] _) _] [.ExceptHandler (some (.Name x1 _)) (some e1) [.Return (some (.Attribute (.Name e2 _) f1 _)) _] _] [] [] _, .Return (some (.Constant (.str r) _ _)) _] =>
    decide (c1 = call) && decide (x1 = exn) && decide (e1 = e) && decide (e2 = e) && decide (f1 = fld) && decide (r = ret)
  | _ => false
theorem hofBd_ok {call exn e fld ret : Str} {b : List Stmt} (h : hofBd call exn e fld ret b = true) : ∃ j p1 p2 p3 p4 p5 p6 p7 p8 p9 p10 p11, b = [.Try [.Expr (.Call (.Name call p1) [] [] p2) p3] [.ExceptHandler (some (.Name exn p4)) (some e) [.Return (some (.Attribute (.Name e p5) fld p6)) p7] p8] [] [] p9, .Return (some (.Constant (.str ret) j p10)) p11] := by
  unfold hofBd at h
  split at h
  · simp only [Bool.and_eq_true, decide_eq_true_eq] at h
    obtain ⟨⟨⟨⟨⟨rfl, rfl⟩, rfl⟩, rfl⟩, rfl⟩, rfl⟩ := h
    exact ⟨_, _, _, _, _, _, _, _, _, _, _, _, rfl⟩
  · exact Bool.noConfusion h
def HofT.ok (t : HofT) : Bool := decide (t.d.nm = t.h.nm) && decide (t.d.N = [t.call, t.e]) && decide (t.d.np = 1) && hofBd t.call t.exn t.e t.fld t.h.ret (defBody t.d.st) && C8.scC [t.call, t.e] [t.call] (defScope t.d.st) && visB (defScope t.d.st) t.call && kindIs (defScope t.d.st) t.exn .globalImplicit && kindIs (defScope t.d.st) t.e .local &&
  nmOk t.d.nm && nmOk t.call && nmOk t.e && nmOk t.exn && decide (t.h.ret.length ≤ sizeLine)
structure Row where
  ds : List DefT
  gs : Gs
  exs : List (Str × Str)
  hs : List HofT
  tf : List Str
def Row.all (r : Row) : List DefT := r.ds ++ r.hs.map (·.d)
def Row.fn (r : Row) : List He.DefD := r.all.map DefT.D
def Row.fa (r : Row) : List He.Fa := r.all.map (fun d => .glo d.nm) ++ r.gs.blt.map .free
def Row.tfd (r : Row) : List He.Defn := r.tf.map fun x => (x, none)
def Row.ex (r : Row) (P : Program) (K : PySem.W.Frag) : Bool := r.gs.glb.all (glbB K) && r.exs.all (fun q => exnB P K q.1 q.2) && decide ((r.tfd.map fun p => (He.cT K p).2).Nodup)
def Row.G (r : Row) (P : Program) (w : World) (K : PySem.W.Frag) (mg : Str → Option Value) (base : Heap) : Glob :=
  { P := P, w := w, K := K, mg := mg, base := base, Tb := r.tf.map fun x => ((He.cT K (x, none)).2, (x ++ ".<locals>.") ++ "<lambda>"), xs := r.exs.map fun q => (He.ga K q.1, q.2), cs := [], Z := fun _ => False }
/-! ### the Hook: what the module's names reach, and the machine's own names -/
noncomputable def seenK (g : Addr → Option Obj) (n : Nat) : PySem.W.Frag := He.frT g (cStatics :: He.asD g n)
noncomputable def lookS (n : Nat) (fa : List He.Fa) (fn : List He.DefD) (tf : List He.Defn) (ex : PySem.W.Frag → Bool) (g : Addr → Option Obj) : He.AlX := (He.obsT fa fn [] (seenK g n), ex (seenK g n) && He.tabsB g tf (seenK g n))
theorem lookS_says {n : Nat} {fa : List He.Fa} {fn : List He.DefD} {tf : List He.Defn} {ex : PySem.W.Frag → Bool} {w : World} {hp : Heap} (e : lookS n fa fn tf ex hp.get? = He.valX fn [] w) : He.SaysX fa fn [] tf ex w hp (seenK hp.get? n) := by
  have p1 : He.obsT fa fn [] (seenK hp.get? n) = He.valT fn [] w := congrArg Prod.fst e
  have p2 : (ex (seenK hp.get? n) && He.tabsB hp.get? tf (seenK hp.get? n)) = true := congrArg Prod.snd e
  rw [Bool.and_eq_true] at p2
  have one : ∀ q ∈ tf, PySem.W.codeHdIn (seenK hp.get? n) (He.cT (seenK hp.get? n) q).1 (He.cT (seenK hp.get? n) q).2 = true ∧ ∃ ob, hp.get? (He.cT (seenK hp.get? n) q).2 = some ob ∧ He.emptyTab ob = true := fun q hq => by
    have z := List.all_eq_true.mp p2.2 q hq
    rw [Bool.and_eq_true] at z
    refine ⟨z.1, ?_⟩
    have z2 := z.2
    split at z2
    · rename_i ob eo
      exact ⟨ob, eo, z2⟩
    · exact Bool.noConfusion z2
  refine ⟨p1, p2.1, fun q hq => (one q hq).1, fun q hq => ?_, fun q hq => ?_⟩
  · obtain ⟨_, ob, eo, em⟩ := one q hq
    exact He.frT_none eo em
  · obtain ⟨_, ob, eo, em⟩ := one q hq
    exact eo.trans (congrArg some (He.emptyTab_eq em))
noncomputable def hookS (n : Nat) (fa : List He.Fa) (fn : List He.DefD) (tf : List He.Defn) (ex : PySem.W.Frag → Bool) : PySem.W.Hook where
  α := He.AlX
  val := fun w => He.valX fn [] w
  obs := fun st => lookS n fa fn tf ex st.heap.get?
  says := fun w hp => ∃ K : PySem.W.Frag, K.In hp ∧ He.SaysX fa fn [] tf ex w hp K
  of := fun _ _ e => ⟨seenK _ n, He.frT_in, lookS_says e⟩
  keeps := fun _ _ _ ⟨K, kin, c⟩ kp => ⟨K, PySem.W.Frag.In.keeps kin kp, ⟨c.t, c.more, c.hd, c.out, fun q hq => kp _ _ (c.empty q hq)⟩⟩
theorem lookS_eq {n : Nat} {fa : List He.Fa} {fn : List He.DefD} {tf : List He.Defn} {ex : PySem.W.Frag → Bool} {g : Addr → Option Obj} {st : Shared} (same : ∀ a, g a = st.heap.get? a) : lookS n fa fn tf ex g = (hookS n fa fn tf ex).obs st := congrArg (lookS n fa fn tf ex) (funext same)
noncomputable def Row.hk (r : Row) (n : Nat) (P : Program) : PySem.W.Hook := hookS n r.fa r.fn r.tfd (r.ex P)
noncomputable def Row.look (r : Row) (n : Nat) (P : Program) (g : Addr → Option Obj) : He.AlX := lookS n r.fa r.fn r.tfd (r.ex P) g
/-- what the row's text says by itself -/
structure RowOk (r : Row) : Prop where
  fns : r.gs.fns = r.ds.map fun d => (d.nm, d.ps)
  exn : r.gs.exn = r.exs.map (·.1)
  hofs : r.gs.hofs = r.hs.map (·.h)
  ck : r.ds.all (·.ok r.gs) = true
  hok : r.hs.all (·.ok) = true
  hx : ∀ t ∈ r.hs, r.exs[t.h.ci]? = some (t.exn, t.fld)
  lam : r.ds.all (fun d => !d.lam || r.tf.contains d.nm) = true
  bd : ∀ d ∈ r.all, ∀ (K : PySem.W.Frag) (f : Addr) (fd : FuncData), FunD K d.nm d.nm (defArgs d.st) (defBody d.st) (defScope d.st) [] [] f fd → Binds K fd d.ps []
  xb : ∀ q ∈ r.exs, ∀ (q1 q2 : Arg) name qual body scope kV doc pm an cd ct cc, q1.arg = "self" → q2.arg = q.2 → ∀ us : List Value, us.length = 2 → bindArgs (PySem.W.ksFn name qual ⟨[], [q1, q2], none, [], [], none, []⟩ body scope .none kV doc pm an cd ct cc) ⟨us, []⟩ = pure ((["self", q.2] : List Str).zip us)
  kw : ∀ p ∈ r.gs.kws, ∀ d, r.ds[p.f]? = some d → ∀ (K : PySem.W.Frag) (f : Addr) (fd : FuncData), FunD K d.nm d.nm (defArgs d.st) (defBody d.st) (defScope d.st) [] [] f fd → KwB K fd d.ps p.n p.ks p.perm
theorem mem_nodup_inj {α β : Type} {f : α → β} : ∀ {l : List α}, (l.map f).Nodup → ∀ x ∈ l, ∀ y ∈ l, f x = f y → x = y
  | [], _, x, hx, _, _, _ => absurd hx (by simp)
  | z :: l, hn, x, hx, y, hy, e => by
    rw [List.map_cons, List.nodup_cons] at hn
    rcases List.mem_cons.mp hx with e1 | h1
    · rcases List.mem_cons.mp hy with e2 | h2
      · rw [e1, e2]
      · exact absurd (List.mem_map.mpr ⟨y, h2, by rw [← e, e1]⟩) hn.1
    · rcases List.mem_cons.mp hy with e2 | h2
      · exact absurd (List.mem_map.mpr ⟨x, h1, by rw [e, e2]⟩) hn.1
      · exact mem_nodup_inj hn.2 x h1 y h2 e
section
variable {r : Row} {P : Program} {w : World} {K : PySem.W.Frag} {mg : Str → Option Value} {h base : Heap}
theorem Row.fdAt (c : He.SaysD r.fa r.fn K) {d : DefT} (hd : d ∈ r.all) : ∃ fd, FunD K d.nm d.nm (defArgs d.st) (defBody d.st) (defScope d.st) [] [] (He.ga K d.nm) fd :=
  He.SaysD.defs c (d := d.D) (List.mem_map.mpr ⟨d, hd, rfl⟩)
theorem Row.mgAt (X : K.In h) (N : h.Ns mainGlobals mg) (c : He.SaysD r.fa r.fn K) {d : DefT} (hd : d ∈ r.all) : mg d.nm = some (.ref (He.ga K d.nm)) :=
  He.glo_ok X N (He.SaysD.facts c (f := .glo d.nm) (List.mem_append_left _ (List.mem_map.mpr ⟨d, hd, rfl⟩)))
theorem Row.bltAt (X : K.In h) (N : h.Ns mainGlobals mg) (c : He.SaysD r.fa r.fn K) {x : Str} (hx : x ∈ r.gs.blt) : mg x = none :=
  He.free_ok X N (He.SaysD.facts c (f := .free x) (List.mem_append_right _ (List.mem_map.mpr ⟨x, hx, rfl⟩)))
open Classical in
/-- the function object of a def -/
noncomputable def fdtOf (r : Row) (K : PySem.W.Frag) (i : Nat) : FuncData := match r.ds[i]? with
  | some d => (if z : ∃ fd, FunD K d.nm d.nm (defArgs d.st) (defBody d.st) (defScope d.st) [] [] (He.ga K d.nm) fd then Classical.choose z else default)
  | none => default
def faOf (r : Row) (K : PySem.W.Frag) (i : Nat) : Addr := match r.ds[i]? with
  | some d => He.ga K d.nm
  | none => 0
open Classical in
theorem Row.fdt (c : He.SaysD r.fa r.fn K) {i : Nat} {d : DefT} (hd : r.ds[i]? = some d) : FunD K d.nm d.nm (defArgs d.st) (defBody d.st) (defScope d.st) [] [] (faOf r K i) (fdtOf r K i) := by
  have z := Row.fdAt c (d := d) (List.mem_append_left _ (List.mem_of_getElem? hd))
  unfold faOf fdtOf
  rw [hd]
  show FunD K d.nm d.nm (defArgs d.st) (defBody d.st) (defScope d.st) [] [] (He.ga K d.nm) (if z : ∃ fd, FunD K d.nm d.nm (defArgs d.st) (defBody d.st) (defScope d.st) [] [] (He.ga K d.nm) fd then Classical.choose z else default)
  rw [dif_pos z]
  exact Classical.choose_spec z
theorem exnAt (R : RowOk r) (X : K.In h) (N : h.Ns mainGlobals mg) (hex : r.ex P K = true) {i : Nat} {q : Str × Str} (hq : r.exs[i]? = some q) :
    ExnC (r.G P w K mg base) i (He.ga K q.1) q.2 ∧ mg q.1 = some (.ref (He.ga K q.1)) ∧ XfC K (He.ga K q.1) ∧ PySem.W.findIn K (.ref (He.ga K q.1)) q.2 = some none ∧ PySem.W.exmOne K (.ref (He.ga K q.1)) (.ref (He.ga K q.1)) = some true := by
  unfold Row.ex at hex
  simp only [Bool.and_eq_true] at hex
  have e := List.all_eq_true.mp hex.1.2 q (List.mem_of_getElem? hq)
  exact exnB_ok (G := r.G P w K mg base) X N (i := i) (by show (r.exs.map fun q => (He.ga K q.1, q.2))[i]? = _; rw [List.getElem?_map, hq]; rfl) e (R.xb q (List.mem_of_getElem? hq))
theorem hofAt (R : RowOk r) (X : K.In h) (N : h.Ns mainGlobals mg) (c : He.SaysD r.fa r.fn K) (hex : r.ex P K = true) {t : HofT} (ht : t ∈ r.hs) :
    (∃ gA Ng call sg cdv bg, HofC (r.G P w K mg base) t.h.nm t.h.ci t.h.ret gA Ng call sg cdv bg) ∧ t.h.ret.length ≤ sizeLine := by
  have ok := List.all_eq_true.mp R.hok t ht
  unfold HofT.ok at ok
  simp only [Bool.and_eq_true, decide_eq_true_eq] at ok
  obtain ⟨⟨⟨⟨⟨⟨⟨⟨⟨⟨⟨⟨o1, o2⟩, o3⟩, o4⟩, o5⟩, o6⟩, o7⟩, o8⟩, o9⟩, o10⟩, o11⟩, o12⟩, o13⟩ := ok
  have hm : t.d ∈ r.all := List.mem_append_right _ (List.mem_map.mpr ⟨t, ht, rfl⟩)
  obtain ⟨fd, F⟩ := Row.fdAt c hm
  have B := R.bd t.d hm K _ fd F
  have hmg := Row.mgAt X N c hm
  have hps : t.d.ps = [t.call] := by unfold DefT.ps; rw [o2, o3]; rfl
  rw [hps] at B
  have kp := F.kp
  obtain ⟨oc, od, dV, kV, doc, pm, an, cdv, ct, osl, rfl, lk, hcd, _, _⟩ := F.ex
  obtain ⟨x1, x2, x3, x4, x5⟩ := exnAt (w := w) (base := base) R X N hex (R.hx t ht)
  have S := C8.fnScope_by o5
  refine ⟨⟨He.ga K t.d.nm, [t.call, t.e], t.call, defScope t.d.st, cdv, defBody t.d.st, ?_⟩, o13⟩
  rw [← o1]
  exact {
    ex := ⟨_, dV, kV, doc, pm, ct, oc, an, od, osl, lk, B⟩
    cd := hcd
    kp := kp
    mg := hmg
    sc := S
    n0 := rfl
    vis := by
      have o6' := o6
      unfold visB kindIs at o6'
      simp only [Bool.or_eq_true, decide_eq_true_eq] at o6'
      rcases o6' with (z | z) | z
      · exact .inl z
      · exact .inr (.inl z)
      · exact .inr (.inr z)
    gives := ⟨He.ga K t.exn, t.fld, x1.xs, fun X q hK hmg' => by
      obtain ⟨j, p1, p2, p3, p4, p5, p6, p7, p8, p9, p10, p11, eb⟩ := hofBd_ok o4
      rw [eb]
      have hK : X.K = K := hK
      have hmg' : X.mg = mg := hmg'
      exact ref_gives (by rw [hK]; exact x3) (by rw [hK]; exact x4) (by rw [hK]; exact x5) (of_decide_eq_true o7) (by rw [hmg']; exact x2) (nm1 o12).1 rfl S.nd (of_decide_eq_true o8) (nm1 o11).1 (nm1 o11).2⟩
    d1 := (nm1 o9).1
    d2 := (nm1 o10).1
    d3 := (nm1 o10).2 }
theorem tabAt (R : RowOk r) (X : K.In h) (N : h.Ns mainGlobals mg) (c : He.SaysD r.fa r.fn K) (hex : r.ex P K = true) (TB : ∀ p ∈ r.tfd.map (He.cT K), LamX.TabB base mg p.1 p.2) : TabOk (r.G P w K mg base) r.ds (faOf r K) (fdtOf r K) where
  fd := fun i d hd => Row.fdt c hd
  mg := fun i d hd => by
    have e := Row.mgAt X N c (d := d) (List.mem_append_left _ (List.mem_of_getElem? hd))
    unfold faOf
    rw [hd]
    exact e
  bd := fun i d hd => R.bd d (List.mem_append_left _ (List.mem_of_getElem? hd)) K _ _ (Row.fdt c hd)
  lam := fun i d hd hl => by
    have z := List.all_eq_true.mp R.lam d (List.mem_of_getElem? hd)
    rw [hl] at z
    have z : d.nm ∈ r.tf := List.contains_iff_mem.mp (by simpa using z)
    have F := Row.fdt c hd
    obtain ⟨oc, od, dV, kV, doc, pm, an, cdv, ct, osl, efd, lk, hcd, _, _⟩ := F.ex
    obtain ⟨cA, rfl⟩ := He.codeIn_ref hcd
    have hfa : faOf r K i = He.fAd K (d.nm, none) := by unfold faOf; rw [hd] <;> rfl
    rw [hfa] at lk
    have hco : He.codeOf K (d.nm, none) = cA := He.codeOf_eq lk (by rw [efd] <;> rfl)
    have hmem : (d.nm, none) ∈ r.tfd := List.mem_map.mpr ⟨d.nm, z, rfl⟩
    have T := TB (He.cT K (d.nm, none)) (List.mem_map.mpr ⟨_, hmem, rfl⟩)
    refine ⟨cA, (He.cT K (d.nm, none)).2, by rw [efd] <;> rfl, ?_, List.mem_map.mpr ⟨d.nm, z, rfl⟩, fun p hp e => ?_⟩
    · have e1 : (He.cT K (d.nm, none)).1 = cA := hco
      rw [← e1]
      exact T
    · obtain ⟨y, hy, rfl⟩ := List.mem_map.mp hp
      unfold Row.ex at hex
      simp only [Bool.and_eq_true] at hex
      have nd := of_decide_eq_true hex.2
      have e2 := mem_nodup_inj (f := fun p => (He.cT K p).2) nd (y, none) (List.mem_map.mpr ⟨y, hy, rfl⟩) (d.nm, none) hmem e
      have e3 : y = d.nm := congrArg Prod.fst e2
      rw [e3]
theorem restAt (R : RowOk r) (X : K.In h) (N : h.Ns mainGlobals mg) (c : He.SaysD r.fa r.fn K) (hex : r.ex P K = true) : RestOk (r.G P w K mg base) r.gs (fdtOf r K) where
  glb := fun i nm t hi => by
    unfold Row.ex at hex
    simp only [Bool.and_eq_true] at hex
    exact glbB_ok (G := r.G P w K mg base) X N (List.all_eq_true.mp hex.1.1 (nm, t) (List.mem_of_getElem? hi))
  exn := fun i nm hi => by
    rw [R.exn, List.getElem?_map] at hi
    cases e : r.exs[i]? with
    | none => rw [e] at hi; cases hi
    | some q =>
      rw [e] at hi
      cases hi
      obtain ⟨a, b, _⟩ := exnAt (w := w) (base := base) R X N hex e
      exact ⟨_, _, a, b⟩
  kws := fun p hp nm ps hi => by
    rw [R.fns, List.getElem?_map] at hi
    cases e : r.ds[p.f]? with
    | none => rw [e] at hi; cases hi
    | some d =>
      rw [e] at hi
      cases hi
      exact R.kw p hp d e K _ _ (Row.fdt c e)
  hofs := fun t ht => by
    rw [R.hofs] at ht
    obtain ⟨u, hu, rfl⟩ := List.mem_map.mp ht
    exact hofAt R X N c hex hu
  blt := fun nm hn => Row.bltAt X N c hn
/-- all that the walk of the law's row asks -/
theorem lawAt {l : PySem.W.OpenLaw} {n lvl li : Nat} {d : DefT} (R : RowOk r) (hd : r.ds[li]? = some d) (hnm : d.ps = [d.N.getD 0 d.nm])
    (hbA : ∀ (fd : FuncData) (f : Addr), FunD K d.nm d.nm (defArgs d.st) (defBody d.st) (defScope d.st) [] [] f fd → ∀ (s : Shared) (u : Value), BindsTo s fd ⟨[u], []⟩ [(d.N.getD 0 d.nm, u)])
    (X : K.In h) (N : h.Ns mainGlobals mg) (c : He.SaysX r.fa r.fn [] r.tfd (r.ex l.prog) w h K)
    (law : ∀ ns : List Int, ns.length ≤ n → (∀ z ∈ ns, Builtin.Int.intBits z ≤ 1048576) → wcall (r.ds.map fdOf) lvl li [.cl (ns.map .int)] [] (fun _ _ => False) fun t _ => t = .bl true) :
    LamX.LawAtS l w K (L2.CX l.prog w) (3 * lvl + 2) n (d.N.getD 0 d.nm) mg (He.ga K d.nm) h := by
  have cd := c.t.d
  have F := Row.fdt cd hd
  have hfa : faOf r K li = He.ga K d.nm := by unfold faOf; rw [hd]
  have cT : ∀ p ∈ r.tfd.map (He.cT K), ∃ q ∈ r.tfd, He.cT K q = p := fun p hp => List.mem_map.mp hp
  refine ⟨fdtOf r K li, r.tfd.map (He.cT K), fun vs H Q E => ∀ b : Heap, prom (r.G l.prog w K mg b) 1 (wcall (r.ds.map fdOf) lvl li) vs H Q E, fun p hp => ?_, fun p hp => ?_, fun p hp => ?_, hbA _ _ F, fun H a ns hl hb hH hS => ?_, fun base KX NX TB => ?_⟩
  · obtain ⟨q, hq, rfl⟩ := cT p hp
    exact c.empty q hq
  · obtain ⟨q, hq, rfl⟩ := cT p hp
    exact c.out q hq
  · obtain ⟨q, hq, rfl⟩ := cT p hp
    exact PySem.W.codeHd_of_K X (c.hd q hq)
  · intro b
    refine ⟨[.cl (ns.map .int)], [], fun _ _ => False, fun t _ => t = .bl true, rfl, .cons (.cl (vs := ns.map V.int) ?_ ?_) .nil, ⟨fun a o e => (by cases e), fun p hp => ?_, fun a z => False.elim z⟩, law ns hl hb, fun e η' cls dd H' _ _ _ z => z.elim, fun t v η' H' rv _ _ e => ?_⟩
    · rcases hS with z | z
      · exact .inl ⟨z, rfl, fun q => q⟩
      · exact .inr z
    · clear hl hb hS
      induction ns with
      | nil => exact .nil
      | cons z zs ih => exact .cons (.int z) ih
    · obtain ⟨x, hx, rfl⟩ := List.mem_map.mp hp
      exact LamX.TabS.nil (hH (He.cT K (x, none)) (List.mem_map.mpr ⟨(x, none), List.mem_map.mpr ⟨x, hx, rfl⟩, rfl⟩))
    · subst e
      cases rv
      rfl
  · have T := tabAt (P := l.prog) (w := w) (base := base) R X N cd c.more TB
    have z := fns_ok (G := r.G l.prog w K mg base) R.fns R.ck T (restAt R X N cd c.more) lvl li d hd (fun _ => False)
    rw [hnm] at z
    rw [hfa] at z
    exact ⟨fun vs H Q E e => z.1 vs H Q E (e base), fun A outer s H args us vs Q E a b c d e => z.2 A outer s H args us vs Q E a b c d (e base)⟩
end
end TL

set_option maxHeartbeats 4000000
/-! an evaluator of the small language over a store that nobody changes -/
namespace TL
open PySem PySem.Spec PyProof.Rows L2
inductive R
  | val (t : T) | exn (c : Nat) (t : T) | bad
inductive RL
  | val (t : List T) | exn (c : Nat) (t : T) | bad
inductive RB
  | val (t : Bool) | exn (c : Nat) (t : T) | bad
inductive RI
  | val (ts : List T) (sr : Option Addr) | exn (c : Nat) (t : T) | bad
inductive RO
  | val (i : Option Int) | exn (c : Nat) (t : T) | bad
inductive RS
  | nx (ρ : Env) | rt (t : T) | bk (ρ : Env) | ct (ρ : Env) | exn (c : Nat) (t : T) | bad
def bopB (o : Bop) (u w : T) : Bool :=
  match o, u, w with
  | .add, .str x, .str y => decide (x.length + y.length ≤ sizeLine)
  | .add, .tup xs, .tup ys => decide (xs.length + ys.length ≤ sizeLine)
  | .mul, .int i, .int j => decide (i.natAbs.log2 + j.natAbs.log2 < 1000000)
  | .fdiv, .int _, .int j => decide (j ≠ 0) && decide (j.natAbs.log2 < 9000)
  | .mod, .int _, .int j => decide (j ≠ 0)
  | .pow, .int i, .int j => decide (0 ≤ j) && decide (j ≤ 1000000) && decide (i.natAbs < 2 ^ 64)
  | _, _, _ => true
theorem bopB_ok {o : Bop} {u w : T} (h : bopB o u w = true) : bopG o u w := by
  cases o <;> cases u <;> cases w <;> first
    | exact True.intro
    | exact of_decide_eq_true h
    | (have h' := h
       simp only [bopB, Bool.and_eq_true, decide_eq_true_eq] at h'
       first
         | exact h'
         | exact ⟨h'.1.1, h'.1.2, h'.2⟩)
def ofO (o : Option T) : R := match o with
  | some t => .val t
  | none => .bad
def mthB (m : Mt) (o : T) (ts : List T) (η : Sto) : Bool :=
  match m, o, ts with
  | .get2, .dct _ _, [k, _] => keyT k
  | .index, t, [u] => match seqOf η t with
    | some xs => inOk u xs
    | none => true
  | _, _, _ => true
/-- methods that leave the store -/
def mthP (m : Mt) (o : T) (ts : List T) (η : Sto) : Option T :=
  match m, o, ts with
  | .get2, .dct ks vs, [k, d] => some ((dgetT k ks vs).getD d)
  | .index, t, [u] => ((seqOf η t).bind (ixOf u)).map fun (k : Nat) => .int k
  | _, _, _ => none
/-- what follows -/
def R.to (r : R) (f : T → R) : R := match r with
  | .val t => f t
  | .exn c t => .exn c t
  | .bad => .bad
def R.toL (r : R) (f : T → RL) : RL := match r with
  | .val t => f t
  | .exn c t => .exn c t
  | .bad => .bad
def R.toB (r : R) (f : T → RB) : RB := match r with
  | .val t => f t
  | .exn c t => .exn c t
  | .bad => .bad
def R.toI (r : R) (f : T → RI) : RI := match r with
  | .val t => f t
  | .exn c t => .exn c t
  | .bad => .bad
def R.toO (r : R) (f : T → RO) : RO := match r with
  | .val t => f t
  | .exn c t => .exn c t
  | .bad => .bad
def R.toS (r : R) (f : T → RS) : RS := match r with
  | .val t => f t
  | .exn c t => .exn c t
  | .bad => .bad
def RL.to (r : RL) (f : List T → R) : R := match r with
  | .val t => f t
  | .exn c t => .exn c t
  | .bad => .bad
def RL.toL (r : RL) (f : List T → RL) : RL := match r with
  | .val t => f t
  | .exn c t => .exn c t
  | .bad => .bad
def RB.to (r : RB) (f : Bool → R) : R := match r with
  | .val t => f t
  | .exn c t => .exn c t
  | .bad => .bad
def RB.toB (r : RB) (f : Bool → RB) : RB := match r with
  | .val t => f t
  | .exn c t => .exn c t
  | .bad => .bad
def RB.toS (r : RB) (f : Bool → RS) : RS := match r with
  | .val t => f t
  | .exn c t => .exn c t
  | .bad => .bad
def RI.to (r : RI) (f : List T → R) : R := match r with
  | .val t _ => f t
  | .exn c t => .exn c t
  | .bad => .bad
def RI.toS (r : RI) (f : List T → RS) : RS := match r with
  | .val t _ => f t
  | .exn c t => .exn c t
  | .bad => .bad
def RO.to (r : RO) (f : Option Int → R) : R := match r with
  | .val t => f t
  | .exn c t => .exn c t
  | .bad => .bad
def RS.nxt (r : RS) (f : Env → RS) : RS := match r with
  | .nx ρ => f ρ
  | r => r
def ifR {α : Type} (k : Bool) (a b : α) : α := match k with
  | true => a
  | false => b
def optR {α : Type} (o : Option α) (f : α → R) : R := match o with
  | some t => f t
  | none => .bad
def optB {α : Type} (o : Option α) (f : α → RB) : RB := match o with
  | some t => f t
  | none => .bad
def optI {α : Type} (o : Option α) (f : α → RI) : RI := match o with
  | some t => f t
  | none => .bad
def optO {α : Type} (o : Option α) (f : α → RO) : RO := match o with
  | some t => f t
  | none => .bad
def optL {α : Type} (o : Option α) (f : α → RL) : RL := match o with
  | some t => f t
  | none => .bad
def optS {α : Type} (o : Option α) (f : α → RS) : RS := match o with
  | some t => f t
  | none => .bad
def gR (b : Bool) (r : R) : R := match b with
  | true => r
  | false => .bad
def gL (b : Bool) (r : RL) : RL := match b with
  | true => r
  | false => .bad
def gI (b : Bool) (r : RI) : RI := match b with
  | true => r
  | false => .bad
def gB (b : Bool) (r : RB) : RB := match b with
  | true => r
  | false => .bad
def RL.toL' (r : RL) (f : List T → RL) : RL := match r with
  | .val t => f t
  | _ => .bad
/-- a comprehension: one item or none each -/
def pcomp (f : T → RL) : List T → RL
  | [] => .val []
  | x :: xs => (f x).toL' fun r => (pcomp f xs).toL' fun rs => .val (r ++ rs)
/-- a turn's end -/
def RS.turn (r : RS) (f : Env → RS) : RS := match r with
  | .nx ρ => f ρ
  | .ct ρ => f ρ
  | .bk ρ => .nx ρ
  | .rt t => .rt t
  | .exn c t => .exn c t
  | .bad => .bad
def pfor (tg : Tg) (body : Env → RS) : List T → Env → RS
  | [], ρ => .nx ρ
  | x :: xs, ρ => optS (bindTg tg x ρ.v) fun v => (body ⟨v, ρ.x⟩).turn fun ρ' => pfor tg body xs ρ'
def pwhile (test : Env → RB) (body : Env → RS) : Nat → Env → RS
  | 0, _ => .bad
  | n + 1, ρ => (test ρ).toS fun b => ifR b ((body ρ).turn fun ρ' => pwhile test body n ρ') (.nx ρ)
def pcmp (o : Cop) (u w : T) (η : Sto) (f : Bool → R) : R := gR (copG o u w η) (optR (copV o u w η) f)
def pcmpB (o : Cop) (u w : T) (η : Sto) (f : Bool → RB) : RB := gB (copG o u w η) (optB (copV o u w η) f)
def okRg (n : Int) : Bool := decide (-(2 ^ 62) ≤ n) && decide (n ≤ 16777216)
def RB.toL' (r : RB) (f : Bool → RL) : RL := match r with
  | .val t => f t
  | _ => .bad
def hofR (f : Nat) (ret : Str) (r : R) : R := match r with
  | .val _ => .val (.str ret)
  | .exn c t => if c = f then .val t else .bad
  | .bad => .bad
mutual
def pE (η : Sto) (Φ : Nat → List T → R) : E → Env → R
  | .var i, ρ => ofO (nth ρ.v i)
  | .cst t, _ => .val t
  | .gcst _ t, _ => .val t
  | .tup es, ρ => (pEs η Φ es ρ).to fun ts => .val (.tup ts)
  | .lstV es, ρ => (pEs η Φ es ρ).to fun ts => .val (.cl ts)
  | .bin o a b, ρ => (pE η Φ a ρ).to fun u => (pE η Φ b ρ).to fun w => gR (bopB o u w) (ofO (bopV o u w))
  | .neg a, ρ => (pE η Φ a ρ).to fun u => ofO (negV u)
  | .catV a b, ρ => (pE η Φ a ρ).to fun u => (pE η Φ b ρ).to fun w => optR (lstOf η u) fun xs => optR (lstOf η w) fun ys => gR (decide (xs.length + ys.length ≤ sizeLine)) (.val (.cl (xs ++ ys)))
  | .cmp o a b, ρ => (pE η Φ a ρ).to fun u => (pE η Φ b ρ).to fun w => pcmp o u w η fun k => .val (.bl k)
  | .chain o1 o2 a b c, ρ => (pE η Φ a ρ).to fun u => (pE η Φ b ρ).to fun w => pcmp o1 u w η fun k => ifR k ((pE η Φ c ρ).to fun z => pcmp o2 w z η fun k2 => .val (.bl k2)) (.val (.bl false))
  | .and a b, ρ => (pE η Φ a ρ).to fun u => optR (tru η u) fun k => ifR k (pE η Φ b ρ) (.val u)
  | .or a b, ρ => (pE η Φ a ρ).to fun u => optR (tru η u) fun k => ifR k (.val u) (pE η Φ b ρ)
  | .not a, ρ => (pE η Φ a ρ).to fun u => optR (tru η u) fun k => .val (.bl (!k))
  | .ite c a b, ρ => (pC η Φ c ρ).to fun k => ifR k (pE η Φ a ρ) (pE η Φ b ρ)
  | .idx a i, ρ => (pE η Φ a ρ).to fun u => (pE η Φ i ρ).to fun w => ofO (idxV η u w)
  | .slc a lo hi, ρ => (pE η Φ a ρ).to fun u => (pO η Φ lo ρ).to fun i => (pO η Φ hi ρ).to fun j => ofO (slcV u i j η)
  | .isinst a t, ρ => (pE η Φ a ρ).to fun u => optR (isT η t u) fun b => .val (.bl b)
  | .call f es, ρ => (pEs η Φ es ρ).to fun ts => Φ f ts
  | .callK f es kw perm, ρ => (pEs η Φ es ρ).to fun ts => (pEs η Φ kw ρ).to fun us => Φ f (perm.map fun i => (ts ++ us).getD i .non)
  | .lc own tg src c elt, ρ => (pI η Φ src ρ).to fun ts => (pcomp (fun x => optL (bindTg tg x (setvs ρ.v own)) fun v => (pC η Φ c ⟨v, ρ.x⟩).toL' fun k => ifR k ((pE η Φ elt ⟨v, ρ.x⟩).toL fun u => .val [u]) (.val [])) ts).to fun us => .val (.cl us)
  | .agg g a, ρ => (pE η Φ a ρ).to fun u => optR (aggS g η u) fun ts => ofO (aggV g ts)
  | .blt b es, ρ => (pEs η Φ es ρ).to fun ts => ofO (bltV b ts η)
  | .mth m o es, ρ => (pE η Φ o ρ).to fun u => gR (mthT m u η) ((pEs η Φ es ρ).to fun ts => gR (mthB m u ts η) (ofO (mthP m u ts η)))
  | .lenSet own tg src elt, ρ => (pI η Φ src ρ).to fun ts => gR (decide (ts.length ≤ 1000)) ((pcomp (fun x => optL (bindTg tg x (setvs ρ.v own)) fun v => (pE η Φ elt ⟨v, ρ.x⟩).toL fun u => gL (keyT u) (.val [u])) ts).to fun us => .val (.int (dedup us).length))
  | .hof f e ret, ρ => hofR f ret (pE η Φ e ρ)
  | .exc, ρ => ofO ρ.x
  | _, _ => .bad
def pEs (η : Sto) (Φ : Nat → List T → R) : Es → Env → RL
  | .nil, _ => .val []
  | .cons e es, ρ => (pE η Φ e ρ).toL fun t => (pEs η Φ es ρ).toL fun ts => .val (t :: ts)
def pC (η : Sto) (Φ : Nat → List T → R) : C → Env → RB
  | .and a b, ρ => (pC η Φ a ρ).toB fun k => ifR k (pC η Φ b ρ) (.val false)
  | .or a b, ρ => (pC η Φ a ρ).toB fun k => ifR k (.val true) (pC η Φ b ρ)
  | .not a, ρ => (pC η Φ a ρ).toB fun k => .val (!k)
  | .val e, ρ => (pE η Φ e ρ).toB fun u => optB (tru η u) fun k => .val k
  | .tt, _ => .val true
  | .cmp o a b, ρ => (pE η Φ a ρ).toB fun u => (pE η Φ b ρ).toB fun w => pcmpB o u w η fun k => .val k
  | .chain o1 o2 a b c, ρ => (pE η Φ a ρ).toB fun u => (pE η Φ b ρ).toB fun w => pcmpB o1 u w η fun k => ifR k ((pE η Φ c ρ).toB fun z => pcmpB o2 w z η fun k2 => .val k2) (.val false)
def pI (η : Sto) (Φ : Nat → List T → R) : It → Env → RI
  | .seq e, ρ => (pE η Φ e ρ).toI fun u => optI (seqOf η u) fun ts => .val ts (srcOf u)
  | .chars e, ρ => (pE η Φ e ρ).toI fun u => optI (strV u) fun x => .val (charsL x) none
  | .range a, ρ => (pE η Φ a ρ).toI fun u => optI (intV u) fun n => gI (okRg n) (.val (rangeL 0 n.toNat) none)
  | .range2 a b, ρ => (pE η Φ a ρ).toI fun u => (pE η Φ b ρ).toI fun w => optI (intV u) fun m => optI (intV w) fun n => gI (okRg m && okRg n && decide (n - m ≤ 16777216)) (.val (rangeL m (n - m).toNat) none)
  | .zip a b, ρ => (pE η Φ a ρ).toI fun u => (pE η Φ b ρ).toI fun w => optI (stillV η u) fun xs => optI (stillV η w) fun ys => .val (zipL xs ys) none
  | .enum a, ρ => (pE η Φ a ρ).toI fun u => optI (stillV η u) fun xs => .val (enumL 0 xs) none
def pO (η : Sto) (Φ : Nat → List T → R) : Op → Env → RO
  | .no, _ => .val none
  | .some e, ρ => (pE η Φ e ρ).toO fun u => optO (intV u) fun i => .val (some i)
end
mutual
def pS (η : Sto) (fu : Nat) (Φ : Nat → List T → R) : S → Env → RS
  | .expr e, ρ => (pE η Φ e ρ).toS fun _ => .nx ρ
  | .ret e, ρ => (pE η Φ e ρ).toS fun t => .rt t
  | .retN, _ => .rt .non
  | .set i e, ρ => (pE η Φ e ρ).toS fun t => .nx (ρ.put i t)
  | .par i j a b, ρ => (pE η Φ a ρ).toS fun t => (pE η Φ b ρ).toS fun u => .nx ((ρ.put i t).put j u)
  | .unp tg e, ρ => (pE η Φ e ρ).toS fun t => optS (bindTg tg t ρ.v) fun v => .nx ⟨v, ρ.x⟩
  | .iff c a b, ρ => (pC η Φ c ρ).toS fun k => ifR k (pSs η fu Φ a ρ) (pSs η fu Φ b ρ)
  | .for tg it b, ρ => (pI η Φ it ρ).toS fun ts => pfor tg (fun ρ' => pSs η fu Φ b ρ') ts ρ
  | .while c b, ρ => pwhile (fun ρ' => pC η Φ c ρ') (fun ρ' => pSs η fu Φ b ρ') fu ρ
  | .brk, ρ => .bk ρ
  | .cont, ρ => .ct ρ
  | .pass, ρ => .nx ρ
  | .raise c e, ρ => (pE η Φ e ρ).toS fun u => .exn c u
  | _, _ => .bad
def pSs (η : Sto) (fu : Nat) (Φ : Nat → List T → R) : Ss → Env → RS
  | .nil, ρ => .nx ρ
  | .cons s r, ρ => (pS η fu Φ s ρ).nxt fun ρ' => pSs η fu Φ r ρ'
end
def endR : RS → R
  | .nx _ => .val .non
  | .rt t => .val t
  | .exn c t => .exn c t
  | _ => .bad
def pcall (η : Sto) (fu : Nat) (F : List Fd) : Nat → Nat → List T → R
  | 0, _, _ => .bad
  | n + 1, f, ts => match F[f]? with
    | some d => if ts.length = d.np then endR (pSs η fu (pcall η fu F n) d.body ⟨ts.map some ++ List.replicate (d.nl - d.np) none, none⟩) else .bad
    | none => .bad
end TL

set_option maxHeartbeats 4000000
/-! the evaluator tells the truth -/
namespace TL
open PySem PySem.Spec PyProof.Rows L2
abbrev XP := Nat → T → Prop
def R.P (r : R) (X : XP) (K : T → Prop) : Prop := match r with
  | .val t => K t
  | .exn c t => X c t
  | .bad => False
def RL.P (r : RL) (X : XP) (K : List T → Prop) : Prop := match r with
  | .val t => K t
  | .exn c t => X c t
  | .bad => False
def RB.P (r : RB) (X : XP) (K : Bool → Prop) : Prop := match r with
  | .val t => K t
  | .exn c t => X c t
  | .bad => False
def RI.P (r : RI) (X : XP) (K : List T → Option Addr → Prop) : Prop := match r with
  | .val t s => K t s
  | .exn c t => X c t
  | .bad => False
def RO.P (r : RO) (X : XP) (K : Option Int → Prop) : Prop := match r with
  | .val t => K t
  | .exn c t => X c t
  | .bad => False
section
variable {X : XP} {r : R} {rl : RL} {rb : RB} {ri : RI} {ro : RO}
theorem R.P.imp {K K' : T → Prop} (h : r.P X K) (f : ∀ t, K t → K' t) : r.P X K' := by cases r <;> first | exact f _ h | exact h
theorem RL.P.imp {K K' : List T → Prop} (h : rl.P X K) (f : ∀ t, K t → K' t) : rl.P X K' := by cases rl <;> first | exact f _ h | exact h
theorem RB.P.imp {K K' : Bool → Prop} (h : rb.P X K) (f : ∀ t, K t → K' t) : rb.P X K' := by cases rb <;> first | exact f _ h | exact h
theorem RI.P.imp {K K' : List T → Option Addr → Prop} (h : ri.P X K) (f : ∀ t s, K t s → K' t s) : ri.P X K' := by cases ri <;> first | exact f _ _ h | exact h
theorem RO.P.imp {K K' : Option Int → Prop} (h : ro.P X K) (f : ∀ t, K t → K' t) : ro.P X K' := by cases ro <;> first | exact f _ h | exact h
theorem R.to_P {f : T → R} {K : T → Prop} (h : (r.to f).P X K) : r.P X fun t => (f t).P X K := by cases r <;> exact h
theorem R.toL_P {f : T → RL} {K : List T → Prop} (h : (r.toL f).P X K) : r.P X fun t => (f t).P X K := by cases r <;> exact h
theorem R.toB_P {f : T → RB} {K : Bool → Prop} (h : (r.toB f).P X K) : r.P X fun t => (f t).P X K := by cases r <;> exact h
theorem R.toI_P {f : T → RI} {K : List T → Option Addr → Prop} (h : (r.toI f).P X K) : r.P X fun t => (f t).P X K := by cases r <;> exact h
theorem R.toO_P {f : T → RO} {K : Option Int → Prop} (h : (r.toO f).P X K) : r.P X fun t => (f t).P X K := by cases r <;> exact h
theorem RL.to_P {f : List T → R} {K : T → Prop} (h : (rl.to f).P X K) : rl.P X fun t => (f t).P X K := by cases rl <;> exact h
theorem RL.toL_P {f : List T → RL} {K : List T → Prop} (h : (rl.toL f).P X K) : rl.P X fun t => (f t).P X K := by cases rl <;> exact h
theorem RB.to_P {f : Bool → R} {K : T → Prop} (h : (rb.to f).P X K) : rb.P X fun t => (f t).P X K := by cases rb <;> exact h
theorem RB.toB_P {f : Bool → RB} {K : Bool → Prop} (h : (rb.toB f).P X K) : rb.P X fun t => (f t).P X K := by cases rb <;> exact h
theorem RI.to_P {f : List T → R} {K : T → Prop} (h : (ri.to f).P X K) : ri.P X fun t _ => (f t).P X K := by cases ri <;> exact h
theorem RO.to_P {f : Option Int → R} {K : T → Prop} (h : (ro.to f).P X K) : ro.P X fun t => (f t).P X K := by cases ro <;> exact h
theorem ofO_P {o : Option T} {K : T → Prop} (h : (ofO o).P X K) : optF o K := by cases o <;> exact h
theorem ifR_P {k : Bool} {a b : R} {K : T → Prop} (h : (ifR k a b).P X K) : ifB k (a.P X K) (b.P X K) := by cases k <;> exact h
theorem ifRB_P {k : Bool} {a b : RB} {K : Bool → Prop} (h : (ifR k a b).P X K) : ifB k (a.P X K) (b.P X K) := by cases k <;> exact h
theorem ifB_imp {k : Bool} {A B A' B' : Prop} (h : ifB k A B) (f : A → A') (g : B → B') : ifB k A' B' := by cases k <;> first | exact f h | exact g h
theorem optR_P {α : Type} {o : Option α} {f : α → R} {K : T → Prop} (h : (optR o f).P X K) : optF o fun k => (f k).P X K := by cases o <;> exact h
theorem optB_P {α : Type} {o : Option α} {f : α → RB} {K : Bool → Prop} (h : (optB o f).P X K) : optF o fun k => (f k).P X K := by cases o <;> exact h
theorem optI_P {α : Type} {o : Option α} {f : α → RI} {K : List T → Option Addr → Prop} (h : (optI o f).P X K) : optF o fun k => (f k).P X K := by cases o <;> exact h
theorem optO_P {α : Type} {o : Option α} {f : α → RO} {K : Option Int → Prop} (h : (optO o f).P X K) : optF o fun k => (f k).P X K := by cases o <;> exact h
theorem optL_P {α : Type} {o : Option α} {f : α → RL} {K : List T → Prop} (h : (optL o f).P X K) : optF o fun k => (f k).P X K := by cases o <;> exact h
theorem gR_P {b : Bool} {r : R} {K : T → Prop} (h : (gR b r).P X K) : b = true ∧ r.P X K := by cases b <;> first | exact ⟨rfl, h⟩ | exact h.elim
theorem gL_P {b : Bool} {r : RL} {K : List T → Prop} (h : (gL b r).P X K) : b = true ∧ r.P X K := by cases b <;> first | exact ⟨rfl, h⟩ | exact h.elim
theorem gI_P {b : Bool} {r : RI} {K : List T → Option Addr → Prop} (h : (gI b r).P X K) : b = true ∧ r.P X K := by cases b <;> first | exact ⟨rfl, h⟩ | exact h.elim
theorem gB_P {b : Bool} {r : RB} {K : Bool → Prop} (h : (gB b r).P X K) : b = true ∧ r.P X K := by cases b <;> first | exact ⟨rfl, h⟩ | exact h.elim
theorem optF_imp {α : Type} {o : Option α} {A B : α → Prop} (h : optF o A) (f : ∀ x, A x → B x) : optF o B := by cases o <;> first | exact f _ h | exact h
theorem optF_imp' {α : Type} {o : Option α} {A B : α → Prop} (h : optF o A) (f : ∀ x, o = some x → A x → B x) : optF o B := by cases o <;> first | exact f _ rfl h | exact h
theorem pcmp_P {o : Cop} {u w : T} {η : Sto} {f : Bool → R} {K : T → Prop} (h : (pcmp o u w η f).P X K) : cop o u w η fun k => (f k).P X K := ⟨(gR_P h).1, optR_P (gR_P h).2⟩
theorem pcmpB_P {o : Cop} {u w : T} {η : Sto} {f : Bool → RB} {K : Bool → Prop} (h : (pcmpB o u w η f).P X K) : cop o u w η fun k => (f k).P X K := ⟨(gB_P h).1, optB_P (gB_P h).2⟩
theorem cop_imp {o : Cop} {u w : T} {η : Sto} {A B : Bool → Prop} (h : cop o u w η A) (f : ∀ k, A k → B k) : cop o u w η B := ⟨h.1, optF_imp h.2 f⟩
theorem toL'_P {f : Bool → RL} {K : List T → Prop} (h : (rb.toL' f).P X K) (X' : XP) : rb.P X' fun t => (f t).P X K := by cases rb <;> first | exact h | exact h.elim
theorem toLL_P {f : List T → RL} {K : List T → Prop} (h : (rl.toL' f).P X K) (X' : XP) : rl.P X' fun t => (f t).P X K := by cases rl <;> first | exact h | exact h.elim
theorem hof_P {f : Nat} {ret : Str} {K : T → Prop} (h : (hofR f ret r).P X K) : r.P (fun c t => c = f ∧ K t) fun _ => K (.str ret) := by
  cases r with
  | val t => exact h
  | exn c t =>
    have h : (if c = f then R.val t else .bad).P X K := h
    by_cases z : c = f
    · rw [if_pos z] at h
      exact ⟨z, h⟩
    · rw [if_neg z] at h
      exact h.elim
  | bad => exact h.elim
theorem okRg_ok {n : Int} (h : okRg n = true) : small n := by
  unfold okRg at h
  rw [Bool.and_eq_true] at h
  exact ⟨of_decide_eq_true h.1, of_decide_eq_true h.2⟩
end
theorem seq_stays {η : Sto} {u : T} {ts : List T} (h : seqOf η u = some ts) : stays (srcOf u) ts η := by
  cases u <;> first
    | exact True.intro
    | (rename_i a
       show get η a = some (.lst ts)
       simp only [seqOf] at h
       cases e : get η a with
       | none => rw [e] at h; cases h
       | some o =>
         rw [e] at h
         cases o <;> cases h <;> rfl)
theorem pcomp_ok {η : Sto} {st : Sto → Prop} (hs : st η) {g : T → RL} {f : T → Sto → KL → Prop} (hf : ∀ x (Kr : KL), (g x).P (fun _ _ => False) (fun r => Kr r η) → f x η Kr) {X : XP} : ∀ (xs acc : List T) {K : KL}, (pcomp g xs).P X (fun rs => K (acc ++ rs) η) → wcomp st f xs acc η K
  | [], acc, K, h => ⟨hs, by have h : K (acc ++ []) η := h; rw [List.append_nil] at h; exact h⟩
  | x :: xs, acc, K, h => ⟨hs, hf x _ ((toLL_P (rl := g x) h _).imp fun r h => pcomp_ok hs hf (X := X) xs (acc ++ r) ((toLL_P (rl := pcomp g xs) h X).imp fun rs h => by
      have h : K (acc ++ (r ++ rs)) η := h
      rw [← List.append_assoc] at h
      exact h))⟩
theorem mthB_ok {m : Mt} {o : T} {ts : List T} {η : Sto} {K : T → Prop} (h1 : mthB m o ts η = true) (h2 : optF (mthP m o ts η) K) : mthG m o ts η ∧ optF (mthV m o ts η) fun q => q.2 = η ∧ K q.1 := by
  cases m with
  | append => cases o <;> rcases ts with _ | ⟨t, _ | ⟨u, _ | ⟨w, ws⟩⟩⟩ <;> exact h2.elim
  | get2 =>
    cases o <;> rcases ts with _ | ⟨t, _ | ⟨u, _ | ⟨w, ws⟩⟩⟩ <;> first
      | exact h2.elim
      | exact ⟨h1, rfl, h2⟩
  | index =>
    rcases ts with _ | ⟨t, _ | ⟨u, us⟩⟩
    · cases o <;> exact h2.elim
    · have h2 : optF (((seqOf η o).bind (ixOf t)).map fun (k : Nat) => T.int k) K := by cases o <;> exact h2
      have h1 : (match seqOf η o with | some xs => inOk t xs | none => true) = true := by cases o <;> exact h1
      have g : mthG .index o [t] η = (match seqOf η o with | some xs => inOk t xs = true | none => True) := by cases o <;> rfl
      have e : mthV .index o [t] η = ((seqOf η o).bind (ixOf t)).map fun (k : Nat) => (T.int k, η) := by cases o <;> rfl
      rw [g, e]
      cases q : seqOf η o with
      | none => rw [q] at h2; exact h2.elim
      | some xs =>
        rw [q] at h1 h2
        refine ⟨h1, ?_⟩
        have h2 : optF ((ixOf t xs).map fun (k : Nat) => T.int k) K := h2
        show optF ((ixOf t xs).map fun (k : Nat) => (T.int k, η)) _
        cases q2 : ixOf t xs with
        | none => rw [q2] at h2; exact h2.elim
        | some k => rw [q2] at h2; exact ⟨rfl, h2⟩
    · cases o <;> exact h2.elim
section
variable {η : Sto} {Φ : Nat → List T → R} {Ψ : Nat → List T → Sto → KX → KE → Prop} (hΦ : ∀ f ts X K, (Φ f ts).P (fun c t => X ⟨c, t⟩ η) (fun t => K t η) → Ψ f ts η X K)
include hΦ
mutual
theorem okPE : ∀ (e : E) (ρ : Env) {X : KX} {K : KE}, (pE η Φ e ρ).P (fun c t => X ⟨c, t⟩ η) (fun t => K t η) → wE Ψ e ρ η X K
  | .var i, ρ, X, K, h => ofO_P h
  | .cst t, ρ, X, K, h => h
  | .gcst _ t, ρ, X, K, h => h
  | .tup es, ρ, X, K, h => okPEs es ρ (RL.to_P h)
  | .lstV es, ρ, X, K, h => okPEs es ρ (RL.to_P h)
  | .bin o a b, ρ, X, K, h => okPE a ρ ((R.to_P h).imp fun u h => okPE b ρ ((R.to_P h).imp fun w h => ⟨bopB_ok (gR_P h).1, ofO_P (gR_P h).2⟩))
  | .neg a, ρ, X, K, h => okPE a ρ ((R.to_P h).imp fun u h => ofO_P h)
  | .catV a b, ρ, X, K, h => okPE a ρ ((R.to_P h).imp fun u h => okPE b ρ ((R.to_P h).imp fun w h => optF_imp (optR_P h) fun xs h => optF_imp (optR_P h) fun ys h => ⟨of_decide_eq_true (gR_P h).1, (gR_P h).2⟩))
  | .cmp o a b, ρ, X, K, h => okPE a ρ ((R.to_P h).imp fun u h => okPE b ρ ((R.to_P h).imp fun w h => pcmp_P h))
  | .chain o1 o2 a b c, ρ, X, K, h => okPE a ρ ((R.to_P h).imp fun u h => okPE b ρ ((R.to_P h).imp fun w h => cop_imp (pcmp_P h) fun k h => ifB_imp (ifR_P h) (fun h => okPE c ρ ((R.to_P h).imp fun z h => pcmp_P h)) fun h => h))
  | .and a b, ρ, X, K, h => okPE a ρ ((R.to_P h).imp fun u h => optF_imp (optR_P h) fun k h => ifB_imp (ifR_P h) (fun h => okPE b ρ h) fun h => h)
  | .or a b, ρ, X, K, h => okPE a ρ ((R.to_P h).imp fun u h => optF_imp (optR_P h) fun k h => ifB_imp (ifR_P h) (fun h => h) fun h => okPE b ρ h)
  | .not a, ρ, X, K, h => okPE a ρ ((R.to_P h).imp fun u h => optR_P h)
  | .ite c a b, ρ, X, K, h => okPC c ρ ((RB.to_P h).imp fun k h => ifB_imp (ifR_P h) (fun h => okPE a ρ h) fun h => okPE b ρ h)
  | .idx a i, ρ, X, K, h => okPE a ρ ((R.to_P h).imp fun u h => okPE i ρ ((R.to_P h).imp fun w h => ofO_P h))
  | .slc a lo hi, ρ, X, K, h => okPE a ρ ((R.to_P h).imp fun u h => okPO lo ρ ((RO.to_P h).imp fun i h => okPO hi ρ ((RO.to_P h).imp fun j h => ofO_P h)))
  | .isinst a t, ρ, X, K, h => okPE a ρ ((R.to_P h).imp fun u h => optR_P h)
  | .call f es, ρ, X, K, h => okPEs es ρ ((RL.to_P h).imp fun ts h => hΦ f ts X K h)
  | .callK f es kw perm, ρ, X, K, h => okPEs es ρ ((RL.to_P h).imp fun ts h => okPEs kw ρ ((RL.to_P h).imp fun us h => hΦ f _ X K h))
  | .lc own tg src c elt, ρ, X, K, h => okPI src ρ ((RI.to_P h).imp fun ts sr h hs => pcomp_ok hs (fun x Kr h => optF_imp (optL_P h) fun v h => okPC c ⟨v, ρ.x⟩ ((toL'_P h _).imp fun k h => by
      cases k with
      | true => exact okPE elt ⟨v, ρ.x⟩ (R.toL_P h)
      | false => exact h)) ts [] (RL.to_P h))
  | .agg g a, ρ, X, K, h => okPE a ρ ((R.to_P h).imp fun u h => optF_imp (optR_P h) fun ts h => by
      have h := ofO_P h
      cases g <;> first | exact h | exact h.elim)
  | .blt b es, ρ, X, K, h => okPEs es ρ ((RL.to_P h).imp fun ts h => ofO_P h)
  | .mth m o es, ρ, X, K, h => okPE o ρ ((R.to_P h).imp fun u h => ⟨(gR_P h).1, okPEs es ρ ((RL.to_P (gR_P h).2).imp fun ts h => by
      obtain ⟨a1, a2⟩ := mthB_ok (gR_P h).1 (ofO_P (gR_P h).2)
      exact ⟨a1, optF_imp a2 fun q z => by rw [z.1]; exact z.2⟩)⟩)
  | .lenSet own tg src elt, ρ, X, K, h => okPI src ρ ((RI.to_P h).imp fun ts sr h hs => ⟨of_decide_eq_true (gR_P h).1, pcomp_ok hs (fun x Kr h => optF_imp (optL_P h) fun v h => okPE elt ⟨v, ρ.x⟩ ((R.toL_P h).imp fun u h => ⟨(gL_P h).1, (gL_P h).2⟩)) ts [] (RL.to_P (gR_P h).2)⟩)
  | .hof f e ret, ρ, X, K, h => okPE e ρ (hof_P h)
  | .exc, ρ, X, K, h => ofO_P h
  | .lst _, ρ, X, K, h => h.elim
  | .cat _ _, ρ, X, K, h => h.elim
  | .lcM _ _ _ _ _, ρ, X, K, h => h.elim
  | .slcM _ _ _, ρ, X, K, h => h.elim
  | .frz _, ρ, X, K, h => h.elim
  | .weak _, ρ, X, K, h => h.elim
theorem okPEs : ∀ (e : Es) (ρ : Env) {X : KX} {K : KL}, (pEs η Φ e ρ).P (fun c t => X ⟨c, t⟩ η) (fun t => K t η) → wEs Ψ e ρ η X K
  | .nil, ρ, X, K, h => h
  | .cons e es, ρ, X, K, h => okPE e ρ ((R.toL_P h).imp fun t h => okPEs es ρ (RL.toL_P h))
theorem okPC : ∀ (e : C) (ρ : Env) {X : KX} {K : Bool → Sto → Prop}, (pC η Φ e ρ).P (fun c t => X ⟨c, t⟩ η) (fun t => K t η) → wC Ψ e ρ η X K
  | .and a b, ρ, X, K, h => okPC a ρ ((RB.toB_P h).imp fun k h => ifB_imp (ifRB_P h) (fun h => okPC b ρ h) fun h => h)
  | .or a b, ρ, X, K, h => okPC a ρ ((RB.toB_P h).imp fun k h => ifB_imp (ifRB_P h) (fun h => h) fun h => okPC b ρ h)
  | .not a, ρ, X, K, h => okPC a ρ ((RB.toB_P h).imp fun k h => h)
  | .val e, ρ, X, K, h => okPE e ρ ((R.toB_P h).imp fun u h => optB_P h)
  | .tt, ρ, X, K, h => h
  | .cmp o a b, ρ, X, K, h => okPE a ρ ((R.toB_P h).imp fun u h => okPE b ρ ((R.toB_P h).imp fun w h => pcmpB_P h))
  | .chain o1 o2 a b c, ρ, X, K, h => okPE a ρ ((R.toB_P h).imp fun u h => okPE b ρ ((R.toB_P h).imp fun w h => cop_imp (pcmpB_P h) fun k h => ifB_imp (ifRB_P h) (fun h => okPE c ρ ((R.toB_P h).imp fun z h => pcmpB_P h)) fun h => h))
theorem okPI : ∀ (e : It) (ρ : Env) {X : KX} {K : List T → Option Addr → Sto → Prop}, (pI η Φ e ρ).P (fun c t => X ⟨c, t⟩ η) (fun ts sr => stays sr ts η → K ts sr η) → wI Ψ e ρ η X K
  | .seq e, ρ, X, K, h => okPE e ρ ((R.toI_P h).imp fun u h => optF_imp' (optI_P h) fun ts e h => (show stays (srcOf u) ts η → K ts (srcOf u) η from h) (seq_stays e))
  | .chars e, ρ, X, K, h => okPE e ρ ((R.toI_P h).imp fun u h => optF_imp (optI_P h) fun x h => (show True → _ from h) True.intro)
  | .range a, ρ, X, K, h => okPE a ρ ((R.toI_P h).imp fun u h => optF_imp (optI_P h) fun n h => ⟨okRg_ok (gI_P h).1, (show True → _ from (gI_P h).2) True.intro⟩)
  | .range2 a b, ρ, X, K, h => okPE a ρ ((R.toI_P h).imp fun u h => okPE b ρ ((R.toI_P h).imp fun w h => optF_imp (optI_P h) fun m h => optF_imp (optI_P h) fun n h => by
      obtain ⟨c, d⟩ := gI_P h
      simp only [Bool.and_eq_true, decide_eq_true_eq] at c
      exact ⟨okRg_ok c.1.1, okRg_ok c.1.2, c.2, (show True → _ from d) True.intro⟩))
  | .zip a b, ρ, X, K, h => okPE a ρ ((R.toI_P h).imp fun u h => okPE b ρ ((R.toI_P h).imp fun w h => optF_imp (optI_P h) fun xs h => optF_imp (optI_P h) fun ys h => (show True → _ from h) True.intro))
  | .enum a, ρ, X, K, h => okPE a ρ ((R.toI_P h).imp fun u h => optF_imp (optI_P h) fun xs h => (show True → _ from h) True.intro)
theorem okPO : ∀ (e : Op) (ρ : Env) {X : KX} {K : Option Int → Sto → Prop}, (pO η Φ e ρ).P (fun c t => X ⟨c, t⟩ η) (fun t => K t η) → wO Ψ e ρ η X K
  | .no, ρ, X, K, h => h
  | .some e, ρ, X, K, h => okPE e ρ ((R.toO_P h).imp fun u h => optO_P h)
end
end
/-! ### statements -/
def RS.P (r : RS) (η : Sto) (D : Dn) : Prop := match r with
  | .nx ρ => D.nx ρ η
  | .rt t => D.rt t η
  | .bk ρ => D.bk ρ η
  | .ct ρ => D.ct ρ η
  | .exn c t => D.X ⟨c, t⟩ η
  | .bad => False
section
variable {η : Sto}
theorem R.toS_P {r : R} {f : T → RS} {D : Dn} (h : (r.toS f).P η D) : r.P (fun c t => D.X ⟨c, t⟩ η) fun t => (f t).P η D := by cases r <;> exact h
theorem RB.toS_P {r : RB} {f : Bool → RS} {D : Dn} (h : (r.toS f).P η D) : r.P (fun c t => D.X ⟨c, t⟩ η) fun t => (f t).P η D := by cases r <;> exact h
theorem RI.toS_P {r : RI} {f : List T → RS} {D : Dn} (h : (r.toS f).P η D) : r.P (fun c t => D.X ⟨c, t⟩ η) fun t _ => (f t).P η D := by cases r <;> exact h
theorem optS_P {α : Type} {o : Option α} {f : α → RS} {D : Dn} (h : (optS o f).P η D) : optF o fun k => (f k).P η D := by cases o <;> exact h
theorem ifRS_P {k : Bool} {a b : RS} {D : Dn} (h : (ifR k a b).P η D) : ifB k (a.P η D) (b.P η D) := by cases k <;> exact h
theorem nxt_P {r : RS} {f : Env → RS} {D : Dn} (h : (r.nxt f).P η D) : r.P η ⟨fun ρ' η' => (f ρ').P η' D, D.rt, D.bk, D.ct, D.X⟩ := by cases r <;> exact h
theorem turn_P {r : RS} {f : Env → RS} {D : Dn} (h : (r.turn f).P η D) : r.P η ⟨fun ρ' η' => (f ρ').P η' D, D.rt, D.nx, fun ρ' η' => (f ρ').P η' D, D.X⟩ := by cases r <;> exact h
/-- only at this store -/
theorem RS.P.imp {r : RS} {D D' : Dn} (h : r.P η D) (a : ∀ ρ, D.nx ρ η → D'.nx ρ η) (b : ∀ t, D.rt t η → D'.rt t η) (c : ∀ ρ, D.bk ρ η → D'.bk ρ η) (d : ∀ ρ, D.ct ρ η → D'.ct ρ η) (e : ∀ x, D.X x η → D'.X x η) : r.P η D' := by
  cases r <;> first | exact a _ h | exact b _ h | exact c _ h | exact d _ h | exact e _ h | exact h
theorem pfor_ok {st : Sto → Prop} (hs : st η) {tg : Tg} {g : Env → RS} {body : Dn → Env → Sto → Prop} (hb : ∀ ρ D, (g ρ).P η D → body D ρ η) {D : Dn} : ∀ (ts : List T) (ρ : Env), (pfor tg g ts ρ).P η D → wfor st tg body D ts ρ η
  | [], ρ, h => ⟨hs, h⟩
  | x :: xs, ρ, h => ⟨hs, optF_imp (optS_P h) fun v h => hb _ _ ((turn_P h).imp (fun ρ' h => pfor_ok hs hb xs ρ' h) (fun _ h => h) (fun _ h => h) (fun ρ' h => pfor_ok hs hb xs ρ' h) fun _ h => h)⟩
theorem pwhile_ok {test : Env → RB} {test' : Env → Sto → (Bool → Sto → Prop) → Prop} {D : Dn} (ht : ∀ ρ (K : Bool → Sto → Prop), (test ρ).P (fun c t => D.X ⟨c, t⟩ η) (fun k => K k η) → test' ρ η K) {g : Env → RS} {body : Dn → Env → Sto → Prop} (hb : ∀ ρ D, (g ρ).P η D → body D ρ η) : ∀ (n : Nat) (ρ : Env), (pwhile test g n ρ).P η D → wwhile test' body D n ρ η
  | 0, ρ, h => h
  | n + 1, ρ, h => ht ρ _ ((RB.toS_P h).imp fun k h => ifB_imp (ifRS_P h) (fun h => hb _ _ ((turn_P h).imp (fun ρ' h => pwhile_ok ht hb n ρ' h) (fun _ h => h) (fun _ h => h) (fun ρ' h => pwhile_ok ht hb n ρ' h) fun _ h => h)) fun h => h)
variable {fu : Nat} {Φ : Nat → List T → R} {Ψ : Nat → List T → Sto → KX → KE → Prop} (hΦ : ∀ f ts X K, (Φ f ts).P (fun c t => X ⟨c, t⟩ η) (fun t => K t η) → Ψ f ts η X K)
include hΦ
mutual
theorem okPS : ∀ (s : S) (ρ : Env) {D : Dn}, (pS η fu Φ s ρ).P η D → wS Ψ s D ρ η
  | .expr e, ρ, D, h => okPE hΦ e ρ ((R.toS_P h).imp fun _ h => h)
  | .ret e, ρ, D, h => okPE hΦ e ρ ((R.toS_P h).imp fun _ h => h)
  | .retN, ρ, D, h => h
  | .set i e, ρ, D, h => okPE hΦ e ρ ((R.toS_P h).imp fun _ h => h)
  | .par i j a b, ρ, D, h => okPE hΦ a ρ ((R.toS_P h).imp fun _ h => okPE hΦ b ρ ((R.toS_P h).imp fun _ h => h))
  | .unp tg e, ρ, D, h => okPE hΦ e ρ ((R.toS_P h).imp fun _ h => optS_P h)
  | .iff c a b, ρ, D, h => okPC hΦ c ρ ((RB.toS_P h).imp fun k h => ifB_imp (ifRS_P h) (fun h => okPSs a ρ h) fun h => okPSs b ρ h)
  | .for tg it b, ρ, D, h => okPI hΦ it ρ ((RI.toS_P h).imp fun ts sr h hs => pfor_ok hs (fun ρ' D' h => okPSs b ρ' h) ts ρ h)
  | .while c b, ρ, D, h => ⟨fu, pwhile_ok (fun ρ' K h => okPC hΦ c ρ' h) (fun ρ' D' h => okPSs b ρ' h) fu ρ h⟩
  | .brk, ρ, D, h => h
  | .cont, ρ, D, h => h
  | .pass, ρ, D, h => h
  | .raise c e, ρ, D, h => okPE hΦ e ρ ((R.toS_P h).imp fun _ h => h)
  | .setIdx _ _ _, ρ, D, h => h.elim
  | .tryE _ _ _ _, ρ, D, h => h.elim
  | .weak, ρ, D, h => h.elim
theorem okPSs : ∀ (s : Ss) (ρ : Env) {D : Dn}, (pSs η fu Φ s ρ).P η D → wSs Ψ s D ρ η
  | .nil, ρ, D, h => h
  | .cons s r, ρ, D, h => okPS s ρ ((nxt_P h).imp (fun ρ' h => okPSs r ρ' h) (fun _ h => h) (fun _ h => h) (fun _ h => h) fun _ h => h)
end
end
theorem pcall_ok {η : Sto} {fu : Nat} {F : List Fd} : ∀ (n f : Nat) (ts : List T) (X : KX) (K : KE), (pcall η fu F n f ts).P (fun c t => X ⟨c, t⟩ η) (fun t => K t η) → wcall F n f ts η X K
  | 0, _, _, _, _, h => h
  | n + 1, f, ts, X, K, h => by
    unfold pcall at h
    show (match F[f]? with
      | some d => ts.length = d.np ∧ wSs (wcall F n) d.body ⟨fun _ η' => K .non η', K, fun _ _ => False, fun _ _ => False, X⟩ ⟨ts.map some ++ List.replicate (d.nl - d.np) none, none⟩ η
      | none => False)
    cases e : F[f]? with
    | none => rw [e] at h; exact h.elim
    | some d =>
      rw [e] at h
      have h : (if ts.length = d.np then endR (pSs η fu (pcall η fu F n) d.body ⟨ts.map some ++ List.replicate (d.nl - d.np) none, none⟩) else .bad).P _ _ := h
      by_cases c : ts.length = d.np
      · rw [if_pos c] at h
        refine ⟨c, okPSs (fu := fu) (Φ := pcall η fu F n) (fun f ts X K h => pcall_ok n f ts X K h) d.body _ ?_⟩
        cases q : pSs η fu (pcall η fu F n) d.body ⟨ts.map some ++ List.replicate (d.nl - d.np) none, none⟩ <;> rw [q] at h <;> first | exact h | exact h.elim
      · rw [if_neg c] at h
        exact h.elim
theorem pcall_val {η : Sto} {fu : Nat} {F : List Fd} {n f : Nat} {ts : List T} {t : T} {X : KX} {K : KE} (h : pcall η fu F n f ts = .val t) (k : K t η) : wcall F n f ts η X K := pcall_ok n f ts X K (by rw [h]; exact k)
theorem pcall_exn {η : Sto} {fu : Nat} {F : List Fd} {n f : Nat} {ts : List T} {c : Nat} {t : T} {X : KX} {K : KE} (h : pcall η fu F n f ts = .exn c t) (k : X ⟨c, t⟩ η) : wcall F n f ts η X K := pcall_ok n f ts X K (by rw [h]; exact k)
/-! ### loops by name (so that a rewriting leaves their bodies alone) -/
section
variable {η : Sto} {fu : Nat} {Φ : Nat → List T → R} {ρ : Env}
def pforS (η : Sto) (fu : Nat) (Φ : Nat → List T → R) (tg : Tg) (b : Ss) (ts : List T) (ρ : Env) : RS := pfor tg (fun ρ' => pSs η fu Φ b ρ') ts ρ
def pcompS (η : Sto) (Φ : Nat → List T → R) (own : List Nat) (tg : Tg) (c : C) (elt : E) (ρ : Env) (ts : List T) : RL :=
  pcomp (fun x => optL (bindTg tg x (setvs ρ.v own)) fun v => (pC η Φ c ⟨v, ρ.x⟩).toL' fun k => ifR k ((pE η Φ elt ⟨v, ρ.x⟩).toL fun u => .val [u]) (.val [])) ts
def psetS (η : Sto) (Φ : Nat → List T → R) (own : List Nat) (tg : Tg) (elt : E) (ρ : Env) (ts : List T) : RL :=
  pcomp (fun x => optL (bindTg tg x (setvs ρ.v own)) fun v => (pE η Φ elt ⟨v, ρ.x⟩).toL fun u => gL (keyT u) (.val [u])) ts
def pwhS (η : Sto) (fu : Nat) (Φ : Nat → List T → R) (c : C) (b : Ss) (n : Nat) (ρ : Env) : RS := pwhile (fun ρ' => pC η Φ c ρ') (fun ρ' => pSs η fu Φ b ρ') n ρ
theorem e_for {tg : Tg} {it : It} {b : Ss} : pS η fu Φ (.for tg it b) ρ = (pI η Φ it ρ).toS fun ts => pforS η fu Φ tg b ts ρ := rfl
theorem e_while {c : C} {b : Ss} : pS η fu Φ (.while c b) ρ = pwhS η fu Φ c b fu ρ := rfl
theorem e_lc {own : List Nat} {tg : Tg} {src : It} {c : C} {elt : E} : pE η Φ (.lc own tg src c elt) ρ = (pI η Φ src ρ).to fun ts => (pcompS η Φ own tg c elt ρ ts).to fun us => .val (.cl us) := rfl
theorem e_lenSet {own : List Nat} {tg : Tg} {src : It} {elt : E} : pE η Φ (.lenSet own tg src elt) ρ = (pI η Φ src ρ).to fun ts => gR (decide (ts.length ≤ 1000)) ((psetS η Φ own tg elt ρ ts).to fun us => .val (.int (dedup us).length)) := rfl
theorem pforS_nil {tg : Tg} {b : Ss} : pforS η fu Φ tg b [] ρ = .nx ρ := rfl
theorem pforS_cons {tg : Tg} {b : Ss} {x : T} {xs : List T} : pforS η fu Φ tg b (x :: xs) ρ = optS (bindTg tg x ρ.v) fun v => (pSs η fu Φ b ⟨v, ρ.x⟩).turn fun ρ' => pforS η fu Φ tg b xs ρ' := rfl
theorem pcompS_nil {own : List Nat} {tg : Tg} {c : C} {elt : E} : pcompS η Φ own tg c elt ρ [] = .val [] := rfl
theorem pcompS_cons {own : List Nat} {tg : Tg} {c : C} {elt : E} {x : T} {xs : List T} : pcompS η Φ own tg c elt ρ (x :: xs) = (optL (bindTg tg x (setvs ρ.v own)) fun v => (pC η Φ c ⟨v, ρ.x⟩).toL' fun k => ifR k ((pE η Φ elt ⟨v, ρ.x⟩).toL fun u => .val [u]) (.val [])).toL' fun r => (pcompS η Φ own tg c elt ρ xs).toL' fun rs => .val (r ++ rs) := rfl
theorem psetS_nil {own : List Nat} {tg : Tg} {elt : E} : psetS η Φ own tg elt ρ [] = .val [] := rfl
theorem psetS_cons {own : List Nat} {tg : Tg} {elt : E} {x : T} {xs : List T} : psetS η Φ own tg elt ρ (x :: xs) = (optL (bindTg tg x (setvs ρ.v own)) fun v => (pE η Φ elt ⟨v, ρ.x⟩).toL fun u => gL (keyT u) (.val [u])).toL' fun r => (psetS η Φ own tg elt ρ xs).toL' fun rs => .val (r ++ rs) := rfl
theorem pwhS_succ {c : C} {b : Ss} {n : Nat} : pwhS η fu Φ c b (n + 1) ρ = (pC η Φ c ρ).toS fun k => ifR k ((pSs η fu Φ b ρ).turn fun ρ' => pwhS η fu Φ c b n ρ') (.nx ρ) := rfl
end
end TL

set_option maxHeartbeats 4000000
namespace TL
open PySem PySem.Spec PyProof.Rows L2
theorem x_slcC {xs : List T} {i j : Option Int} {η : Sto} : slcV (.cl xs) i j η = some (.cl (cutT xs i j)) := rfl
theorem x_slcT {xs : List T} {i j : Option Int} {η : Sto} : slcV (.tup xs) i j η = some (.tup (cutT xs i j)) := rfl
theorem x_lstC {xs : List T} {η : Sto} : lstOf η (.cl xs) = some xs := rfl
theorem x_inT {u : T} {xs : List T} {η : Sto} : copV .inn u (.tup xs) η = some (inT u xs) := by cases u <;> rfl
theorem x_inC {u : T} {xs : List T} {η : Sto} : copV .inn u (.cl xs) η = some (inT u xs) := by cases u <;> rfl
theorem x_ginT {u : T} {xs : List T} {η : Sto} : copG .inn u (.tup xs) η = inOk u xs := by cases u <;> rfl
theorem x_ginC {u : T} {xs : List T} {η : Sto} : copG .inn u (.cl xs) η = inOk u xs := by cases u <;> rfl
theorem yq_str {x y : Str} : eqv (.str x) (.str y) = decide (x = y) := by
  show (x == y) = _
  cases e : (x == y) with
  | true => rw [eq_of_beq e]; simp
  | false =>
    symm
    rw [decide_eq_false_iff_not]
    intro h
    rw [h] at e
    simp at e
theorem yq_int {x y : Int} : eqv (.int x) (.int y) = decide (x = y) := by
  show (x == y) = _
  rw [Bool.eq_iff_iff, beq_iff_eq, decide_eq_true_eq]
theorem yq_si {x : Str} {y : Int} : eqv (.str x) (.int y) = false := rfl
theorem yq_is {x : Int} {y : Str} : eqv (.int x) (.str y) = false := rfl
theorem yq_sn {x : Str} : eqv (.str x) .non = false := rfl
theorem yq_ns {x : Str} : eqv .non (.str x) = false := rfl
theorem yq_in {x : Int} : eqv (.int x) .non = false := rfl
theorem yq_ni {x : Int} : eqv .non (.int x) = false := rfl
theorem yq_nn : eqv .non .non = true := rfl
theorem eo_ss {x y : Str} : eqOk (.str x) (.str y) = true := rfl
theorem eo_ii {x y : Int} : eqOk (.int x) (.int y) = true := rfl
theorem eo_si {x : Str} {y : Int} : eqOk (.str x) (.int y) = true := rfl
theorem eo_is {x : Int} {y : Str} : eqOk (.int x) (.str y) = true := rfl
theorem eo_nn : eqOk .non .non = true := rfl
theorem eo_in {x : Int} : eqOk (.int x) .non = true := rfl
theorem eo_ni {x : Int} : eqOk .non (.int x) = true := rfl
theorem n_in {u x : T} {xs : List T} : inT u (x :: xs) = (eqv x u || inT u xs) := rfl
theorem n_nil {u : T} : inT u [] = false := rfl
theorem cut1 {x : T} {xs : List T} : cutT (x :: xs) (some 1) none = xs := by
  have e1 : HT.sIx (x :: xs).length 0 (some 1) = 1 := by
    simp [HT.sIx]
  have e2 : HT.sIx (x :: xs).length (x :: xs).length none = (x :: xs).length := rfl
  unfold cutT
  rw [e1, e2]
  simp
end TL
local macro_rules | `(tactic| walk_at "ev") => `(tactic| simp only [↓TL.r_wE_var, ↓TL.r_wE_cst, ↓TL.r_wE_gcst, ↓TL.r_wE_tup, ↓TL.r_wE_lst, ↓TL.r_wE_lstV, ↓TL.r_wE_bin, ↓TL.r_wE_neg, ↓TL.r_wE_cat, ↓TL.r_wE_catV, ↓TL.r_wE_cmp, ↓TL.r_wE_chain, ↓TL.r_wE_and, ↓TL.r_wE_or, ↓TL.r_wE_not, ↓TL.r_wE_ite, ↓TL.r_wE_idx, ↓TL.r_wE_slc, ↓TL.r_wE_slcM, ↓TL.r_wE_isinst, ↓TL.r_wE_call, ↓TL.r_wE_callK, ↓TL.r_wE_lc, ↓TL.r_wE_lcM, ↓TL.r_wE_agg, ↓TL.r_wE_blt, ↓TL.r_wE_mth, ↓TL.r_wE_lenSet, ↓TL.r_wE_hof, ↓TL.r_wE_exc, ↓TL.r_wE_frz, ↓TL.r_wE_weak, ↓TL.r_wEs_nil, ↓TL.r_wEs_cons, ↓TL.r_wC_and, ↓TL.r_wC_or, ↓TL.r_wC_not, ↓TL.r_wC_val, ↓TL.r_wC_tt, ↓TL.r_wC_cmp, ↓TL.r_wC_chain, ↓TL.r_wI_seq, ↓TL.r_wI_chars, ↓TL.r_wI_range, ↓TL.r_wI_range2, ↓TL.r_wI_zip, ↓TL.r_wI_enum, ↓TL.r_wO_no, ↓TL.r_wO_some, ↓TL.r_wS_expr, ↓TL.r_wS_ret, ↓TL.r_wS_retN, ↓TL.r_wS_set, ↓TL.r_wS_par, ↓TL.r_wS_unp, ↓TL.r_wS_setIdx, ↓TL.r_wS_iff, ↓TL.r_wS_for, ↓TL.r_wS_while, ↓TL.r_wS_brk, ↓TL.r_wS_cont, ↓TL.r_wS_pass, ↓TL.r_wS_raise, ↓TL.r_wS_tryE, ↓TL.r_wS_weak, ↓TL.r_wSs_nil, ↓TL.r_wSs_cons, ↓TL.f_bop, ↓TL.f_cop, ↓TL.f_agg, ↓TL.f_aggM, TL.v_addI, TL.v_subI, TL.v_mulI, TL.v_fdivI, TL.v_modI, TL.v_powI, TL.g_addI, TL.g_sub, TL.g_mulI, TL.g_fdivI, TL.g_modI, TL.g_powI, TL.c_gtI, TL.c_ltI, TL.c_leI, TL.c_geI, TL.c_eq, TL.c_ne, TL.c_isN, TL.c_notN, TL.c_inS, TL.c_ninS, TL.cg_gt, TL.cg_lt, TL.cg_le, TL.cg_ge, TL.cg_isN, TL.cg_notN, TL.cg_eq, TL.cg_ne, TL.cg_inS, TL.cg_ninS, TL.b_intI, TL.b_intB, TL.b_abs, TL.b_len, TL.b_max2, TL.b_min2, TL.l_str, TL.l_tup, TL.l_cl, TL.seq_ref, TL.l_ref, TL.i_tup, TL.i_cl, TL.i_ref, TL.f_set, TL.t_non, TL.t_bl, TL.t_int, TL.t_tup, TL.t_cl, TL.seq_tup, TL.seq_cl, TL.d_ref, TL.get_cons, TL.d_non, TL.d_bl, TL.d_int, TL.d_str, TL.d_tup, TL.d_cl, TL.get_put_same, TL.put_put, Int.cast_ofNat_Int, Int.natCast_zero, Int.natCast_one, List.length_cons, List.length_nil, List.getElem?_cons_zero, List.getElem?_cons_succ, List.map_cons, List.map_nil, List.replicate, List.cons_append, List.nil_append, Nat.reduceAdd, Nat.reduceSub, Nat.reduceLT, Int.reduceLE, Int.reduceLT, Int.reduceNeg, Int.reduceToNat, Nat.reduceLeDiff, if_true, if_false, ite_true, ite_false, List.set_cons_zero, List.set_cons_succ, Option.map_some, Option.map_none, Option.bind_some, Option.bind_none, true_and, and_true, ne_eq, not_false_eq_true, reduceCtorEq, TL.lstAt, TL.nth, TL.setv, TL.Env.put, L2.atI, L2.ixN, ↓TL.optF_I, TL.optQ_some, TL.optQ_none, ↓TL.ifB_I, TL.ifQ_true, TL.ifQ_false, TL.ifQ_dec, decide_true, decide_false, Bool.not_true, Bool.not_false, Int.reduceEq, TL.srcOf, TL.bindTg, TL.intV, TL.strV, TL.x_slcC, TL.x_slcT, TL.x_lstC, TL.negV, TL.isT, *])
/-! what the laws' own helpers do: dice, a roll, a pick -/
namespace TL
open PySem PySem.Spec PyProof.Rows L2
def irRoll : Ss :=
  (.cons (.iff (.cmp .gt (.idx (.var 0) (.cst (.int 0))) (.cst (.int 0)))
   (.cons (.set 2 (.bin .mod (.blt .int (.cons (.idx (.var 0) (.cst (.int 0))) .nil)) (.var 1)))
    (.cons (.setIdx (.var 0) (.cst (.int 0)) (.bin .fdiv (.idx (.var 0) (.cst (.int 0))) (.var 1)))
    (.cons (.ret (.var 2))
    .nil)))
   .nil)
  (.cons (.setIdx (.var 0) (.cst (.int 2)) (.bin .add (.idx (.var 0) (.cst (.int 2))) (.cst (.int 1))))
  (.cons (.setIdx (.var 0) (.cst (.int 1)) (.bin .mod (.blt .int (.cons (.bin .add (.bin .add (.bin .mul (.idx (.var 0) (.cst (.int 1))) (.cst (.int 48271))) (.bin .mul (.bin .mul (.idx (.var 0) (.cst (.int 2))) (.idx (.var 0) (.cst (.int 2)))) (.cst (.int 2003)))) (.cst (.int 91))) .nil)) (.cst (.int 2147480009))))
  (.cons (.ret (.bin .mod (.blt .int (.cons (.bin .fdiv (.idx (.var 0) (.cst (.int 1))) (.cst (.int 197))) .nil)) (.var 1)))
  .nil))))
def irDice : Ss :=
  (.cons (.set 2 (.ite (.cmp .lt (.var 1) (.blt .len (.cons (.var 0) .nil))) (.idx (.var 0) (.var 1)) (.bin .add (.bin .mul (.cst (.int 811)) (.var 1)) (.cst (.int 37)))))
  (.cons (.set 3 (.bin .add (.cst (.int 700001)) (.bin .mul (.cst (.int 6947)) (.var 1))))
  (.cons (.for (.name 4) (.seq (.catV (.slc (.var 0) .no (.some (.cst (.int 6)))) (.lstV (.cons (.var 2) .nil))))
   (.cons (.set 3 (.bin .mod (.blt .int (.cons (.bin .add (.bin .mul (.var 3) (.cst (.int 69621))) (.bin .mod (.blt .int (.cons (.var 4) .nil)) (.cst (.int 2147480009)))) .nil)) (.cst (.int 2147480009))))
    .nil))
  (.cons (.ret (.lst (.cons (.ite (.or (.cmp .lt (.var 2) (.cst (.int 0))) (.cmp .ge (.var 2) (.bin .pow (.cst (.int 10)) (.cst (.int 16))))) (.blt .abs (.cons (.var 2) .nil)) (.cst (.int 0))) (.cons (.var 3) (.cons (.cst (.int 0)) .nil)))))
  .nil))))
def irPick (r : Nat) : Ss :=
  (.cons (.ret (.idx (.var 1) (.call r (.cons (.var 0) (.cons (.blt .len (.cons (.var 1) .nil)) .nil)))))
  .nil)
def Dice (m : Nat) (xs : List T) : Prop := ∃ a b c : Int, xs = [.int a, .int b, .int c] ∧ 0 ≤ a ∧ 0 ≤ b ∧ b < 2147480009 ∧ 0 ≤ c ∧ c ≤ m
theorem Dice.mono {m n : Nat} {xs : List T} (h : Dice m xs) (l : m ≤ n) : Dice n xs := by
  obtain ⟨a, b, c, e, h1, h2, h3, h4, h5⟩ := h
  exact ⟨a, b, c, e, h1, h2, h3, h4, by omega⟩
theorem lg {i : Int} {k : Nat} (h : i.natAbs < 2 ^ k) : i.natAbs.log2 ≤ k := by
  by_cases z : i.natAbs = 0
  · rw [z]; exact Nat.zero_le _
  · exact Nat.le_of_lt ((Nat.log2_lt z).mpr h)
theorem call_ {F : List Fd} {n i : Nat} {d : Fd} (hF : F[i]? = some d) {ts : List T} {η : Sto} {X : KX} {K : KE} (hl : ts.length = d.np) (h : wSs (wcall F n) d.body ⟨fun _ η' => K .non η', K, fun _ _ => False, fun _ _ => False, X⟩ ⟨ts.map some ++ List.replicate (d.nl - d.np) none, none⟩ η) : wcall F (n + 1) i ts η X K := by
  show (match F[i]? with
    | some d => ts.length = d.np ∧ wSs (wcall F n) d.body ⟨fun _ η' => K .non η', K, fun _ _ => False, fun _ _ => False, X⟩ ⟨ts.map some ++ List.replicate (d.nl - d.np) none, none⟩ η
    | none => False)
  rw [hF]
  exact ⟨hl, h⟩
theorem roll_ok {F : List Fd} {n i : Nat} (hF : F[i]? = some ⟨2, 3, irRoll⟩) {m : Nat} {a : Addr} {t : Int} {η : Sto} {X : KX} {K : KE} {xs : List T} (hm : m ≤ 2 ^ 60) (hg : get η a = some (.lst xs)) (hd : Dice m xs) (ht : 0 < t) (ht2 : t < 2 ^ 60)
    (hK : ∀ ys (r : Int), Dice (m + 1) ys → 0 ≤ r → r < t → K (.int r) (put η a (.lst ys))) : wcall F (n + 1) i [.ref a, .int t] η X K := by
  obtain ⟨x, y, z, rfl, h1, h2, h3, h4, h5⟩ := hd
  refine call_ hF rfl ?_
  generalize wcall F n = Φ
  unfold irRoll
  have ht0 : ¬ t = 0 := by omega
  have lt9 : t.natAbs.log2 < 9000 := Nat.lt_of_le_of_lt (lg (k := 60) (by omega)) (by decide)
  walk_at "ev"
  have ft : ∀ q : Int, 0 ≤ q.fmod t ∧ q.fmod t < t := fun q => by
    rw [Int.fmod_eq_emod_of_nonneg q (by omega)]
    exact ⟨Int.emod_nonneg q ht0, Int.emod_lt_of_pos q ht⟩
  have f2 : ∀ q : Int, 0 ≤ q.fmod 2147480009 ∧ q.fmod 2147480009 < 2147480009 := fun q => by
    rw [Int.fmod_eq_emod_of_nonneg q (by omega)]
    exact ⟨Int.emod_nonneg q (by decide), Int.emod_lt_of_pos q (by decide)⟩
  by_cases hx : 0 < x
  · rw [if_pos hx]
    exact hK _ _ ⟨_, _, _, rfl, by rw [Int.fdiv_eq_ediv_of_nonneg x (by omega)]; exact Int.ediv_nonneg h1 (by omega), h2, h3, h4, by omega⟩ (ft _).1 (ft _).2
  · rw [if_neg hx]
    have hz : (z + 1).natAbs < 2 ^ 61 := by omega
    have hzz : ((z + 1) * (z + 1)).natAbs < 2 ^ 122 := by
      rw [Int.natAbs_mul]
      calc (z + 1).natAbs * (z + 1).natAbs < 2 ^ 61 * 2 ^ 61 := Nat.mul_lt_mul'' hz hz
        _ = 2 ^ 122 := by decide
    refine ⟨?_, ?_, ?_, by decide, hK _ _ ⟨_, _, _, rfl, h1, (f2 _).1, (f2 _).2, by omega, by omega⟩ (ft _).1 (ft _).2⟩
    · have := lg (i := y) (k := 40) (by omega)
      have : (Int.natAbs 48271).log2 < 100 := by decide
      omega
    · have := lg hz
      omega
    · have := lg hzz
      have : (Int.natAbs 2003).log2 < 100 := by decide
      omega
theorem pick_ok {F : List Fd} {n i r : Nat} (hF : F[i]? = some ⟨2, 2, irPick r⟩) (hR : F[r]? = some ⟨2, 3, irRoll⟩) {m : Nat} {a : Addr} {things : List T} {η : Sto} {X : KX} {K : KE} {xs : List T} (hm : m ≤ 2 ^ 60) (hg : get η a = some (.lst xs)) (hd : Dice m xs) (ht : things ≠ []) (ht2 : things.length < 2 ^ 60)
    (hK : ∀ ys (k : Nat) t, Dice (m + 1) ys → things[k]? = some t → K t (put η a (.lst ys))) : wcall F (n + 2) i [.ref a, .cl things] η X K := by
  refine call_ hF rfl ?_
  unfold irPick
  have hl : 0 < things.length := List.length_pos_iff.mpr ht
  walk_at "ev"
  refine roll_ok hR hm hg hd (by omega) (by omega) fun ys q hy q0 q1 => ?_
  have hq : q.toNat < things.length := by omega
  have e : atI things q = some things[q.toNat] := by
    have e1 : ixN things.length q = some q.toNat := by
      unfold ixN
      rw [if_pos q0, if_pos (by omega)]
    unfold atI
    rw [e1]
    exact List.getElem?_eq_getElem hq
  have e2 : idxV (put η a (.lst ys)) (.cl things) (.int q) = some things[q.toNat] := e
  show optF (idxV (put η a (.lst ys)) (.cl things) (.int q)) _
  rw [e2]
  exact hK ys q.toNat _ hy (List.getElem?_eq_getElem hq)
/-- a for with an invariant: what is left to walk, the names, the store -/
theorem wfor_inv {st : Sto → Prop} {tg : Tg} {body : Dn → Env → Sto → Prop} {D : Dn} (I : List T → List (Option T) → Sto → Prop) {xx : Option T}
    (step : ∀ x xs v η, I (x :: xs) v η → st η ∧ ∃ v', bindTg tg x v = some v' ∧ ∀ N : Env → Sto → Prop, (∀ v2 η2, I xs v2 η2 → N ⟨v2, xx⟩ η2) → body ⟨N, D.rt, D.nx, N, D.X⟩ ⟨v', xx⟩ η)
    (last : ∀ v η, I [] v η → st η ∧ D.nx ⟨v, xx⟩ η) : ∀ (ts : List T) (v : List (Option T)) (η : Sto), I ts v η → wfor st tg body D ts ⟨v, xx⟩ η
  | [], v, η, h => last v η h
  | x :: xs, v, η, h => by
    obtain ⟨a, v', e, b⟩ := step x xs v η h
    refine ⟨a, ?_⟩
    show optF (bindTg tg x v) _
    rw [e]
    exact b _ fun v2 η2 h2 => wfor_inv I step last xs v2 η2 h2
/-- a comprehension whose items are known -/
theorem wcomp_map {st : Sto → Prop} {f : T → Sto → KL → Prop} {g : T → List T} {η : Sto} (hs : st η) : ∀ (xs acc : List T) {K : KL}, (∀ x ∈ xs, ∀ Kr : KL, Kr (g x) η → f x η Kr) → K (acc ++ xs.flatMap g) η → wcomp st f xs acc η K
  | [], acc, K, _, h => ⟨hs, by rw [List.flatMap_nil, List.append_nil] at h; exact h⟩
  | x :: xs, acc, K, hf, h => ⟨hs, hf x List.mem_cons_self _ (wcomp_map hs xs (acc ++ g x) (fun y hy => hf y (List.mem_cons_of_mem _ hy)) (by rw [List.append_assoc]; exact h))⟩
theorem atI_nat {α : Type} {xs : List α} {k : Int} {x : α} (h0 : 0 ≤ k) (h : xs[k.toNat]? = some x) : atI xs k = some x := by
  have hl : k.toNat < xs.length := (List.getElem?_eq_some_iff.mp h).1
  have e1 : ixN xs.length k = some k.toNat := by
    unfold ixN
    rw [if_pos h0, if_pos (by omega)]
  unfold atI
  rw [e1]
  exact h
/-- one statement by itself -/
theorem one_st {Φ : Nat → List T → Sto → KX → KE → Prop} {s : S} {r : Ss} {D : Dn} {ρ : Env} {η : Sto} (h : ∀ N : Env → Sto → Prop, (∀ ρ' η', wSs Φ r D ρ' η' → N ρ' η') → wS Φ s ⟨N, D.rt, D.bk, D.ct, D.X⟩ ρ η) : wSs Φ (.cons s r) D ρ η := h _ fun _ _ z => z
theorem one_set {Φ : Nat → List T → Sto → KX → KE → Prop} {i : Nat} {e : E} {D : Dn} {ρ : Env} {η : Sto} (h : wE Φ e ρ η D.X fun t η' => D.nx (ρ.put i t) η') : wS Φ (.set i e) D ρ η := h
theorem lmul {i j : Int} (a : i.natAbs < 2 ^ 400000) (b : j.natAbs < 2 ^ 400000) : i.natAbs.log2 + j.natAbs.log2 < 1000000 := by
  have := lg a
  have := lg b
  omega
theorem cut_map {ns : List Int} {i j : Option Int} : ∃ zs : List Int, cutT (ns.map T.int) i j = zs.map T.int ∧ zs.length ≤ ns.length := by
  refine ⟨(ns.drop (HT.sIx ns.length 0 i)).take (HT.sIx ns.length ns.length j - HT.sIx ns.length 0 i), ?_, ?_⟩
  · unfold cutT
    rw [List.length_map, List.map_take, List.map_drop]
  · rw [List.length_take, List.length_drop]
    omega
theorem dice_ok {F : List Fd} {n i : Nat} (hF : F[i]? = some ⟨2, 5, irDice⟩) {ns : List Int} {spot : Int} {η : Sto} {X : KX} {K : KE} (h0 : 0 ≤ spot) (h1 : spot < 2 ^ 30) (hl : ns.length ≤ 63)
    (hK : ∀ p ys, get η p = none → Dice 0 ys → K (.ref p) ((p, .lst ys) :: η)) : wcall F (n + 1) i [.cl (ns.map .int), .int spot] η X K := by
  refine call_ hF rfl ?_
  unfold irDice
  generalize wcall F n = Φ
  have lsp := lg (i := spot) (k := 30) (by omega)
  have l6 : (Int.natAbs 6947).log2 < 100 := by decide
  have l7 : (Int.natAbs 69621).log2 < 100 := by decide
  have l8 : (Int.natAbs 811).log2 < 100 := by decide
  refine one_st fun N hN => ?_
  have hN : ∀ own : Int, N ⟨[some (.cl (ns.map .int)), some (.int spot), some (.int own), none, none], none⟩ η := fun own => by
    refine hN _ _ ?_
    clear hN
    refine one_st fun N hN => ?_
    walk_at "ev"
    refine ⟨by omega, hN _ _ ?_⟩
    clear hN
    refine one_st fun N hN => ?_
    rw [r_wS_for, r_wI_seq]
    have hs : ∀ K : KE, (∀ xs : List Int, xs.length ≤ 64 ∧ xs ≠ [] → K (.cl (xs.map .int)) η) → wE Φ (.catV (.slc (.var 0) .no (.some (.cst (.int 6)))) (.lstV (.cons (.var 2) .nil))) ⟨[some (.cl (ns.map .int)), some (.int spot), some (.int own), some (.int (700001 + 6947 * spot)), none], none⟩ η X K := fun K hK => by
      walk_at "ev"
      obtain ⟨zs, e, l⟩ := cut_map (ns := ns) (i := none) (j := some 6)
      rw [e]
      show (zs.map T.int).length + 1 ≤ sizeLine ∧ _
      refine ⟨by rw [List.length_map]; have : 64 ≤ sizeLine := by decide
                 omega, ?_⟩
      have z := hK (zs ++ [own]) ⟨by rw [List.length_append]; show _ + 1 ≤ _; omega, by simp⟩
      rw [List.map_append] at z
      exact z
    refine hs _ fun xs hxs => ?_
    clear hs
    refine wfor_inv (fun rest v η' => η' = η ∧ (∃ ys : List Int, rest = ys.map .int) ∧ ∃ (mixed : Int) (cell : Option T), (0 ≤ mixed ∧ mixed < 2 ^ 60) ∧ (rest = [] → xs = [] ∨ mixed < 2147480009) ∧ v = [some (.cl (ns.map .int)), some (.int spot), some (.int own), some (.int mixed), cell]) ?_ ?_ _ _ _ ⟨rfl, ⟨xs, rfl⟩, _, none, ⟨by omega, by omega⟩, fun e => ?_, rfl⟩
    · rintro x rest v η' ⟨rfl, ⟨ys, e⟩, mixed, cell, hm, _, rfl⟩
      cases ys with
      | nil => cases e
      | cons y ys =>
        cases e
        refine ⟨trivial, _, rfl, fun N2 hN2 => ?_⟩
        have f2 : ∀ q : Int, 0 ≤ q.fmod 2147480009 ∧ q.fmod 2147480009 < 2147480009 := fun q => by
          rw [Int.fmod_eq_emod_of_nonneg q (by omega)]
          exact ⟨Int.emod_nonneg q (by decide), Int.emod_lt_of_pos q (by decide)⟩
        have lm := lg (i := mixed) (k := 60) (by omega)
        walk_at "ev"
        refine ⟨by omega, hN2 _ _ ⟨rfl, ⟨ys, rfl⟩, _, _, ⟨(f2 _).1, by have := (f2 (mixed * 69621 + y.fmod 2147480009)).2; omega⟩, fun _ => .inr (f2 _).2, rfl⟩⟩
    · rintro v η' ⟨rfl, _, mixed, cell, hm, hlast, rfl⟩
      refine ⟨trivial, hN _ _ ?_⟩
      clear hN
      refine one_st fun N hN => ?_
      rcases hlast rfl with rfl | hm2
      · exact absurd rfl hxs.2
      clear hN
      walk_at "ev"
      have ab : 0 ≤ (if own < 0 then -own else own) := by split <;> omega
      have z1 : ∀ p : Addr, get η' p = none → K (.ref p) ((p, .lst [.int (if own < 0 then -own else own), .int mixed, .int 0]) :: η') := fun p hp => hK p _ hp ⟨_, _, _, rfl, ab, hm.1, hm2, by omega, by omega⟩
      have z2 : ∀ p : Addr, get η' p = none → K (.ref p) ((p, .lst [.int 0, .int mixed, .int 0]) :: η') := fun p hp => hK p _ hp ⟨_, _, _, rfl, by omega, hm.1, hm2, by omega, by omega⟩
      by_cases h5 : own < 0
      · rw [if_pos h5]
        exact z1
      · rw [if_neg h5]
        refine ⟨by decide, ?_⟩
        by_cases h6 : (10 : Int) ^ 16 ≤ own
        · rw [if_pos h6]
          exact z1
        · rw [if_neg h6]
          exact z2
    · cases xs with
      | nil => exact .inl rfl
      | cons _ _ => cases e
  rename_i hN0
  clear hN0
  walk_at "ev"
  by_cases hs : spot < ((ns.map T.int).length : Nat)
  · have hs2 : spot.toNat < ns.length := by rw [List.length_map] at hs; omega
    rw [if_pos hs, if_pos hs]
    show optF ((ns.map T.int)[spot.toNat]?) _
    rw [List.getElem?_map, List.getElem?_eq_getElem hs2]
    exact hN _
  · rw [if_neg hs]
    omega
end TL

set_option maxHeartbeats 0
namespace K07
open PySem PySem.Spec PyProof.Rows L2 TL
abbrev pb (i : Nat) : Stmt := PySem.Challenge.pw_crosslaid_k07_whole_formulas_worked_out.main.body.getD i (.Pass ⟨0, 0, 0, 0⟩)
def ir_demand : Ss :=
  (.cons (.iff (.not (.val (.var 0)))
   (.cons (.raise 0 (.var 1))
    .nil)
   .nil)
  .nil)
abbrev d_demand : DefT := ⟨"demand", ["is_good", "name"], 2, pb 6, ir_demand, false⟩
def ir_is_in : Ss :=
  (.cons (.ret (.and (.isinst (.var 0) .int) (.and (.not (.isinst (.var 0) .bool)) (.chain .le .le (.var 1) (.var 0) (.var 2)))))
  .nil)
abbrev d_is_in : DefT := ⟨"is_in", ["value", "low", "high"], 3, pb 7, ir_is_in, false⟩
def ir_is_tuple : Ss :=
  (.cons (.ret (.and (.isinst (.var 0) .tuple) (.chain .le .le (.var 1) (.blt .len (.cons (.var 0) .nil)) (.var 2))))
  .nil)
abbrev d_is_tuple : DefT := ⟨"is_tuple", ["value", "least", "most"], 3, pb 8, ir_is_tuple, false⟩
def ir_is_name : Ss :=
  (.cons (.ret (.and (.isinst (.var 0) .str) (.and (.chain .le .le (.cst (.int 1)) (.blt .len (.cons (.var 0) .nil)) (.gcst 1 (.int 10))) (.agg .all (.lc [1] (.name 1) (.chars (.var 0)) .tt (.cmp .inn (.var 1) (.gcst 0 (.str "abcdefghijklmnopqrstuvwxyz"))))))))
  .nil)
abbrev d_is_name : DefT := ⟨"is_name", ["value", "sign"], 1, pb 9, ir_is_name, false⟩
def ir_nodes_of : Ss :=
  (.cons (.iff (.or (.cmp .gt (.var 1) (.gcst 5 (.int 12))) (.or (.not (.val (.call 2 (.cons (.var 0) (.cons (.cst (.int 2)) (.cons (.cst (.int 4)) .nil)))))) (.not (.val (.isinst (.idx (.var 0) (.cst (.int 0))) .str)))))
   (.cons (.ret (.bin .add (.gcst 2 (.int 60)) (.cst (.int 1))))
    .nil)
   .nil)
  (.cons (.iff (.cmp .eq (.idx (.var 0) (.cst (.int 0))) (.cst (.str "number")))
   (.cons (.ret (.ite (.and (.cmp .eq (.blt .len (.cons (.var 0) .nil)) (.cst (.int 2))) (.val (.call 1 (.cons (.idx (.var 0) (.cst (.int 1))) (.cons (.cst (.int 0)) (.cons (.gcst 4 (.int 1000000000)) .nil)))))) (.cst (.int 1)) (.bin .add (.gcst 2 (.int 60)) (.cst (.int 1)))))
    .nil)
   .nil)
  (.cons (.iff (.cmp .eq (.idx (.var 0) (.cst (.int 0))) (.cst (.str "cell")))
   (.cons (.ret (.ite (.and (.cmp .eq (.blt .len (.cons (.var 0) .nil)) (.cst (.int 2))) (.and (.val (.call 3 (.cons (.idx (.var 0) (.cst (.int 1))) .nil))) (.cmp .ne (.idx (.var 0) (.cst (.int 1))) (.cst (.str "if"))))) (.cst (.int 1)) (.bin .add (.gcst 2 (.int 60)) (.cst (.int 1)))))
    .nil)
   .nil)
  (.cons (.iff (.or (.and (.cmp .inn (.idx (.var 0) (.cst (.int 0))) (.gcst 3 (.tup [(.str "+"), (.str "-"), (.str "*"), (.str "//"), (.str "<"), (.str "=")]))) (.cmp .eq (.blt .len (.cons (.var 0) .nil)) (.cst (.int 3)))) (.and (.cmp .eq (.idx (.var 0) (.cst (.int 0))) (.cst (.str "if"))) (.cmp .eq (.blt .len (.cons (.var 0) .nil)) (.cst (.int 4)))))
   (.cons (.ret (.bin .add (.cst (.int 1)) (.agg .sum (.lc [2] (.name 2) (.seq (.slc (.var 0) (.some (.cst (.int 1))) .no)) .tt (.call 4 (.cons (.var 2) (.cons (.bin .add (.var 1) (.cst (.int 1))) .nil)))))))
    .nil)
   .nil)
  (.cons (.ret (.bin .add (.gcst 2 (.int 60)) (.cst (.int 1))))
  .nil)))))
abbrev d_nodes_of : DefT := ⟨"nodes_of", ["value", "deep", "part"], 2, pb 15, ir_nodes_of, false⟩
def ir_is_formula : Ss :=
  (.cons (.ret (.cmp .le (.call 4 (.cons (.var 0) (.cons (.cst (.int 1)) .nil))) (.gcst 2 (.int 60))))
  .nil)
abbrev d_is_formula : DefT := ⟨"is_formula", ["value"], 1, pb 16, ir_is_formula, false⟩
def ir_cells_of : Ss :=
  (.cons (.expr (.call 0 (.cons (.call 5 (.cons (.var 0) .nil)) (.cons (.cst (.str "formula")) .nil))))
  (.cons (.ret (.agg .tuple (.call 7 (.cons (.var 0) (.cons (.lstV .nil) .nil)))))
  .nil))
abbrev d_cells_of : DefT := ⟨"cells_of", ["formula"], 1, pb 17, ir_cells_of, false⟩
def ir_names_in : Ss :=
  (.cons (.iff (.cmp .eq (.idx (.var 0) (.cst (.int 0))) (.cst (.str "cell")))
   (.cons (.ret (.ite (.cmp .inn (.idx (.var 0) (.cst (.int 1))) (.var 1)) (.var 1) (.catV (.var 1) (.lstV (.cons (.idx (.var 0) (.cst (.int 1))) .nil)))))
    .nil)
   .nil)
  (.cons (.iff (.cmp .ne (.idx (.var 0) (.cst (.int 0))) (.cst (.str "number")))
   (.cons (.for (.name 2) (.seq (.slc (.var 0) (.some (.cst (.int 1))) .no))
     (.cons (.set 1 (.call 7 (.cons (.var 2) (.cons (.var 1) .nil))))
      .nil))
    .nil)
   .nil)
  (.cons (.ret (.var 1))
  .nil)))
abbrev d_names_in : DefT := ⟨"names_in", ["formula", "found", "part"], 2, pb 18, ir_names_in, false⟩
def ir_operated : Ss :=
  (.cons (.iff (.or (.cmp .isN (.var 1) (.cst .non)) (.cmp .isN (.var 2) (.cst .non)))
   (.cons (.ret (.cst .non))
    .nil)
   .nil)
  (.cons (.iff (.cmp .eq (.var 0) (.cst (.str "+")))
   (.cons (.ret (.bin .add (.var 1) (.var 2)))
    .nil)
   .nil)
  (.cons (.iff (.cmp .eq (.var 0) (.cst (.str "-")))
   (.cons (.ret (.bin .sub (.var 1) (.var 2)))
    .nil)
   .nil)
  (.cons (.iff (.cmp .eq (.var 0) (.cst (.str "*")))
   (.cons (.ret (.bin .mul (.var 1) (.var 2)))
    .nil)
   .nil)
  (.cons (.iff (.cmp .eq (.var 0) (.cst (.str "//")))
   (.cons (.ret (.ite (.cmp .eq (.var 2) (.cst (.int 0))) (.cst .non) (.bin .fdiv (.var 1) (.var 2))))
    .nil)
   .nil)
  (.cons (.ret (.ite (.cmp .eq (.var 0) (.cst (.str "<"))) (.blt .int (.cons (.cmp .lt (.var 1) (.var 2)) .nil)) (.blt .int (.cons (.cmp .eq (.var 1) (.var 2)) .nil))))
  .nil))))))
abbrev d_operated : DefT := ⟨"operated", ["sign", "one", "two"], 3, pb 19, ir_operated, false⟩
def ir_worked : Ss :=
  (.cons (.iff (.cmp .eq (.idx (.var 0) (.cst (.int 0))) (.cst (.str "number")))
   (.cons (.ret (.idx (.var 0) (.cst (.int 1))))
    .nil)
   .nil)
  (.cons (.iff (.cmp .eq (.idx (.var 0) (.cst (.int 0))) (.cst (.str "cell")))
   (.cons (.ret (.mth .get2 (.var 1) (.cons (.idx (.var 0) (.cst (.int 1))) (.cons (.cst .non) .nil))))
    .nil)
   .nil)
  (.cons (.iff (.cmp .eq (.idx (.var 0) (.cst (.int 0))) (.cst (.str "if")))
   (.cons (.set 2 (.call 9 (.cons (.idx (.var 0) (.cst (.int 1))) (.cons (.var 1) .nil))))
    (.cons (.iff (.cmp .isN (.var 2) (.cst .non))
     (.cons (.ret (.cst .non))
      .nil)
     .nil)
    (.cons (.ret (.call 9 (.cons (.ite (.cmp .ne (.var 2) (.cst (.int 0))) (.idx (.var 0) (.cst (.int 2))) (.idx (.var 0) (.cst (.int 3)))) (.cons (.var 1) .nil))))
    .nil)))
   .nil)
  (.cons (.ret (.call 8 (.cons (.idx (.var 0) (.cst (.int 0))) (.cons (.call 9 (.cons (.idx (.var 0) (.cst (.int 1))) (.cons (.var 1) .nil))) (.cons (.call 9 (.cons (.idx (.var 0) (.cst (.int 2))) (.cons (.var 1) .nil))) .nil)))))
  .nil))))
abbrev d_worked : DefT := ⟨"worked", ["formula", "cells", "test"], 2, pb 20, ir_worked, false⟩
def ir_is_cells : Ss :=
  (.cons (.iff (.or (.not (.val (.call 2 (.cons (.var 0) (.cons (.cst (.int 0)) (.cons (.cst (.int 20)) .nil)))))) (.not (.val (.agg .all (.lc [1] (.name 1) (.seq (.var 0)) .tt (.and (.call 2 (.cons (.var 1) (.cons (.cst (.int 2)) (.cons (.cst (.int 2)) .nil)))) (.call 3 (.cons (.idx (.var 1) (.cst (.int 0))) .nil))))))))
   (.cons (.ret (.cst (.bl false)))
    .nil)
   .nil)
  (.cons (.iff (.not (.val (.agg .all (.lc [2, 3] (.two 2 3) (.seq (.var 0)) .tt (.or (.cmp .isN (.var 3) (.cst .non)) (.call 1 (.cons (.var 3) (.cons (.neg (.gcst 4 (.int 1000000000))) (.cons (.gcst 4 (.int 1000000000)) .nil)))))))))
   (.cons (.ret (.cst (.bl false)))
    .nil)
   .nil)
  (.cons (.ret (.cmp .eq (.lenSet [2, 3] (.two 2 3) (.seq (.var 0)) (.var 2)) (.blt .len (.cons (.var 0) .nil))))
  .nil)))
abbrev d_is_cells : DefT := ⟨"is_cells", ["value", "pair", "name", "one"], 1, pb 21, ir_is_cells, false⟩
def ir_work : Ss :=
  (.cons (.expr (.call 0 (.cons (.call 5 (.cons (.var 0) .nil)) (.cons (.cst (.str "formula")) .nil))))
  (.cons (.expr (.call 0 (.cons (.call 10 (.cons (.var 1) .nil)) (.cons (.cst (.str "cells")) .nil))))
  (.cons (.ret (.call 9 (.cons (.var 0) (.cons (.blt .dict (.cons (.var 1) .nil)) .nil))))
  .nil)))
abbrev d_work : DefT := ⟨"work", ["formula", "cells"], 2, pb 22, ir_work, false⟩
def ir__law_dice : Ss :=
  (.cons (.set 2 (.ite (.cmp .lt (.var 1) (.blt .len (.cons (.var 0) .nil))) (.idx (.var 0) (.var 1)) (.bin .add (.bin .mul (.cst (.int 811)) (.var 1)) (.cst (.int 37)))))
  (.cons (.set 3 (.bin .add (.cst (.int 700001)) (.bin .mul (.cst (.int 6947)) (.var 1))))
  (.cons (.for (.name 4) (.seq (.catV (.slc (.var 0) .no (.some (.cst (.int 6)))) (.lstV (.cons (.var 2) .nil))))
   (.cons (.set 3 (.bin .mod (.blt .int (.cons (.bin .add (.bin .mul (.var 3) (.cst (.int 69621))) (.bin .mod (.blt .int (.cons (.var 4) .nil)) (.cst (.int 2147480009)))) .nil)) (.cst (.int 2147480009))))
    .nil))
  (.cons (.ret (.lst (.cons (.ite (.or (.cmp .lt (.var 2) (.cst (.int 0))) (.cmp .ge (.var 2) (.bin .pow (.cst (.int 10)) (.cst (.int 16))))) (.blt .abs (.cons (.var 2) .nil)) (.cst (.int 0))) (.cons (.var 3) (.cons (.cst (.int 0)) .nil)))))
  .nil))))
abbrev d__law_dice : DefT := ⟨"_law_dice", ["script", "spot", "own", "mixed", "cell"], 2, pb 24, ir__law_dice, false⟩
def ir__law_roll : Ss :=
  (.cons (.iff (.cmp .gt (.idx (.var 0) (.cst (.int 0))) (.cst (.int 0)))
   (.cons (.set 2 (.bin .mod (.blt .int (.cons (.idx (.var 0) (.cst (.int 0))) .nil)) (.var 1)))
    (.cons (.setIdx (.var 0) (.cst (.int 0)) (.bin .fdiv (.idx (.var 0) (.cst (.int 0))) (.var 1)))
    (.cons (.ret (.var 2))
    .nil)))
   .nil)
  (.cons (.setIdx (.var 0) (.cst (.int 2)) (.bin .add (.idx (.var 0) (.cst (.int 2))) (.cst (.int 1))))
  (.cons (.setIdx (.var 0) (.cst (.int 1)) (.bin .mod (.blt .int (.cons (.bin .add (.bin .add (.bin .mul (.idx (.var 0) (.cst (.int 1))) (.cst (.int 48271))) (.bin .mul (.bin .mul (.idx (.var 0) (.cst (.int 2))) (.idx (.var 0) (.cst (.int 2)))) (.cst (.int 2003)))) (.cst (.int 91))) .nil)) (.cst (.int 2147480009))))
  (.cons (.ret (.bin .mod (.blt .int (.cons (.bin .fdiv (.idx (.var 0) (.cst (.int 1))) (.cst (.int 197))) .nil)) (.var 1)))
  .nil))))
abbrev d__law_roll : DefT := ⟨"_law_roll", ["dice", "total", "found"], 2, pb 25, ir__law_roll, false⟩
def ir__law_pick : Ss :=
  (.cons (.ret (.idx (.var 1) (.call 13 (.cons (.var 0) (.cons (.blt .len (.cons (.var 1) .nil)) .nil)))))
  .nil)
abbrev d__law_pick : DefT := ⟨"_law_pick", ["dice", "things"], 2, pb 26, ir__law_pick, false⟩
def ir__law_formula : Ss :=
  (.cons (.set 2 (.call 13 (.cons (.var 0) (.cons (.cst (.int 8)) .nil))))
  (.cons (.iff (.or (.cmp .eq (.var 1) (.cst (.int 1))) (.cmp .lt (.var 2) (.cst (.int 2))))
   (.cons (.iff (.cmp .eq (.call 13 (.cons (.var 0) (.cons (.cst (.int 2)) .nil))) (.cst (.int 0)))
     (.cons (.ret (.tup (.cons (.cst (.str "number")) (.cons (.call 14 (.cons (.var 0) (.cons (.lstV (.cons (.cst (.int 0)) (.cons (.cst (.int 1)) (.cons (.cst (.int 2)) (.cons (.cst (.int 7)) (.cons (.cst (.int 1000000000)) (.cons (.call 13 (.cons (.var 0) (.cons (.cst (.int 1000000001)) .nil))) .nil))))))) .nil))) .nil))))
      .nil)
     .nil)
    (.cons (.ret (.tup (.cons (.cst (.str "cell")) (.cons (.call 14 (.cons (.var 0) (.cons (.lstV (.cons (.cst (.str "a")) (.cons (.cst (.str "b")) (.cons (.cst (.str "cost")) (.cons (.cst (.str "iff")) .nil))))) .nil))) .nil))))
    .nil))
   .nil)
  (.cons (.iff (.cmp .eq (.var 2) (.cst (.int 2)))
   (.cons (.ret (.tup (.cons (.cst (.str "if")) (.cons (.call 15 (.cons (.var 0) (.cons (.bin .sub (.var 1) (.cst (.int 1))) .nil))) (.cons (.call 15 (.cons (.var 0) (.cons (.cst (.int 1)) .nil))) (.cons (.call 15 (.cons (.var 0) (.cons (.ite (.cmp .gt (.var 1) (.cst (.int 2))) (.bin .sub (.var 1) (.cst (.int 2))) (.cst (.int 1))) .nil))) .nil))))))
    .nil)
   .nil)
  (.cons (.ret (.tup (.cons (.call 14 (.cons (.var 0) (.cons (.lstV (.cons (.cst (.str "+")) (.cons (.cst (.str "-")) (.cons (.cst (.str "*")) (.cons (.cst (.str "//")) (.cons (.cst (.str "<")) (.cons (.cst (.str "=")) .nil))))))) .nil))) (.cons (.call 15 (.cons (.var 0) (.cons (.bin .sub (.var 1) (.cst (.int 1))) .nil))) (.cons (.call 15 (.cons (.var 0) (.cons (.ite (.cmp .gt (.var 1) (.cst (.int 2))) (.bin .sub (.var 1) (.cst (.int 2))) (.cst (.int 1))) .nil))) .nil)))))
  .nil))))
abbrev d__law_formula : DefT := ⟨"_law_formula", ["dice", "deep", "way"], 2, pb 28, ir__law_formula, false⟩
def ir__law_size : Ss :=
  (.cons (.ret (.ite (.cmp .inn (.idx (.var 0) (.cst (.int 0))) (.tup (.cons (.cst (.str "number")) (.cons (.cst (.str "cell")) .nil)))) (.cst (.int 1)) (.bin .add (.cst (.int 1)) (.agg .sum (.lc [1] (.name 1) (.seq (.slc (.var 0) (.some (.cst (.int 1))) .no)) .tt (.call 16 (.cons (.var 1) .nil)))))))
  .nil)
abbrev d__law_size : DefT := ⟨"_law_size", ["formula", "part"], 1, pb 29, ir__law_size, false⟩
def ir__law_work : Ss :=
  (.cons (.iff (.cmp .eq (.idx (.var 0) (.cst (.int 0))) (.cst (.str "number")))
   (.cons (.ret (.idx (.var 0) (.cst (.int 1))))
    .nil)
   .nil)
  (.cons (.iff (.cmp .eq (.idx (.var 0) (.cst (.int 0))) (.cst (.str "cell")))
   (.cons (.for (.two 6 7) (.seq (.var 1))
     (.cons (.iff (.cmp .eq (.var 6) (.idx (.var 0) (.cst (.int 1))))
       (.cons (.ret (.var 7))
        .nil)
       .nil)
      .nil))
    (.cons (.ret (.cst .non))
    .nil))
   .nil)
  (.cons (.iff (.cmp .eq (.idx (.var 0) (.cst (.int 0))) (.cst (.str "if")))
   (.cons (.set 2 (.call 17 (.cons (.idx (.var 0) (.cst (.int 1))) (.cons (.var 1) .nil))))
    (.cons (.iff (.cmp .isN (.var 2) (.cst .non))
     (.cons (.ret (.cst .non))
      .nil)
     .nil)
    (.cons (.ret (.ite (.cmp .eq (.var 2) (.cst (.int 0))) (.call 17 (.cons (.idx (.var 0) (.cst (.int 3))) (.cons (.var 1) .nil))) (.call 17 (.cons (.idx (.var 0) (.cst (.int 2))) (.cons (.var 1) .nil)))))
    .nil)))
   .nil)
  (.cons (.par 3 4 (.call 17 (.cons (.idx (.var 0) (.cst (.int 1))) (.cons (.var 1) .nil))) (.call 17 (.cons (.idx (.var 0) (.cst (.int 2))) (.cons (.var 1) .nil))))
  (.cons (.iff (.or (.cmp .isN (.var 3) (.cst .non)) (.or (.cmp .isN (.var 4) (.cst .non)) (.and (.cmp .eq (.idx (.var 0) (.cst (.int 0))) (.cst (.str "//"))) (.cmp .eq (.var 4) (.cst (.int 0))))))
   (.cons (.ret (.cst .non))
    .nil)
   .nil)
  (.cons (.iff (.cmp .eq (.idx (.var 0) (.cst (.int 0))) (.cst (.str "+")))
   (.cons (.ret (.bin .add (.var 3) (.var 4)))
    .nil)
   .nil)
  (.cons (.iff (.cmp .eq (.idx (.var 0) (.cst (.int 0))) (.cst (.str "-")))
   (.cons (.ret (.bin .sub (.var 3) (.var 4)))
    .nil)
   .nil)
  (.cons (.iff (.cmp .eq (.idx (.var 0) (.cst (.int 0))) (.cst (.str "*")))
   (.cons (.ret (.bin .mul (.var 3) (.var 4)))
    .nil)
   .nil)
  (.cons (.iff (.cmp .eq (.idx (.var 0) (.cst (.int 0))) (.cst (.str "//")))
   (.cons (.set 5 (.bin .mod (.blt .int (.cons (.var 3) .nil)) (.var 4)))
    (.cons (.ret (.bin .fdiv (.bin .sub (.var 3) (.var 5)) (.var 4)))
    .nil))
   .nil)
  (.cons (.iff (.cmp .eq (.idx (.var 0) (.cst (.int 0))) (.cst (.str "<")))
   (.cons (.ret (.ite (.cmp .gt (.bin .sub (.var 4) (.var 3)) (.cst (.int 0))) (.cst (.int 1)) (.cst (.int 0))))
    .nil)
   .nil)
  (.cons (.ret (.ite (.cmp .eq (.bin .sub (.var 3) (.var 4)) (.cst (.int 0))) (.cst (.int 1)) (.cst (.int 0))))
  .nil)))))))))))
abbrev d__law_work : DefT := ⟨"_law_work", ["formula", "cells", "test", "one", "two", "rest", "name", "number"], 2, pb 30, ir__law_work, false⟩
def ir__law_names : Ss :=
  (.cons (.iff (.cmp .eq (.idx (.var 0) (.cst (.int 0))) (.cst (.str "cell")))
   (.cons (.ret (.ite (.cmp .inn (.idx (.var 0) (.cst (.int 1))) (.var 1)) (.var 1) (.catV (.var 1) (.lstV (.cons (.idx (.var 0) (.cst (.int 1))) .nil)))))
    .nil)
   .nil)
  (.cons (.iff (.cmp .ne (.idx (.var 0) (.cst (.int 0))) (.cst (.str "number")))
   (.cons (.for (.name 2) (.seq (.slc (.var 0) (.some (.cst (.int 1))) .no))
     (.cons (.set 1 (.call 18 (.cons (.var 2) (.cons (.var 1) .nil))))
      .nil))
    .nil)
   .nil)
  (.cons (.ret (.var 1))
  .nil)))
abbrev d__law_names : DefT := ⟨"_law_names", ["formula", "found", "part"], 2, pb 31, ir__law_names, false⟩
def ir_law : Ss :=
  (.cons (.for (.name 1) (.range (.blt .max2 (.cons (.cst (.int 1)) (.cons (.blt .min2 (.cons (.cst (.int 5)) (.cons (.blt .len (.cons (.var 0) .nil)) .nil))) .nil))))
   (.cons (.set 2 (.call 12 (.cons (.var 0) (.cons (.var 1) .nil))))
    (.cons (.set 3 (.call 15 (.cons (.var 2) (.cons (.bin .add (.cst (.int 1)) (.call 13 (.cons (.var 2) (.cons (.cst (.int 7)) .nil)))) .nil))))
    (.cons (.iff (.cmp .gt (.call 16 (.cons (.var 3) .nil)) (.cst (.int 60)))
     (.cons (.set 3 (.tup (.cons (.cst (.str "cell")) (.cons (.cst (.str "a")) .nil))))
      .nil)
     .nil)
    (.cons (.set 4 (.lst .nil))
    (.cons (.for (.name 5) (.seq (.lstV (.cons (.cst (.str "b")) (.cons (.cst (.str "a")) (.cons (.cst (.str "cost")) (.cons (.cst (.str "other")) .nil))))))
     (.cons (.iff (.cmp .gt (.call 13 (.cons (.var 2) (.cons (.cst (.int 4)) .nil))) (.cst (.int 0)))
       (.cons (.expr (.mth .append (.var 4) (.cons (.tup (.cons (.var 5) (.cons (.call 14 (.cons (.var 2) (.cons (.lstV (.cons (.cst .non) (.cons (.cst (.int 0)) (.cons (.cst (.int 1)) (.cons (.neg (.cst (.int 1))) (.cons (.cst (.int 3)) (.cons (.neg (.cst (.int 1000000000))) (.cons (.bin .sub (.call 13 (.cons (.var 2) (.cons (.cst (.int 2001)) .nil))) (.cst (.int 1000))) .nil)))))))) .nil))) .nil))) .nil)))
        .nil)
       .nil)
      .nil))
    (.cons (.set 6 (.callK 11 .nil (.cons (.agg .tuple (.var 4)) (.cons (.var 3) .nil)) [1, 0]))
    (.cons (.set 7 (.call 17 (.cons (.var 3) (.cons (.var 4) .nil))))
    (.cons (.iff (.or (.cmp .ne (.var 6) (.var 7)) (.or (.val (.isinst (.var 6) .bool)) (.cmp .ne (.call 6 (.cons (.var 3) .nil)) (.agg .tuple (.call 18 (.cons (.var 3) (.cons (.lstV .nil) .nil)))))))
     (.cons (.ret (.cst (.bl false)))
      .nil)
     .nil)
    (.cons (.set 8 (.call 14 (.cons (.var 2) (.cons (.lstV (.cons (.cst .non) (.cons (.tup .nil) (.cons (.tup (.cons (.cst (.str "number")) .nil)) (.cons (.tup (.cons (.cst (.str "number")) (.cons (.neg (.cst (.int 1))) .nil))) (.cons (.tup (.cons (.cst (.str "number")) (.cons (.cst (.bl true)) .nil))) (.cons (.tup (.cons (.cst (.str "number")) (.cons (.cst (.int 1000000001)) .nil))) (.cons (.tup (.cons (.cst (.str "cell")) (.cons (.cst (.str "if")) .nil))) (.cons (.tup (.cons (.cst (.str "cell")) (.cons (.cst (.str "")) .nil))) (.cons (.tup (.cons (.cst (.str "+")) (.cons (.var 3) .nil))) (.cons (.tup (.cons (.cst (.str "/")) (.cons (.tup (.cons (.cst (.str "number")) (.cons (.cst (.int 1)) .nil))) (.cons (.tup (.cons (.cst (.str "number")) (.cons (.cst (.int 1)) .nil))) .nil)))) (.cons (.lstV (.cons (.cst (.str "number")) (.cons (.cst (.int 1)) .nil))) .nil)))))))))))) .nil))))
    (.cons (.set 9 (.tup (.cons (.cst (.str "number")) (.cons (.cst (.int 1)) .nil))))
    (.cons (.for (.name 10) (.range (.cst (.int 11)))
     (.cons (.set 9 (.tup (.cons (.cst (.str "-")) (.cons (.var 9) (.cons (.tup (.cons (.cst (.str "number")) (.cons (.cst (.int 1)) .nil))) .nil)))))
      .nil))
    (.cons (.set 11 (.lstV (.cons (.hof 0 (.call 11 (.cons (.var 8) (.cons (.tup .nil) .nil))) "") (.cons (.hof 0 (.call 6 (.cons (.var 8) .nil)) "") (.cons (.hof 0 (.call 11 (.cons (.tup (.cons (.cst (.str "+")) (.cons (.var 9) (.cons (.tup (.cons (.cst (.str "number")) (.cons (.cst (.int 0)) .nil))) .nil)))) (.cons (.tup .nil) .nil))) "") (.cons (.hof 0 (.call 11 (.cons (.var 3) (.cons (.tup (.cons (.tup (.cons (.cst (.str "a")) (.cons (.cst (.int 1)) .nil))) (.cons (.tup (.cons (.cst (.str "a")) (.cons (.cst (.int 1)) .nil))) .nil))) .nil))) "") (.cons (.hof 0 (.call 11 (.cons (.var 3) (.cons (.tup (.cons (.tup (.cons (.cst (.str "a")) (.cons (.cst (.int 1000000001)) .nil))) .nil)) .nil))) "") (.cons (.hof 0 (.call 11 (.cons (.var 3) (.cons (.lstV .nil) .nil))) "") (.cons (.hof 0 (.call 11 (.cons (.var 3) (.cons (.tup (.cons (.tup (.cons (.cst (.str "A")) (.cons (.cst (.int 1)) .nil))) .nil)) .nil))) "") .nil)))))))))
    (.cons (.iff (.or (.cmp .ne (.var 11) (.lstV (.cons (.cst (.str "formula")) (.cons (.cst (.str "formula")) (.cons (.cst (.str "formula")) (.cons (.cst (.str "cells")) (.cons (.cst (.str "cells")) (.cons (.cst (.str "cells")) (.cons (.cst (.str "cells")) .nil))))))))) (.cmp .ne (.call 11 (.cons (.var 9) (.cons (.tup .nil) .nil))) (.neg (.cst (.int 10)))))
     (.cons (.ret (.cst (.bl false)))
      .nil)
     .nil)
    .nil))))))))))))))
  (.cons (.ret (.and (.cmp .eq (.call 11 (.cons (.tup (.cons (.cst (.str "if")) (.cons (.tup (.cons (.cst (.str "number")) (.cons (.cst (.int 0)) .nil))) (.cons (.tup (.cons (.cst (.str "//")) (.cons (.tup (.cons (.cst (.str "number")) (.cons (.cst (.int 1)) .nil))) (.cons (.tup (.cons (.cst (.str "number")) (.cons (.cst (.int 0)) .nil))) .nil)))) (.cons (.tup (.cons (.cst (.str "number")) (.cons (.cst (.int 4)) .nil))) .nil))))) (.cons (.tup .nil) .nil))) (.cst (.int 4))) (.cmp .eq (.call 11 (.cons (.tup (.cons (.cst (.str "//")) (.cons (.tup (.cons (.cst (.str "-")) (.cons (.tup (.cons (.cst (.str "number")) (.cons (.cst (.int 0)) .nil))) (.cons (.tup (.cons (.cst (.str "number")) (.cons (.cst (.int 7)) .nil))) .nil)))) (.cons (.tup (.cons (.cst (.str "number")) (.cons (.cst (.int 2)) .nil))) .nil)))) (.cons (.tup .nil) .nil))) (.neg (.cst (.int 4))))))
  .nil))
abbrev d_law : DefT := ⟨"law", ["script", "spot", "dice", "formula", "cells", "name", "found", "due", "bad", "deep", "turn", "told"], 1, pb 32, ir_law, true⟩
def ds : List DefT := [d_demand, d_is_in, d_is_tuple, d_is_name, d_nodes_of, d_is_formula, d_cells_of, d_names_in, d_operated, d_worked, d_is_cells, d_work, d__law_dice, d__law_roll, d__law_pick, d__law_formula, d__law_size, d__law_work, d__law_names, d_law]
def gs : Gs := {
  fns := ds.map fun d => (d.nm, d.ps)
  glb := [("LETTERS", (.str "abcdefghijklmnopqrstuvwxyz")), ("MOST_NAME", (.int 10)), ("MOST_NODES", (.int 60)), ("SIGNS", (.tup [(.str "+"), (.str "-"), (.str "*"), (.str "//"), (.str "<"), (.str "=")])), ("MOST_NUMBER", (.int 1000000000)), ("MOST_DEEP", (.int 12))]
  exn := ["BadArgument"]
  kws := [⟨11, 0, ["cells", "formula"], [1, 0]⟩]
  hofs := [⟨"_law_refused", 0, ""⟩]
  blt := ["abs", "all", "bool", "dict", "int", "isinstance", "len", "max", "min", "range", "str", "sum", "tuple"] }
def row : TL.Row := { ds := ds, gs := gs, exs := [("BadArgument", "name")], hs := [⟨⟨"_law_refused", 0, ""⟩, ⟨"_law_refused", ["call", "e"], 1, pb 27, .nil, false⟩, "call", "e", "BadArgument", "name"⟩], tf := ["law"] }
theorem ck_demand : d_demand.ok gs = true := by decide +kernel
theorem ck_is_in : d_is_in.ok gs = true := by decide +kernel
theorem ck_is_tuple : d_is_tuple.ok gs = true := by decide +kernel
theorem ck_is_name : d_is_name.ok gs = true := by decide +kernel
theorem ck_nodes_of : d_nodes_of.ok gs = true := by decide +kernel
theorem ck_is_formula : d_is_formula.ok gs = true := by decide +kernel
theorem ck_cells_of : d_cells_of.ok gs = true := by decide +kernel
theorem ck_names_in : d_names_in.ok gs = true := by decide +kernel
theorem ck_operated : d_operated.ok gs = true := by decide +kernel
theorem ck_worked : d_worked.ok gs = true := by decide +kernel
theorem ck_is_cells : d_is_cells.ok gs = true := by decide +kernel
theorem ck_work : d_work.ok gs = true := by decide +kernel
theorem ck__law_dice : d__law_dice.ok gs = true := by decide +kernel
theorem ck__law_roll : d__law_roll.ok gs = true := by decide +kernel
theorem ck__law_pick : d__law_pick.ok gs = true := by decide +kernel
theorem ck__law_formula : d__law_formula.ok gs = true := by decide +kernel
theorem ck__law_size : d__law_size.ok gs = true := by decide +kernel
theorem ck__law_work : d__law_work.ok gs = true := by decide +kernel
theorem ck__law_names : d__law_names.ok gs = true := by decide +kernel
theorem ck_law : d_law.ok gs = true := by decide +kernel
theorem row_bd : ∀ d ∈ row.all, ∀ (K : PySem.W.Frag) (f : Addr) (fd : FuncData), FunD K d.nm d.nm (defArgs d.st) (defBody d.st) (defScope d.st) [] [] f fd → Binds K fd d.ps [] := by
  intro d hd K f fd F
  have hd : d ∈ ds ++ row.hs.map (·.d) := hd
  simp only [ds, row, List.map_cons, List.map_nil, List.cons_append, List.nil_append, List.mem_cons, List.not_mem_nil, or_false] at hd
  rcases hd with rfl | rfl | rfl | rfl | rfl | rfl | rfl | rfl | rfl | rfl | rfl | rfl | rfl | rfl | rfl | rfl | rfl | rfl | rfl | rfl | rfl
  · exact F.bindsN fun _ _ _ _ _ _ us hl => match us, hl with | [_, _], _ => rfl
  · exact F.bindsN fun _ _ _ _ _ _ us hl => match us, hl with | [_, _, _], _ => rfl
  · exact F.bindsN fun _ _ _ _ _ _ us hl => match us, hl with | [_, _, _], _ => rfl
  · exact F.bindsN fun _ _ _ _ _ _ us hl => match us, hl with | [_], _ => rfl
  · exact F.bindsN fun _ _ _ _ _ _ us hl => match us, hl with | [_, _], _ => rfl
  · exact F.bindsN fun _ _ _ _ _ _ us hl => match us, hl with | [_], _ => rfl
  · exact F.bindsN fun _ _ _ _ _ _ us hl => match us, hl with | [_], _ => rfl
  · exact F.bindsN fun _ _ _ _ _ _ us hl => match us, hl with | [_, _], _ => rfl
  · exact F.bindsN fun _ _ _ _ _ _ us hl => match us, hl with | [_, _, _], _ => rfl
  · exact F.bindsN fun _ _ _ _ _ _ us hl => match us, hl with | [_, _], _ => rfl
  · exact F.bindsN fun _ _ _ _ _ _ us hl => match us, hl with | [_], _ => rfl
  · exact F.bindsN fun _ _ _ _ _ _ us hl => match us, hl with | [_, _], _ => rfl
  · exact F.bindsN fun _ _ _ _ _ _ us hl => match us, hl with | [_, _], _ => rfl
  · exact F.bindsN fun _ _ _ _ _ _ us hl => match us, hl with | [_, _], _ => rfl
  · exact F.bindsN fun _ _ _ _ _ _ us hl => match us, hl with | [_, _], _ => rfl
  · exact F.bindsN fun _ _ _ _ _ _ us hl => match us, hl with | [_, _], _ => rfl
  · exact F.bindsN fun _ _ _ _ _ _ us hl => match us, hl with | [_], _ => rfl
  · exact F.bindsN fun _ _ _ _ _ _ us hl => match us, hl with | [_, _], _ => rfl
  · exact F.bindsN fun _ _ _ _ _ _ us hl => match us, hl with | [_, _], _ => rfl
  · exact F.bindsN fun _ _ _ _ _ _ us hl => match us, hl with | [_], _ => rfl
  · exact F.bindsN fun _ _ _ _ _ _ us hl => match us, hl with | [_], _ => rfl
theorem row_kw : ∀ p ∈ row.gs.kws, ∀ d, row.ds[p.f]? = some d → ∀ (K : PySem.W.Frag) (f : Addr) (fd : FuncData), FunD K d.nm d.nm (defArgs d.st) (defBody d.st) (defScope d.st) [] [] f fd → KwB K fd d.ps p.n p.ks p.perm := by
  intro p hp d hd K f fd F
  have hp : p ∈ gs.kws := hp
  simp only [gs, List.mem_cons, List.not_mem_nil, or_false] at hp
  rcases hp with rfl
  · cases hd
    exact ⟨fun s us ws X hu hw => by
      obtain ⟨oc, od, dV, kV, doc, pm, an, cdv, ct, osl, rfl, lk, hcd, hD, hK⟩ := F.ex
      rcases hD with ⟨_, rfl⟩ | ⟨e, _⟩
      · exact .of_eq (match us, hu, ws, hw with | [], _, [_, _], _ => rfl)
      · exact absurd rfl e, rfl⟩
theorem row_xb : ∀ q ∈ row.exs, ∀ (q1 q2 : Arg) name qual body scope kV doc pm an cd ct cc, q1.arg = "self" → q2.arg = q.2 → ∀ us : List Value, us.length = 2 → bindArgs (PySem.W.ksFn name qual ⟨[], [q1, q2], none, [], [], none, []⟩ body scope .none kV doc pm an cd ct cc) ⟨us, []⟩ = pure ((["self", q.2] : List Str).zip us) := by
  intro q hq q1 q2 name qual body scope kV doc pm an cd ct cc h1 h2 us hl
  obtain ⟨a1, a2, a3⟩ := q1
  obtain ⟨b1, b2, b3⟩ := q2
  have hq : q ∈ [(("BadArgument" : Str), ("name" : Str))] := hq
  simp only [List.mem_cons, List.not_mem_nil, or_false] at hq
  rcases hq with rfl
  · cases h1
    cases h2
    match us, hl with | [_, _], _ => rfl
theorem row_ok : RowOk row where
  fns := rfl
  exn := rfl
  hofs := rfl
  ck := by
    show ds.all (·.ok gs) = true
    simp only [ds, List.all_cons, List.all_nil, ck_demand, ck_is_in, ck_is_tuple, ck_is_name, ck_nodes_of, ck_is_formula, ck_cells_of, ck_names_in, ck_operated, ck_worked, ck_is_cells, ck_work, ck__law_dice, ck__law_roll, ck__law_pick, ck__law_formula, ck__law_size, ck__law_work, ck__law_names, ck_law, Bool.and_self]
  hok := by decide +kernel
  hx := by
    intro t ht
    have ht : t ∈ row.hs := ht
    simp only [row, List.mem_cons, List.not_mem_nil, or_false] at ht
    rcases ht with rfl <;> rfl
  lam := by decide +kernel
  bd := row_bd
  xb := row_xb
  kw := row_kw
def names : List Str := (["__name__", "CrossError", "BadArgument", "MOST_NAME", "LETTERS", "demand", "is_in", "is_tuple", "is_name", "MOST_DEEP", "MOST_NODES", "MOST_NUMBER", "SIGNS", "nodes_of", "is_formula", "cells_of", "names_in", "operated", "worked", "is_cells", "work", "_law_dice", "_law_roll", "_law_pick", "_law_refused", "_law_formula", "_law_size", "_law_work", "_law_names"] : List Str)
abbrev R : PySem.W.OpenRow := PySem.W.OpenLaw.row PySem.Challenge.rw_crosslaid_k07_whole_formulas_worked_out
noncomputable abbrev hk : PySem.W.Hook := row.hk 4 R.prog
noncomputable def ob (s : PySem.W.SharedT) : He.AlX := row.look 4 R.prog (HandSHeadRun.getT s)
theorem ob_eq (s : PySem.W.SharedT) : ob s = hk.obs s.abs := lookS_eq (HandSHeadRun.getT_eq s)
theorem run (w : World) : HandSHeadRun.RunEq R (PySem.W.view R.prog [32]) hk ob 1500 names w := by
  intro os
  kernel_rfl
theorem law_binds {K : PySem.W.Frag} (fd : FuncData) (f : Addr) (F : FunD K d_law.nm d_law.nm (defArgs d_law.st) (defBody d_law.st) (defScope d_law.st) [] [] f fd) (s : Shared) (u : Value) : BindsTo s fd ⟨[u], []⟩ [(d_law.N.getD 0 d_law.nm, u)] :=
  FunD.bindsA (ps := d_law.ps) F (fun _ _ _ _ _ _ us hl => match us, hl with | [_], _ => rfl) s [u] rfl
theorem holds_of (law : ∀ ns : List Int, ns.length ≤ 63 → (∀ z ∈ ns, Builtin.Int.intBits z ≤ 1048576) → wcall (ds.map fdOf) 20 19 [.cl (ns.map .int)] [] (fun _ _ => False) fun t _ => t = .bl true) : PySem.Challenge.rw_crosslaid_k07_whole_formulas_worked_out.Holds := by
  w_on; o_law
  refine HandSHeadRun.head_any (r := R) (q := PySem.W.view R.prog [32]) (H := hk) (ob := ob) (M := 1500) (loose := names) (d := HandSHeadRun.topDef R.prog 32) (kwd := []) ob_eq
    (by kernel_rfl) (fun s => by kernel_rfl) run (by kernel_rfl) (by kernel_rfl) (by kernel_rfl) (by rfl) (by first | assumption | decide +kernel) (by decide +kernel) ⟨rfl, rfl, rfl, rfl, rfl, by decide +kernel⟩ ?hw ?hc
  case hw => w_witness2
  case hc =>
    refine LamX.walk_ofTsE (l := PySem.Challenge.rw_crosslaid_k07_whole_formulas_worked_out) (n := 63) (k := 62) (x := "script") (CX := fun w => L2.CX R.prog w) rfl (by decide) (by kernel_rfl) ⟨rfl, by decide, by decide⟩ ?F (fun _ _ _ _ _ ⟨_, _, _, _, _, _, _, _, _, _, _, _, z⟩ => z)
    intro w mg fa h Y N hmg0
    obtain ⟨K, KX, c⟩ := Y
    have hmg : mg ("law" : PySem.Str) = some (.ref fa) := by
      have e : (HandSHeadRun.topDef R.prog 32).name = ("law" : PySem.Str) := by kernel_rfl
      rw [← e]
      exact hmg0
    have e2 := hmg.symm.trans (TL.Row.mgAt KX N c.t.d (d := d_law) (List.mem_append_left _ (List.mem_of_getElem? (i := 19) rfl)))
    cases e2
    exact ⟨K, KX, lawAt (r := row) (l := PySem.Challenge.rw_crosslaid_k07_whole_formulas_worked_out) (lvl := 20) (li := 19) (d := d_law) row_ok rfl rfl (fun fd f F s u => law_binds fd f F s u) KX N c law⟩
end K07

set_option maxHeartbeats 4000000
local macro_rules | `(tactic| walk_at "ev") => `(tactic| simp only [↓TL.r_wE_var, ↓TL.r_wE_cst, ↓TL.r_wE_gcst, ↓TL.r_wE_tup, ↓TL.r_wE_lst, ↓TL.r_wE_lstV, ↓TL.r_wE_bin, ↓TL.r_wE_neg, ↓TL.r_wE_cat, ↓TL.r_wE_catV, ↓TL.r_wE_cmp, ↓TL.r_wE_chain, ↓TL.r_wE_and, ↓TL.r_wE_or, ↓TL.r_wE_not, ↓TL.r_wE_ite, ↓TL.r_wE_idx, ↓TL.r_wE_slc, ↓TL.r_wE_slcM, ↓TL.r_wE_isinst, ↓TL.r_wE_call, ↓TL.r_wE_callK, ↓TL.r_wE_lc, ↓TL.r_wE_lcM, ↓TL.r_wE_agg, ↓TL.r_wE_blt, ↓TL.r_wE_mth, ↓TL.r_wE_lenSet, ↓TL.r_wE_hof, ↓TL.r_wE_exc, ↓TL.r_wE_frz, ↓TL.r_wE_weak, ↓TL.r_wEs_nil, ↓TL.r_wEs_cons, ↓TL.r_wC_and, ↓TL.r_wC_or, ↓TL.r_wC_not, ↓TL.r_wC_val, ↓TL.r_wC_tt, ↓TL.r_wC_cmp, ↓TL.r_wC_chain, ↓TL.r_wI_seq, ↓TL.r_wI_chars, ↓TL.r_wI_range, ↓TL.r_wI_range2, ↓TL.r_wI_zip, ↓TL.r_wI_enum, ↓TL.r_wO_no, ↓TL.r_wO_some, ↓TL.r_wS_expr, ↓TL.r_wS_ret, ↓TL.r_wS_retN, ↓TL.r_wS_set, ↓TL.r_wS_par, ↓TL.r_wS_unp, ↓TL.r_wS_setIdx, ↓TL.r_wS_iff, ↓TL.r_wS_for, ↓TL.r_wS_while, ↓TL.r_wS_brk, ↓TL.r_wS_cont, ↓TL.r_wS_pass, ↓TL.r_wS_raise, ↓TL.r_wS_tryE, ↓TL.r_wS_weak, ↓TL.r_wSs_nil, ↓TL.r_wSs_cons, ↓TL.f_bop, ↓TL.f_cop, ↓TL.f_agg, ↓TL.f_aggM, TL.v_addI, TL.v_subI, TL.v_mulI, TL.v_fdivI, TL.v_modI, TL.v_powI, TL.g_addI, TL.g_sub, TL.g_mulI, TL.g_fdivI, TL.g_modI, TL.g_powI, TL.c_gtI, TL.c_ltI, TL.c_leI, TL.c_geI, TL.c_eq, TL.c_ne, TL.c_isN, TL.c_notN, TL.c_inS, TL.c_ninS, TL.cg_gt, TL.cg_lt, TL.cg_le, TL.cg_ge, TL.cg_isN, TL.cg_notN, TL.cg_eq, TL.cg_ne, TL.cg_inS, TL.cg_ninS, TL.b_intI, TL.b_intB, TL.b_abs, TL.b_len, TL.b_max2, TL.b_min2, TL.l_str, TL.l_tup, TL.l_cl, TL.seq_ref, TL.l_ref, TL.i_tup, TL.i_cl, TL.i_ref, TL.f_set, TL.t_non, TL.t_bl, TL.t_int, TL.t_tup, TL.t_cl, TL.seq_tup, TL.seq_cl, TL.d_ref, TL.get_cons, TL.d_non, TL.d_bl, TL.d_int, TL.d_str, TL.d_tup, TL.d_cl, TL.get_put_same, TL.put_put, TL.ifm_dec, Int.cast_ofNat_Int, Int.natCast_zero, Int.natCast_one, List.length_cons, List.length_nil, List.getElem?_cons_zero, List.getElem?_cons_succ, List.map_cons, List.map_nil, List.replicate, List.cons_append, List.nil_append, Nat.reduceAdd, Nat.reduceSub, Nat.reduceLT, Int.reduceLE, Int.reduceLT, Int.reduceNeg, Int.reduceToNat, Nat.reduceLeDiff, if_true, if_false, ite_true, ite_false, List.set_cons_zero, List.set_cons_succ, Option.map_some, Option.map_none, Option.bind_some, Option.bind_none, true_and, and_true, ne_eq, not_false_eq_true, reduceCtorEq, TL.lstAt, TL.nth, TL.setv, TL.Env.put, L2.atI, L2.ixN, ↓TL.optF_m, ↓TL.ifB_m, TL.ifm_dec, decide_true, decide_false, Bool.not_true, Bool.not_false, Int.reduceEq, TL.srcOf, TL.bindTg, TL.intV, TL.strV, TL.x_slcC, TL.x_slcT, TL.x_lstC, TL.negV, TL.isT, *])
local macro_rules | `(tactic| walk_at "pv") => `(tactic| simp (decide := true) only [↓TL.e_for, ↓TL.e_while, ↓TL.e_lc, ↓TL.e_lenSet, TL.pforS_nil, TL.pforS_cons, TL.pcompS_nil, TL.pcompS_cons, TL.psetS_nil, TL.psetS_cons, TL.pSs, TL.pS, TL.pE, TL.pEs, TL.pC, TL.pI, TL.pO, TL.R.to, TL.R.toL, TL.R.toB, TL.R.toI, TL.R.toO, TL.R.toS, TL.RL.to, TL.RL.toL, TL.RL.toL', TL.RB.to, TL.RB.toB, TL.RB.toS, TL.RB.toL', TL.RI.to, TL.RI.toS, TL.RO.to, TL.RS.nxt, TL.RS.turn, TL.ifR, TL.optR, TL.optB, TL.optI, TL.optO, TL.optL, TL.optS, TL.gR, TL.gL, TL.gI, TL.gB, TL.pcmp, TL.pcmpB, TL.hofR, TL.ofO, TL.endR, TL.bopB, TL.okRg, TL.v_addI, TL.v_subI, TL.v_mulI, TL.v_fdivI, TL.v_modI, TL.v_powI, TL.g_addI, TL.g_sub, TL.g_mulI, TL.g_fdivI, TL.g_modI, TL.g_powI, TL.c_gtI, TL.c_ltI, TL.c_leI, TL.c_geI, TL.c_eq, TL.c_ne, TL.c_isN, TL.c_notN, TL.c_inS, TL.c_ninS, TL.cg_gt, TL.cg_lt, TL.cg_le, TL.cg_ge, TL.cg_isN, TL.cg_notN, TL.cg_eq, TL.cg_ne, TL.cg_inS, TL.cg_ninS, TL.b_intI, TL.b_intB, TL.b_abs, TL.b_len, TL.b_max2, TL.b_min2, TL.l_str, TL.l_tup, TL.l_cl, TL.seq_ref, TL.l_ref, TL.i_tup, TL.i_cl, TL.i_ref, TL.f_set, TL.t_non, TL.t_bl, TL.t_int, TL.t_tup, TL.t_cl, TL.seq_tup, TL.seq_cl, TL.d_ref, TL.get_cons, TL.d_non, TL.d_bl, TL.d_int, TL.d_str, TL.d_tup, TL.d_cl, TL.get_put_same, TL.put_put, TL.optF_m, TL.ifB_m, TL.ifm_dec, TL.x_slcC, TL.x_slcT, TL.x_lstC, TL.x_inT, TL.x_inC, TL.x_ginT, TL.x_ginC, TL.yq_str, TL.yq_int, TL.yq_si, TL.yq_is, TL.yq_sn, TL.yq_ns, TL.yq_in, TL.yq_ni, TL.yq_nn, TL.eo_ss, TL.eo_ii, TL.eo_si, TL.eo_is, TL.eo_nn, TL.eo_in, TL.eo_ni, TL.n_in, TL.n_nil, TL.cut1, TL.inOk, TL.dat, TL.dats, TL.dep, TL.deps, Int.cast_ofNat_Int, Int.natCast_zero, Int.natCast_one, List.length_cons, List.length_nil, List.getElem?_cons_zero, List.getElem?_cons_succ, List.map_cons, List.map_nil, List.replicate, List.cons_append, List.nil_append, Nat.reduceAdd, Nat.reduceSub, Nat.reduceLT, Int.reduceLE, Int.reduceLT, Int.reduceNeg, Int.reduceToNat, Nat.reduceLeDiff, if_true, if_false, ite_true, ite_false, List.set_cons_zero, List.set_cons_succ, Option.map_some, Option.map_none, Option.bind_some, Option.bind_none, true_and, and_true, ne_eq, not_false_eq_true, reduceCtorEq, TL.lstAt, TL.nth, TL.setv, TL.Env.put, L2.atI, L2.ixN, decide_true, decide_false, Bool.not_true, Bool.not_false, Int.reduceEq, TL.srcOf, TL.bindTg, TL.intV, TL.strV, TL.negV, TL.isT, TL.aggS, TL.aggV, TL.intsOf, TL.blsOf, Bool.true_and, Bool.and_true, Bool.false_and, Bool.and_false, Bool.or_false, Bool.false_or, Bool.or_true, Bool.true_or, TL.setvs, List.set, Nat.max_self, Nat.zero_max, Nat.max_zero, Nat.min_self, Nat.zero_min, Nat.min_zero, Nat.zero_le, TL.isNon, List.sum_cons, List.sum_nil, List.append_nil, List.isEmpty, decide_eq_true_eq, *])
namespace K07
open PySem PySem.Spec PyProof.Rows L2 TL
abbrev F : List Fd := ds.map fdOf
/-! ### formulas -/
inductive Fo
  | num (n : Int) | cell (s : Str) | op (k : Str) (a b : Fo) | iff (c a b : Fo)
def Fo.t : Fo → T
  | .num n => .tup [.str "number", .int n]
  | .cell s => .tup [.str "cell", .str s]
  | .op k a b => .tup [.str k, a.t, b.t]
  | .iff c a b => .tup [.str "if", c.t, a.t, b.t]
def Fo.size : Fo → Nat
  | .num _ => 1
  | .cell _ => 1
  | .op _ a b => 1 + a.size + b.size
  | .iff c a b => 1 + c.size + a.size + b.size
def Fo.dep : Fo → Nat
  | .num _ => 1
  | .cell _ => 1
  | .op _ a b => 1 + max a.dep b.dep
  | .iff c a b => 1 + max c.dep (max a.dep b.dep)
inductive Sg : Str → Prop
  | a : Sg "+" | b : Sg "-" | c : Sg "*" | d : Sg "//" | e : Sg "<" | f : Sg "="
inductive Nm : Str → Prop
  | a : Nm "a" | b : Nm "b" | c : Nm "cost" | d : Nm "iff"
def Fo.Good : Fo → Prop
  | .num n => 0 ≤ n ∧ n ≤ 1000000000
  | .cell s => Nm s
  | .op k a b => Sg k ∧ a.Good ∧ b.Good
  | .iff c a b => c.Good ∧ a.Good ∧ b.Good
theorem pc {η : Sto} {n i : Nat} {d : Fd} {ts : List T} (h : F[i]? = some d) (hl : ts.length = d.np) : pcall η 0 F (n + 1) i ts = endR (pSs η 0 (pcall η 0 F n) d.body ⟨ts.map some ++ List.replicate (d.nl - d.np) none, none⟩) := by
  unfold pcall
  rw [h]
  exact if_pos hl
theorem size_ok (η : Sto) : ∀ (f : Fo) (n : Nat), f.Good → f.dep ≤ n → pcall η 0 F n 16 [f.t] = .val (.int f.size)
  | f, 0, g, h => by cases f <;> simp [Fo.dep] at h
  | .num m, n + 1, g, h => by
    rw [pc (d := fdOf d__law_size) rfl rfl]
    rfl
  | .cell s, n + 1, g, h => by
    rw [pc (d := fdOf d__law_size) rfl rfl]
    rfl
  | .op k a b, n + 1, g, h => by
    have h1 := size_ok η a n g.2.1 (by simp only [Fo.dep] at h; omega)
    have h2 := size_ok η b n g.2.2 (by simp only [Fo.dep] at h; omega)
    rw [pc (d := fdOf d__law_size) rfl rfl]
    generalize pcall η 0 F n = Φ at *
    obtain ⟨hk, _, _⟩ := g
    show endR (pSs η 0 Φ ir__law_size ⟨[some (.tup [.str k, a.t, b.t]), none], none⟩) = _
    unfold ir__law_size
    cases hk <;> walk_at "pv" <;> (show R.val (.int _) = R.val (.int _); congr 2; simp only [Fo.size]; omega)
  | .iff c a b, n + 1, g, h => by
    have h0 := size_ok η c n g.1 (by simp only [Fo.dep] at h; omega)
    have h1 := size_ok η a n g.2.1 (by simp only [Fo.dep] at h; omega)
    have h2 := size_ok η b n g.2.2 (by simp only [Fo.dep] at h; omega)
    rw [pc (d := fdOf d__law_size) rfl rfl]
    generalize pcall η 0 F n = Φ at *
    show endR (pSs η 0 Φ ir__law_size ⟨[some (.tup [.str "if", c.t, a.t, b.t]), none], none⟩) = _
    unfold ir__law_size
    walk_at "pv"
    show R.val (.int _) = R.val (.int _); congr 2; simp only [Fo.size]; omega
theorem isin_ok (η : Sto) (n : Nat) {m lo hi : Int} (h1 : lo ≤ m) (h2 : m ≤ hi) : pcall η 0 F (n + 1) 1 [.int m, .int lo, .int hi] = .val (.bl true) := by
  rw [pc (d := fdOf d_is_in) rfl rfl]
  generalize pcall η 0 F n = Φ at *
  show endR (pSs η 0 Φ ir_is_in ⟨[some (.int m), some (.int lo), some (.int hi)], none⟩) = _
  unfold ir_is_in
  walk_at "pv"
theorem isname_ok (η : Sto) (n : Nat) {s : Str} (h : Nm s) : pcall η 0 F (n + 1) 3 [.str s] = .val (.bl true) := by
  cases h <;> kernel_rfl
theorem istup_ok (η : Sto) (n : Nat) {xs : List T} {lo hi : Int} (h1 : lo ≤ xs.length) (h2 : (xs.length : Int) ≤ hi) : pcall η 0 F (n + 1) 2 [.tup xs, .int lo, .int hi] = .val (.bl true) := by
  rw [pc (d := fdOf d_is_tuple) rfl rfl]
  generalize pcall η 0 F n = Φ at *
  show endR (pSs η 0 Φ ir_is_tuple ⟨[some (.tup xs), some (.int lo), some (.int hi)], none⟩) = _
  unfold ir_is_tuple
  walk_at "pv"
theorem nodes_ok (η : Sto) : ∀ (f : Fo) (n : Nat) (k : Int), f.Good → f.dep + k ≤ 13 → f.dep + 1 ≤ n → pcall η 0 F n 4 [f.t, .int k] = .val (.int f.size)
  | f, 0, k, g, h, hn => by cases f <;> simp [Fo.dep] at hn
  | .num m, n + 1, k, g, h, hn => by
    obtain ⟨n, rfl⟩ : ∃ j, n = j + 1 := ⟨n - 1, by simp only [Fo.dep] at hn; omega⟩
    have i1 := isin_ok η n g.1 g.2
    have i2 := istup_ok η n (xs := [.str "number", .int m]) (lo := 2) (hi := 4) (by simp) (by simp)
    have hk : ¬ 12 < k := by simp only [Fo.dep] at h; omega
    rw [pc (d := fdOf d_nodes_of) rfl rfl]
    generalize pcall η 0 F (n + 1) = Φ at *
    show endR (pSs η 0 Φ ir_nodes_of ⟨[some (.tup [.str "number", .int m]), some (.int k), none], none⟩) = _
    unfold ir_nodes_of
    walk_at "pv"
    rfl
  | .cell s, n + 1, k, g, h, hn => by
    obtain ⟨n, rfl⟩ : ∃ j, n = j + 1 := ⟨n - 1, by simp only [Fo.dep] at hn; omega⟩
    have i1 := isname_ok η n g
    have i2 := istup_ok η n (xs := [.str "cell", .str s]) (lo := 2) (hi := 4) (by simp) (by simp)
    have hk : ¬ 12 < k := by simp only [Fo.dep] at h; omega
    rw [pc (d := fdOf d_nodes_of) rfl rfl]
    generalize pcall η 0 F (n + 1) = Φ at *
    show endR (pSs η 0 Φ ir_nodes_of ⟨[some (.tup [.str "cell", .str s]), some (.int k), none], none⟩) = _
    unfold ir_nodes_of
    cases g <;> walk_at "pv" <;> rfl
  | .op q a b, n + 1, k, g, h, hn => by
    obtain ⟨n, rfl⟩ : ∃ j, n = j + 1 := ⟨n - 1, by simp only [Fo.dep] at hn; omega⟩
    have h1 := nodes_ok η a (n + 1) (k + 1) g.2.1 (by simp only [Fo.dep] at h; omega) (by simp only [Fo.dep] at hn; omega)
    have h2 := nodes_ok η b (n + 1) (k + 1) g.2.2 (by simp only [Fo.dep] at h; omega) (by simp only [Fo.dep] at hn; omega)
    have i2 := istup_ok η n (xs := [.str q, a.t, b.t]) (lo := 2) (hi := 4) (by simp) (by simp)
    have hk : ¬ 12 < k := by simp only [Fo.dep] at h; omega
    obtain ⟨gq, _, _⟩ := g
    rw [pc (d := fdOf d_nodes_of) rfl rfl]
    generalize pcall η 0 F (n + 1) = Φ at *
    show endR (pSs η 0 Φ ir_nodes_of ⟨[some (.tup [.str q, a.t, b.t]), some (.int k), none], none⟩) = _
    unfold ir_nodes_of
    cases gq <;> walk_at "pv" <;> (show R.val (.int _) = R.val (.int _); congr 2; simp only [Fo.size]; omega)
  | .iff c a b, n + 1, k, g, h, hn => by
    obtain ⟨n, rfl⟩ : ∃ j, n = j + 1 := ⟨n - 1, by simp only [Fo.dep] at hn; omega⟩
    have h0 := nodes_ok η c (n + 1) (k + 1) g.1 (by simp only [Fo.dep] at h; omega) (by simp only [Fo.dep] at hn; omega)
    have h1 := nodes_ok η a (n + 1) (k + 1) g.2.1 (by simp only [Fo.dep] at h; omega) (by simp only [Fo.dep] at hn; omega)
    have h2 := nodes_ok η b (n + 1) (k + 1) g.2.2 (by simp only [Fo.dep] at h; omega) (by simp only [Fo.dep] at hn; omega)
    have i2 := istup_ok η n (xs := [.str "if", c.t, a.t, b.t]) (lo := 2) (hi := 4) (by simp) (by simp)
    have hk : ¬ 12 < k := by simp only [Fo.dep] at h; omega
    rw [pc (d := fdOf d_nodes_of) rfl rfl]
    generalize pcall η 0 F (n + 1) = Φ at *
    show endR (pSs η 0 Φ ir_nodes_of ⟨[some (.tup [.str "if", c.t, a.t, b.t]), some (.int k), none], none⟩) = _
    unfold ir_nodes_of
    walk_at "pv"
    show R.val (.int _) = R.val (.int _); congr 2; simp only [Fo.size]; omega
/-! ### names -/
def Fo.names : Fo → List Str → List Str
  | .num _, l => l
  | .cell s, l => if s ∈ l then l else l ++ [s]
  | .op _ a b, l => b.names (a.names l)
  | .iff c a b, l => b.names (a.names (c.names l))
abbrev sts (l : List Str) : T := .cl (l.map .str)
theorem names_len : ∀ (f : Fo) (l : List Str), (f.names l).length ≤ l.length + f.size
  | .num _, l => Nat.le_add_right _ _
  | .cell s, l => by
    unfold Fo.names
    split
    · exact Nat.le_add_right _ _
    · rw [List.length_append]; exact Nat.le_refl _
  | .op _ a b, l => by
    have h1 := names_len a l
    have h2 := names_len b (a.names l)
    simp only [Fo.names, Fo.size]
    omega
  | .iff c a b, l => by
    have h0 := names_len c l
    have h1 := names_len a (c.names l)
    have h2 := names_len b (a.names (c.names l))
    simp only [Fo.names, Fo.size]
    omega
theorem in_strs {s : Str} {l : List Str} : inT (.str s) (l.map .str) = decide (s ∈ l) := by
  induction l with
  | nil => rfl
  | cons x l ih =>
    show (eqv (.str x) (.str s) || inT (.str s) (l.map .str)) = _
    rw [ih, yq_str]
    by_cases h : x = s
    · subst h; simp
    · have h2 : ¬ s = x := fun e => h e.symm
      simp [h, h2]
theorem dats_strs {l : List Str} : dats (l.map .str) = true := by
  induction l with
  | nil => rfl
  | cons x l ih => exact ih
theorem deps_strs {l : List Str} : deps (l.map .str) = 0 := by
  induction l with
  | nil => rfl
  | cons x l ih =>
    show max 0 (deps (l.map .str)) = 0
    rw [ih]
    rfl
theorem inok_strs {s : Str} {l : List Str} : inOk (.str s) (l.map .str) = true := by
  unfold inOk
  rw [dats_strs, deps_strs]
  rfl
theorem names_ok (η : Sto) : ∀ (f : Fo) (n : Nat) (l : List Str), f.Good → f.dep ≤ n → l.length + f.size ≤ sizeLine → pcall η 0 F n 7 [f.t, sts l] = .val (sts (f.names l)) ∧ pcall η 0 F n 18 [f.t, sts l] = .val (sts (f.names l))
  | f, 0, l, g, h, hl => by cases f <;> simp [Fo.dep] at h
  | .num m, n + 1, l, g, h, hl => ⟨rfl, rfl⟩
  | .cell s, n + 1, l, g, h, hl => by
    have e1 := in_strs (s := s) (l := l)
    have e2 := dats_strs (l := l)
    have e5 := deps_strs (l := l)
    have e3 : l.length + 1 ≤ sizeLine := hl
    have e4 : (l.map T.str).length = l.length := List.length_map ..
    constructor
    · rw [pc (d := fdOf d_names_in) rfl rfl]
      generalize pcall η 0 F n = Φ at *
      show endR (pSs η 0 Φ ir_names_in ⟨[some (.tup [.str "cell", .str s]), some (.cl (l.map .str)), none], none⟩) = _
      unfold ir_names_in
      by_cases hs : s ∈ l
      · walk_at "pv"
        simp only [Fo.names, if_pos hs]
      · walk_at "pv"
        simp only [Fo.names, if_neg hs, sts, List.map_append, List.map_cons, List.map_nil]
    · rw [pc (d := fdOf d__law_names) rfl rfl]
      generalize pcall η 0 F n = Φ at *
      show endR (pSs η 0 Φ ir__law_names ⟨[some (.tup [.str "cell", .str s]), some (.cl (l.map .str)), none], none⟩) = _
      unfold ir__law_names
      by_cases hs : s ∈ l
      · walk_at "pv"
        simp only [Fo.names, if_pos hs]
      · walk_at "pv"
        simp only [Fo.names, if_neg hs, sts, List.map_append, List.map_cons, List.map_nil]
  | .op q a b, n + 1, l, g, h, hl => by
    simp only [Fo.dep] at h
    simp only [Fo.size] at hl
    have h1 := names_ok η a n l g.2.1 (by omega) (by omega)
    have z := names_len a l
    have h2 := names_ok η b n (a.names l) g.2.2 (by omega) (by omega)
    obtain ⟨gq, _, _⟩ := g
    obtain ⟨h1, h3⟩ := h1
    obtain ⟨h2, h4⟩ := h2
    constructor
    · rw [pc (d := fdOf d_names_in) rfl rfl]
      generalize pcall η 0 F n = Φ at *
      show endR (pSs η 0 Φ ir_names_in ⟨[some (.tup [.str q, a.t, b.t]), some (.cl (l.map .str)), none], none⟩) = _
      unfold ir_names_in
      cases gq <;> walk_at "pv" <;> rfl
    · rw [pc (d := fdOf d__law_names) rfl rfl]
      generalize pcall η 0 F n = Φ at *
      show endR (pSs η 0 Φ ir__law_names ⟨[some (.tup [.str q, a.t, b.t]), some (.cl (l.map .str)), none], none⟩) = _
      unfold ir__law_names
      cases gq <;> walk_at "pv" <;> rfl
  | .iff c a b, n + 1, l, g, h, hl => by
    simp only [Fo.dep] at h
    simp only [Fo.size] at hl
    have h0 := names_ok η c n l g.1 (by omega) (by omega)
    have z0 := names_len c l
    have h1 := names_ok η a n (c.names l) g.2.1 (by omega) (by omega)
    have z := names_len a (c.names l)
    have h2 := names_ok η b n (a.names (c.names l)) g.2.2 (by omega) (by omega)
    obtain ⟨h0, h5⟩ := h0
    obtain ⟨h1, h3⟩ := h1
    obtain ⟨h2, h4⟩ := h2
    constructor
    · rw [pc (d := fdOf d_names_in) rfl rfl]
      generalize pcall η 0 F n = Φ at *
      show endR (pSs η 0 Φ ir_names_in ⟨[some (.tup [.str "if", c.t, a.t, b.t]), some (.cl (l.map .str)), none], none⟩) = _
      unfold ir_names_in
      walk_at "pv" <;> rfl
    · rw [pc (d := fdOf d__law_names) rfl rfl]
      generalize pcall η 0 F n = Φ at *
      show endR (pSs η 0 Φ ir__law_names ⟨[some (.tup [.str "if", c.t, a.t, b.t]), some (.cl (l.map .str)), none], none⟩) = _
      unfold ir__law_names
      walk_at "pv" <;> rfl
/-! ### the number of a formula -/
abbrev Cs := List (Str × Option Int)
def tv : Option Int → T
  | none => .non
  | some i => .int i
def Cs.t (cs : Cs) : List T := cs.map fun q => .tup [.str q.1, tv q.2]
def look (cs : Cs) (s : Str) : Option Int := match cs with
  | [] => none
  | (x, v) :: r => if x = s then v else look r s
def opv (k : Str) (x y : Int) : Option Int :=
  if k = "+" then some (x + y) else if k = "-" then some (x - y) else if k = "*" then some (x * y)
  else if k = "//" then (if y = 0 then none else some (x.fdiv y)) else if k = "<" then some (if x < y then 1 else 0) else some (if x = y then 1 else 0)
def Fo.worth (cs : Cs) : Fo → Option Int
  | .num n => some n
  | .cell s => look cs s
  | .op k a b => match a.worth cs, b.worth cs with
    | some x, some y => opv k x y
    | _, _ => none
  | .iff c a b => match c.worth cs with
    | none => none
    | some v => if v = 0 then b.worth cs else a.worth cs
def Cs.Ok (cs : Cs) : Prop := ∀ q ∈ cs, ∀ v, q.2 = some v → v.natAbs ≤ 1000000000
theorem look_ok {cs : Cs} (h : cs.Ok) {s : Str} {v : Int} (e : look cs s = some v) : v.natAbs ≤ 1000000000 := by
  induction cs with
  | nil => cases e
  | cons q r ih =>
    obtain ⟨x, w⟩ := q
    unfold look at e
    split at e
    · exact h (x, w) List.mem_cons_self v e
    · exact ih (fun q hq => h q (List.mem_cons_of_mem _ hq)) e
theorem fdiv_abs {x y : Int} (h : y ≠ 0) : (x.fdiv y).natAbs ≤ x.natAbs := by
  by_cases p : 0 ≤ y
  · rw [Int.fdiv_eq_ediv_of_nonneg x p]
    exact Int.natAbs_ediv_le_natAbs x y
  · rw [← Int.neg_fdiv_neg x y, Int.fdiv_eq_ediv_of_nonneg (-x) (by omega)]
    exact Nat.le_trans (Int.natAbs_ediv_le_natAbs (-x) (-y)) (by rw [Int.natAbs_neg]; exact Nat.le_refl _)
theorem opv_abs {k : Str} {x y v : Int} (e : opv k x y = some v) {A B : Nat} (ha : x.natAbs < 2 ^ A) (hb : y.natAbs < 2 ^ B) : v.natAbs < 2 ^ (A + B + 1) := by
  have p0 : 2 ^ A ≤ 2 ^ (A + B) := Nat.pow_le_pow_right (by decide) (by omega)
  have p1 : 2 ^ B ≤ 2 ^ (A + B) := Nat.pow_le_pow_right (by decide) (by omega)
  have p2 : 2 ^ (A + B + 1) = 2 * 2 ^ (A + B) := by rw [Nat.pow_succ]; omega
  have p3 : 0 < 2 ^ (A + B) := Nat.pow_pos (by decide)
  unfold opv at e
  split at e
  · cases e; omega
  split at e
  · cases e; omega
  split at e
  · cases e
    rw [Int.natAbs_mul]
    have : x.natAbs * y.natAbs ≤ 2 ^ A * 2 ^ B := Nat.mul_le_mul (by omega) (by omega)
    rw [← Nat.pow_add] at this
    omega
  split at e
  · split at e
    · cases e
    · cases e
      have := fdiv_abs (x := x) (y := y) (by assumption)
      omega
  split at e
  · cases e
    split <;> simp <;> omega
  · cases e
    split <;> simp <;> omega
theorem worth_abs {cs : Cs} (h : cs.Ok) : ∀ (f : Fo), f.Good → ∀ v, f.worth cs = some v → v.natAbs < 2 ^ (31 * f.size)
  | .num n, g, v, e => by
    cases e
    have := g.1
    have := g.2
    show n.natAbs < 2 ^ 31
    omega
  | .cell s, g, v, e => by
    have := look_ok h e
    show v.natAbs < 2 ^ 31
    omega
  | .op k a b, g, v, e => by
    unfold Fo.worth at e
    split at e
    · rename_i x y e1 e2
      have h1 := worth_abs h a g.2.1 x e1
      have h2 := worth_abs h b g.2.2 y e2
      have h3 := opv_abs e h1 h2
      exact Nat.lt_of_lt_of_le h3 (Nat.pow_le_pow_right (by decide) (by simp only [Fo.size]; omega))
    · cases e
  | .iff c a b, g, v, e => by
    unfold Fo.worth at e
    split at e
    · cases e
    · rename_i w e1
      split at e
      · exact Nat.lt_of_lt_of_le (worth_abs h b g.2.2 v e) (Nat.pow_le_pow_right (by decide) (by simp only [Fo.size]; omega))
      · exact Nat.lt_of_lt_of_le (worth_abs h a g.2.1 v e) (Nat.pow_le_pow_right (by decide) (by simp only [Fo.size]; omega))
theorem rest_div {x y : Int} (h : y ≠ 0) : (x - x.fmod y).fdiv y = x.fdiv y := by
  rw [Int.fmod_def, show x - (x - y * x.fdiv y) = y * x.fdiv y by omega]
  exact Int.mul_fdiv_cancel_left _ h
theorem tv_dat (v : Option Int) : dat (tv v) = true := by cases v <;> rfl
theorem tv_isN (v : Option Int) : isNon (tv v) = v.isNone := by cases v <;> rfl
theorem opv_a {x y : Int} : opv "+" x y = some (x + y) := rfl
theorem opv_b {x y : Int} : opv "-" x y = some (x - y) := rfl
theorem opv_c {x y : Int} : opv "*" x y = some (x * y) := rfl
theorem opv_e {x y : Int} : opv "<" x y = some (if x < y then 1 else 0) := rfl
theorem opv_f {x y : Int} : opv "=" x y = some (if x = y then 1 else 0) := rfl
theorem opv_d {x y : Int} (h : y ≠ 0) : opv "//" x y = some (x.fdiv y) := by
  show (if y = 0 then none else some (x.fdiv y)) = _
  rw [if_neg h]
theorem operated_ok (η : Sto) (n : Nat) {k : Str} (hk : Sg k) {a b : Option Int} {r : Option Int} (hr : r = (match a, b with | some x, some y => opv k x y | _, _ => none)) (la : ∀ x, a = some x → x.natAbs.log2 < 5000) (lb : ∀ x, b = some x → x.natAbs.log2 < 5000) :
    pcall η 0 F (n + 1) 8 [.str k, tv a, tv b] = .val (tv r) := by
  subst hr
  rw [pc (d := fdOf d_operated) rfl rfl]
  generalize pcall η 0 F n = Φ at *
  show endR (pSs η 0 Φ ir_operated ⟨[some (.str k), some (tv a), some (tv b)], none⟩) = _
  unfold ir_operated
  cases a with
  | none => cases b <;> (unfold tv; walk_at "pv")
  | some x =>
    cases b with
    | none => unfold tv; walk_at "pv"
    | some y =>
      have la := la x rfl
      have lb := lb y rfl
      have lab : x.natAbs.log2 + y.natAbs.log2 < 1000000 := by omega
      have lb9 : y.natAbs.log2 < 9000 := by omega
      unfold tv
      cases hk with
      | d =>
        by_cases hy : y = 0
        · subst hy
          walk_at "pv"
          rfl
        · have o := opv_d (x := x) hy
          walk_at "pv"
      | a => have o := opv_a (x := x) (y := y); walk_at "pv"
      | b => have o := opv_b (x := x) (y := y); walk_at "pv"
      | c => have o := opv_c (x := x) (y := y); walk_at "pv"
      | e => have o := opv_e (x := x) (y := y); walk_at "pv"
      | f => have o := opv_f (x := x) (y := y); walk_at "pv"
end K07

set_option maxHeartbeats 4000000
namespace K07
open PySem PySem.Spec PyProof.Rows L2 TL
/-! ### the number of a formula, walked -/
theorem forw (η : Sto) (Φ : Nat → List T → TL.R) (s : Str) (u : T) : ∀ (cs : Cs) (v6 v7 : Option T),
    (pforS η 0 Φ (.two 6 7) (.cons (.iff (.cmp .eq (.var 6) (.idx (.var 0) (.cst (.int 1)))) (.cons (.ret (.var 7)) .nil) .nil) .nil) cs.t ⟨[some (.tup [.str "cell", .str s]), some u, none, none, none, none, v6, v7], none⟩ = .rt (tv (look cs s))) ∨
    ∃ ρ', (pforS η 0 Φ (.two 6 7) (.cons (.iff (.cmp .eq (.var 6) (.idx (.var 0) (.cst (.int 1)))) (.cons (.ret (.var 7)) .nil) .nil) .nil) cs.t ⟨[some (.tup [.str "cell", .str s]), some u, none, none, none, none, v6, v7], none⟩ = .nx ρ') ∧ look cs s = none
  | [], v6, v7 => .inr ⟨_, rfl, rfl⟩
  | (x, v) :: r, v6, v7 => by
    have ih := forw η Φ s u r (some (.str x)) (some (tv v))
    show (pforS η 0 Φ (.two 6 7) _ (.tup [.str x, tv v] :: Cs.t r) _ = _) ∨ ∃ ρ', pforS η 0 Φ (.two 6 7) _ (.tup [.str x, tv v] :: Cs.t r) _ = .nx ρ' ∧ _
    by_cases h : x = s
    · subst h
      have e : look ((x, v) :: r) x = v := if_pos rfl
      rw [e]
      refine .inl ?_
      walk_at "pv"
    · have e : look ((x, v) :: r) s = look r s := if_neg h
      rw [e]
      refine Eq.mp ?_ ih
      congr 1
      · congr 1
        symm
        walk_at "pv"
      · congr 1
        funext ρ'
        congr 1
        congr 1
        symm
        walk_at "pv"
theorem lwork_ok (η : Sto) (cs : Cs) (hc : cs.Ok) (u : T) (hu : seqOf η u = some cs.t) : ∀ (f : Fo) (n : Nat), f.Good → f.dep ≤ n → f.size ≤ 60 → pcall η 0 F n 17 [f.t, u] = .val (tv (f.worth cs))
  | f, 0, g, h, _ => by cases f <;> simp [Fo.dep] at h
  | .num m, n + 1, g, h, _ => by
    rw [pc (d := fdOf d__law_work) rfl rfl]
    rfl
  | .cell s, n + 1, g, h, _ => by
    rw [pc (d := fdOf d__law_work) rfl rfl]
    generalize pcall η 0 F n = Φ at *
    have fw := forw η Φ s u cs none none
    show endR (pSs η 0 Φ ir__law_work ⟨[some (.tup [.str "cell", .str s]), some u, none, none, none, none, none, none], none⟩) = .val (tv (look cs s))
    unfold ir__law_work
    rcases fw with fw | ⟨ρ', fw, fz⟩
    · walk_at "pv"
    · rw [fz]
      walk_at "pv"
      rfl
  | .op k a b, n + 1, g, h, hs => by
    simp only [Fo.dep] at h
    simp only [Fo.size] at hs
    have h1 := lwork_ok η cs hc u hu a n g.2.1 (by omega) (by omega)
    have h2 := lwork_ok η cs hc u hu b n g.2.2 (by omega) (by omega)
    have b1 : ∀ x, a.worth cs = some x → x.natAbs.log2 < 5000 := fun x e => Nat.lt_of_le_of_lt (lg (worth_abs hc a g.2.1 x e)) (by omega)
    have b2 : ∀ x, b.worth cs = some x → x.natAbs.log2 < 5000 := fun x e => Nat.lt_of_le_of_lt (lg (worth_abs hc b g.2.2 x e)) (by omega)
    obtain ⟨hk, _, _⟩ := g
    rw [pc (d := fdOf d__law_work) rfl rfl]
    generalize pcall η 0 F n = Φ at *
    show endR (pSs η 0 Φ ir__law_work ⟨[some (.tup [.str k, a.t, b.t]), some u, none, none, none, none, none, none], none⟩) = .val (tv ((Fo.op k a b).worth cs))
    unfold ir__law_work Fo.worth
    revert h1 h2 b1 b2
    generalize a.worth cs = x
    generalize b.worth cs = y
    intro b1 b2 h1 h2
    cases x with
    | none => cases hk <;> cases y <;> (unfold tv at *; walk_at "pv")
    | some x =>
      cases y with
      | none => cases hk <;> (unfold tv at *; walk_at "pv")
      | some y =>
        have la := b1 x rfl
        have lb := b2 y rfl
        have lab : x.natAbs.log2 + y.natAbs.log2 < 1000000 := by omega
        have lb9 : y.natAbs.log2 < 9000 := by omega
        unfold tv at *
        cases hk with
        | d =>
          by_cases hy : y = 0
          · subst hy
            walk_at "pv"
            rfl
          · have o := opv_d (x := x) hy
            have rd := rest_div (x := x) hy
            walk_at "pv"
        | a => have o := opv_a (x := x) (y := y); walk_at "pv"
        | b => have o := opv_b (x := x) (y := y); walk_at "pv"
        | c => have o := opv_c (x := x) (y := y); walk_at "pv"
        | e =>
          have o := opv_e (x := x) (y := y)
          by_cases q : x < y
          · have q1 : 0 < y - x := by omega
            walk_at "pv"
          · have q1 : ¬ 0 < y - x := by omega
            walk_at "pv"
        | f =>
          by_cases q : x = y
          · subst q
            have o : opv "=" x x = some 1 := by rw [opv_f]; simp
            have q1 : x - x = 0 := by omega
            clear b1 b2
            walk_at "pv"
          · have o := opv_f (x := x) (y := y)
            have q1 : ¬ x - y = 0 := by omega
            walk_at "pv"
  | .iff c a b, n + 1, g, h, hs => by
    simp only [Fo.dep] at h
    simp only [Fo.size] at hs
    have h0 := lwork_ok η cs hc u hu c n g.1 (by omega) (by omega)
    have h1 := lwork_ok η cs hc u hu a n g.2.1 (by omega) (by omega)
    have h2 := lwork_ok η cs hc u hu b n g.2.2 (by omega) (by omega)
    rw [pc (d := fdOf d__law_work) rfl rfl]
    generalize pcall η 0 F n = Φ at *
    show endR (pSs η 0 Φ ir__law_work ⟨[some (.tup [.str "if", c.t, a.t, b.t]), some u, none, none, none, none, none, none], none⟩) = .val (tv ((Fo.iff c a b).worth cs))
    unfold ir__law_work Fo.worth
    revert h0
    generalize c.worth cs = x
    intro h0
    cases x with
    | none => unfold tv at h0; walk_at "pv"; rfl
    | some x =>
      have e : tv (some x) = .int x := rfl
      rw [e] at h0
      by_cases q : x = 0
      · subst q
        walk_at "pv"
      · walk_at "pv"
/-! ### dict(cells) -/
def Cs.ks (cs : Cs) : List T := cs.map fun q => .str q.1
def Cs.vs (cs : Cs) : List T := cs.map fun q => tv q.2
def Cs.nms (cs : Cs) : List Str := cs.map (·.1)
theorem any_none {s : Str} {l : List Str} (h : s ∉ l) : ((l.map T.str).any fun c => eqv c (.str s)) = false := by
  induction l with
  | nil => rfl
  | cons x l ih =>
    rw [List.map_cons, List.any_cons, yq_str, ih (fun m => h (List.mem_cons_of_mem _ m))]
    have : ¬ x = s := fun e => h (e ▸ List.mem_cons_self)
    simp [this]
theorem dict_ok : ∀ (cs : Cs) (l : List Str) (vs : List T), (l ++ cs.nms).Nodup → dictOf cs.t (l.map .str) vs = some (l.map .str ++ cs.ks, vs ++ cs.vs)
  | [], l, vs, _ => by
    show some (l.map T.str, vs) = some (l.map T.str ++ [], vs ++ [])
    rw [List.append_nil, List.append_nil]
  | (x, v) :: r, l, vs, h => by
    have hx : x ∉ l := fun m => by
      have := List.nodup_append.mp h
      exact this.2.2 x m x List.mem_cons_self rfl
    have e1 : dputT (.str x) (tv v) (l.map .str) vs = ((l ++ [x]).map .str, vs ++ [tv v]) := by
      unfold dputT
      rw [any_none hx, List.map_append]
      rfl
    show (if keyT (.str x) then dictOf (Cs.t r) (dputT (.str x) (tv v) (l.map .str) vs).1 (dputT (.str x) (tv v) (l.map .str) vs).2 else none) = _
    rw [e1]
    show dictOf (Cs.t r) ((l ++ [x]).map .str) (vs ++ [tv v]) = _
    rw [dict_ok r (l ++ [x]) (vs ++ [tv v]) (by rw [List.append_assoc]; exact h), List.map_append, List.append_assoc, List.append_assoc]
    rfl
theorem dget_ok (s : Str) : ∀ cs : Cs, (dgetT (.str s) cs.ks cs.vs).getD .non = tv (look cs s)
  | [] => rfl
  | (x, v) :: r => by
    show (if eqv (.str x) (.str s) then some (tv v) else dgetT (.str s) (Cs.ks r) (Cs.vs r)).getD .non = tv (look ((x, v) :: r) s)
    rw [yq_str]
    by_cases h : x = s
    · have e : look ((x, v) :: r) s = v := if_pos h
      rw [e]
      simp [h]
    · have e : look ((x, v) :: r) s = look r s := if_neg h
      rw [e, ← dget_ok s r]
      simp [h]
theorem worked_ok (η : Sto) (cs : Cs) (hc : cs.Ok) : ∀ (f : Fo) (n : Nat), f.Good → f.dep + 1 ≤ n → f.size ≤ 60 → pcall η 0 F n 9 [f.t, .dct cs.ks cs.vs] = .val (tv (f.worth cs))
  | f, 0, g, h, _ => by cases f <;> simp [Fo.dep] at h
  | .num m, n + 1, g, h, _ => by
    rw [pc (d := fdOf d_worked) rfl rfl]
    rfl
  | .cell s, n + 1, g, h, _ => by
    have dg := dget_ok s cs
    rw [pc (d := fdOf d_worked) rfl rfl]
    generalize pcall η 0 F n = Φ at *
    show endR (pSs η 0 Φ ir_worked ⟨[some (.tup [.str "cell", .str s]), some (.dct cs.ks cs.vs), none], none⟩) = .val (tv (look cs s))
    rw [← dg]
    rfl
  | .op k a b, n + 1, g, h, hs => by
    simp only [Fo.dep] at h
    simp only [Fo.size] at hs
    have h1 := worked_ok η cs hc a n g.2.1 (by omega) (by omega)
    have h2 := worked_ok η cs hc b n g.2.2 (by omega) (by omega)
    have b1 : ∀ x, a.worth cs = some x → x.natAbs.log2 < 5000 := fun x e => Nat.lt_of_le_of_lt (lg (worth_abs hc a g.2.1 x e)) (by omega)
    have b2 : ∀ x, b.worth cs = some x → x.natAbs.log2 < 5000 := fun x e => Nat.lt_of_le_of_lt (lg (worth_abs hc b g.2.2 x e)) (by omega)
    obtain ⟨n, rfl⟩ : ∃ j, n = j + 1 := ⟨n - 1, by omega⟩
    have ho := operated_ok η n g.1 (a := a.worth cs) (b := b.worth cs) (r := (Fo.op k a b).worth cs) rfl b1 b2
    obtain ⟨hk, _, _⟩ := g
    rw [pc (d := fdOf d_worked) rfl rfl]
    generalize pcall η 0 F (n + 1) = Φ at *
    show endR (pSs η 0 Φ ir_worked ⟨[some (.tup [.str k, a.t, b.t]), some (.dct cs.ks cs.vs), none], none⟩) = .val (tv ((Fo.op k a b).worth cs))
    unfold ir_worked
    cases hk <;> walk_at "pv"
  | .iff c a b, n + 1, g, h, hs => by
    simp only [Fo.dep] at h
    simp only [Fo.size] at hs
    have h0 := worked_ok η cs hc c n g.1 (by omega) (by omega)
    have h1 := worked_ok η cs hc a n g.2.1 (by omega) (by omega)
    have h2 := worked_ok η cs hc b n g.2.2 (by omega) (by omega)
    rw [pc (d := fdOf d_worked) rfl rfl]
    generalize pcall η 0 F n = Φ at *
    show endR (pSs η 0 Φ ir_worked ⟨[some (.tup [.str "if", c.t, a.t, b.t]), some (.dct cs.ks cs.vs), none], none⟩) = .val (tv ((Fo.iff c a b).worth cs))
    unfold ir_worked Fo.worth
    revert h0
    generalize c.worth cs = x
    intro h0
    cases x with
    | none => unfold tv at h0; walk_at "pv"; rfl
    | some x =>
      have e : tv (some x) = .int x := rfl
      rw [e] at h0
      by_cases q : x = 0
      · subst q
        walk_at "pv"
      · walk_at "pv"
end K07

set_option maxHeartbeats 4000000
namespace K07
open PySem PySem.Spec PyProof.Rows L2 TL
inductive Cn : Str → Prop
  | a : Cn "b" | b : Cn "a" | c : Cn "cost" | d : Cn "other"
/-- cells that may be handed in -/
structure Cs.Fine (cs : Cs) : Prop where
  ok : cs.Ok
  nd : cs.nms.Nodup
  nm : ∀ s ∈ cs.nms, Cn s
  ln : cs.length ≤ 4
theorem isname_cn (η : Sto) (n : Nat) {s : Str} (h : Cn s) : pcall η 0 F (n + 1) 3 [.str s] = .val (.bl true) := by
  cases h <;> kernel_rfl
theorem bls_trues : ∀ n : Nat, blsOf (List.replicate n (.bl true)) = some (List.replicate n true)
  | 0 => rfl
  | n + 1 => by
    show (blsOf (List.replicate n (.bl true))).map (true :: ·) = _
    rw [bls_trues n]
    rfl
theorem all_trues : ∀ n : Nat, (List.replicate n true).all id = true
  | 0 => rfl
  | n + 1 => all_trues n
theorem loop1 (η : Sto) (Φ : Nat → List T → TL.R) (h2 : ∀ s v, Φ 2 [.tup [.str s, tv v], .int 2, .int 2] = .val (.bl true)) : ∀ (cs : Cs), (∀ s ∈ cs.nms, Φ 3 [.str s] = .val (.bl true)) → ∀ u : T,
    pcompS η Φ [1] (.name 1) .tt (.and (.call 2 (.cons (.var 1) (.cons (.cst (.int 2)) (.cons (.cst (.int 2)) .nil)))) (.call 3 (.cons (.idx (.var 1) (.cst (.int 0))) .nil))) ⟨[some u, none, none, none], none⟩ cs.t = .val (List.replicate cs.length (.bl true))
  | [], _, u => rfl
  | (s, v) :: r, h3, u => by
    have e3 := h3 s List.mem_cons_self
    have ih := loop1 η Φ h2 r (fun x hx => h3 x (List.mem_cons_of_mem _ hx)) u
    have e2 := h2 s v
    show pcompS η Φ [1] (.name 1) .tt _ _ (.tup [.str s, tv v] :: Cs.t r) = .val (.bl true :: List.replicate r.length (.bl true))
    walk_at "pv"
theorem loop2 (η : Sto) (Φ : Nat → List T → TL.R) (h1 : ∀ v : Int, v.natAbs ≤ 1000000000 → Φ 1 [.int v, .int (-1000000000), .int 1000000000] = .val (.bl true)) : ∀ (cs : Cs), cs.Ok → ∀ u : T,
    pcompS η Φ [2, 3] (.two 2 3) .tt (.or (.cmp .isN (.var 3) (.cst .non)) (.call 1 (.cons (.var 3) (.cons (.neg (.gcst 4 (.int 1000000000))) (.cons (.gcst 4 (.int 1000000000)) .nil))))) ⟨[some u, none, none, none], none⟩ cs.t = .val (List.replicate cs.length (.bl true))
  | [], _, u => rfl
  | (s, none) :: r, h3, u => by
    have ih := loop2 η Φ h1 r (fun x hx => h3 x (List.mem_cons_of_mem _ hx)) u
    show pcompS η Φ [2, 3] (.two 2 3) .tt _ _ (.tup [.str s, .non] :: Cs.t r) = .val (.bl true :: List.replicate r.length (.bl true))
    walk_at "pv"
  | (s, some v) :: r, h3, u => by
    have ih := loop2 η Φ h1 r (fun x hx => h3 x (List.mem_cons_of_mem _ hx)) u
    have e1 := h1 v (h3 _ List.mem_cons_self v rfl)
    show pcompS η Φ [2, 3] (.two 2 3) .tt _ _ (.tup [.str s, .int v] :: Cs.t r) = .val (.bl true :: List.replicate r.length (.bl true))
    walk_at "pv"
theorem loop3 (η : Sto) (Φ : Nat → List T → TL.R) : ∀ (cs : Cs), ∀ u : T,
    psetS η Φ [2, 3] (.two 2 3) (.var 2) ⟨[some u, none, none, none], none⟩ cs.t = .val cs.ks
  | [], u => rfl
  | (s, v) :: r, u => by
    have ih := loop3 η Φ r u
    show psetS η Φ [2, 3] (.two 2 3) (.var 2) _ (.tup [.str s, tv v] :: Cs.t r) = .val (.str s :: Cs.ks r)
    walk_at "pv"
    rfl
theorem dedup_aux : ∀ (l m : List Str), (m ++ l).Nodup → (l.map T.str).foldl addD (m.map .str) = (m ++ l).map .str
  | [], m, _ => by rw [List.append_nil]; rfl
  | x :: l, m, h => by
    have hx : x ∉ m := fun q => (List.nodup_append.mp h).2.2 x q x List.mem_cons_self rfl
    have e : addD (m.map .str) (.str x) = (m ++ [x]).map .str := by
      unfold addD
      rw [in_strs, decide_eq_false hx, List.map_append]
      rfl
    rw [List.map_cons, List.foldl_cons, e, dedup_aux l (m ++ [x]) (by rw [List.append_assoc]; exact h), List.append_assoc]
    rfl
theorem dedup_strs {l : List Str} (h : l.Nodup) : dedup (l.map .str) = l.map .str := dedup_aux l [] h
theorem iscells_ok (η : Sto) (n : Nat) {cs : Cs} (h : cs.Fine) : pcall η 0 F (n + 2) 10 [.tup cs.t] = .val (.bl true) := by
  have hl : cs.t.length = cs.length := List.length_map ..
  have hln := h.ln
  have i2 := istup_ok η n (xs := cs.t) (lo := 0) (hi := 20) (by omega) (by omega)
  have l1 := loop1 η (pcall η 0 F (n + 1)) (fun s v => istup_ok η n (by simp) (by simp)) cs (fun s hs => isname_cn η n (h.nm s hs)) (.tup cs.t)
  have l2 := loop2 η (pcall η 0 F (n + 1)) (fun v hv => isin_ok η n (by omega) (by omega)) cs h.ok (.tup cs.t)
  have l3 := loop3 η (pcall η 0 F (n + 1)) cs (.tup cs.t)
  have tr := bls_trues cs.length
  have tr2 := all_trues cs.length
  have dd : dedup cs.ks = cs.ks := by
    have := dedup_strs h.nd
    unfold Cs.ks Cs.nms at *
    rw [List.map_map] at this
    exact this
  have kl : cs.ks.length = cs.length := List.length_map ..
  have hl3 : cs.length ≤ 1000 := by omega
  rw [pc (d := fdOf d_is_cells) rfl rfl]
  generalize pcall η 0 F (n + 1) = Φ at *
  show endR (pSs η 0 Φ ir_is_cells ⟨[some (.tup cs.t), none, none, none], none⟩) = _
  unfold ir_is_cells
  walk_at "pv"
theorem isform_ok (η : Sto) (n : Nat) {f : Fo} (g : f.Good) (hd : f.dep ≤ 7) (hs : f.size ≤ 60) (hn : 9 ≤ n) : pcall η 0 F (n + 1) 5 [f.t] = .val (.bl true) := by
  have h := nodes_ok η f n 1 g (by omega) (by omega)
  have hs2 : (f.size : Int) ≤ 60 := by omega
  rw [pc (d := fdOf d_is_formula) rfl rfl]
  generalize pcall η 0 F n = Φ at *
  show endR (pSs η 0 Φ ir_is_formula ⟨[some f.t], none⟩) = _
  unfold ir_is_formula
  walk_at "pv"
theorem demand_ok (η : Sto) (n : Nat) (s : Str) : pcall η 0 F (n + 1) 0 [.bl true, .str s] = .val .non := rfl
theorem demand_no (η : Sto) (n : Nat) (s : Str) : pcall η 0 F (n + 1) 0 [.bl false, .str s] = .exn 0 (.str s) := rfl
theorem work_ok (η : Sto) (n : Nat) {f : Fo} (g : f.Good) (hd : f.dep ≤ 7) (hs : f.size ≤ 60) (hn : 10 ≤ n) {cs : Cs} (h : cs.Fine) : pcall η 0 F (n + 1) 11 [f.t, .tup cs.t] = .val (tv (f.worth cs)) := by
  obtain ⟨n, rfl⟩ : ∃ j, n = j + 2 := ⟨n - 2, by omega⟩
  have h1 := isform_ok η (n + 1) g hd hs (by omega)
  have h2 := iscells_ok η n h
  have h3 := demand_ok η (n + 1) "formula"
  have h4 := demand_ok η (n + 1) "cells"
  have h5 := worked_ok η cs h.ok f (n + 2) g (by omega) hs
  have h6 : bltV .dict [.tup cs.t] η = some (.dct cs.ks cs.vs) := by
    show (dictOf cs.t [] []).map (fun q => T.dct q.1 q.2) = _
    rw [show dictOf cs.t [] [] = some (cs.ks, cs.vs) from dict_ok cs [] [] h.nd]
    rfl
  rw [pc (d := fdOf d_work) rfl rfl]
  generalize pcall η 0 F (n + 2) = Φ at *
  show endR (pSs η 0 Φ ir_work ⟨[some f.t, some (.tup cs.t)], none⟩) = _
  unfold ir_work
  walk_at "pv"
theorem cellsof_ok (η : Sto) (n : Nat) {f : Fo} (g : f.Good) (hd : f.dep ≤ 7) (hs : f.size ≤ 60) (hn : 10 ≤ n) : pcall η 0 F (n + 1) 6 [f.t] = .val (.tup ((f.names []).map .str)) := by
  obtain ⟨n, rfl⟩ : ∃ j, n = j + 2 := ⟨n - 2, by omega⟩
  have h1 := isform_ok η (n + 1) g hd hs (by omega)
  have h3 := demand_ok η (n + 1) "formula"
  have s60 : 60 ≤ sizeLine := by decide
  have h5 := (names_ok η f (n + 2) [] g (by omega) (by simp only [List.length_nil]; omega)).1
  have e : sts [] = .cl [] := rfl
  rw [e] at h5
  rw [pc (d := fdOf d_cells_of) rfl rfl]
  generalize pcall η 0 F (n + 2) = Φ at *
  show endR (pSs η 0 Φ ir_cells_of ⟨[some f.t], none⟩) = _
  unfold ir_cells_of
  walk_at "pv"
/-- refused for the cells -/
theorem work_no (η : Sto) (n : Nat) {f : Fo} (g : f.Good) (hd : f.dep ≤ 7) (hs : f.size ≤ 60) (hn : 10 ≤ n) {c : T} (h2 : ∀ n, 2 ≤ n → pcall η 0 F n 10 [c] = .val (.bl false)) : pcall η 0 F (n + 1) 11 [f.t, c] = .exn 0 (.str "cells") := by
  obtain ⟨n, rfl⟩ : ∃ j, n = j + 2 := ⟨n - 2, by omega⟩
  have h1 := isform_ok η (n + 1) g hd hs (by omega)
  have h2 := h2 (n + 2) (by omega)
  have h3 := demand_ok η (n + 1) "formula"
  have h4 := demand_no η (n + 1) "cells"
  rw [pc (d := fdOf d_work) rfl rfl]
  generalize pcall η 0 F (n + 2) = Φ at *
  show endR (pSs η 0 Φ ir_work ⟨[some f.t, some c], none⟩) = _
  unfold ir_work
  walk_at "pv"
theorem work_nof (η : Sto) (n : Nat) {b : T} (h : pcall η 0 F (n + 1) 5 [b] = .val (.bl false)) (c : T) : pcall η 0 F (n + 2) 11 [b, c] = .exn 0 (.str "formula") := by
  have h4 := demand_no η n "formula"
  rw [pc (d := fdOf d_work) rfl rfl]
  generalize pcall η 0 F (n + 1) = Φ at *
  show endR (pSs η 0 Φ ir_work ⟨[some b, some c], none⟩) = _
  unfold ir_work
  walk_at "pv"
theorem cells_nof (η : Sto) (n : Nat) {b : T} (h : pcall η 0 F (n + 1) 5 [b] = .val (.bl false)) : pcall η 0 F (n + 2) 6 [b] = .exn 0 (.str "formula") := by
  have h4 := demand_no η n "formula"
  rw [pc (d := fdOf d_cells_of) rfl rfl]
  generalize pcall η 0 F (n + 1) = Φ at *
  show endR (pSs η 0 Φ ir_cells_of ⟨[some b], none⟩) = _
  unfold ir_cells_of
  walk_at "pv"
theorem badc1 (η : Sto) (n : Nat) (h : 2 ≤ n) : pcall η 0 F n 10 [.tup [.tup [.str "a", .int 1], .tup [.str "a", .int 1]]] = .val (.bl false) := by
  obtain ⟨n, rfl⟩ : ∃ j, n = j + 2 := ⟨n - 2, by omega⟩
  kernel_rfl
theorem badc2 (η : Sto) (n : Nat) (h : 2 ≤ n) : pcall η 0 F n 10 [.tup [.tup [.str "a", .int 1000000001]]] = .val (.bl false) := by
  obtain ⟨n, rfl⟩ : ∃ j, n = j + 2 := ⟨n - 2, by omega⟩
  kernel_rfl
theorem badc3 (η : Sto) (n : Nat) (h : 2 ≤ n) : pcall η 0 F n 10 [.cl []] = .val (.bl false) := by
  obtain ⟨n, rfl⟩ : ∃ j, n = j + 2 := ⟨n - 2, by omega⟩
  kernel_rfl
theorem badc4 (η : Sto) (n : Nat) (h : 2 ≤ n) : pcall η 0 F n 10 [.tup [.tup [.str "A", .int 1]]] = .val (.bl false) := by
  obtain ⟨n, rfl⟩ : ∃ j, n = j + 2 := ⟨n - 2, by omega⟩
  kernel_rfl
/-- what is no formula -/
inductive Bad (f : Fo) : T → Prop
  | b1 : Bad f .non | b2 : Bad f (.tup []) | b3 : Bad f (.tup [.str "number"]) | b4 : Bad f (.tup [.str "number", .int (-1)]) | b5 : Bad f (.tup [.str "number", .bl true])
  | b6 : Bad f (.tup [.str "number", .int 1000000001]) | b7 : Bad f (.tup [.str "cell", .str "if"]) | b8 : Bad f (.tup [.str "cell", .str ""]) | b9 : Bad f (.tup [.str "+", f.t])
  | b10 : Bad f (.tup [.str "/", .tup [.str "number", .int 1], .tup [.str "number", .int 1]]) | b11 : Bad f (.cl [.str "number", .int 1])
theorem bad_no (η : Sto) (n : Nat) {f : Fo} {b : T} (h : Bad f b) : pcall η 0 F (n + 3) 5 [b] = .val (.bl false) := by
  cases h <;> kernel_rfl
end K07

set_option maxHeartbeats 400000
namespace K07
open PySem PySem.Spec PyProof.Rows L2 TL
theorem F13 : F[13]? = some ⟨2, 3, irRoll⟩ := by rfl
theorem F14 : F[14]? = some ⟨2, 2, irPick 13⟩ := by rfl
theorem F12 : F[12]? = some ⟨2, 5, irDice⟩ := by rfl
/-- the store after some draws -/
theorem gp {η : Sto} {a : Addr} {xs : List T} (hg : get η a = some (.lst xs)) (ys : List T) : get (put η a (.lst ys)) a = some (.lst ys) := by
  rw [get_put_same, hg]
  rfl
/-- what follows -/
def Nxt (Φ : Nat → List T → Sto → KX → KE → Prop) (r : Ss) (D : Dn) (N : TL.Env → Sto → Prop) : Prop := ∀ ρ' η', wSs Φ r D ρ' η' → N ρ' η'
theorem Nxt.go {Φ : Nat → List T → Sto → KX → KE → Prop} {r : Ss} {D : Dn} {N : TL.Env → Sto → Prop} (h : Nxt Φ r D N) {ρ' : TL.Env} {η' : Sto} (w : wSs Φ r D ρ' η') : N ρ' η' := h _ _ w
theorem st1 {Φ : Nat → List T → Sto → KX → KE → Prop} {s : S} {r : Ss} {D : Dn} {ρ : TL.Env} {η : Sto} (h : ∀ N : TL.Env → Sto → Prop, Nxt Φ r D N → wS Φ s ⟨N, D.rt, D.bk, D.ct, D.X⟩ ρ η) : wSs Φ (.cons s r) D ρ η := h _ fun _ _ z => z
/-- a test -/
theorem iff_split {Φ : Nat → List T → Sto → KX → KE → Prop} {c : TL.C} {a b : Ss} {D : Dn} {ρ : TL.Env} {η : Sto} (P : Bool → Sto → Prop) (h : ∀ K : Bool → Sto → Prop, (∀ k η', P k η' → K k η') → wC Φ c ρ η D.X K)
    (k1 : ∀ η', P true η' → wSs Φ a D ρ η') (k2 : ∀ η', P false η' → wSs Φ b D ρ η') : wS Φ (.iff c a b) D ρ η := h _ fun k η' p => match k, p with
  | true, p => k1 _ p
  | false, p => k2 _ p
theorem leaf_ok {n m : Nat} {a : Addr} {η : Sto} {D : Dn} {xs : List T} {v1 v2 : Option T} (hg : get η a = some (.lst xs)) (hd : Dice m xs) (hm : m + 3 ≤ 2 ^ 60)
    (hK : ∀ ys (f : Fo), f.Good → f.dep ≤ 1 → Dice (m + 3) ys → D.rt f.t (put η a (.lst ys))) :
    wSs (wcall F (n + 2)) (.cons (.iff (.cmp .eq (.call 13 (.cons (.var 0) (.cons (.cst (.int 2)) .nil))) (.cst (.int 0)))
     (.cons (.ret (.tup (.cons (.cst (.str "number")) (.cons (.call 14 (.cons (.var 0) (.cons (.lstV (.cons (.cst (.int 0)) (.cons (.cst (.int 1)) (.cons (.cst (.int 2)) (.cons (.cst (.int 7)) (.cons (.cst (.int 1000000000)) (.cons (.call 13 (.cons (.var 0) (.cons (.cst (.int 1000000001)) .nil))) .nil))))))) .nil))) .nil))))
      .nil)
     .nil)
    (.cons (.ret (.tup (.cons (.cst (.str "cell")) (.cons (.call 14 (.cons (.var 0) (.cons (.lstV (.cons (.cst (.str "a")) (.cons (.cst (.str "b")) (.cons (.cst (.str "cost")) (.cons (.cst (.str "iff")) .nil))))) .nil))) .nil))))
    .nil)) D ⟨[some (.ref a), v1, v2], none⟩ η := by
  refine st1 fun N hN => ?_
  refine iff_split (fun k η' => ∃ ys, η' = put η a (.lst ys) ∧ Dice (m + 1) ys) (fun K hK => ?_) (fun η' ⟨ys, e, hy⟩ => ?_) (fun η' ⟨ys, e, hy⟩ => ?_)
  · walk_at "ev"
    refine roll_ok F13 (m := m) (by omega) hg hd (by decide) (by decide) fun ys w hy w0 w1 => ?_
    exact ⟨rfl, hK _ _ ⟨ys, rfl, hy⟩⟩
  · subst e
    clear hN
    walk_at "ev"
    refine roll_ok F13 (m := m + 1) (by omega) (gp hg _) hy (by decide) (by decide) fun ys2 r hy2 r0 r1 => ?_
    rw [put_put]
    refine pick_ok F14 F13 (m := m + 2) (by omega) (gp hg _) hy2 (by simp) (by simp) fun ys3 k t hy3 ht => ?_
    rw [put_put]
    match k, ht with
    | 0, ht => cases ht; exact hK ys3 (.num 0) ⟨by omega, by omega⟩ (Nat.le_refl _) hy3
    | 1, ht => cases ht; exact hK ys3 (.num 1) ⟨by omega, by omega⟩ (Nat.le_refl _) hy3
    | 2, ht => cases ht; exact hK ys3 (.num 2) ⟨by omega, by omega⟩ (Nat.le_refl _) hy3
    | 3, ht => cases ht; exact hK ys3 (.num 7) ⟨by omega, by omega⟩ (Nat.le_refl _) hy3
    | 4, ht => cases ht; exact hK ys3 (.num 1000000000) ⟨by omega, by omega⟩ (Nat.le_refl _) hy3
    | 5, ht => cases ht; exact hK ys3 (.num r) ⟨by omega, by omega⟩ (Nat.le_refl _) hy3
    | k + 6, ht => cases ht
  · subst e
    refine hN.go ?_
    clear hN
    walk_at "ev"
    refine pick_ok F14 F13 (m := m + 1) (by omega) (gp hg _) hy (by simp) (by simp) fun ys3 k t hy3 ht => ?_
    rw [put_put]
    have hy3 := hy3.mono (show m + 1 + 1 ≤ m + 3 by omega)
    match k, ht with
    | 0, ht => cases ht; exact hK ys3 (.cell "a") .a (Nat.le_refl _) hy3
    | 1, ht => cases ht; exact hK ys3 (.cell "b") .b (Nat.le_refl _) hy3
    | 2, ht => cases ht; exact hK ys3 (.cell "cost") .c (Nat.le_refl _) hy3
    | 3, ht => cases ht; exact hK ys3 (.cell "iff") .d (Nat.le_refl _) hy3
    | k + 4, ht => cases ht
theorem form_ind (D : Nat) : ∀ (d n : Nat) {m : Nat} {a : Addr} {η : Sto} {X : KX} {K : KE} {xs : List T}, d ≤ D → 1 ≤ d → get η a = some (.lst xs) → Dice m xs → m + 8 ^ d ≤ 2 ^ 60 →
    (∀ ys (f : Fo), f.Good → f.dep ≤ d → Dice (m + 8 ^ d) ys → K f.t (put η a (.lst ys))) → ∀ (N : Nat) (i : Int), N = n + d + 2 → i = d → wcall F N 15 [.ref a, .int i] η X K := by
  induction D with
  | zero => intros; omega
  | succ D ih =>
    intro d n m a η X K xs hD h1 hg hd hm hK _ _ h2 h3
    subst h2 h3
    obtain ⟨d, rfl⟩ : ∃ e, d = e + 1 := ⟨d - 1, by omega⟩
    refine call_ (d := fdOf d__law_formula) rfl rfl ?_
    show wSs (wcall F (n + d + 2)) ir__law_formula _ ⟨[some (.ref a), some (.int ((d + 1 : Nat) : Int)), none], none⟩ η
    unfold ir__law_formula
    have p8 : 8 ^ (d + 1) = 8 * 8 ^ d := by rw [Nat.pow_succ]; omega
    have p0 : 1 ≤ 8 ^ d := Nat.pow_pos (by decide)
    refine st1 fun N hN => one_set ?_
    walk_at "ev"
    refine roll_ok F13 (m := m) (by omega) hg hd (by decide) (by decide) fun ys w hy w0 w1 => ?_
    refine hN.go ?_
    clear hN
    refine st1 fun N hN => ?_
    refine iff_split (fun k η' => η' = put η a (.lst ys) ∧ (k = false → d ≠ 0)) (fun K hK => ?_) (fun η' ⟨e, _⟩ => ?_) (fun η' ⟨e, hk⟩ => ?_)
    · walk_at "ev"
      refine ⟨rfl, ?_⟩
      rw [yq_int]
      by_cases h1 : ((d + 1 : Nat) : Int) = 1
      · rw [decide_eq_true h1]
        exact hK _ _ ⟨rfl, fun h => by cases h⟩
      · rw [decide_eq_false h1]
        walk_at "ev"
        exact hK _ _ ⟨rfl, fun _ => by omega⟩
    · subst e
      refine leaf_ok (n := n + d) (gp hg ys) hy (by omega) fun ys2 f gf df hy2 => ?_
      rw [put_put]
      exact hK ys2 f gf (by omega) (hy2.mono (by omega))
    · subst e
      refine hN.go ?_
      clear hN
      have d1 : 1 ≤ d := by have := hk rfl; omega
      have p1 : 8 ≤ 8 ^ d := by
        have := Nat.pow_le_pow_right (n := 8) (by decide) d1
        omega
      have ed : (((d + 1 : Nat) : Int) - 1) = ((d : Nat) : Int) := by omega
      have last : ∀ {m' : Nat} {ys' : List T} {K' : KE}, m' + 8 ^ d ≤ m + 8 ^ (d + 1) → Dice m' ys' → (∀ ys (f : Fo), f.Good → f.dep ≤ d → Dice (m' + 8 ^ d) ys → K' f.t (put η a (.lst ys))) →
          (if (2 : Int) < ((d + 1 : Nat) : Int) then wcall F (n + d + 2) 15 [T.ref a, T.int (((d + 1 : Nat) : Int) - 2)] (put η a (.lst ys')) X K' else wcall F (n + d + 2) 15 [T.ref a, T.int 1] (put η a (.lst ys')) X K') := by
        intro m' ys' K' hm' hy' hK'
        by_cases h3 : (2 : Int) < ((d + 1 : Nat) : Int)
        · rw [if_pos h3]
          obtain ⟨e, rfl⟩ : ∃ e, d = e + 2 := ⟨d - 2, by omega⟩
          have ee : (((e + 2 + 1 : Nat) : Int) - 2) = ((e + 1 : Nat) : Int) := by omega
          have q : 8 ^ (e + 1) ≤ 8 ^ (e + 2) := Nat.pow_le_pow_right (by decide) (by omega)
          refine ih (e + 1) (n + 1) (m := m') (by omega) (by omega) (gp hg _) hy' (by omega) (fun ys2 f gf df hy2 => ?_) _ _ (by omega) ee
          rw [put_put]
          exact hK' ys2 f gf (by omega) (hy2.mono (by omega))
        · rw [if_neg h3]
          refine ih 1 (n + d - 1) (m := m') (by omega) (by omega) (gp hg ys') hy' (by omega) (fun ys2 f gf df hy2 => ?_) _ _ (by omega) rfl
          rw [put_put]
          exact hK' ys2 f gf (by omega) (hy2.mono (by omega))
      refine st1 fun N hN => ?_
      refine iff_split (fun k η' => η' = put η a (.lst ys)) (fun K hK => ?_) (fun η' e => ?_) (fun η' e => ?_)
      · walk_at "ev"
        first
          | exact rfl
          | exact ⟨rfl, hK _ _ rfl⟩
      · subst e
        clear hN
        walk_at "ev"
        refine ih d n (m := m + 1) (by omega) d1 (gp hg _) hy (by omega) (fun ys2 f1 g1 e1 hy2 => ?_) _ _ rfl rfl
        rw [put_put]
        refine ih 1 (n + d - 1) (m := m + 1 + 8 ^ d) (by omega) (by omega) (gp hg ys2) hy2 (by omega) (fun ys3 f2 g2 e2 hy3 => ?_) _ _ (by omega) rfl
        rw [put_put]
        have hy3 := hy3.mono (show m + 1 + 8 ^ d + 8 ^ 1 ≤ m + 1 + 8 ^ d + 8 by omega)
        refine last (m' := m + 1 + 8 ^ d + 8) (by omega) hy3 fun ys4 f3 g3 e3 hy4 => ?_
        exact hK ys4 (.iff f1 f2 f3) ⟨g1, g2, g3⟩ (by simp only [Fo.dep]; omega) (hy4.mono (by omega))
      · subst e
        refine hN.go ?_
        clear hN
        walk_at "ev"
        refine pick_ok F14 F13 (m := m + 1) (by omega) (gp hg _) hy (by simp) (by simp) fun ys2 k t hy2 ht => ?_
        rw [put_put]
        have sg : ∃ s, t = .str s ∧ Sg s := by
          match k, ht with
          | 0, ht => cases ht; exact ⟨_, rfl, .a⟩
          | 1, ht => cases ht; exact ⟨_, rfl, .b⟩
          | 2, ht => cases ht; exact ⟨_, rfl, .c⟩
          | 3, ht => cases ht; exact ⟨_, rfl, .d⟩
          | 4, ht => cases ht; exact ⟨_, rfl, .e⟩
          | 5, ht => cases ht; exact ⟨_, rfl, .f⟩
          | k + 6, ht => cases ht
        obtain ⟨s, rfl, sg⟩ := sg
        refine ih d n (m := m + 1 + 1) (by omega) d1 (gp hg _) hy2 (by omega) (fun ys3 f1 g1 e1 hy3 => ?_) _ _ rfl rfl
        rw [put_put]
        refine last (m' := m + 1 + 1 + 8 ^ d) (by omega) hy3 fun ys4 f2 g2 e2 hy4 => ?_
        exact hK ys4 (.op s f1 f2) ⟨sg, g1, g2⟩ (by simp only [Fo.dep]; omega) (hy4.mono (by omega))
theorem form_ok (d n : Nat) {m : Nat} {a : Addr} {η : Sto} {X : KX} {K : KE} {xs : List T} (h1 : 1 ≤ d) (hg : get η a = some (.lst xs)) (hd : Dice m xs) (hm : m + 8 ^ d ≤ 2 ^ 60)
    (hK : ∀ ys (f : Fo), f.Good → f.dep ≤ d → Dice (m + 8 ^ d) ys → K f.t (put η a (.lst ys))) (N : Nat) (i : Int) (hN : N = n + d + 2) (hi : i = d) : wcall F N 15 [.ref a, .int i] η X K :=
  form_ind d d n (Nat.le_refl _) h1 hg hd hm hK N i hN hi
end K07

set_option maxHeartbeats 40000
local macro_rules | `(tactic| walk_at "ev") => `(tactic| simp only [↓TL.r_wE_var, ↓TL.r_wE_cst, ↓TL.r_wE_gcst, ↓TL.r_wE_tup, ↓TL.r_wE_lst, ↓TL.r_wE_lstV, ↓TL.r_wE_bin, ↓TL.r_wE_neg, ↓TL.r_wE_cat, ↓TL.r_wE_catV, ↓TL.r_wE_cmp, ↓TL.r_wE_chain, ↓TL.r_wE_and, ↓TL.r_wE_or, ↓TL.r_wE_not, ↓TL.r_wE_ite, ↓TL.r_wE_idx, ↓TL.r_wE_slc, ↓TL.r_wE_slcM, ↓TL.r_wE_isinst, ↓TL.r_wE_call, ↓TL.r_wE_callK, ↓TL.r_wE_lc, ↓TL.r_wE_lcM, ↓TL.r_wE_agg, ↓TL.r_wE_blt, ↓TL.r_wE_mth, ↓TL.r_wE_lenSet, ↓TL.r_wE_hof, ↓TL.r_wE_exc, ↓TL.r_wE_frz, ↓TL.r_wE_weak, ↓TL.r_wEs_nil, ↓TL.r_wEs_cons, ↓TL.r_wC_and, ↓TL.r_wC_or, ↓TL.r_wC_not, ↓TL.r_wC_val, ↓TL.r_wC_tt, ↓TL.r_wC_cmp, ↓TL.r_wC_chain, ↓TL.r_wI_seq, ↓TL.r_wI_chars, ↓TL.r_wI_range, ↓TL.r_wI_range2, ↓TL.r_wI_zip, ↓TL.r_wI_enum, ↓TL.r_wO_no, ↓TL.r_wO_some, ↓TL.r_wS_expr, ↓TL.r_wS_ret, ↓TL.r_wS_retN, ↓TL.r_wS_set, ↓TL.r_wS_par, ↓TL.r_wS_unp, ↓TL.r_wS_setIdx, ↓TL.r_wS_iff, ↓TL.r_wS_for, ↓TL.r_wS_while, ↓TL.r_wS_brk, ↓TL.r_wS_cont, ↓TL.r_wS_pass, ↓TL.r_wS_raise, ↓TL.r_wS_tryE, ↓TL.r_wS_weak, ↓TL.r_wSs_nil, ↓TL.r_wSs_cons, ↓TL.f_bop, ↓TL.f_cop, ↓TL.f_agg, ↓TL.f_aggM, TL.v_addI, TL.v_subI, TL.v_mulI, TL.v_fdivI, TL.v_modI, TL.v_powI, TL.g_addI, TL.g_sub, TL.g_mulI, TL.g_fdivI, TL.g_modI, TL.g_powI, TL.c_gtI, TL.c_ltI, TL.c_leI, TL.c_geI, TL.c_eq, TL.c_ne, TL.c_isN, TL.c_notN, TL.c_inS, TL.c_ninS, TL.cg_gt, TL.cg_lt, TL.cg_le, TL.cg_ge, TL.cg_isN, TL.cg_notN, TL.cg_eq, TL.cg_ne, TL.cg_inS, TL.cg_ninS, TL.b_intI, TL.b_intB, TL.b_abs, TL.b_len, TL.b_max2, TL.b_min2, TL.l_str, TL.l_tup, TL.l_cl, TL.seq_ref, TL.l_ref, TL.i_tup, TL.i_cl, TL.i_ref, TL.f_set, TL.t_non, TL.t_bl, TL.t_int, TL.t_tup, TL.t_cl, TL.seq_tup, TL.seq_cl, TL.d_ref, TL.get_cons, TL.d_non, TL.d_bl, TL.d_int, TL.d_str, TL.d_tup, TL.d_cl, TL.get_put_same, TL.put_put, Int.cast_ofNat_Int, Int.natCast_zero, Int.natCast_one, List.length_cons, List.length_nil, List.getD_cons_zero, List.getD_cons_succ, List.getElem?_cons_zero, List.getElem?_cons_succ, List.map_cons, List.map_nil, List.replicate, List.cons_append, List.nil_append, Nat.reduceAdd, Nat.reduceSub, Nat.reduceLT, Int.reduceLE, Int.reduceLT, Int.reduceNeg, Int.reduceToNat, Nat.reduceLeDiff, if_true, if_false, ite_true, ite_false, List.set_cons_zero, List.set_cons_succ, Option.map_some, Option.map_none, Option.bind_some, Option.bind_none, true_and, and_true, ne_eq, not_false_eq_true, reduceCtorEq, TL.lstAt, TL.nth, TL.setv, TL.Env.put, L2.atI, L2.ixN, ↓TL.optF_I, TL.optQ_some, TL.optQ_none, ↓TL.ifB_I, TL.ifQ_true, TL.ifQ_false, TL.ifQ_dec, decide_true, decide_false, Bool.not_true, Bool.not_false, Int.reduceEq, TL.srcOf, TL.bindTg, TL.intV, TL.strV, TL.x_slcC, TL.x_slcT, TL.x_lstC, TL.negV, TL.isT, *])
namespace K07
open PySem PySem.Spec PyProof.Rows L2 TL
theorem eqv_tv (v : Option Int) : eqv (tv v) (tv v) = true := by
  cases v with
  | none => rfl
  | some i => unfold tv; rw [yq_int]; simp
theorem eqok_tv (v : Option Int) : eqOk (tv v) (tv v) = true := by cases v <;> rfl
theorem der_tv (η : Sto) (v : Option Int) : deref η (tv v) = tv v := by cases v <;> rfl
theorem isb_tv (η : Sto) (v : Option Int) : TL.isT η .bool (tv v) = some false := by cases v <;> rfl
theorem eqvs_strs : ∀ l : List Str, eqvs (l.map .str) (l.map .str) = true
  | [] => rfl
  | x :: l => by
    show (eqv (.str x) (.str x) && eqvs (l.map .str) (l.map .str)) = true
    rw [eqvs_strs l, yq_str]
    simp
theorem eqok_strs (l : List Str) : eqOk (.tup (l.map .str)) (.tup (l.map .str)) = true := by
  have h1 : dat (.tup (l.map .str)) = true := dats_strs
  have h2 : dep (.tup (l.map .str)) = 1 := by
    show deps (l.map .str) + 1 = 1
    rw [deps_strs]
  unfold eqOk
  rw [h1, h2]
  rfl
def deepT : Nat → T
  | 0 => .tup [.str "number", .int 1]
  | n + 1 => .tup [.str "-", deepT n, .tup [.str "number", .int 1]]
theorem work_deep (η : Sto) : pcall η 0 F 19 11 [deepT 11, .tup []] = .val (.int (-10)) := by kernel_rfl
theorem work_deeper (η : Sto) : pcall η 0 F 19 11 [.tup [.str "+", deepT 11, .tup [.str "number", .int 0]], .tup []] = .exn 0 (.str "formula") := by kernel_rfl
theorem work_e1 (η : Sto) : pcall η 0 F 19 11 [.tup [.str "if", .tup [.str "number", .int 0], .tup [.str "//", .tup [.str "number", .int 1], .tup [.str "number", .int 0]], .tup [.str "number", .int 4]], .tup []] = .val (.int 4) := by kernel_rfl
theorem work_e2 (η : Sto) : pcall η 0 F 19 11 [.tup [.str "//", .tup [.str "-", .tup [.str "number", .int 0], .tup [.str "number", .int 7]], .tup [.str "number", .int 2]], .tup []] = .val (.int (-4)) := by kernel_rfl
/-- the cells that are drawn -/
structure CI (f : Fo) (p q : Addr) (rest : List T) (η : Sto) : Prop where
  st : ∃ (ss : List Str) (cs : Cs) (ys : List T), rest = ss.map .str ∧ (cs.nms ++ ss).Nodup ∧ (∀ s ∈ cs.nms ++ ss, Cn s) ∧ cs.Ok ∧ cs.length + ss.length ≤ 4 ∧ get η p = some (.lst ys) ∧ Dice (3000000 + 10 * (4 - ss.length)) ys ∧ get η q = some (.lst cs.t)
theorem Cs.t_app (cs : Cs) (s : Str) (v : Option Int) : Cs.t (cs ++ [(s, v)]) = cs.t ++ [.tup [.str s, tv v]] := by
  unfold Cs.t
  rw [List.map_append]
  rfl
abbrev Sl := List (Option T)
/-- one cell or none -/
theorem cell_step {Φ : Nat → List T → Sto → KX → KE → Prop} {f : Fo} {p q : Addr} {s : Str} {ss : List T} {η : Sto} {D : Dn} {v : Sl} (hpq : p ≠ q) (h4 : nth v 4 = some (.ref q)) (h2 : nth v 2 = some (.ref p)) (h5 : nth v 5 = some (.str s))
    (hr : ∀ {m : Nat} {a : Addr} {t : Int} {η : Sto} {K : KE} {xs : List T}, m ≤ 2 ^ 60 → get η a = some (.lst xs) → Dice m xs → 0 < t → t < 2 ^ 60 → (∀ ys (r : Int), Dice (m + 1) ys → 0 ≤ r → r < t → K (.int r) (put η a (.lst ys))) → Φ 13 [.ref a, .int t] η D.X K)
    (hp : ∀ {m : Nat} {a : Addr} {things : List T} {η : Sto} {K : KE} {xs : List T}, m ≤ 2 ^ 60 → get η a = some (.lst xs) → Dice m xs → things ≠ [] → things.length < 2 ^ 60 → (∀ ys (k : Nat) t, Dice (m + 1) ys → things[k]? = some t → K t (put η a (.lst ys))) → Φ 14 [.ref a, .cl things] η D.X K)
    (I : CI f p q (.str s :: ss) η) (hN : ∀ η', CI f p q ss η' → D.nx ⟨v, none⟩ η') :
    wS Φ (.iff (.cmp .gt (.call 13 (.cons (.var 2) (.cons (.cst (.int 4)) .nil))) (.cst (.int 0)))
       (.cons (.expr (.mth .append (.var 4) (.cons (.tup (.cons (.var 5) (.cons (.call 14 (.cons (.var 2) (.cons (.lstV (.cons (.cst .non) (.cons (.cst (.int 0)) (.cons (.cst (.int 1)) (.cons (.neg (.cst (.int 1))) (.cons (.cst (.int 3)) (.cons (.neg (.cst (.int 1000000000))) (.cons (.bin .sub (.call 13 (.cons (.var 2) (.cons (.cst (.int 2001)) .nil))) (.cst (.int 1000))) .nil)))))))) .nil))) .nil))) .nil)))
        .nil)
       .nil) D ⟨v, none⟩ η := by
  obtain ⟨sl, cs, ys, e, nd, cn, ok, ln, gp1, dc, gq⟩ := I.st
  cases sl with
  | nil => cases e
  | cons x sl =>
    cases e
    simp only [List.length_cons] at ln dc
    walk_at "ev"
    refine hr (m := 3000000 + 10 * (4 - (sl.length + 1))) (by omega) gp1 dc (by decide) (by decide) fun ys1 r d1 r0 r1 => ?_
    walk_at "ev"
    by_cases h : 0 < r
    · rw [if_pos h]
      have gq1 : get (put η p (.lst ys1)) q = some (.lst cs.t) := by rw [get_put_ne (Ne.symm hpq)]; exact gq
      refine ⟨?_, ?_⟩
      · show (match get (put η p (.lst ys1)) q with
          | some (.lst _) => true
          | _ => false) = true
        rw [gq1]
      refine hr (m := 3000000 + 10 * (4 - (sl.length + 1)) + 1) (by omega) (gp gp1 _) d1 (by decide) (by decide) fun ys2 r2 d2 q0 q1 => ?_
      rw [put_put]
      walk_at "ev"
      refine hp (m := 3000000 + 10 * (4 - (sl.length + 1)) + 2) (by omega) (gp gp1 _) d2 (by simp) (by simp) fun ys3 k t d3 ht => ?_
      rw [put_put]
      have tvv : ∃ w, t = tv w ∧ ∀ v, w = some v → v.natAbs ≤ 1000000000 := by
        match k, ht with
        | 0, ht => cases ht; exact ⟨none, rfl, fun _ h => by cases h⟩
        | 1, ht => cases ht; exact ⟨some _, rfl, fun _ h => by cases h; decide⟩
        | 2, ht => cases ht; exact ⟨some _, rfl, fun _ h => by cases h; decide⟩
        | 3, ht => cases ht; exact ⟨some _, rfl, fun _ h => by cases h; decide⟩
        | 4, ht => cases ht; exact ⟨some _, rfl, fun _ h => by cases h; decide⟩
        | 5, ht => cases ht; exact ⟨some _, rfl, fun _ h => by cases h; decide⟩
        | 6, ht => cases ht; exact ⟨some _, rfl, fun _ h => by cases h; omega⟩
        | k + 7, ht => cases ht
      obtain ⟨w, rfl, hw⟩ := tvv
      have gq3 : get (put η p (.lst ys3)) q = some (.lst cs.t) := by rw [get_put_ne (Ne.symm hpq)]; exact gq
      have ct : cs.t.length = cs.length := List.length_map ..
      have sz : 1000 ≤ sizeLine := by decide
      refine ⟨?_, ?_⟩
      · show match get (put η p (.lst ys3)) q with
          | some (.lst xs) => xs.length < sizeLine
          | _ => True
        rw [gq3]
        show cs.t.length < sizeLine
        omega
      · show optF (match get (put η p (.lst ys3)) q with
          | some (.lst xs) => some (T.non, put (put η p (.lst ys3)) q (.lst (xs ++ [.tup [.str s, tv w]])))
          | _ => none) _
        rw [gq3]
        show D.nx ⟨v, none⟩ _
        refine hN _ ⟨sl, cs ++ [(s, w)], ys3, rfl, ?_, ?_, ?_, ?_, ?_, ?_, ?_⟩
        · show ((cs ++ [(s, w)]).map (·.1) ++ sl).Nodup
          rw [List.map_append, List.append_assoc]
          exact nd
        · show ∀ x ∈ (cs ++ [(s, w)]).map (·.1) ++ sl, Cn x
          rw [List.map_append, List.append_assoc]
          exact cn
        · intro z hz v e
          rcases List.mem_append.mp hz with hz | hz
          · exact ok z hz v e
          · rw [List.mem_singleton.mp hz] at e
            exact hw v e
        · rw [List.length_append]
          show cs.length + 1 + sl.length ≤ 4
          omega
        · rw [get_put_ne hpq]
          exact gp gp1 _
        · exact d3.mono (by omega)
        · rw [get_put_same, gq3, Cs.t_app]
          rfl
    · rw [if_neg h]
      refine hN _ ⟨sl, cs, ys1, rfl, ?_, ?_, ok, by omega, gp gp1 _, d1.mono (by omega), ?_⟩
      · exact List.nodup_append.mpr ⟨(List.nodup_append.mp nd).1, (List.nodup_cons.mp (List.nodup_append.mp nd).2.1).2, fun a ha b hb => (List.nodup_append.mp nd).2.2 a ha b (List.mem_cons_of_mem _ hb)⟩
      · exact fun x hx => cn x (by
          rcases List.mem_append.mp hx with hx | hx
          · exact List.mem_append_left _ hx
          · exact List.mem_append_right _ (List.mem_cons_of_mem _ hx))
      · rw [get_put_ne (Ne.symm hpq)]
        exact gq
def Turn (u : T) (N : TL.Env → Sto → Prop) : Prop := ∀ w1 w2 w3 w4 w5 w6 w7 w8 w9 w10 w11 η, N ⟨[some u, w1, w2, w3, w4, w5, w6, w7, w8, w9, w10, w11], none⟩ η
theorem for_split {Φ : Nat → List T → Sto → KX → KE → Prop} {tg : Tg} {it : TL.It} {b : Ss} {D : Dn} {ρ : TL.Env} {η : Sto} (P : List T → Option Addr → Sto → Prop) (h : ∀ K, (∀ ts sr η', P ts sr η' → K ts sr η') → wI Φ it ρ η D.X K)
    (k : ∀ ts sr η', P ts sr η' → wfor (stays sr ts) tg (fun D' ρ' η' => wSs Φ b D' ρ' η') D ts ρ η') : wS Φ (.for tg it b) D ρ η := h _ k
theorem range_ints (n : Nat) : ∀ x ∈ rangeL 0 n, ∃ k : Nat, x = .int k ∧ k < n := by
  intro x hx
  unfold rangeL at hx
  obtain ⟨k, hk, rfl⟩ := List.mem_map.mp hx
  exact ⟨k, by simp, List.mem_range.mp hk⟩
def dropN : Nat → Ss → Ss
  | 0, s => s
  | n + 1, .cons _ r => dropN n r
  | _ + 1, .nil => .nil
def forBody : Ss → Ss
  | .cons (.for _ _ b) _ => b
  | _ => .nil
/-- the machine of calls, as far as it is known -/
structure Mach (Φ : Nat → List T → Sto → KX → KE → Prop) : Prop where
  roll : ∀ {m : Nat} {a : Addr} {t : Int} {η : Sto} {X : KX} {K : KE} {xs : List T}, m ≤ 2 ^ 60 → get η a = some (.lst xs) → Dice m xs → 0 < t → t < 2 ^ 60 → (∀ ys (r : Int), Dice (m + 1) ys → 0 ≤ r → r < t → K (.int r) (put η a (.lst ys))) → Φ 13 [.ref a, .int t] η X K
  pick : ∀ {m : Nat} {a : Addr} {things : List T} {η : Sto} {X : KX} {K : KE} {xs : List T}, m ≤ 2 ^ 60 → get η a = some (.lst xs) → Dice m xs → things ≠ [] → things.length < 2 ^ 60 → (∀ ys (k : Nat) t, Dice (m + 1) ys → things[k]? = some t → K t (put η a (.lst ys))) → Φ 14 [.ref a, .cl things] η X K
  dice : ∀ {ns : List Int} {spot : Int} {η : Sto} {X : KX} {K : KE}, 0 ≤ spot → spot < 2 ^ 30 → ns.length ≤ 63 → (∀ p ys, get η p = none → Dice 0 ys → K (.ref p) ((p, .lst ys) :: η)) → Φ 12 [.cl (ns.map .int), .int spot] η X K
  form : ∀ {d m : Nat} {a : Addr} {η : Sto} {X : KX} {K : KE} {xs : List T} {i : Int}, 1 ≤ d → d ≤ 7 → get η a = some (.lst xs) → Dice m xs → m + 8 ^ d ≤ 2 ^ 60 → (∀ ys (f : Fo), f.Good → f.dep ≤ d → Dice (m + 8 ^ d) ys → K f.t (put η a (.lst ys))) → i = d → Φ 15 [.ref a, .int i] η X K
  val : ∀ {f : Nat} {ts : List T} {t : T} {η : Sto} {X : KX} {K : KE}, pcall η 0 F 19 f ts = .val t → K t η → Φ f ts η X K
  exn : ∀ {f : Nat} {ts : List T} {c : Nat} {t : T} {η : Sto} {X : KX} {K : KE}, pcall η 0 F 19 f ts = .exn c t → X ⟨c, t⟩ η → Φ f ts η X K
theorem mach : Mach (wcall F 19) where
  roll := fun a b c d e f => roll_ok F13 a b c d e f
  pick := fun a b c d e f => pick_ok F14 F13 a b c d e f
  dice := fun a b c d => dice_ok F12 a b c d
  form := fun {d _ _ _ _ _ _ _} a b c e f g h => form_ok d (17 - d) a c e f g _ _ (by omega) h
  val := fun a b => pcall_val (fu := 0) a b
  exn := fun a b => pcall_exn (fu := 0) a b
def bads (f : T) : List T := [.non, .tup [], .tup [.str "number"], .tup [.str "number", .int (-1)], .tup [.str "number", .bl true], .tup [.str "number", .int 1000000001], .tup [.str "cell", .str "if"], .tup [.str "cell", .str ""], .tup [.str "+", f],
  .tup [.str "/", .tup [.str "number", .int 1], .tup [.str "number", .int 1]], .cl [.str "number", .int 1]]
theorem bad_of {f : Fo} {k : Nat} {b : T} (hb : (bads f.t)[k]? = some b) : Bad f b := by
  match k, hb with
  | 0, hb => cases hb; exact .b1
  | 1, hb => cases hb; exact .b2
  | 2, hb => cases hb; exact .b3
  | 3, hb => cases hb; exact .b4
  | 4, hb => cases hb; exact .b5
  | 5, hb => cases hb; exact .b6
  | 6, hb => cases hb; exact .b7
  | 7, hb => cases hb; exact .b8
  | 8, hb => cases hb; exact .b9
  | 9, hb => cases hb; exact .b10
  | 10, hb => cases hb; exact .b11
  | k + 11, hb => cases hb
theorem bads_ok {Φ : Nat → List T → Sto → KX → KE → Prop} (M : Mach Φ) {f : Fo} {p : Addr} {η : Sto} {m : Nat} {xs : List T} {X : KX} {K : KE} {ρ : TL.Env} (h3 : nth ρ.v 3 = some f.t) (h2 : nth ρ.v 2 = some (.ref p)) (hm : m ≤ 2 ^ 60) (hg : get η p = some (.lst xs)) (hd : Dice m xs)
    (hK : ∀ ys b, Bad f b → K b (put η p (.lst ys))) : wE Φ (.call 14 (.cons (.var 2) (.cons (.lstV (.cons (.cst .non) (.cons (.tup .nil) (.cons (.tup (.cons (.cst (.str "number")) .nil)) (.cons (.tup (.cons (.cst (.str "number")) (.cons (.neg (.cst (.int 1))) .nil))) (.cons (.tup (.cons (.cst (.str "number")) (.cons (.cst (.bl true)) .nil))) (.cons (.tup (.cons (.cst (.str "number")) (.cons (.cst (.int 1000000001)) .nil))) (.cons (.tup (.cons (.cst (.str "cell")) (.cons (.cst (.str "if")) .nil))) (.cons (.tup (.cons (.cst (.str "cell")) (.cons (.cst (.str "")) .nil))) (.cons (.tup (.cons (.cst (.str "+")) (.cons (.var 3) .nil))) (.cons (.tup (.cons (.cst (.str "/")) (.cons (.tup (.cons (.cst (.str "number")) (.cons (.cst (.int 1)) .nil))) (.cons (.tup (.cons (.cst (.str "number")) (.cons (.cst (.int 1)) .nil))) .nil)))) (.cons (.lstV (.cons (.cst (.str "number")) (.cons (.cst (.int 1)) .nil))) .nil)))))))))))) .nil))) ρ η X K := by
  have go : Φ 14 [.ref p, .cl (bads f.t)] η X K := M.pick hm hg hd (by intro h; cases h) (by show 11 < 2 ^ 60; decide) fun ys k b _ hb => hK ys b (bad_of hb)
  unfold bads at go
  walk_at "ev"
theorem told_ok {Φ : Nat → List T → Sto → KX → KE → Prop} (M : Mach Φ) {N : TL.Env → Sto → Prop} {rt : KE} {bk ct : TL.Env → Sto → Prop} {u0 : T} {v1 v2 v4 v5 v6 v7 v10 v11 : Option T} {f : Fo} {b : T} {η6 : Sto} (gf : f.Good) (df : f.dep ≤ 7) (sf : f.size ≤ 60) (bad : Bad f b) (hN : Turn u0 N) :
    wSs Φ (dropN 11 (forBody ir_law)) ⟨N, rt, bk, ct, fun _ _ => False⟩ ⟨[some u0, v1, v2, some f.t, v4, v5, v6, v7, some b, some (deepT 11), v10, v11], none⟩ η6 := by
  have hN : ∀ w1 w2 w3 w4 w5 w6 w7 w8 w9 w10 w11 η, N ⟨[some u0, w1, w2, w3, w4, w5, w6, w7, w8, w9, w10, w11], none⟩ η := hN
  have bn := bad_no η6 15 bad
  have w1 := work_nof η6 17 bn (.tup [])
  have w2 := cells_nof η6 17 bn
  have w3 := work_deeper η6
  have w4 := work_no η6 18 gf df sf (by omega) (badc1 η6)
  have w5 := work_no η6 18 gf df sf (by omega) (badc2 η6)
  have w6 := work_no η6 18 gf df sf (by omega) (badc3 η6)
  have w7 := work_no η6 18 gf df sf (by omega) (badc4 η6)
  have w8 := work_deep η6
  clear bn bad gf df sf
  revert w1 w2 w3 w4 w5 w6 w7 w8 hN
  generalize f.t = ft
  generalize deepT 11 = dt
  intro hN w1 w2 w3 w4 w5 w6 w7 w8
  have e1 : eqOk (.cl [.str "formula", .str "formula", .str "formula", .str "cells", .str "cells", .str "cells", .str "cells"]) (.cl [.str "formula", .str "formula", .str "formula", .str "cells", .str "cells", .str "cells", .str "cells"]) = true := by kernel_rfl
  have e2 : eqv (.cl [.str "formula", .str "formula", .str "formula", .str "cells", .str "cells", .str "cells", .str "cells"]) (.cl [.str "formula", .str "formula", .str "formula", .str "cells", .str "cells", .str "cells", .str "cells"]) = true := by kernel_rfl
  have e3 : eqOk (.int (-10)) (.int (-10)) = true := rfl
  have e4 : eqv (.int (-10)) (.int (-10)) = true := rfl
  simp only [ir_law, forBody, dropN]
  walk_at "ev"
  refine M.exn w1 ⟨rfl, ?_⟩
  refine M.exn w2 ⟨rfl, ?_⟩
  refine M.exn w3 ⟨rfl, ?_⟩
  refine M.exn w4 ⟨rfl, ?_⟩
  refine M.exn w5 ⟨rfl, ?_⟩
  refine M.exn w6 ⟨rfl, ?_⟩
  refine M.exn w7 ⟨rfl, ?_⟩
  walk_at "ev"
  refine M.val w8 ?_
  walk_at "ev"
theorem found_ok (Φ : Nat → List T → Sto → KX → KE → Prop) (f : T) (q : Addr) (η4 : Sto) (cs : List T) (ρ : TL.Env) (h3 : nth ρ.v 3 = some f) (h4 : nth ρ.v 4 = some (.ref q)) (ag : aggS .tuple η4 (.ref q) = some cs) (X : KX) (K : KE) (h : Φ 11 [f, .tup cs] η4 X K) :
    wE Φ (.callK 11 .nil (.cons (.agg .tuple (.var 4)) (.cons (.var 3) .nil)) [1, 0]) ρ η4 X K := by
  have ag2 : ∀ l : List T, aggV .tuple l = some (.tup l) := fun _ => rfl
  walk_at "ev"
theorem law_ok (ns : List Int) (hl : ns.length ≤ 63) : wcall F 20 19 [.cl (ns.map .int)] [] (fun _ _ => False) fun t _ => t = .bl true := by
  refine call_ (d := fdOf d_law) rfl rfl ?_
  have M := mach
  revert M
  generalize wcall F 19 = Φ
  intro M
  show wSs Φ ir_law _ ⟨[some (.cl (ns.map .int)), none, none, none, none, none, none, none, none, none, none, none], none⟩ []
  unfold ir_law
  refine st1 fun N hN => ?_
  have hlen : (ns.map T.int).length = ns.length := List.length_map ..
  refine for_split (fun ts sr η' => sr = none ∧ ∀ x ∈ ts, ∃ k : Nat, x = .int k ∧ k < 100) (fun K hK => ?_) fun ts sr η' ⟨hsr, hts⟩ => ?_
  · rw [r_wI_range]
    walk_at "ev"
    refine ⟨by unfold small; omega, hK _ _ _ ⟨rfl, fun x hx => ?_⟩⟩
    obtain ⟨k, hk, h2⟩ := range_ints _ x hx
    exact ⟨k, hk, by omega⟩
  subst hsr
  refine wfor_inv (fun rest v η => (∀ x ∈ rest, ∃ k : Nat, x = .int k ∧ k < 100) ∧ ∃ v1 v2 v3 v4 v5 v6 v7 v8 v9 v10 v11, v = [some (.cl (ns.map .int)), v1, v2, v3, v4, v5, v6, v7, v8, v9, v10, v11]) ?_ ?_ _ _ _ ⟨hts, _, _, _, _, _, _, _, _, _, _, _, rfl⟩
  · rintro x xs v η ⟨hx, v1, v2, v3, v4, v5, v6, v7, v8, v9, v10, v11, rfl⟩
    obtain ⟨spot, rfl, hsp⟩ := hx x List.mem_cons_self
    refine ⟨trivial, _, rfl, fun N2 hN2 => ?_⟩
    replace hN2 : Turn (.cl (ns.map .int)) N2 := fun w1 w2 w3 w4 w5 w6 w7 w8 w9 w10 w11 η => hN2 _ _ ⟨fun x h => hx x (List.mem_cons_of_mem _ h), _, _, _, _, _, _, _, _, _, _, _, rfl⟩
    clear hN hx
    -- the dice
    refine st1 fun N hN => one_set ?_
    walk_at "ev"
    refine M.dice (by omega) (by omega) hl fun p ys hp hd => ?_
    refine hN.go ?_
    clear hN
    -- the formula
    refine st1 fun N hN => one_set ?_
    walk_at "ev"
    have gp1 : get ((p, Ob.lst ys) :: η) p = some (.lst ys) := if_pos rfl
    refine M.roll (m := 0) (by omega) gp1 hd (by decide) (by decide) fun ys1 r d1 r0 r1 => ?_
    walk_at "ev"
    have p8 : 8 ^ (r.toNat + 1) ≤ 8 ^ 7 := Nat.pow_le_pow_right (by decide) (by omega)
    have p7 : 8 ^ 7 = 2097152 := by decide
    refine M.form (d := r.toNat + 1) (m := 1) (by omega) (by omega) (gp gp1 _) d1 (by omega) (fun ys2 f gf df d2 => ?_) (by omega)
    rw [put_put]
    have gp2 := gp gp1 ys2
    have d2 := d2.mono (show 1 + 8 ^ (r.toNat + 1) ≤ 3000000 by omega)
    refine hN.go ?_
    clear hN
    revert gp2
    generalize put ((p, Ob.lst ys) :: η) p (.lst ys2) = η2
    intro gp2
    clear gp1 hp
    -- not too many parts
    refine st1 fun N hN => ?_
    have hN : ∀ f' : Fo, f'.Good → f'.dep ≤ 7 → f'.size ≤ 60 → N ⟨[some (.cl (ns.map .int)), some (.int spot), some (.ref p), some f'.t, v4, v5, v6, v7, v8, v9, v10, v11], none⟩ η2 := fun f' g' d' s' => by
      refine hN.go ?_
      clear hN df gf
      clear f
      revert f' g' d' s'; intro f gf df sf
      -- the list of cells
      refine st1 fun N hN => one_set ?_
      walk_at "ev"
      intro q hq
      refine hN.go ?_
      clear hN
      have hpq : p ≠ q := by
        rintro rfl
        rw [gp2] at hq
        cases hq
      have gp3 : get ((q, Ob.lst []) :: η2) p = some (.lst ys2) := by rw [get_cons', if_neg hpq]; exact gp2
      have gq3 : get ((q, Ob.lst []) :: η2) q = some (.lst []) := if_pos rfl
      revert gp3 gq3
      generalize (q, Ob.lst []) :: η2 = η3
      intro gp3 gq3
      clear gp2 hq
      refine st1 fun N hN => ?_
      refine for_split (fun ts sr η' => sr = none ∧ ts = [.str "b", .str "a", .str "cost", .str "other"] ∧ η' = η3) (fun K hK => ?_) fun ts sr η' ⟨hsr, hts, he⟩ => ?_
      · rw [r_wI_seq]
        exact hK _ _ _ ⟨rfl, rfl, rfl⟩
      subst hsr hts he
      refine wfor_inv (fun rest v η => CI f p q rest η ∧ ∃ w5, v = [some (.cl (ns.map .int)), some (.int spot), some (.ref p), some f.t, some (.ref q), w5, v6, v7, v8, v9, v10, v11]) ?_ ?_ _ _ _ ⟨⟨["b", "a", "cost", "other"], [], ys2, rfl, by decide, ?_, fun q hq => (by cases hq), by decide, gp3, d2.mono (by decide), gq3⟩, _, rfl⟩
      · rintro x rest v η4 ⟨I, w5, rfl⟩
        obtain ⟨s, rfl⟩ : ∃ s, x = .str s := by
          obtain ⟨ss, _, _, e, _⟩ := I.st
          cases ss with
          | nil => cases e
          | cons s ss => cases e; exact ⟨s, rfl⟩
        refine ⟨trivial, _, rfl, fun N3 hN3 => ?_⟩
        rw [r_wSs_cons]
        refine cell_step (f := f) (ss := rest) hpq rfl rfl rfl (fun a b c d e f => M.roll a b c d e f) (fun a b c d e f => M.pick a b c d e f) I fun η5 I5 => ?_
        exact hN3 _ _ ⟨I5, _, rfl⟩
      · rintro v η4 ⟨I, w5, rfl⟩
        refine ⟨trivial, hN.go ?_⟩
        clear hN
        obtain ⟨ss, cs, ys4, e, nd, cn, ok, ln, gp4, d4, gq4⟩ := I.st
        have ess : ss = [] := by cases ss with
          | nil => rfl
          | cons _ _ => cases e
        subst ess
        rw [List.append_nil] at nd cn
        have fine : cs.Fine := ⟨ok, nd, cn, by simp only [List.length_nil] at ln; omega⟩
        have sq : seqOf η4 (.ref q) = some cs.t := by
          show (match get η4 q with
            | some (.lst xs) => some xs
            | _ => none) = _
          rw [gq4]
        have ag : aggS .tuple η4 (.ref q) = some cs.t := sq
        clear I e gp3 gq3 ln d2
        -- the number that is found
        refine st1 fun N hN => one_set ?_
        refine found_ok Φ _ _ _ _ _ rfl rfl ag _ _ ?_
        refine M.val (work_ok η4 18 gf df sf (by omega) fine) ?_
        refine hN.go ?_
        clear hN
        -- the number that is due
        refine st1 fun N hN => one_set ?_
        walk_at "ev"
        refine M.val (lwork_ok η4 cs ok _ sq f 19 gf (by omega) sf) ?_
        refine hN.go ?_
        clear hN
        -- they agree
        refine st1 fun N hN => ?_
        have twv : tv (f.worth cs) = .non ∨ ∃ i, tv (f.worth cs) = .int i := by
          cases f.worth cs with
          | none => exact .inl rfl
          | some i => exact .inr ⟨i, rfl⟩
        have s60 : 60 ≤ sizeLine := by decide
        have hnm := (names_ok η4 f 19 [] gf (by omega) (by simp only [List.length_nil]; omega)).2
        refine iff_split (fun k η' => k = false ∧ η' = η4) (fun K hK => ?_) (fun _ h => by cases h.1) (fun η' h => ?_)
        · have step : ∀ w : T, (w = .non ∨ ∃ i, w = .int i) → wC Φ (.or (.cmp .ne (.var 6) (.var 7)) (.or (.val (.isinst (.var 6) .bool)) (.cmp .ne (.call 6 (.cons (.var 3) .nil)) (.agg .tuple (.call 18 (.cons (.var 3) (.cons (.lstV .nil) .nil))))))) ⟨[some (.cl (ns.map .int)), some (.int spot), some (.ref p), some f.t, some (.ref q), w5, some w, some w, v8, v9, v10, v11], none⟩ η4 (fun _ _ => False) K := by
            intro w hw
            have e1 := eqok_strs (f.names [])
            have e2 : eqv (.tup ((f.names []).map .str)) (.tup ((f.names []).map .str)) = true := eqvs_strs (f.names [])
            have ag : ∀ l : List T, aggS .tuple η4 (.cl l) = some l := fun _ => rfl
            have ag2 : ∀ l : List T, aggV .tuple l = some (.tup l) := fun _ => rfl
            have eo : ∀ i, eqOk (.int i) (.int i) = true := fun _ => rfl
            have ei : ∀ i, eqv (.int i) (.int i) = true := fun i => by rw [yq_int]; simp
            have en : eqv .non .non = true := rfl
            have eo2 : eqOk .non .non = true := rfl
            have hK : K false η4 := hK _ _ ⟨rfl, rfl⟩
            rcases hw with rfl | ⟨i, rfl⟩
            all_goals
              walk_at "ev"
              refine M.val (cellsof_ok η4 18 gf df sf (by omega)) ?_
              refine M.val hnm ?_
              walk_at "ev"
          exact step _ twv
        have he := h.2.symm
        subst he
        clear h
        refine hN.go ?_
        clear hN hnm ag sq
        -- what is no formula
        refine st1 fun N hN => one_set ?_
        refine bads_ok M rfl rfl (m := 3000000 + 10 * (4 - ([] : List Str).length)) (by decide) gp4 d4 fun ys5 b bad => ?_
        refine hN.go ?_
        clear hN
        generalize put η4 p (.lst ys5) = η5
        -- a deep one
        refine st1 fun N hN => one_set ?_
        walk_at "ev"
        refine hN.go ?_
        clear hN
        refine st1 fun N hN => ?_
        refine for_split (fun ts sr η' => sr = none ∧ ts = rangeL 0 11 ∧ η' = η5) (fun K hK => ?_) fun ts sr η' ⟨hsr, hts, he⟩ => ?_
        · rw [r_wI_range]
          show small 11 ∧ K (rangeL 0 11) none η5
          exact ⟨⟨by decide, by decide⟩, hK _ _ _ ⟨rfl, rfl, rfl⟩⟩
        subst hsr hts he
        refine wfor_inv (fun rest v η => η = η' ∧ rest.length ≤ 11 ∧ ∃ w10, v = [some (.cl (ns.map .int)), some (.int spot), some (.ref p), some f.t, some (.ref q), w5, some (tv (f.worth cs)), some (tv (f.worth cs)), some b, some (deepT (11 - rest.length)), w10, v11]) ?_ ?_ _ _ _ ⟨rfl, by decide, _, rfl⟩
        · rintro x rest v η6 ⟨rfl, hr, w10, rfl⟩
          refine ⟨trivial, _, rfl, fun N3 hN3 => ?_⟩
          walk_at "ev"
          refine hN3 _ _ ⟨rfl, by simp only [List.length_cons] at hr; omega, some x, ?_⟩
          simp only [List.length_cons] at hr
          have e : 11 - rest.length = 11 - (rest.length + 1) + 1 := by omega
          rw [e]
          rfl
        · rintro v η6 ⟨rfl, _, w10, rfl⟩
          refine ⟨trivial, hN.go ?_⟩
          clear hN
          exact told_ok M gf df sf bad hN2
      · intro s hs
        have hs : s ∈ (["b", "a", "cost", "other"] : List Str) := hs
        simp only [List.mem_cons, List.not_mem_nil, or_false] at hs
        rcases hs with rfl | rfl | rfl | rfl
        · exact .a
        · exact .b
        · exact .c
        · exact .d
    -- not too many parts
    by_cases hsz : f.size ≤ 60
    · have h60 : ¬ (60 : Int) < f.size := by omega
      walk_at "ev"
      refine M.val (size_ok η2 f 19 gf (by omega)) ?_
      have hN := hN f gf (by omega) hsz
      walk_at "ev"
    · have h60 : (60 : Int) < f.size := by omega
      walk_at "ev"
      refine M.val (size_ok η2 f 19 gf (by omega)) ?_
      have hN : N ⟨[some (.cl (ns.map .int)), some (.int spot), some (.ref p), some (.tup [.str "cell", .str "a"]), v4, v5, v6, v7, v8, v9, v10, v11], none⟩ η2 := hN (.cell "a") .a (by decide) (by decide)
      walk_at "ev"
  · rintro v η ⟨_, v1, v2, v3, v4, v5, v6, v7, v8, v9, v10, v11, rfl⟩
    refine ⟨trivial, hN.go ?_⟩
    clear hN
    have e3 : eqOk (.int (-4)) (.int (-4)) = true := rfl
    have e4 : eqv (.int (-4)) (.int (-4)) = true := rfl
    have e5 : eqOk (.int 4) (.int 4) = true := rfl
    have e6 : eqv (.int 4) (.int 4) = true := rfl
    walk_at "ev"
    refine M.val (work_e1 η) ?_
    walk_at "ev"
    refine M.val (work_e2 η) ?_
    walk_at "ev"
theorem holds : PySem.Challenge.rw_crosslaid_k07_whole_formulas_worked_out.Holds := holds_of fun ns h _ => law_ok ns h
end K07

theorem PySem.Challenge.cw_crosslaid_k07_whole_formulas_worked_out_holds : PySem.Challenge.rw_crosslaid_k07_whole_formulas_worked_out.Holds := by
  exact K07.holds
