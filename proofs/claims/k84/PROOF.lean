import PyProof.Rows.All
import Wide.All
import OpenK.AllK
import Wide.FinOn
import HandS.ForMost
import HandS.Evl
import HandS.Nested
import HandS.Wide
import HandS.IsInst
import HandS.Flow
import HandS.CallLocal
import PyProof.P3Eq
import HandS.EndTab
import HandS.HeadWalk
import HandS.NestedK
import PySem.Challenge.RW_looprank_k84_rooms_of_fractions
set_option Elab.async false
set_option linter.all false
set_option maxRecDepth 100000
set_option maxHeartbeats 4000000
/-! Fx A: data as trees (D), how a heap bears them (Rep), the state of a def's names by slots (St). -/
namespace Fx
open PySem L2 NdefX

abbrev Ex := Evl.Ex

/-- data as trees -/
inductive D where
  | non | bl (b : Bool) | int (i : Int) | str (s : Str)
  /-- an address, nothing asked of it (a def, a class) -/
  | adr (a : Addr)
  | tup (ds : List D) | lst (ds : List D)
  | dic (kvs : List (Key × D))
  /-- an instance that nobody changes any more -/
  | obj (C : Addr) (fs : List (Str × D))
  /-- the law's script -/
  | scr (ns : List Int)

mutual
def Rep (K : PySem.W.Frag) (H : Hp) : D → V → Prop
  | .non, v => v = .non
  | .bl b, v => v = .bl b
  | .int i, v => v = .int i
  | .str s, v => v = .str s
  | .adr a, v => v = .ref a
  | .tup ds, v => ∃ p vs, v = .ref p ∧ H p = some (.tup vs) ∧ RepL K H ds vs
  | .lst ds, v => ∃ p vs, v = .ref p ∧ H p = some (.lst vs) ∧ RepL K H ds vs
  | .dic kvs, v => ∃ p ws, v = .ref p ∧ H p = some (.dK ws) ∧ RepK K H kvs ws
  | .obj C fs, v => ∃ p dx ws, v = .ref p ∧ H p = some (.ins C dx ws) ∧ RepF K H fs ws
  | .scr ns, v => ∃ p, v = .ref p ∧ SqL K H p (ns.map V.int)
def RepL (K : PySem.W.Frag) (H : Hp) : List D → List V → Prop
  | [], vs => vs = []
  | d :: ds, vs => ∃ v r, vs = v :: r ∧ Rep K H d v ∧ RepL K H ds r
def RepK (K : PySem.W.Frag) (H : Hp) : List (Key × D) → List (Key × V) → Prop
  | [], ws => ws = []
  | (k, d) :: ds, ws => ∃ v r, ws = (k, v) :: r ∧ Rep K H d v ∧ RepK K H ds r
def RepF (K : PySem.W.Frag) (H : Hp) : List (Str × D) → List (Str × V) → Prop
  | [], ws => ws = []
  | (k, d) :: ds, ws => ∃ v r, ws = (k, v) :: r ∧ Rep K H d v ∧ RepF K H ds r
end

section
variable {K : PySem.W.Frag} {H H' : Hp}
mutual
theorem Rep.mono (e : Ex H H') : ∀ {d : D} {v : V}, Rep K H d v → Rep K H' d v
  | .non, v, h => h
  | .bl b, v, h => h
  | .int i, v, h => h
  | .str s, v, h => h
  | .adr a, v, h => h
  | .tup ds, v, h => by
    obtain ⟨p, vs, h1, h2, h3⟩ := (show ∃ p vs, v = .ref p ∧ H p = some (.tup vs) ∧ RepL K H ds vs from h)
    exact ⟨p, vs, h1, e _ _ h2, RepL.mono e h3⟩
  | .lst ds, v, h => by
    obtain ⟨p, vs, h1, h2, h3⟩ := (show ∃ p vs, v = .ref p ∧ H p = some (.lst vs) ∧ RepL K H ds vs from h)
    exact ⟨p, vs, h1, e _ _ h2, RepL.mono e h3⟩
  | .dic kvs, v, h => by
    obtain ⟨p, vs, h1, h2, h3⟩ := (show ∃ p ws, v = .ref p ∧ H p = some (.dK ws) ∧ RepK K H kvs ws from h)
    exact ⟨p, vs, h1, e _ _ h2, RepK.mono e h3⟩
  | .obj C fs, v, h => by
    obtain ⟨p, dx, vs, h1, h2, h3⟩ := (show ∃ p dx ws, v = .ref p ∧ H p = some (.ins C dx ws) ∧ RepF K H fs ws from h)
    exact ⟨p, dx, vs, h1, e _ _ h2, RepF.mono e h3⟩
  | .scr ns, v, h => by
    obtain ⟨p, h1, h2⟩ := (show ∃ p, v = .ref p ∧ SqL K H p (ns.map V.int) from h)
    exact ⟨p, h1, Evl.ex_l e h2⟩
theorem RepL.mono (e : Ex H H') : ∀ {ds : List D} {vs : List V}, RepL K H ds vs → RepL K H' ds vs
  | [], vs, h => h
  | d :: ds, vs, h => by
    obtain ⟨v, r, h1, h2, h3⟩ := (show ∃ v r, vs = v :: r ∧ Rep K H d v ∧ RepL K H ds r from h)
    exact ⟨v, r, h1, Rep.mono e h2, RepL.mono e h3⟩
theorem RepK.mono (e : Ex H H') : ∀ {ds : List (Key × D)} {vs : List (Key × V)}, RepK K H ds vs → RepK K H' ds vs
  | [], vs, h => h
  | (k, d) :: ds, vs, h => by
    obtain ⟨v, r, h1, h2, h3⟩ := (show ∃ v r, vs = (k, v) :: r ∧ Rep K H d v ∧ RepK K H ds r from h)
    exact ⟨v, r, h1, Rep.mono e h2, RepK.mono e h3⟩
theorem RepF.mono (e : Ex H H') : ∀ {ds : List (Str × D)} {vs : List (Str × V)}, RepF K H ds vs → RepF K H' ds vs
  | [], vs, h => h
  | (k, d) :: ds, vs, h => by
    obtain ⟨v, r, h1, h2, h3⟩ := (show ∃ v r, vs = (k, v) :: r ∧ Rep K H d v ∧ RepF K H ds r from h)
    exact ⟨v, r, h1, Rep.mono e h2, RepF.mono e h3⟩
end

theorem RepL.nil : RepL K H [] [] := rfl
theorem RepL.cons {d : D} {ds : List D} {v : V} {vs : List V} (h : Rep K H d v) (t : RepL K H ds vs) : RepL K H (d :: ds) (v :: vs) := ⟨v, vs, rfl, h, t⟩
theorem RepL.length : ∀ {ds : List D} {vs : List V}, RepL K H ds vs → ds.length = vs.length
  | [], vs, h => by cases (show vs = [] from h); rfl
  | d :: ds, vs, h => by
    obtain ⟨v, r, rfl, _, h3⟩ := (show ∃ v r, vs = v :: r ∧ Rep K H d v ∧ RepL K H ds r from h)
    rw [List.length_cons, List.length_cons, RepL.length h3]
theorem RepL.append : ∀ {ds es : List D} {vs ws : List V}, RepL K H ds vs → RepL K H es ws → RepL K H (ds ++ es) (vs ++ ws)
  | [], es, vs, ws, h, t => by cases (show vs = [] from h); exact t
  | d :: ds, es, vs, ws, h, t => by
    obtain ⟨v, r, rfl, h2, h3⟩ := (show ∃ v r, vs = v :: r ∧ Rep K H d v ∧ RepL K H ds r from h)
    exact ⟨v, r ++ ws, rfl, h2, RepL.append h3 t⟩
theorem RepL.get : ∀ {ds : List D} {vs : List V} {i : Nat} {d : D}, RepL K H ds vs → ds[i]? = some d → ∃ v, vs[i]? = some v ∧ Rep K H d v
  | [], vs, i, d, h, e => by simp at e
  | d0 :: ds, vs, 0, d, h, e => by
    obtain ⟨v, r, rfl, h2, h3⟩ := (show ∃ v r, vs = v :: r ∧ Rep K H d0 v ∧ RepL K H ds r from h)
    simp at e; subst e
    exact ⟨v, rfl, h2⟩
  | d0 :: ds, vs, i + 1, d, h, e => by
    obtain ⟨v, r, rfl, h2, h3⟩ := (show ∃ v r, vs = v :: r ∧ Rep K H d0 v ∧ RepL K H ds r from h)
    obtain ⟨w, e1, e2⟩ := RepL.get (i := i) (d := d) h3 (by simpa using e)
    exact ⟨w, by simpa using e1, e2⟩
theorem RepL.get' : ∀ {ds : List D} {vs : List V} {i : Nat} {v : V}, RepL K H ds vs → vs[i]? = some v → ∃ d, ds[i]? = some d ∧ Rep K H d v
  | [], vs, i, v, h, e => by cases (show vs = [] from h); simp at e
  | d0 :: ds, vs, 0, v, h, e => by
    obtain ⟨v, r, rfl, h2, h3⟩ := (show ∃ v r, vs = v :: r ∧ Rep K H d0 v ∧ RepL K H ds r from h)
    simp at e; subst e
    exact ⟨d0, rfl, h2⟩
  | d0 :: ds, vs, i + 1, v, h, e => by
    obtain ⟨v, r, rfl, h2, h3⟩ := (show ∃ v r, vs = v :: r ∧ Rep K H d0 v ∧ RepL K H ds r from h)
    obtain ⟨w, e1, e2⟩ := RepL.get' (i := i) h3 (by simpa using e)
    exact ⟨w, by simpa using e1, e2⟩
theorem RepL.take : ∀ {ds : List D} {vs : List V} (n : Nat), RepL K H ds vs → RepL K H (ds.take n) (vs.take n)
  | _, vs, 0, h => by simp; exact rfl
  | [], vs, n + 1, h => by cases (show vs = [] from h); exact rfl
  | d0 :: ds, vs, n + 1, h => by
    obtain ⟨v, r, rfl, h2, h3⟩ := (show ∃ v r, vs = v :: r ∧ Rep K H d0 v ∧ RepL K H ds r from h)
    exact ⟨v, r.take n, rfl, h2, RepL.take n h3⟩
theorem RepL.drop : ∀ {ds : List D} {vs : List V} (n : Nat), RepL K H ds vs → RepL K H (ds.drop n) (vs.drop n)
  | _, vs, 0, h => by simpa using h
  | [], vs, n + 1, h => by cases (show vs = [] from h); exact rfl
  | d0 :: ds, vs, n + 1, h => by
    obtain ⟨v, r, rfl, h2, h3⟩ := (show ∃ v r, vs = v :: r ∧ Rep K H d0 v ∧ RepL K H ds r from h)
    exact RepL.drop n h3
theorem RepL.dropLast {ds : List D} {vs : List V} (h : RepL K H ds vs) : RepL K H ds.dropLast vs.dropLast := by
  rw [List.dropLast_eq_take, List.dropLast_eq_take, ← h.length]
  exact h.take _
theorem RepL.ints : ∀ {ns : List Int} {vs : List V}, RepL K H (ns.map D.int) vs → vs = ns.map V.int
  | [], vs, h => h
  | n :: ns, vs, h => by
    obtain ⟨v, r, rfl, h2, h3⟩ := (show ∃ v r, vs = v :: r ∧ Rep K H (.int n) v ∧ RepL K H (ns.map D.int) r from h)
    cases (show v = .int n from h2)
    rw [RepL.ints h3, List.map_cons]
theorem RepL.of_ints : ∀ (ns : List Int), RepL K H (ns.map D.int) (ns.map V.int)
  | [] => rfl
  | n :: ns => ⟨_, _, rfl, rfl, RepL.of_ints ns⟩
theorem RepL.strs : ∀ {ns : List Str} {vs : List V}, RepL K H (ns.map D.str) vs → vs = ns.map V.str
  | [], vs, h => h
  | n :: ns, vs, h => by
    obtain ⟨v, r, rfl, h2, h3⟩ := (show ∃ v r, vs = v :: r ∧ Rep K H (.str n) v ∧ RepL K H (ns.map D.str) r from h)
    cases (show v = .str n from h2)
    rw [RepL.strs h3, List.map_cons]
theorem RepL.of_strs : ∀ (ns : List Str), RepL K H (ns.map D.str) (ns.map V.str)
  | [] => rfl
  | n :: ns => ⟨_, _, rfl, rfl, RepL.of_strs ns⟩
end

/-! ### what is known of a name -/
inductive Slot where
  /-- nothing -/
  | any
  /-- data that nobody changes any more -/
  | sh (d : D)
  /-- data to be read now (its top object may still be changed later) -/
  | rd (d : D)
  /-- a list, a dict of this def alone -/
  | ownL (ds : List D)
  | ownK (kvs : List (Key × D))
  | ownT (kvs : List (List Key × D))
  /-- an instance of this def alone, at p -/
  | ownO (p C : Addr) (fs : List (Str × D))

def RdOk (K : PySem.W.Frag) (B H : Hp) (d : D) (v : V) : Prop := match d with
  | .lst ds => ∃ p vs, v = .ref p ∧ H p = some (.lst vs) ∧ RepL K B ds vs
  | .dic kvs => ∃ p ws, v = .ref p ∧ H p = some (.dK ws) ∧ RepK K B kvs ws
  | d => Rep K B d v

def RepT (K : PySem.W.Frag) (H : Hp) : List (List Key × D) → List (List Key × V) → Prop
  | [], ws => ws = []
  | (k, d) :: ds, ws => ∃ v r, ws = (k, v) :: r ∧ Rep K H d v ∧ RepT K H ds r
theorem RepT.mono {K : PySem.W.Frag} {H H' : Hp} (e : Ex H H') : ∀ {ds : List (List Key × D)} {vs : List (List Key × V)}, RepT K H ds vs → RepT K H' ds vs
  | [], vs, h => h
  | (k, d) :: ds, vs, h => by
    obtain ⟨v, r, h1, h2, h3⟩ := (show ∃ v r, vs = (k, v) :: r ∧ Rep K H d v ∧ RepT K H ds r from h)
    exact ⟨v, r, h1, Rep.mono e h2, RepT.mono e h3⟩

abbrev Cell := Slot × Option V
def CellOk (K : PySem.W.Frag) (B H : Hp) : Cell → Prop
  | (.any, _) => True
  | (.sh d, o) => ∃ v, o = some v ∧ Rep K B d v
  | (.rd d, o) => ∃ v, o = some v ∧ RdOk K B H d v
  | (.ownL ds, o) => ∃ p vs, o = some (.ref p) ∧ H p = some (.lst vs) ∧ RepL K B ds vs
  | (.ownK kvs, o) => ∃ p ws, o = some (.ref p) ∧ H p = some (.dK ws) ∧ RepK K B kvs ws
  | (.ownT kvs, o) => ∃ p ws, o = some (.ref p) ∧ H p = some (.dT ws) ∧ RepT K B kvs ws
  | (.ownO q C fs, o) => ∃ p ws, o = some (.ref p) ∧ (p = q ∧ ∃ dx, H p = some (.ins C dx ws)) ∧ RepF K B fs ws
/-- the object that this name alone holds -/
def owned : Cell → Option Addr
  | (.ownL _, some (.ref p)) => some p
  | (.ownK _, some (.ref p)) => some p
  | (.ownT _, some (.ref p)) => some p
  | (.ownO _ _ _, some (.ref p)) => some p
  | _ => none

/-- all but tables of code objects stays, nothing is gone -/
def ExN (H H' : Hp) : Prop := LamX.ExtN H H' ∧ ∀ q, H' q = none → H q = none
theorem ExN.refl (H : Hp) : ExN H H := ⟨LamX.ExtN.refl H, fun _ h => h⟩
theorem ExN.trans {H H1 H2 : Hp} (a : ExN H H1) (b : ExN H1 H2) : ExN H H2 := ⟨a.1.trans b.1, fun q h => a.2 q (b.2 q h)⟩
theorem ExN.of {H H' : Hp} (e : Ex H H') : ExN H H' := ⟨LamX.ExtN.of e, fun q h => Evl.fresh_back e h⟩
def NoTab (B : Hp) : Prop := ∀ q ps, B q ≠ some (.tbl ps)
/-- what is around: the tables of code objects; a fact of the entry -/
structure Amb where
  tabs : List NTab
  fact : Hp → Hp → Prop
abbrev plainA (T : List NTab) : Amb := ⟨T, fun _ _ => True⟩
def AmbOk (T : Amb) (B0 H0 H : Hp) : Prop := TabsN T.tabs H ∧ T.fact B0 H0
theorem AmbOk.ext {T : Amb} {B0 H0 H H' : Hp} (h : AmbOk T B0 H0 H) (e : Ex H H') : AmbOk T B0 H0 H' := ⟨h.1.ext e, h.2⟩
/-- B0, H0: what stood (known data, all) at the def's entry; cs: the names and temporaries; T: the tables of code objects -/
def St (K : PySem.W.Frag) (T : Amb) (B0 H0 : Hp) (cs : List Cell) (H : Hp) : Prop :=
  ∃ B, Ex B0 B ∧ ExN H0 H ∧ Ex B H ∧ NoTab B ∧ AmbOk T B0 H0 H ∧ (∀ q o, B q = some o → B0 q = some o ∨ H0 q = none) ∧ (∀ c ∈ cs, CellOk K B H c) ∧
    (cs.filterMap owned).Nodup ∧ ∀ p ∈ cs.filterMap owned, B p = none ∧ H0 p = none

section
variable {K : PySem.W.Frag} {T : Amb} {B B' B0 H0 H H' : Hp} {cs cs' : List Cell}
theorem RdOk.mono (eb : Ex B B') (eh : LamX.ExtN H H') {d : D} {v : V} (h : RdOk K B H d v) : RdOk K B' H' d v := by
  cases d with
  | lst ds =>
    obtain ⟨p, vs, h1, h2, h3⟩ := (show ∃ p vs, v = .ref p ∧ H p = some (.lst vs) ∧ RepL K B ds vs from h)
    exact ⟨p, vs, h1, eh _ _ h2 (fun _ z => by cases z), h3.mono eb⟩
  | dic kvs =>
    obtain ⟨p, vs, h1, h2, h3⟩ := (show ∃ p ws, v = .ref p ∧ H p = some (.dK ws) ∧ RepK K B kvs ws from h)
    exact ⟨p, vs, h1, eh _ _ h2 (fun _ z => by cases z), h3.mono eb⟩
  | non => exact Rep.mono eb h
  | bl b => exact Rep.mono eb h
  | int i => exact Rep.mono eb h
  | str s => exact Rep.mono eb h
  | adr a => exact Rep.mono eb h
  | tup ds => exact Rep.mono eb h
  | obj C fs => exact Rep.mono eb h
  | scr ns => exact Rep.mono eb h
theorem Rep.rd (e : Ex B H) {d : D} {v : V} (h : Rep K B d v) : RdOk K B H d v := by
  cases d with
  | lst ds =>
    obtain ⟨p, vs, h1, h2, h3⟩ := (show ∃ p vs, v = .ref p ∧ B p = some (.lst vs) ∧ RepL K B ds vs from h)
    exact ⟨p, vs, h1, e _ _ h2, h3⟩
  | dic kvs =>
    obtain ⟨p, vs, h1, h2, h3⟩ := (show ∃ p ws, v = .ref p ∧ B p = some (.dK ws) ∧ RepK K B kvs ws from h)
    exact ⟨p, vs, h1, e _ _ h2, h3⟩
  | non => exact h
  | bl b => exact h
  | int i => exact h
  | str s => exact h
  | adr a => exact h
  | tup ds => exact h
  | obj C fs => exact h
  | scr ns => exact h
/-- readable data are what they are, in the heap as it stands -/
theorem RdOk.rep (e : Ex B H) {d : D} {v : V} (h : RdOk K B H d v) : Rep K H d v := by
  cases d with
  | lst ds =>
    obtain ⟨p, vs, h1, h2, h3⟩ := (show ∃ p vs, v = .ref p ∧ H p = some (.lst vs) ∧ RepL K B ds vs from h)
    exact ⟨p, vs, h1, h2, h3.mono e⟩
  | dic kvs =>
    obtain ⟨p, vs, h1, h2, h3⟩ := (show ∃ p ws, v = .ref p ∧ H p = some (.dK ws) ∧ RepK K B kvs ws from h)
    exact ⟨p, vs, h1, h2, h3.mono e⟩
  | non => exact h
  | bl b => exact h
  | int i => exact h
  | str s => exact h
  | adr a => exact h
  | tup ds => exact Rep.mono e h
  | obj C fs => exact Rep.mono e h
  | scr ns => exact Rep.mono e h
theorem CellOk.mono (eb : Ex B B') (eh : LamX.ExtN H H') {c : Cell} (h : CellOk K B H c) : CellOk K B' H' c := by
  obtain ⟨s, o⟩ := c
  cases s with
  | any => trivial
  | sh d => obtain ⟨v, e, h⟩ := h; exact ⟨v, e, h.mono eb⟩
  | rd d => obtain ⟨v, e, h⟩ := h; exact ⟨v, e, h.mono eb eh⟩
  | ownL ds => obtain ⟨p, vs, e, h1, h2⟩ := h; exact ⟨p, vs, e, eh _ _ h1 (fun _ z => by cases z), h2.mono eb⟩
  | ownK ds => obtain ⟨p, vs, e, h1, h2⟩ := h; exact ⟨p, vs, e, eh _ _ h1 (fun _ z => by cases z), h2.mono eb⟩
  | ownT ds => obtain ⟨p, vs, e, h1, h2⟩ := h; exact ⟨p, vs, e, eh _ _ h1 (fun _ z => by cases z), h2.mono eb⟩
  | ownO p C fs => obtain ⟨p, vs, e, ⟨h0, dx, h1⟩, h2⟩ := h; exact ⟨p, vs, e, ⟨h0, dx, eh _ _ h1 (fun _ z => by cases z)⟩, h2.mono eb⟩
theorem CellOk.there {c : Cell} (h : CellOk K B H c) {p : Addr} (e : owned c = some p) : ∃ o, H p = some o := by
  obtain ⟨s, o⟩ := c
  cases s with
  | any => cases e
  | sh d => cases e
  | rd d => cases e
  | ownL ds =>
    obtain ⟨q, vs, e1, h1, h2⟩ := h
    subst e1
    cases e
    exact ⟨_, h1⟩
  | ownK ds =>
    obtain ⟨q, vs, e1, h1, h2⟩ := h
    subst e1
    cases e
    exact ⟨_, h1⟩
  | ownT ds =>
    obtain ⟨q, vs, e1, h1, h2⟩ := h
    subst e1
    cases e
    exact ⟨_, h1⟩
  | ownO p C fs =>
    obtain ⟨q, vs, e1, ⟨_, dx, h1⟩, h2⟩ := h
    subst e1
    cases e
    exact ⟨_, h1⟩
theorem St.ex (h : St K T B0 H0 cs H) : ExN H0 H := let ⟨_, _, e, _⟩ := h; e
/-- a part of the cells, in any order -/
def SubP {α : Type} (a b : List α) : Prop := ∃ l, a.Perm l ∧ l.Sublist b
theorem SubP.filterMap {α β : Type} {a b : List α} (h : SubP a b) (f : α → Option β) : SubP (a.filterMap f) (b.filterMap f) :=
  let ⟨_, h1, h2⟩ := h; ⟨_, h1.filterMap f, h2.filterMap f⟩
theorem SubP.subset {α : Type} {a b : List α} (h : SubP a b) : ∀ x ∈ a, x ∈ b := fun _ hx => let ⟨_, h1, h2⟩ := h; h2.subset (h1.subset hx)
theorem SubP.nodup {α : Type} {a b : List α} (h : SubP a b) (hb : b.Nodup) : a.Nodup := let ⟨_, h1, h2⟩ := h; h1.nodup_iff.mpr (hb.sublist h2)
theorem SubP.of_sublist {α : Type} {a b : List α} (h : a.Sublist b) : SubP a b := ⟨a, .refl _, h⟩
theorem SubP.of_perm {α : Type} {a b : List α} (h : a.Perm b) : SubP a b := ⟨b, h, .refl _⟩
theorem set_perm {α : Type} (c : α) : ∀ (l : List α) (i : Nat), i < l.length → (l.set i c).Perm (c :: l.eraseIdx i)
  | [], i, h => absurd h (Nat.not_lt_zero _)
  | a :: l, 0, _ => by simp
  | a :: l, i + 1, h => by
    rw [List.set_cons_succ, List.eraseIdx_cons_succ]
    exact ((set_perm c l i (by simpa using h)).cons a).trans (List.Perm.swap c a _)
theorem SubP.set {α : Type} {l : List α} {i : Nat} {c : α} : SubP (l.set i c) (c :: l) := by
  by_cases h : i < l.length
  · exact ⟨_, set_perm c l i h, (List.eraseIdx_sublist l i).cons_cons c⟩
  · rw [List.set_eq_of_length_le (by omega)]
    exact .of_sublist (List.sublist_cons_self _ _)
theorem SubP.append_set {α : Type} {t l : List α} {i : Nat} {c : α} : SubP (t ++ l.set i c) (c :: (t ++ l)) := by
  obtain ⟨m, h1, h2⟩ := SubP.set (l := l) (i := i) (c := c)
  have h3 : (t ++ l.set i c).Perm (t ++ m) := h1.append_left t
  have h4 : (t ++ m).Sublist (t ++ c :: l) := (List.append_sublist_append_left t).mpr h2
  have h5 : (t ++ c :: l).Perm (c :: (t ++ l)) := List.perm_middle
  obtain ⟨x, y1, y2⟩ := List.exists_perm_sublist h4 h5
  exact ⟨x, h3.trans y1.symm, y2⟩
theorem St.sub (h : St K T B0 H0 cs H) (hs : SubP cs' cs) : St K T B0 H0 cs' H := by
  obtain ⟨B, e1, e2, e3, nt, tb, e4, e5, e6, e7⟩ := h
  have q : SubP (cs'.filterMap owned) (cs.filterMap owned) := hs.filterMap owned
  exact ⟨B, e1, e2, e3, nt, tb, e4, fun c hc => e5 c (hs.subset c hc), q.nodup e6, fun p hp => e7 p (q.subset p hp)⟩
end
end Fx

/-! Fx B: readings over trees. EvS: an expression gives; EvB: a test; EvA: arguments; DoesS: a statement; spR: a def's promise. -/
namespace Fx
open PySem L2 NdefX
section
variable {K : PySem.W.Frag} {T : Amb} {B B' B0 H0 H H' : Hp} {cs cs' : List Cell}

def Sc (d : D) (v : V) : Prop := ∀ (K : PySem.W.Frag) (H : Hp), Rep K H d v
theorem Sc.non : Sc .non .non := fun _ _ => rfl
theorem Sc.bl {b : Bool} : Sc (.bl b) (.bl b) := fun _ _ => rfl
theorem Sc.int {b : Int} : Sc (.int b) (.int b) := fun _ _ => rfl
theorem Sc.str {b : Str} : Sc (.str b) (.str b) := fun _ _ => rfl
theorem Sc.adr {b : Addr} : Sc (.adr b) (.ref b) := fun _ _ => rfl

theorem NoTab.upd {B : Hp} {p : Addr} {o : HO} (h : NoTab B) (hno : ∀ ps, o ≠ .tbl ps) : NoTab (upd B p o) := fun q ps e => by
  by_cases z : q = p
  · rw [z, upd_same] at e
    exact hno ps (Option.some.inj e)
  · rw [upd_ne z] at e
    exact h q ps e
theorem St.push {d : D} {v : V} (h : St K T B0 H0 cs H) (r : Sc d v) : St K T B0 H0 ((.sh d, some v) :: cs) H := by
  obtain ⟨B, e1, e2, e3, nt, tb, e4, e5, e6, e7⟩ := h
  exact ⟨B, e1, e2, e3, nt, tb, e4, fun c hc => (List.mem_cons.mp hc).elim (fun z => by rw [z]; exact ⟨v, rfl, r _ _⟩) (e5 c), e6, e7⟩
theorem St.drop {c : Cell} (h : St K T B0 H0 (c :: cs) H) : St K T B0 H0 cs H := h.sub (.of_sublist (List.sublist_cons_self _ _))
theorem St.drop2 {c d : Cell} (h : St K T B0 H0 (c :: d :: cs) H) : St K T B0 H0 cs H := h.drop.drop
theorem St.swap {c d : Cell} (h : St K T B0 H0 (c :: d :: cs) H) : St K T B0 H0 (d :: c :: cs) H := h.sub (.of_perm (List.Perm.swap _ _ _))
/-- a cell that stands is known again -/
theorem St.again {d : D} {v : V} (h : St K T B0 H0 cs H) (hm : (Slot.sh d, some v) ∈ cs) : St K T B0 H0 ((.sh d, some v) :: cs) H := by
  obtain ⟨B, e1, e2, e3, nt, tb, e4, e5, e6, e7⟩ := h
  exact ⟨B, e1, e2, e3, nt, tb, e4, fun c hc => (List.mem_cons.mp hc).elim (fun z => by rw [z]; exact e5 _ hm) (e5 c), e6, e7⟩
theorem St.rd {d : D} {o : Option V} (h : St K T B0 H0 ((.sh d, o) :: cs) H) : St K T B0 H0 ((.rd d, o) :: cs) H := by
  obtain ⟨B, e1, e2, e3, nt, tb, e4, e5, e6, e7⟩ := h
  refine ⟨B, e1, e2, e3, nt, tb, e4, fun c hc => (List.mem_cons.mp hc).elim (fun z => ?_) (fun z => e5 c (List.mem_cons_of_mem _ z)), e6, e7⟩
  obtain ⟨v, q, r⟩ := e5 _ List.mem_cons_self
  rw [z]
  exact ⟨v, q, r.rd e3⟩
/-- a readable cell of an own list -/
theorem St.rd_own {ds : List D} {v : V} (h : St K T B0 H0 cs H) (hm : (Slot.ownL ds, some v) ∈ cs) : St K T B0 H0 ((.rd (.lst ds), some v) :: cs) H := by
  obtain ⟨B, e1, e2, e3, nt, tb, e4, e5, e6, e7⟩ := h
  refine ⟨B, e1, e2, e3, nt, tb, e4, fun c hc => (List.mem_cons.mp hc).elim (fun z => ?_) (e5 c), e6, e7⟩
  obtain ⟨p, vs, q, h1, h2⟩ := e5 _ hm
  rw [z]
  exact ⟨v, rfl, p, vs, Option.some.inj q, h1, h2⟩
theorem St.rd_ownK {ds : List (Key × D)} {v : V} (h : St K T B0 H0 cs H) (hm : (Slot.ownK ds, some v) ∈ cs) : St K T B0 H0 ((.rd (.dic ds), some v) :: cs) H := by
  obtain ⟨B, e1, e2, e3, nt, tb, e4, e5, e6, e7⟩ := h
  refine ⟨B, e1, e2, e3, nt, tb, e4, fun c hc => (List.mem_cons.mp hc).elim (fun z => ?_) (e5 c), e6, e7⟩
  obtain ⟨p, vs, q, h1, h2⟩ := e5 _ hm
  rw [z]
  exact ⟨v, rfl, p, vs, Option.some.inj q, h1, h2⟩
theorem St.val {s : Slot} {o : Option V} (h : St K T B0 H0 ((s, o) :: cs) H) (hs : s ≠ .any) : ∃ v, o = some v := by
  obtain ⟨B, e1, e2, e3, nt, tb, e4, e5, e6, e7⟩ := h
  have q := e5 _ List.mem_cons_self
  cases s with
  | any => exact absurd rfl hs
  | sh d => obtain ⟨v, e, _⟩ := q; exact ⟨v, e⟩
  | rd d => obtain ⟨v, e, _⟩ := q; exact ⟨v, e⟩
  | ownL ds => obtain ⟨p, vs, e, _⟩ := q; exact ⟨_, e⟩
  | ownK ds => obtain ⟨p, vs, e, _⟩ := q; exact ⟨_, e⟩
  | ownT ds => obtain ⟨p, vs, e, _⟩ := q; exact ⟨_, e⟩
  | ownO p C fs => obtain ⟨p, vs, e, _⟩ := q; exact ⟨_, e⟩
/-- what a cell says, in the heap as it stands -/
theorem St.rep {d : D} {v : V} (h : St K T B0 H0 ((.rd d, some v) :: cs) H) : Rep K H d v := by
  obtain ⟨B, e1, e2, e3, nt, tb, e4, e5, e6, e7⟩ := h
  obtain ⟨w, q, r⟩ := e5 _ List.mem_cons_self
  cases q
  exact r.rep e3
theorem St.repS {d : D} {v : V} (h : St K T B0 H0 ((.sh d, some v) :: cs) H) : Rep K H d v := h.rd.rep
/-- an own list becomes data -/
theorem St.freeze {ds : List D} {v : V} (h : St K T B0 H0 ((.ownL ds, some v) :: cs) H) : St K T B0 H0 ((.sh (.lst ds), some v) :: cs) H := by
  obtain ⟨B, e1, e2, e3, nt, tb, e4, e5, e6, e7⟩ := h
  obtain ⟨p, vs, q, h1, h2⟩ := e5 _ List.mem_cons_self
  have q := Option.some.inj q
  subst q
  have e6' : (p :: cs.filterMap owned).Nodup := e6
  have e7' : ∀ q ∈ p :: cs.filterMap owned, B q = none ∧ H0 q = none := e7
  have bp := (e7' p List.mem_cons_self).1
  have eb : Ex B (upd B p (.lst vs)) := Evl.Ex.new bp
  refine ⟨upd B p (.lst vs), e1.trans eb, e2, fun a o ha => ?_, nt.upd (fun _ z => by cases z), tb, fun q o ho => ?_, fun c hc => ?_, (List.nodup_cons.mp e6').2, fun q hq => ?_⟩
  · by_cases z : a = p
    · rw [z, upd_same] at ha
      rw [z, h1]
      exact ha
    · rw [upd_ne z] at ha
      exact e3 a o ha
  · by_cases z : q = p
    · rw [z]
      exact .inr (e7' p List.mem_cons_self).2
    · rw [upd_ne z] at ho
      exact e4 q o ho
  · rcases List.mem_cons.mp hc with z | z
    · rw [z]
      exact ⟨_, rfl, p, vs, rfl, upd_same, h2.mono eb⟩
    · exact (e5 c (List.mem_cons_of_mem _ z)).mono eb (LamX.ExtN.refl H)
  · have nq : q ≠ p := fun z => (List.nodup_cons.mp e6').1 (z ▸ hq)
    rw [upd_ne nq]
    exact e7' q (List.mem_cons_of_mem _ hq)
theorem St.freezeK {ds : List (Key × D)} {v : V} (h : St K T B0 H0 ((.ownK ds, some v) :: cs) H) : St K T B0 H0 ((.sh (.dic ds), some v) :: cs) H := by
  obtain ⟨B, e1, e2, e3, nt, tb, e4, e5, e6, e7⟩ := h
  obtain ⟨p, vs, q, h1, h2⟩ := e5 _ List.mem_cons_self
  have q := Option.some.inj q
  subst q
  have e6' : (p :: cs.filterMap owned).Nodup := e6
  have e7' : ∀ q ∈ p :: cs.filterMap owned, B q = none ∧ H0 q = none := e7
  have bp := (e7' p List.mem_cons_self).1
  have eb : Ex B (upd B p (.dK vs)) := Evl.Ex.new bp
  refine ⟨upd B p (.dK vs), e1.trans eb, e2, fun a o ha => ?_, nt.upd (fun _ z => by cases z), tb, fun q o ho => ?_, fun c hc => ?_, (List.nodup_cons.mp e6').2, fun q hq => ?_⟩
  · by_cases z : a = p
    · rw [z, upd_same] at ha
      rw [z, h1]
      exact ha
    · rw [upd_ne z] at ha
      exact e3 a o ha
  · by_cases z : q = p
    · rw [z]
      exact .inr (e7' p List.mem_cons_self).2
    · rw [upd_ne z] at ho
      exact e4 q o ho
  · rcases List.mem_cons.mp hc with z | z
    · rw [z]
      exact ⟨_, rfl, p, vs, rfl, upd_same, h2.mono eb⟩
    · exact (e5 c (List.mem_cons_of_mem _ z)).mono eb (LamX.ExtN.refl H)
  · have nq : q ≠ p := fun z => (List.nodup_cons.mp e6').1 (z ▸ hq)
    rw [upd_ne nq]
    exact e7' q (List.mem_cons_of_mem _ hq)
theorem St.freezeO {x C : Addr} {ds : List (Str × D)} {v : V} (h : St K T B0 H0 ((.ownO x C ds, some v) :: cs) H) : St K T B0 H0 ((.sh (.obj C ds), some v) :: cs) H := by
  obtain ⟨B, e1, e2, e3, nt, tb, e4, e5, e6, e7⟩ := h
  obtain ⟨p, vs, q, ⟨_, dx, h1⟩, h2⟩ := e5 _ List.mem_cons_self
  have q := Option.some.inj q
  subst q
  have e6' : (p :: cs.filterMap owned).Nodup := e6
  have e7' : ∀ q ∈ p :: cs.filterMap owned, B q = none ∧ H0 q = none := e7
  have bp := (e7' p List.mem_cons_self).1
  have eb : Ex B (upd B p (.ins C dx vs)) := Evl.Ex.new bp
  refine ⟨upd B p (.ins C dx vs), e1.trans eb, e2, fun a o ha => ?_, nt.upd (fun _ z => by cases z), tb, fun q o ho => ?_, fun c hc => ?_, (List.nodup_cons.mp e6').2, fun q hq => ?_⟩
  · by_cases z : a = p
    · rw [z, upd_same] at ha
      rw [z, h1]
      exact ha
    · rw [upd_ne z] at ha
      exact e3 a o ha
  · by_cases z : q = p
    · rw [z]
      exact .inr (e7' p List.mem_cons_self).2
    · rw [upd_ne z] at ho
      exact e4 q o ho
  · rcases List.mem_cons.mp hc with z | z
    · rw [z]
      exact ⟨_, rfl, p, dx, vs, rfl, upd_same, h2.mono eb⟩
    · exact (e5 c (List.mem_cons_of_mem _ z)).mono eb (LamX.ExtN.refl H)
  · have nq : q ≠ p := fun z => (List.nodup_cons.mp e6').1 (z ▸ hq)
    rw [upd_ne nq]
    exact e7' q (List.mem_cons_of_mem _ hq)
/-- a new object that is data at once: its parts are known data of the base -/
theorem St.newSh {d : D} {p : Addr} {o : HO} (h : St K T B0 H0 cs H) (hp : H p = none) (hno : ∀ ps, o ≠ .tbl ps) (r : ∀ B, Ex B H → (∀ c ∈ cs, CellOk K B H c) → Rep K (upd B p o) d (.ref p)) : St K T B0 H0 ((.sh d, some (.ref p)) :: cs) (upd H p o) := by
  obtain ⟨B, e1, e2, e3, nt, tb, e4, e5, e6, e7⟩ := h
  have bp : B p = none := Evl.fresh_back e3 hp
  have eb : Ex B (upd B p o) := Evl.Ex.new bp
  have eh : Ex H (upd H p o) := Evl.Ex.new hp
  refine ⟨upd B p o, e1.trans eb, e2.trans (ExN.of eh), fun a u ha => ?_, nt.upd hno, tb.ext eh, fun q u ho => ?_, fun c hc => ?_, e6, fun q hq => ?_⟩
  · by_cases z : a = p
    · rw [z, upd_same] at ha ⊢
      exact ha
    · rw [upd_ne z] at ha ⊢
      exact e3 a u ha
  · by_cases z : q = p
    · rw [z]
      exact .inr (e2.2 _ hp)
    · rw [upd_ne z] at ho
      exact e4 q u ho
  · rcases List.mem_cons.mp hc with z | z
    · rw [z]
      exact ⟨_, rfl, r B e3 e5⟩
    · exact (e5 c z).mono eb (LamX.ExtN.of eh)
  · have hq : q ∈ cs.filterMap owned := hq
    obtain ⟨c, hc, ho⟩ := List.mem_filterMap.mp hq
    obtain ⟨u, hu⟩ := (e5 c hc).there ho
    rw [upd_ne (ne_of_none hu hp)]
    exact e7 q hq
/-- a new object that is the def's own -/
theorem St.newOwn {s : Slot} {p : Addr} {o : HO} (h : St K T B0 H0 cs H) (hp : H p = none) (ho : owned (s, some (.ref p)) = some p) (r : ∀ B, Ex B H → (∀ c ∈ cs, CellOk K B H c) → CellOk K B (upd H p o) (s, some (.ref p))) : St K T B0 H0 ((s, some (.ref p)) :: cs) (upd H p o) := by
  obtain ⟨B, e1, e2, e3, nt, tb, e4, e5, e6, e7⟩ := h
  have bp : B p = none := Evl.fresh_back e3 hp
  have eh : Ex H (upd H p o) := Evl.Ex.new hp
  have fm : ((s, some (V.ref p)) :: cs).filterMap owned = p :: cs.filterMap owned := by rw [List.filterMap_cons, ho]
  refine ⟨B, e1, e2.trans (ExN.of eh), e3.trans eh, nt, tb.ext eh, e4, fun c hc => ?_, ?_, fun q hq => ?_⟩
  · rcases List.mem_cons.mp hc with z | z
    · rw [z]
      exact r B e3 e5
    · exact (e5 c z).mono (Evl.Ex.refl B) (LamX.ExtN.of eh)
  · rw [fm]
    refine List.nodup_cons.mpr ⟨fun hm => ?_, e6⟩
    obtain ⟨c, hc, hoc⟩ := List.mem_filterMap.mp hm
    obtain ⟨u, hu⟩ := (e5 c hc).there hoc
    rw [hp] at hu
    cases hu
  · rw [fm] at hq
    rcases List.mem_cons.mp hq with z | z
    · rw [z]
      exact ⟨bp, e2.2 _ hp⟩
    · exact e7 q z
end

/-! ### expressions -/
/-- from the names' state Γ the expression gives a value of which s is known, the names' state is Γ' then -/
def EvS (K : PySem.W.Frag) (T : Amb) (te : TE) (Γ Γ' : List Slot) (s : Slot) : Prop :=
  Γ'.length = Γ.length ∧ ∀ (B0 H0 : Hp) (σ : L2.St) (Z : List Cell) (H : Hp) (Q : VK), σ.length = Γ.length → St K T B0 H0 (Z ++ Γ.zip σ) H →
    (∀ v H', St K T B0 H0 ((s, some v) :: (Z ++ Γ'.zip σ)) H' → Q v H') → te σ H Q
def EvB (K : PySem.W.Frag) (T : Amb) (tt : TT) (Γ Γ' : List Slot) (b : Bool) : Prop :=
  Γ'.length = Γ.length ∧ ∀ (B0 H0 : Hp) (σ : L2.St) (Z : List Cell) (H : Hp) (Q : Bool → Hp → Prop), σ.length = Γ.length → St K T B0 H0 (Z ++ Γ.zip σ) H →
    (∀ H', St K T B0 H0 (Z ++ Γ'.zip σ) H' → Q b H') → tt σ H Q
def EvA (K : PySem.W.Frag) (T : Amb) (ta : TA) (Γ Γ' : List Slot) (ss : List Slot) : Prop :=
  Γ'.length = Γ.length ∧ ∀ (B0 H0 : Hp) (σ : L2.St) (Z : List Cell) (H : Hp) (Q : List V → Hp → Prop), σ.length = Γ.length → St K T B0 H0 (Z ++ Γ.zip σ) H →
    (∀ vs H', vs.length = ss.length → St K T B0 H0 (ss.zip (vs.map some) ++ (Z ++ Γ'.zip σ)) H' → Q vs H') → ta σ H Q
/-- an operation on two values; on one; on a list of arguments -/
def RS (K : PySem.W.Frag) (T : Amb) (r : R2) (s1 s2 s : Slot) : Prop := ∀ (B0 H0 : Hp) (cs : List Cell) (H : Hp) (v w : V) (Q : VK), St K T B0 H0 ((s2, some w) :: (s1, some v) :: cs) H → (∀ u H', St K T B0 H0 ((s, some u) :: cs) H' → Q u H') → r v w H Q
def RA (K : PySem.W.Frag) (T : Amb) (r : List V → Hp → VK → Prop) (ss : List Slot) (s : Slot) : Prop := ∀ (B0 H0 : Hp) (cs : List Cell) (H : Hp) (vs : List V) (Q : VK), vs.length = ss.length → St K T B0 H0 (ss.zip (vs.map some) ++ cs) H → (∀ u H', St K T B0 H0 ((s, some u) :: cs) H' → Q u H') → r vs H Q

section
variable {K : PySem.W.Frag} {T : Amb} {Γ Γ' Γ1 Γ2 Γ3 : List Slot} {ta tb te : TE} {tt tu : TT} {s s1 s2 : Slot} {r : R2}
theorem zip_get {σ : L2.St} {i : Nat} {s : Slot} (hl : σ.length = Γ.length) (h : Γ[i]? = some s) : ∃ o, σ[i]? = some o ∧ (s, o) ∈ Γ.zip σ := by
  have hi : i < Γ.length := (List.getElem?_eq_some_iff.mp h).1
  have hi2 : i < σ.length := by omega
  refine ⟨σ[i], List.getElem?_eq_getElem hi2, ?_⟩
  refine List.mem_of_getElem? (i := i) ?_
  rw [List.getElem?_zip_eq_some]
  exact ⟨h, List.getElem?_eq_getElem hi2⟩
theorem zip_set2 {s : Slot} {o : Option V} : ∀ {Γ : List Slot} {σ : L2.St} {i : Nat}, (Γ.set i s).zip (σ.set i o) = (Γ.zip σ).set i (s, o)
  | [], σ, i => by simp
  | a :: Γ, [], i => by simp
  | a :: Γ, b :: σ, 0 => by simp
  | a :: Γ, b :: σ, i + 1 => by
    simp only [List.set_cons_succ, List.zip_cons_cons]
    rw [zip_set2]
theorem zip_set {σ : L2.St} {i : Nat} {s : Slot} {o : Option V} (h : σ[i]? = some o) (hl : σ.length = Γ.length) : (Γ.set i s).zip σ = (Γ.zip σ).set i (s, o) := by
  have e : σ.set i o = σ := by
    apply List.ext_getElem?
    intro j
    rw [List.getElem?_set]
    by_cases z : i = j
    · subst z
      rw [if_pos rfl, if_pos (List.getElem?_eq_some_iff.mp h).1, h]
    · rw [if_neg z]
  have q := zip_set2 (s := s) (o := o) (Γ := Γ) (σ := σ) (i := i)
  rw [e] at q
  exact q

theorem ev_var {i : Nat} {d : D} (h : Γ[i]? = some (.sh d)) : EvS K T (tVar i) Γ Γ (.sh d) := by
  refine ⟨rfl, fun B0 H0 σ Z H Q hl st k => ?_⟩
  obtain ⟨o, h1, h2⟩ := zip_get hl h
  have h3 : (Slot.sh d, o) ∈ Z ++ Γ.zip σ := List.mem_append_right _ h2
  obtain ⟨v, rfl⟩ : ∃ v, o = some v := by
    obtain ⟨B, _, _, _, _, _, _, e5, _⟩ := st
    obtain ⟨v, q, _⟩ := e5 _ h3
    exact ⟨v, q⟩
  exact ⟨v, h1, k v H (st.again h3)⟩
/-- an own list, read now -/
theorem ev_var_rdL {i : Nat} {ds : List D} (h : Γ[i]? = some (.ownL ds)) : EvS K T (tVar i) Γ Γ (.rd (.lst ds)) := by
  refine ⟨rfl, fun B0 H0 σ Z H Q hl st k => ?_⟩
  obtain ⟨o, h1, h2⟩ := zip_get hl h
  have h3 : (Slot.ownL ds, o) ∈ Z ++ Γ.zip σ := List.mem_append_right _ h2
  obtain ⟨v, rfl⟩ : ∃ v, o = some v := by
    obtain ⟨B, _, _, _, _, _, _, e5, _⟩ := st
    obtain ⟨p, vs, q, _⟩ := e5 _ h3
    exact ⟨_, q⟩
  exact ⟨v, h1, k v H (st.rd_own h3)⟩
theorem ev_var_rdK {i : Nat} {ds : List (Key × D)} (h : Γ[i]? = some (.ownK ds)) : EvS K T (tVar i) Γ Γ (.rd (.dic ds)) := by
  refine ⟨rfl, fun B0 H0 σ Z H Q hl st k => ?_⟩
  obtain ⟨o, h1, h2⟩ := zip_get hl h
  have h3 : (Slot.ownK ds, o) ∈ Z ++ Γ.zip σ := List.mem_append_right _ h2
  obtain ⟨v, rfl⟩ : ∃ v, o = some v := by
    obtain ⟨B, _, _, _, _, _, _, e5, _⟩ := st
    obtain ⟨p, vs, q, _⟩ := e5 _ h3
    exact ⟨_, q⟩
  exact ⟨v, h1, k v H (st.rd_ownK h3)⟩
theorem ev_rd {d : D} (h : EvS K T te Γ Γ' (.sh d)) : EvS K T te Γ Γ' (.rd d) := ⟨h.1, fun B0 H0 σ Z H Q hl st k => h.2 B0 H0 σ Z H Q hl st fun v H' q => k v H' q.rd⟩
theorem ev_frz {ds : List D} (h : EvS K T te Γ Γ' (.ownL ds)) : EvS K T te Γ Γ' (.sh (.lst ds)) := ⟨h.1, fun B0 H0 σ Z H Q hl st k => h.2 B0 H0 σ Z H Q hl st fun v H' q => k v H' q.freeze⟩
theorem ev_frzO {x C : Addr} {ds : List (Str × D)} (h : EvS K T te Γ Γ' (.ownO x C ds)) : EvS K T te Γ Γ' (.sh (.obj C ds)) := ⟨h.1, fun B0 H0 σ Z H Q hl st k => h.2 B0 H0 σ Z H Q hl st fun v H' q => k v H' q.freezeO⟩
theorem ev_frzK {ds : List (Key × D)} (h : EvS K T te Γ Γ' (.ownK ds)) : EvS K T te Γ Γ' (.sh (.dic ds)) := ⟨h.1, fun B0 H0 σ Z H Q hl st k => h.2 B0 H0 σ Z H Q hl st fun v H' q => k v H' q.freezeK⟩
/-- a name's own list becomes data where its value is taken -/
theorem St.frzAt {B0 H0 H : Hp} {σ : L2.St} {Z : List Cell} {i : Nat} {ds : List D} {o : Option V} (hl : σ.length = Γ.length) (h : Γ[i]? = some (.ownL ds)) (ho : σ[i]? = some o) (st : St K T B0 H0 (Z ++ Γ.zip σ) H) :
    ∃ v, o = some v ∧ St K T B0 H0 ((.sh (.lst ds), some v) :: (Z ++ (Γ.set i (.sh (.lst ds))).zip σ)) H := by
  have hz : (Γ.zip σ)[i]? = some (Slot.ownL ds, o) := by rw [List.getElem?_zip_eq_some]; exact ⟨h, ho⟩
  have hi : i < (Γ.zip σ).length := (List.getElem?_eq_some_iff.mp hz).1
  -- bring the cell to the front
  have p1 : (Z ++ Γ.zip σ).Perm ((Slot.ownL ds, o) :: (Z ++ (Γ.zip σ).eraseIdx i)) := by
    have e : (Γ.zip σ) = (Γ.zip σ).set i (Slot.ownL ds, o) := by
      apply List.ext_getElem?
      intro j
      rw [List.getElem?_set]
      by_cases z : i = j
      · subst z
        rw [if_pos rfl, if_pos hi, hz]
      · rw [if_neg z]
    have q := set_perm (Slot.ownL ds, o) (Γ.zip σ) i hi
    rw [← e] at q
    exact (q.append_left Z).trans List.perm_middle
  have st1 := st.sub (.of_perm p1.symm)
  obtain ⟨v, rfl⟩ := st1.val (by intro q; cases q)
  refine ⟨v, rfl, ?_⟩
  have st2 := st1.freeze
  have st3 := st2.again List.mem_cons_self
  refine st3.sub (.of_perm ?_)
  refine List.Perm.cons _ ?_
  rw [zip_set ho hl]
  exact ((set_perm (Slot.sh (.lst ds), some v) (Γ.zip σ) i hi).append_left Z).trans List.perm_middle
theorem ev_var_own {i : Nat} {ds : List D} (h : Γ[i]? = some (.ownL ds)) : EvS K T (tVar i) Γ (Γ.set i (.sh (.lst ds))) (.sh (.lst ds)) := by
  refine ⟨List.length_set, fun B0 H0 σ Z H Q hl st k => ?_⟩
  obtain ⟨o, h1, h2⟩ := zip_get hl h
  obtain ⟨v, rfl, q⟩ := st.frzAt hl h h1
  exact ⟨v, h1, k v H q⟩
theorem ev_c {d : D} {v : V} (h : Sc d v) : EvS K T (tC v) Γ Γ (.sh d) := ⟨rfl, fun B0 H0 σ Z H Q hl st k => k v H (st.push h)⟩
theorem ev_int {i : Int} : EvS K T (tC (.int i)) Γ Γ (.sh (.int i)) := ev_c Sc.int
theorem ev_bl {i : Bool} : EvS K T (tC (.bl i)) Γ Γ (.sh (.bl i)) := ev_c Sc.bl
theorem ev_str {i : Str} : EvS K T (tC (.str i)) Γ Γ (.sh (.str i)) := ev_c Sc.str
theorem ev_non : EvS K T (tC .non) Γ Γ (.sh .non) := ev_c Sc.non
theorem ev_adr {a : Addr} : EvS K T (tC (.ref a)) Γ Γ (.sh (.adr a)) := ev_c Sc.adr

theorem ev_op (ha : EvS K T ta Γ Γ1 s1) (hb : EvS K T tb Γ1 Γ2 s2) (hr : RS K T r s1 s2 s) : EvS K T (tOp r ta tb) Γ Γ2 s := by
  refine ⟨hb.1.trans ha.1, fun B0 H0 σ Z H Q hl st k => ?_⟩
  refine ha.2 B0 H0 σ Z H _ hl st fun v H1 q1 => ?_
  refine hb.2 B0 H0 σ ((s1, some v) :: Z) H1 _ (hl.trans ha.1.symm) q1 fun w H2 q2 => ?_
  exact hr B0 H0 (Z ++ Γ2.zip σ) H2 v w Q q2 k
theorem ea_nil : EvA K T tNil Γ Γ [] := ⟨rfl, fun B0 H0 σ Z H Q hl st k => k [] H rfl st⟩
theorem ea_cons {tr : TA} {ss : List Slot} (h : EvS K T te Γ Γ1 s) (t : EvA K T tr Γ1 Γ2 ss) : EvA K T (tCons te tr) Γ Γ2 (s :: ss) := by
  refine ⟨t.1.trans h.1, fun B0 H0 σ Z H Q hl st k => ?_⟩
  refine h.2 B0 H0 σ Z H _ hl st fun v H1 q1 => ?_
  refine t.2 B0 H0 σ ((s, some v) :: Z) H1 _ (hl.trans h.1.symm) q1 fun vs H2 e q2 => ?_
  refine k (v :: vs) H2 (by rw [List.length_cons, List.length_cons, e]) (q2.sub (.of_perm ?_))
  show List.Perm ((s, some v) :: (ss.zip (vs.map some) ++ (Z ++ Γ2.zip σ))) _
  exact List.perm_middle.symm
theorem ev_cb {ra : List V → Hp → VK → Prop} {t : TA} {ss : List Slot} (h : EvA K T t Γ Γ' ss) (hr : RA K T ra ss s) : EvS K T (tCB ra t) Γ Γ' s := by
  refine ⟨h.1, fun B0 H0 σ Z H Q hl st k => ?_⟩
  refine h.2 B0 H0 σ Z H _ hl st fun vs H1 e q1 => ?_
  exact hr B0 H0 (Z ++ Γ'.zip σ) H1 vs Q e q1 k

/-! tests -/
theorem eb_test {b : Bool} (h : EvS K T te Γ Γ' (.sh (.bl b))) : EvB K T (tTest te) Γ Γ' b := ⟨h.1, fun B0 H0 σ Z H Q hl st k => h.2 B0 H0 σ Z H _ hl st fun v H1 q => ⟨b, q.repS, k H1 q.drop⟩⟩
theorem eb_B {b : Bool} (h : EvS K T te Γ Γ' (.sh (.bl b))) : EvB K T (tB te) Γ Γ' b := ⟨h.1, fun B0 H0 σ Z H Q hl st k => h.2 B0 H0 σ Z H _ hl st fun v H1 q => ⟨b, q.repS, k H1 q.drop⟩⟩
theorem eb_not {b : Bool} (h : EvB K T tt Γ Γ' b) : EvB K T (tNot tt) Γ Γ' (!b) := ⟨h.1, fun B0 H0 σ Z H Q hl st k => h.2 B0 H0 σ Z H _ hl st fun H1 q => k H1 q⟩
/-- and, or: the second part is asked only where the first one leaves it open (the names' state stays) -/
theorem eb_and {a b : Bool} (h : EvB K T tt Γ Γ a) (h2 : a = true → EvB K T tu Γ Γ b) : EvB K T (tAnd tt tu) Γ Γ (a && b) := ⟨rfl, fun B0 H0 σ Z H Q hl st k => h.2 B0 H0 σ Z H _ hl st fun H1 q => by
  cases a with
  | true => exact (h2 rfl).2 B0 H0 σ Z H1 Q hl q k
  | false => exact k H1 q⟩
theorem eb_or {a b : Bool} (h : EvB K T tt Γ Γ a) (h2 : a = false → EvB K T tu Γ Γ b) : EvB K T (tOr tt tu) Γ Γ (a || b) := ⟨rfl, fun B0 H0 σ Z H Q hl st k => h.2 B0 H0 σ Z H _ hl st fun H1 q => by
  cases a with
  | false => exact (h2 rfl).2 B0 H0 σ Z H1 Q hl q k
  | true => exact k H1 q⟩
theorem ev_andV {a b : Bool} (h : EvS K T ta Γ Γ (.sh (.bl a))) (h2 : a = true → EvS K T tb Γ Γ (.sh (.bl b))) : EvS K T (tAndV ta tb) Γ Γ (.sh (.bl (a && b))) := ⟨rfl, fun B0 H0 σ Z H Q hl st k => h.2 B0 H0 σ Z H _ hl st fun v H1 q => ⟨a, q.repS, by
  cases a with
  | true => exact (h2 rfl).2 B0 H0 σ Z H1 Q hl q.drop k
  | false => exact k _ H1 (q.drop.push Sc.bl)⟩⟩
theorem ev_orV {a b : Bool} (h : EvS K T ta Γ Γ (.sh (.bl a))) (h2 : a = false → EvS K T tb Γ Γ (.sh (.bl b))) : EvS K T (tOrV ta tb) Γ Γ (.sh (.bl (a || b))) := ⟨rfl, fun B0 H0 σ Z H Q hl st k => h.2 B0 H0 σ Z H _ hl st fun v H1 q => ⟨a, q.repS, by
  cases a with
  | false => exact (h2 rfl).2 B0 H0 σ Z H1 Q hl q.drop k
  | true => exact k _ H1 (q.drop.push Sc.bl)⟩⟩
theorem ev_notV {a : Bool} (h : EvS K T ta Γ Γ' (.sh (.bl a))) : EvS K T (tNotV ta) Γ Γ' (.sh (.bl (!a))) := ⟨h.1, fun B0 H0 σ Z H Q hl st k => h.2 B0 H0 σ Z H _ hl st fun v H1 q => ⟨a, q.repS, k _ H1 (q.drop.push Sc.bl)⟩⟩
theorem ev_ifE {b : Bool} (h : EvB K T tt Γ Γ b) (h1 : b = true → EvS K T ta Γ Γ' s) (h2 : b = false → EvS K T tb Γ Γ' s) (hl : Γ'.length = Γ.length) : EvS K T (tIf tt ta tb) Γ Γ' s := ⟨hl, fun B0 H0 σ Z H Q hl st k => h.2 B0 H0 σ Z H _ hl st fun H1 q => by
  cases b with
  | true => exact (h1 rfl).2 B0 H0 σ Z H1 Q hl q k
  | false => exact (h2 rfl).2 B0 H0 σ Z H1 Q hl q k⟩
theorem ev_is {d e : D} (h : EvS K T te Γ Γ' (.sh d)) (q : d = e) : EvS K T te Γ Γ' (.sh e) := q ▸ h
theorem eb_is {a b : Bool} (h : EvB K T tt Γ Γ' a) (q : a = b) : EvB K T tt Γ Γ' b := q ▸ h
end

/-! ### displays -/
section
variable {K : PySem.W.Frag} {T : Amb} {Γ Γ' Γ1 Γ2 Γ3 : List Slot} {ta tb te : TE} {t : TA} {s s1 s2 : Slot} {r : R2}
theorem repL_of {B H : Hp} : ∀ {ds : List D} {vs : List V}, vs.length = ds.length → (∀ c ∈ (ds.map Slot.sh).zip (vs.map some), CellOk K B H c) → RepL K B ds vs
  | [], [], _, _ => rfl
  | [], _ :: _, e, _ => by simp at e
  | _ :: _, [], e, _ => by simp at e
  | d :: ds, v :: vs, e, h => by
    obtain ⟨w, q, r⟩ := h (Slot.sh d, some v) (by simp)
    cases q
    exact ⟨v, vs, rfl, r, repL_of (by simpa using e) fun c hc => h c (by rw [List.map_cons, List.map_cons, List.zip_cons_cons]; exact List.mem_cons_of_mem _ hc)⟩
theorem ev_tup {ds : List D} (h : EvA K T t Γ Γ' (ds.map .sh)) (hz : ds.length ≤ 100000) : EvS K T (tTup t) Γ Γ' (.sh (.tup ds)) := by
  refine ⟨h.1, fun B0 H0 σ Z H Q hl st k => ?_⟩
  refine h.2 B0 H0 σ Z H _ hl st fun vs H1 e q1 => ⟨?_, fun p hp => ?_⟩
  · rw [e, List.length_map]; exact Evl.sz_of hz
  · refine k _ _ (St.sub (St.newSh (d := .tup ds) (o := .tup vs) q1 hp (fun _ z => by cases z) fun B e3 ok => ?_) ?_)
    · exact ⟨p, vs, rfl, upd_same, (repL_of (H := H1) (by rw [e, List.length_map]) fun c hc => ok c (List.mem_append_left _ hc)).mono (Evl.Ex.new (Evl.fresh_back e3 hp))⟩
    · exact .of_sublist (List.Sublist.cons_cons _ (List.sublist_append_right _ _))
theorem ev_lst {ds : List D} (h : EvA K T t Γ Γ' (ds.map .sh)) (hz : ds.length ≤ 100000) : EvS K T (tLst t) Γ Γ' (.ownL ds) := by
  refine ⟨h.1, fun B0 H0 σ Z H Q hl st k => ?_⟩
  refine h.2 B0 H0 σ Z H _ hl st fun vs H1 e q1 => ⟨?_, fun p hp => ?_⟩
  · rw [e, List.length_map]; exact Evl.sz_of hz
  · refine k _ _ ((q1.newOwn (s := .ownL ds) hp rfl fun B e3 ok => ?_).sub ?_)
    · exact ⟨p, vs, rfl, upd_same, repL_of (H := H1) (by rw [e, List.length_map]) fun c hc => ok c (List.mem_append_left _ hc)⟩
    · exact .of_sublist (List.Sublist.cons_cons _ (List.sublist_append_right _ _))
end
end Fx

/-! Fx C: calls, statements, loops, promises. -/
namespace Fx
open PySem L2 NdefX
section
variable {K : PySem.W.Frag} {T : Amb} {B B' B0 H0 H H' : Hp} {cs cs' : List Cell}
/-! ### calls -/
/-- a def's promise: from data ds it gives s -/
def spR (K : PySem.W.Frag) (T : List NTab) (Rel : List D → Slot → Prop) : Sp := fun vs H Q _ => ∃ ds s B, Rel ds s ∧ Ex B H ∧ NoTab B ∧ TabsN T H ∧ RepL K B ds vs ∧ ∀ v H', St K (plainA T) B H [(s, some v)] H' → Q v H'
/-- a callee's end, seen by its caller -/
theorem St.merge {T' : Amb} {B1 : Hp} {s : Slot} {v : V} (hT : T'.tabs = T.tabs) (fa : T.fact B0 H0) (e1 : Ex B0 B) (e2 : ExN H0 H) (e4 : ∀ q o, B q = some o → B0 q = some o ∨ H0 q = none) (e5 : ∀ c ∈ cs, CellOk K B H c)
    (e6 : (cs.filterMap owned).Nodup) (e7 : ∀ p ∈ cs.filterMap owned, B p = none ∧ H0 p = none) (st : St K T' B H [(s, some v)] H') : St K T B0 H0 ((s, some v) :: cs) H' := by
  obtain ⟨B', f1, f2, f3, nt, tb, f4, f5, f6, f7⟩ := st
  have there : ∀ p ∈ cs.filterMap owned, ∃ o, H p = some o := fun p hp => by
    obtain ⟨c, hc, ho⟩ := List.mem_filterMap.mp hp
    exact (e5 c hc).there ho
  refine ⟨B', e1.trans f1, e2.trans f2, f3, nt, ⟨hT ▸ tb.1, fa⟩, fun q o h => ?_, fun c hc => ?_, ?_, fun p hp => ?_⟩
  · rcases f4 q o h with z | z
    · exact e4 q o z
    · exact .inr (e2.2 q z)
  · rcases List.mem_cons.mp hc with z | z
    · rw [z]
      exact f5 _ List.mem_cons_self
    · exact (e5 c z).mono f1 f2.1
  · rw [List.filterMap_cons]
    cases ho : owned (s, some v) with
    | none => exact e6
    | some p =>
      refine List.nodup_cons.mpr ⟨fun hp => ?_, e6⟩
      obtain ⟨o, h⟩ := there p hp
      have q := (f7 p (by rw [List.filterMap_cons, ho]; exact List.mem_cons_self)).2
      rw [q] at h
      cases h
  · have old : p ∈ cs.filterMap owned → B' p = none ∧ H0 p = none := fun hp => by
      refine ⟨?_, (e7 p hp).2⟩
      cases q : B' p with
      | none => rfl
      | some o =>
        rcases f4 p o q with z | z
        · rw [(e7 p hp).1] at z
          cases z
        · obtain ⟨u, h⟩ := there p hp
          rw [z] at h
          cases h
    rw [List.filterMap_cons] at hp
    cases ho : owned (s, some v) with
    | none => rw [ho] at hp; exact old hp
    | some p' =>
      rw [ho] at hp
      rcases List.mem_cons.mp hp with z | z
      · rw [z]
        have q := f7 p' (by rw [List.filterMap_cons, ho]; exact List.mem_cons_self)
        exact ⟨q.1, e2.2 _ q.2⟩
      · exact old z
theorem St.callee {Rel : List D → Slot → Prop} {ds : List D} {s : Slot} {vs : List V} {Q : VK} {E : XK} (h : St K T B0 H0 ((ds.map Slot.sh).zip (vs.map some) ++ cs) H) (hl : vs.length = ds.length) (hr : Rel ds s)
    (k : ∀ v H', St K T B0 H0 ((s, some v) :: cs) H' → Q v H') : spR K T.tabs Rel vs H Q E := by
  obtain ⟨B, e1, e2, e3, nt, tb, e4, e5, e6, e7⟩ := h
  have sl : cs.Sublist ((ds.map Slot.sh).zip (vs.map some) ++ cs) := List.sublist_append_right _ _
  exact ⟨ds, s, B, hr, e3, nt, tb.1, repL_of (H := H) hl fun c hc => e5 c (List.mem_append_left _ hc), fun v H' st' =>
    k v H' (St.merge (T' := plainA T.tabs) (B1 := B) rfl tb.2 e1 e2 e4 (fun c hc => e5 c (sl.subset hc)) (e6.sublist (sl.filterMap owned)) (fun p hp => e7 p ((sl.filterMap owned).subset hp)) st')⟩
variable {Γ Γ' Γ1 Γ2 : List Slot} {s : Slot}
theorem ev_call {Rel : List D → Slot → Prop} {ds : List D} {t : TA} {E : XK} (h : EvA K T t Γ Γ' (ds.map .sh)) (hr : Rel ds s) : EvS K T (tCall (spR K T.tabs Rel) [] E t) Γ Γ' s := by
  refine ⟨h.1, fun B0 H0 σ Z H Q hl st k => ?_⟩
  refine h.2 B0 H0 σ Z H _ hl st fun vs H1 e q1 => ?_
  show spR K T.tabs Rel (vs ++ []) H1 Q E
  rw [List.append_nil]
  exact q1.callee (by rw [e, List.length_map]) hr k

/-! ### statements -/
inductive Outc where
  | nx (Γ : List Slot) | rt (s : Slot) | bk (Γ : List Slot) | ct (Γ : List Slot)
def isRd : Slot → Bool
  | .rd (.lst _) => true
  | .rd (.dic _) => true
  | _ => false
def NoRd (cs : List Cell) : Prop := ∀ c ∈ cs, isRd c.1 = false
structure EndsOk (K : PySem.W.Frag) (T : Amb) (B0 H0 : Hp) (Z : List Cell) (n : Nat) (R : Outc → Prop) (D : Ends) : Prop where
  nx : ∀ Γ' σ' H', R (.nx Γ') → Γ'.length = n → σ'.length = n → St K T B0 H0 (Z ++ Γ'.zip σ') H' → D.nx σ' H'
  rt : ∀ s v H', R (.rt s) → St K T B0 H0 ((s, some v) :: Z) H' → D.rt v H'
  bk : ∀ Γ' σ' H', R (.bk Γ') → Γ'.length = n → σ'.length = n → St K T B0 H0 (Z ++ Γ'.zip σ') H' → D.bk σ' H'
  ct : ∀ Γ' σ' H', R (.ct Γ') → Γ'.length = n → σ'.length = n → St K T B0 H0 (Z ++ Γ'.zip σ') H' → D.ct σ' H'
def DoesS (K : PySem.W.Frag) (T : Amb) (ts : TS) (Γ : List Slot) (R : Outc → Prop) : Prop :=
  ∀ (B0 H0 : Hp) (σ : L2.St) (Z : List Cell) (H : Hp) (D : Ends), NoRd Z → σ.length = Γ.length → St K T B0 H0 (Z ++ Γ.zip σ) H → EndsOk K T B0 H0 Z Γ.length R D → ts D σ H
/-- behind a first part: u -/
def thenR (K : PySem.W.Frag) (T : Amb) (u : TS) (R : Outc → Prop) : Outc → Prop
  | .nx Γ => DoesS K T u Γ R
  | o => R o
variable {t u : TS} {te ta tb : TE} {tt : TT} {R R' : Outc → Prop}
theorem does_seq (h : DoesS K T t Γ (thenR K T u R)) : DoesS K T (tSeq t u) Γ R := fun B0 H0 σ Z H D nr hl st e =>
  h B0 H0 σ Z H { D with nx := u D } nr hl st ⟨fun Γ' σ' H' r l1 l2 st' => r B0 H0 σ' Z H' D nr (l2.trans l1.symm) st' (l1 ▸ e), e.rt, e.bk, e.ct⟩
theorem does_imp (h : DoesS K T t Γ R) (i : ∀ o, R o → R' o) : DoesS K T t Γ R' := fun B0 H0 σ Z H D nr hl st e =>
  h B0 H0 σ Z H D nr hl st ⟨fun Γ' σ' H' r => e.nx Γ' σ' H' (i _ r), fun s v H' r => e.rt s v H' (i _ r), fun Γ' σ' H' r => e.bk Γ' σ' H' (i _ r), fun Γ' σ' H' r => e.ct Γ' σ' H' (i _ r)⟩
theorem does_next (h : R (.nx Γ)) : DoesS K T tNext Γ R := fun B0 H0 σ Z H D nr hl st e => e.nx Γ σ H h rfl hl st
theorem does_break (h : R (.bk Γ)) : DoesS K T tBreak Γ R := fun B0 H0 σ Z H D nr hl st e => e.bk Γ σ H h rfl hl st
theorem does_cont (h : R (.ct Γ)) : DoesS K T tCont Γ R := fun B0 H0 σ Z H D nr hl st e => e.ct Γ σ H h rfl hl st
theorem does_drop (h : EvS K T te Γ Γ' s) (k : R (.nx Γ')) : DoesS K T (tDrop te) Γ R := fun B0 H0 σ Z H D nr hl st e =>
  h.2 B0 H0 σ Z H _ hl st fun v H' q => e.nx Γ' σ H' k h.1 hl q.drop
theorem does_ret (h : EvS K T te Γ Γ' s) (k : R (.rt s)) : DoesS K T (tRet te) Γ R := fun B0 H0 σ Z H D nr hl st e =>
  h.2 B0 H0 σ Z H _ hl st fun v H' q => e.rt s v H' k (q.sub (.of_sublist (List.Sublist.cons_cons _ (List.sublist_append_left _ _))))
theorem does_retN (k : R (.rt (.sh .non))) : DoesS K T tRetN Γ R := fun B0 H0 σ Z H D nr hl st e =>
  e.rt (.sh .non) .non H k ((st.push Sc.non).sub (.of_sublist (List.Sublist.cons_cons _ (List.sublist_append_left _ _))))
theorem does_if {b : Bool} (h : EvB K T tt Γ Γ' b) (h1 : b = true → DoesS K T t Γ' R) (h2 : b = false → DoesS K T u Γ' R) : DoesS K T (tIfS tt t u) Γ R := fun B0 H0 σ Z H D nr hl st e =>
  h.2 B0 H0 σ Z H _ hl st fun H' q => by
    cases b with
    | true => exact h1 rfl B0 H0 σ Z H' D nr (hl.trans h.1.symm) q (h.1 ▸ e)
    | false => exact h2 rfl B0 H0 σ Z H' D nr (hl.trans h.1.symm) q (h.1 ▸ e)
/-- targets -/
def BindG (K : PySem.W.Frag) (T : Amb) (g : TG) (vs : List Nat) (s : Slot) (Γ Γ' : List Slot) : Prop :=
  Γ'.length = Γ.length ∧ ∀ (B0 H0 : Hp) (σ : L2.St) (Z : List Cell) (H : Hp) (v : V) (Q : L2.St → Hp → Prop), σ.length = Γ.length → St K T B0 H0 ((s, some v) :: (Z ++ Γ.zip σ)) H → (∀ σ', σ'.length = Γ.length → (∀ k, k ∉ vs → σ'[k]? = σ[k]?) → St K T B0 H0 (Z ++ Γ'.zip σ') H → Q σ' H) → g v σ H Q
theorem bind_name {i : Nat} : BindG K T (gName i) [i] s Γ (Γ.set i s) := ⟨List.length_set, fun B0 H0 σ Z H v Q hl st k => by
  refine k (σ.set i (some v)) (by rw [List.length_set, hl]) (fun k hk => List.getElem?_set_ne (fun z => hk (by rw [z]; exact List.mem_singleton_self _))) ?_
  rw [zip_set2]
  exact st.sub SubP.append_set⟩
/-- a tuple's items, bound one by one -/
def BindGs (K : PySem.W.Frag) (T : Amb) (g : TGs) (ws : List Nat) (ds : List D) (Γ Γ' : List Slot) : Prop :=
  Γ'.length = Γ.length ∧ ∀ (B0 H0 : Hp) (σ : L2.St) (Z : List Cell) (H : Hp) (vs : List V) (Q : L2.St → Hp → Prop), vs.length = ds.length → σ.length = Γ.length → St K T B0 H0 ((ds.map Slot.sh).zip (vs.map some) ++ (Z ++ Γ.zip σ)) H → (∀ σ', σ'.length = Γ.length → (∀ k, k ∉ ws → σ'[k]? = σ[k]?) → St K T B0 H0 (Z ++ Γ'.zip σ') H → Q σ' H) → g vs σ H Q
theorem binds_nil : BindGs K T gNil [] [] Γ Γ := ⟨rfl, fun B0 H0 σ Z H vs Q e hl st k => ⟨List.eq_nil_of_length_eq_zero e, k σ hl (fun _ _ => rfl) (by
  have z := List.eq_nil_of_length_eq_zero e
  subst z
  exact st)⟩⟩
theorem binds_cons {g : TG} {gs : TGs} {d : D} {ds : List D} {ws ws' : List Nat} (h : BindG K T g ws (.sh d) Γ Γ1) (t : BindGs K T gs ws' ds Γ1 Γ2) : BindGs K T (gCons g gs) (ws ++ ws') (d :: ds) Γ Γ2 := ⟨t.1.trans h.1, fun B0 H0 σ Z H vs Q e hl st k => by
  cases vs with
  | nil => simp at e
  | cons v r =>
    refine ⟨v, r, rfl, ?_⟩
    refine h.2 B0 H0 σ ((ds.map Slot.sh).zip (r.map some) ++ Z) H v _ hl (by simpa [List.append_assoc] using st) fun σ' l' a1 st' => ?_
    exact t.2 B0 H0 σ' Z H r Q (by simpa using e) (l'.trans h.1.symm) (by simpa [List.append_assoc] using st') fun σ2 l2 a2 st2 => k σ2 (l2.trans h.1) (fun j hj => (a2 j fun z => hj (List.mem_append_right _ z)).trans (a1 j fun z => hj (List.mem_append_left _ z))) st2⟩
theorem repL_cells {B H : Hp} : ∀ {ds : List D} {vs : List V}, RepL K B ds vs → ∀ c ∈ (ds.map Slot.sh).zip (vs.map some), CellOk K B H c
  | [], vs, _, c, hc => by simp at hc
  | d :: ds, vs, h, c, hc => by
    obtain ⟨v, r, rfl, h2, h3⟩ := (show ∃ v r, vs = v :: r ∧ Rep K B d v ∧ RepL K B ds r from h)
    rw [List.map_cons, List.map_cons, List.zip_cons_cons] at hc
    rcases List.mem_cons.mp hc with z | z
    · rw [z]
      exact ⟨v, rfl, h2⟩
    · exact repL_cells h3 c z
theorem owned_sh : ∀ {ds : List D} {vs : List V}, ((ds.map Slot.sh).zip (vs.map some)).filterMap owned = []
  | [], vs => rfl
  | d :: ds, [] => rfl
  | d :: ds, v :: vs => by
    rw [List.map_cons, List.map_cons, List.zip_cons_cons, List.filterMap_cons]
    exact owned_sh (ds := ds) (vs := vs)
/-- a tuple opened -/
theorem St.untup {ds : List D} {v : V} (h : St K T B0 H0 ((.sh (.tup ds), some v) :: cs) H) : ∃ p vs, v = .ref p ∧ H p = some (.tup vs) ∧ vs.length = ds.length ∧ St K T B0 H0 ((ds.map Slot.sh).zip (vs.map some) ++ cs) H := by
  obtain ⟨B, e1, e2, e3, nt, tb, e4, e5, e6, e7⟩ := h
  obtain ⟨w, q, p, vs, r1, r2, r3⟩ := e5 _ List.mem_cons_self
  cases q
  refine ⟨p, vs, r1, e3 _ _ r2, r3.length.symm, B, e1, e2, e3, nt, tb, e4, fun c hc => ?_, ?_, fun p hp => ?_⟩
  · rcases List.mem_append.mp hc with z | z
    · exact repL_cells r3 c z
    · exact e5 c (List.mem_cons_of_mem _ z)
  · rw [List.filterMap_append, owned_sh]
    exact e6
  · rw [List.filterMap_append, owned_sh] at hp
    exact e7 p hp
theorem bind_tup {n : Nat} {gs : TGs} {ds : List D} {ws : List Nat} (hn : ds.length = n) (h : BindGs K T gs ws ds Γ Γ') : BindG K T (gTup K n gs) ws (.sh (.tup ds)) Γ Γ' := ⟨h.1, fun B0 H0 σ Z H v Q hl st k => by
  obtain ⟨p, vs, rfl, hp, e, st'⟩ := st.untup
  exact ⟨p, vs, rfl, Evl.st_of hp, e.trans hn, h.2 B0 H0 σ Z H vs Q e hl st' k⟩⟩
theorem does_asg {g : TG} {ws : List Nat} (h : EvS K T te Γ Γ1 s) (hg : BindG K T g ws s Γ1 Γ2) (k : R (.nx Γ2)) : DoesS K T (tAsg te g) Γ R := fun B0 H0 σ Z H D nr hl st e =>
  h.2 B0 H0 σ Z H _ hl st fun v H' q => hg.2 B0 H0 σ Z H' v _ (hl.trans h.1.symm) q fun σ' l' _ st' => e.nx Γ2 σ' H' k (hg.1.trans h.1) (l'.trans h.1) st'
theorem does_set {i : Nat} (h : EvS K T te Γ Γ1 s) (k : R (.nx (Γ1.set i s))) : DoesS K T (tAsg te (gName i)) Γ R := does_asg h bind_name k

/-! ### changes of own objects -/
theorem tabsN_upd {T : List NTab} {p : Addr} {o o' : HO} (h : TabsN T H) (hp : H p = some o') (h1 : ∀ ps, o' ≠ .tbl ps) (h2 : ∀ φ, o' ≠ .ext φ) : TabsN T (upd H p o) := fun x hx => by
  obtain ⟨ps, a1, a2, a3⟩ := h x hx
  have np : x.1 ≠ p := fun z => by
    rw [z, hp] at a1
    exact h1 ps (Option.some.inj a1)
  refine ⟨ps, by rw [upd_ne np]; exact a1, a2, fun pos cv hc => ?_⟩
  obtain ⟨c, b1, b2⟩ := a3 pos cv hc
  refine ⟨c, b1, ?_⟩
  have nc : c ≠ p := fun z => by
    rw [z, hp] at b2
    exact h2 _ (Option.some.inj b2)
  rw [upd_ne nc]
  exact b2
/-- an own object is changed in its place -/
def NoRdAt (p : Addr) (cs : List Cell) : Prop := ∀ c ∈ cs, isRd c.1 = true → c.2 ≠ some (.ref p)
theorem NoRd.at {p : Addr} (h : NoRd cs) : NoRdAt p cs := fun c hc z => by
  rw [h c hc] at z
  cases z
theorem St.mut {i : Nat} {s s' : Slot} {p : Addr} {o o' : HO} (h : St K T B0 H0 cs H) (hi : cs[i]? = some (s, some (.ref p))) (ho : owned (s, some (.ref p)) = some p) (ho' : owned (s', some (.ref p)) = some p) (nr : NoRdAt p cs)
    (hp : H p = some o') (h1 : ∀ ps, o' ≠ .tbl ps) (h2 : ∀ φ, o' ≠ .ext φ) (hno : ∀ ps, o ≠ .tbl ps) (new : ∀ B, Ex B H → B p = none → (∀ c ∈ cs, CellOk K B H c) → CellOk K B (upd H p o) (s', some (.ref p))) :
    St K T B0 H0 (cs.set i (s', some (.ref p))) (upd H p o) := by
  obtain ⟨B, e1, e2, e3, nt, tb, e4, e5, e6, e7⟩ := h
  have hlt : i < cs.length := (List.getElem?_eq_some_iff.mp hi).1
  have hm : (s, some (V.ref p)) ∈ cs := List.mem_of_getElem? hi
  have hpo : p ∈ cs.filterMap owned := List.mem_filterMap.mpr ⟨_, hm, ho⟩
  obtain ⟨bp, hp0⟩ := e7 p hpo
  have pm : cs.Perm ((s, some (V.ref p)) :: cs.eraseIdx i) := by
    have e : cs = cs.set i (s, some (V.ref p)) := by
      apply List.ext_getElem?
      intro j
      rw [List.getElem?_set]
      by_cases z : i = j
      · subst z
        rw [if_pos rfl, if_pos hlt, hi]
      · rw [if_neg z]
    have q := set_perm (s, some (V.ref p)) cs i hlt
    rw [← e] at q
    exact q
  have pf : (cs.filterMap owned).Perm (p :: (cs.eraseIdx i).filterMap owned) := by
    have q := pm.filterMap owned
    rw [List.filterMap_cons, ho] at q
    exact q
  have nd := pf.nodup_iff.mp e6
  have pn : p ∉ (cs.eraseIdx i).filterMap owned := (List.nodup_cons.mp nd).1
  have pm' := set_perm (s', some (V.ref p)) cs i hlt
  have pf' : ((cs.set i (s', some (V.ref p))).filterMap owned).Perm (p :: (cs.eraseIdx i).filterMap owned) := by
    have q := pm'.filterMap owned
    rw [List.filterMap_cons, ho'] at q
    exact q
  refine ⟨B, e1, ⟨fun a u ha hnt => ?_, fun q hq => ?_⟩, fun a u ha => ?_, nt, ⟨tabsN_upd tb.1 hp h1 h2, tb.2⟩, e4, fun c hc => ?_, pf'.nodup_iff.mpr nd, fun q hq => e7 q (pf.mem_iff.mpr (pf'.mem_iff.mp hq))⟩
  · have na : a ≠ p := fun z => by
      rw [z, hp0] at ha
      cases ha
    rw [upd_ne na]
    exact e2.1 a u ha hnt
  · by_cases z : q = p
    · rw [z, upd_same] at hq
      cases hq
    · rw [upd_ne z] at hq
      exact e2.2 q hq
  · have na : a ≠ p := fun z => by
      rw [z, bp] at ha
      cases ha
    rw [upd_ne na]
    exact e3 a u ha
  · rcases List.mem_cons.mp (pm'.mem_iff.mp hc) with z | z
    · rw [z]
      exact new B e3 bp e5
    · have hc' : c ∈ cs := pm.mem_iff.mpr (List.mem_cons_of_mem _ z)
      have ok := e5 c hc'
      have nrc := nr c hc'
      have np : ∀ q, owned c = some q → q ≠ p := fun q hq e => pn (List.mem_filterMap.mpr ⟨c, z, by rw [hq, e]⟩)
      obtain ⟨sl, ov⟩ := c
      cases sl with
      | any => trivial
      | sh d => exact ok
      | rd d =>
        obtain ⟨v, rfl, hv⟩ := ok
        refine ⟨v, rfl, ?_⟩
        cases d with
        | lst ds =>
          have nv : v ≠ .ref p := fun z => nrc rfl (by rw [z])
          obtain ⟨q, vs, g1, g2, g3⟩ := (show ∃ p vs, v = .ref p ∧ H p = some (.lst vs) ∧ RepL K B ds vs from hv)
          exact ⟨q, vs, g1, by rw [upd_ne (fun z => nv (by rw [g1, z]))]; exact g2, g3⟩
        | dic ds =>
          have nv : v ≠ .ref p := fun z => nrc rfl (by rw [z])
          obtain ⟨q, vs, g1, g2, g3⟩ := (show ∃ p ws, v = .ref p ∧ H p = some (.dK ws) ∧ RepK K B ds ws from hv)
          exact ⟨q, vs, g1, by rw [upd_ne (fun z => nv (by rw [g1, z]))]; exact g2, g3⟩
        | non => exact hv
        | bl b => exact hv
        | int i => exact hv
        | str s => exact hv
        | adr a => exact hv
        | tup ds => exact hv
        | obj C fs => exact hv
        | scr ns => exact hv
      | ownL ds =>
        obtain ⟨q, vs, rfl, h1, h2⟩ := ok
        exact ⟨q, vs, rfl, by rw [upd_ne (np q rfl)]; exact h1, h2⟩
      | ownK ds =>
        obtain ⟨q, vs, rfl, h1, h2⟩ := ok
        exact ⟨q, vs, rfl, by rw [upd_ne (np q rfl)]; exact h1, h2⟩
      | ownT ds =>
        obtain ⟨q, vs, rfl, h1, h2⟩ := ok
        exact ⟨q, vs, rfl, by rw [upd_ne (np q rfl)]; exact h1, h2⟩
      | ownO x C fs =>
        obtain ⟨q, vs, rfl, ⟨h0, dx, h1⟩, h2⟩ := ok
        exact ⟨q, vs, rfl, ⟨h0, dx, by rw [upd_ne (np q rfl)]; exact h1⟩, h2⟩
end
end Fx

/-! Fx D: operations, loops, comprehensions. -/
namespace Fx
open PySem L2 NdefX
/-! ### rules for operators of several kinds -/
section
variable {X : Cx}
theorem orR {f : Value → Value → Sem Value} {r r' : R2} (h : OpR X f r) (h' : OpR X f r') : OpR X f (fun x y H Q => r x y H Q ∨ r' x y H Q) := fun pins s σ H x y v u Q I rx ry q =>
  q.elim (h pins s σ H x y v u Q I rx ry) (h' pins s σ H x y v u Q I rx ry)
def rAddS : R2 := fun x y H Q => ∃ i j, x = .str i ∧ y = .str j ∧ i.length + j.length ≤ sizeLine ∧ Q (.str (i ++ j)) H
def rAddU : R2 := fun x y H Q => rI0 (fun i j => .int (i + j)) x y H Q ∨ rAddS x y H Q ∨ rCat x y H Q
theorem op_addU : OpR X (binaryOp .Add) rAddU := orR op_add (orR op_add_str op_cat)
def rMulI : R2 := rI CMulW fun i j => .int (i * j)
def rModI : R2 := rI (fun _ j => 0 < j) fun i j => .int (i % j)
def rDivI : R2 := rI CDivW fun i j => .int (i / j)
def rSubI : R2 := rI0 fun i j => .int (i - j)
def rShr : R2 := rI (fun _ j => 0 ≤ j) fun i j => .int (i / 2 ^ j.toNat)
def rShl : R2 := rI CPow fun i j => .int (i * 2 ^ j.toNat)
def rPow : R2 := rI CPow fun i j => .int (i ^ j.toNat)
def rAnd : R2 := rI0 fun i j => .int (Builtin.bitAnd i j)
def rOr : R2 := rI0 fun i j => .int (Builtin.bitOr i j)
def rXor : R2 := rI0 fun i j => .int (Builtin.bitXor i j)
theorem op_mulI : OpR X (binaryOp .Mult) rMulI := op_mulW
theorem op_modI : OpR X (binaryOp .Mod) rModI := op_mod
theorem op_divI : OpR X (binaryOp .FloorDiv) rDivI := op_fdivW
theorem op_subI : OpR X (binaryOp .Sub) rSubI := op_sub
theorem op_shrI : OpR X (binaryOp .RShift) rShr := op_shr
theorem op_shlI : OpR X (binaryOp .LShift) rShl := op_shl
theorem op_powI : OpR X (binaryOp .Pow) rPow := op_pow
theorem op_andI : OpR X (binaryOp .BitAnd) rAnd := op_and
theorem op_orI : OpR X (binaryOp .BitOr) rOr := op_or
theorem op_xorI : OpR X (binaryOp .BitXor) rXor := op_xor
def rCmp (p : Int → Int → Bool) : R2 := rI0 fun i j => .bl (p i j)
abbrev rLt : R2 := rCmp fun i j => decide (i < j)
abbrev rLe : R2 := rCmp fun i j => decide (i ≤ j)
abbrev rGt : R2 := rCmp fun i j => decide (j < i)
abbrev rGe : R2 := rCmp fun i j => decide (j ≤ i)
theorem op_ltI : OpR X (compareOp .Lt) rLt := op_lt
theorem op_leI : OpR X (compareOp .LtE) rLe := op_le
theorem op_gtI : OpR X (compareOp .Gt) rGt := op_gt
theorem op_geI : OpR X (compareOp .GtE) rGe := op_ge
def rEqU (K : PySem.W.Frag) : R2 := fun x y H Q => rEq x y H Q ∨ rEqD K x y H Q
def rNeU (K : PySem.W.Frag) : R2 := fun x y H Q => rNe x y H Q ∨ rNeD K x y H Q
theorem op_eqU (hu : X.A.units + 64 < cLine) : OpR X (compareOp .Eq) (rEqU X.K) := orR op_eq (op_eqD hu)
theorem op_neU (hu : X.A.units + 64 < cLine) : OpR X (compareOp .NotEq) (rNeU X.K) := orR op_ne (op_neD hu)
def rInStr : R2 := fun x y H Q => ∃ (c : Nat) (z : Str), x = .str ⟨#[c]⟩ ∧ y = .str z ∧ Q (.bl (decide (c ∈ z.cps.toList))) H
def rNotInStr : R2 := fun x y H Q => ∃ (c : Nat) (z : Str), x = .str ⟨#[c]⟩ ∧ y = .str z ∧ Q (.bl (!decide (c ∈ z.cps.toList))) H
def rInD : R2 := fun y x H Q => ∃ a o, x = .ref a ∧ DGet H a y o ∧ Q (.bl o.isSome) H
def rNotInD : R2 := fun y x H Q => ∃ a o, x = .ref a ∧ DGet H a y o ∧ Q (.bl (!o.isSome)) H
theorem op_inD' (hu : X.A.units + 1 < cLine) : OpR X (compareOp .In) rInD := fun pins s σ H y x v u Q I ry rx q => by
  obtain ⟨a, o, rfl, g, q⟩ := q
  cases (show u = Value.ref a from rx)
  exact d_in hu I g ry fun s' I' => ⟨.bl _, H, I', rfl, q⟩
theorem op_notInD' (hu : X.A.units + 1 < cLine) : OpR X (compareOp .NotIn) rNotInD := fun pins s σ H y x v u Q I ry rx q => by
  obtain ⟨a, o, rfl, g, q⟩ := q
  cases (show u = Value.ref a from rx)
  exact d_notIn hu I g ry fun s' I' => ⟨.bl _, H, I', rfl, q⟩
def rInU (K : PySem.W.Frag) : R2 := fun x y H Q => rIn K false x y H Q ∨ rInStr x y H Q ∨ rInD x y H Q
def rNotInU (K : PySem.W.Frag) : R2 := fun x y H Q => rIn K true x y H Q ∨ rNotInStr x y H Q ∨ rNotInD x y H Q
theorem op_inU (hu : X.A.units + 1 < cLine) : OpR X (compareOp .In) (rInU X.K) := orR op_in_seq (orR op_in_sign (op_inD' hu))
theorem op_notInU (hu : X.A.units + 1 < cLine) : OpR X (compareOp .NotIn) (rNotInU X.K) := orR op_notIn_seq (orR op_notIn_sign (op_notInD' hu))
/-- a[i] of a list, a tuple, a text, a dict -/
def tIxU (K : PySem.W.Frag) (ta tb : TE) : TE := fun σ H Q => tOp (rIx K) ta tb σ H Q ∨ tDGet ta tb σ H Q
theorem pe_ixU {a b : Expr} {ta tb : TE} {pos : Pos} (hu : X.A.units + 1 < cLine) (ha : PE X a ta) (hb : PE X b tb) (h1 : PlainIx b) (h2 : NoSl b) : PE X (.Subscript a b pos) (tIxU X.K ta tb) := ⟨fun pins s σ H Q I h =>
  h.elim ((pe_ix ix_seq ha hb h1).run pins s σ H Q I) ((pe_dget hu ha hb h2).run pins s σ H Q I)⟩
end
section
variable {K : PySem.W.Frag} {T : Amb} {B B' B0 H0 H H' : Hp} {cs cs' : List Cell} {Γ Γ' Γ1 Γ2 : List Slot} {s s1 s2 : Slot} {ta tb te : TE} {tt : TT} {t u : TS} {R : Outc → Prop}
/-! ### operations on known data -/
theorem rs_inl {r r' : R2} (h : RS K T r s1 s2 s) : RS K T (fun x y H Q => r x y H Q ∨ r' x y H Q) s1 s2 s := fun B0 H0 cs H v w Q st k => .inl (h B0 H0 cs H v w Q st k)
theorem rs_inr {r r' : R2} (h : RS K T r' s1 s2 s) : RS K T (fun x y H Q => r x y H Q ∨ r' x y H Q) s1 s2 s := fun B0 H0 cs H v w Q st k => .inr (h B0 H0 cs H v w Q st k)
theorem rs_I0 {g : Int → Int → V} {i j : Int} {d : D} (h : Sc d (g i j)) : RS K T (rI0 g) (.sh (.int i)) (.sh (.int j)) (.sh d) := fun B0 H0 cs H v w Q st k =>
  ⟨i, j, st.drop.repS, st.repS, k _ H (st.drop2.push h)⟩
theorem rs_I {C : Int → Int → Prop} {g : Int → Int → V} {i j : Int} {d : D} (hc : C i j) (h : Sc d (g i j)) : RS K T (rI C g) (.sh (.int i)) (.sh (.int j)) (.sh d) := fun B0 H0 cs H v w Q st k =>
  ⟨i, j, st.drop.repS, st.repS, hc, k _ H (st.drop2.push h)⟩
variable {i j : Int} {x y : Str}
theorem rs_add : RS K T rAddU (.sh (.int i)) (.sh (.int j)) (.sh (.int (i + j))) := rs_inl (rs_I0 Sc.int)
theorem rs_addS (h : x.length + y.length ≤ sizeLine) : RS K T rAddU (.sh (.str x)) (.sh (.str y)) (.sh (.str (x ++ y))) := rs_inr (rs_inl fun B0 H0 cs H v w Q st k =>
  ⟨x, y, st.drop.repS, st.repS, h, k _ H (st.drop2.push Sc.str)⟩)
theorem rs_sub : RS K T rSubI (.sh (.int i)) (.sh (.int j)) (.sh (.int (i - j))) := rs_I0 Sc.int
theorem rs_mul (h : CMulW i j) : RS K T rMulI (.sh (.int i)) (.sh (.int j)) (.sh (.int (i * j))) := rs_I h Sc.int
theorem rs_mod (h : 0 < j) : RS K T rModI (.sh (.int i)) (.sh (.int j)) (.sh (.int (i % j))) := rs_I (C := fun _ j => 0 < j) h Sc.int
theorem rs_div (h : CDivW i j) : RS K T rDivI (.sh (.int i)) (.sh (.int j)) (.sh (.int (i / j))) := rs_I h Sc.int
theorem rs_shr (h : 0 ≤ j) : RS K T rShr (.sh (.int i)) (.sh (.int j)) (.sh (.int (i / 2 ^ j.toNat))) := rs_I (C := fun _ j => 0 ≤ j) h Sc.int
theorem rs_shl (h : CPow i j) : RS K T rShl (.sh (.int i)) (.sh (.int j)) (.sh (.int (i * 2 ^ j.toNat))) := rs_I h Sc.int
theorem rs_pow (h : CPow i j) : RS K T rPow (.sh (.int i)) (.sh (.int j)) (.sh (.int (i ^ j.toNat))) := rs_I h Sc.int
theorem rs_and : RS K T rAnd (.sh (.int i)) (.sh (.int j)) (.sh (.int (Builtin.bitAnd i j))) := rs_I0 Sc.int
theorem rs_or : RS K T rOr (.sh (.int i)) (.sh (.int j)) (.sh (.int (Builtin.bitOr i j))) := rs_I0 Sc.int
theorem rs_xor : RS K T rXor (.sh (.int i)) (.sh (.int j)) (.sh (.int (Builtin.bitXor i j))) := rs_I0 Sc.int
theorem rs_cmp {p : Int → Int → Bool} : RS K T (rCmp p) (.sh (.int i)) (.sh (.int j)) (.sh (.bl (p i j))) := rs_I0 Sc.bl
/-- scalars by their values -/
def scV : D → Option V
  | .non => some .non
  | .bl b => some (.bl b)
  | .int i => some (.int i)
  | .str s => some (.str s)
  | _ => none
theorem scV_rep {d : D} {v w : V} (h : scV d = some v) (r : Rep K H d w) : w = v := by
  cases d with
  | non => cases h; exact r
  | bl b => cases h; exact r
  | int b => cases h; exact r
  | str b => cases h; exact r
  | _ => cases h
theorem rs_eq {d e : D} {v w : V} {b : Bool} (h1 : scV d = some v) (h2 : scV e = some w) (h3 : scal v w = true) (h4 : decide (v = w) = b) : RS K T (rEqU K) (.sh d) (.sh e) (.sh (.bl b)) := fun B0 H0 cs H v' w' Q st k => .inl (by
  have a := scV_rep h1 st.drop.repS
  have c := scV_rep h2 st.repS
  subst a c h4
  exact ⟨h3, k _ H (st.drop2.push Sc.bl)⟩)
theorem rs_ne {d e : D} {v w : V} {b : Bool} (h1 : scV d = some v) (h2 : scV e = some w) (h3 : scal v w = true) (h4 : (!decide (v = w)) = b) : RS K T (rNeU K) (.sh d) (.sh e) (.sh (.bl b)) := fun B0 H0 cs H v' w' Q st k => .inl (by
  have a := scV_rep h1 st.drop.repS
  have c := scV_rep h2 st.repS
  subst a c h4
  exact ⟨h3, k _ H (st.drop2.push Sc.bl)⟩)
theorem rs_eqI : RS K T (rEqU K) (.sh (.int i)) (.sh (.int j)) (.sh (.bl (decide (i = j)))) := rs_eq rfl rfl rfl (by rw [dec_int]; exact Bool.beq_eq_decide_eq i j)
theorem rs_neI : RS K T (rNeU K) (.sh (.int i)) (.sh (.int j)) (.sh (.bl (!decide (i = j)))) := rs_ne rfl rfl rfl (by rw [dec_int, Bool.beq_eq_decide_eq i j])
theorem rs_eqS : RS K T (rEqU K) (.sh (.str x)) (.sh (.str y)) (.sh (.bl (decide (x = y)))) := rs_eq rfl rfl rfl (by rw [dec_str]; exact Bool.beq_eq_decide_eq x y)
theorem rs_neS : RS K T (rNeU K) (.sh (.str x)) (.sh (.str y)) (.sh (.bl (!decide (x = y)))) := rs_ne rfl rfl rfl (by rw [dec_str, Bool.beq_eq_decide_eq x y])
theorem rs_eqB {a b : Bool} : RS K T (rEqU K) (.sh (.bl a)) (.sh (.bl b)) (.sh (.bl (a == b))) := rs_eq rfl rfl rfl dec_bl
theorem rs_neB {a b : Bool} : RS K T (rNeU K) (.sh (.bl a)) (.sh (.bl b)) (.sh (.bl (!(a == b)))) := rs_ne rfl rfl rfl (by rw [dec_bl])
/-! data for == at any depth -/
mutual
def toPy : D → PyData
  | .non => .none
  | .bl b => .bool b
  | .int i => .int i
  | .str s => .str s
  | .tup ds => .tuple (toPyL ds)
  | .lst ds => .list (toPyL ds)
  | _ => .none
def toPyL : List D → List PyData
  | [] => []
  | d :: ds => toPy d :: toPyL ds
end
mutual
def plainD : D → Bool
  | .non => true
  | .bl _ => true
  | .int _ => true
  | .str _ => true
  | .tup ds => plainDs ds
  | .lst ds => plainDs ds
  | _ => false
def plainDs : List D → Bool
  | [] => true
  | d :: ds => plainD d && plainDs ds
end
mutual
theorem dp_of : ∀ {d : D} {v : V}, plainD d = true → Rep K H d v → Dp K H v (toPy d)
  | .non, v, _, h => by cases (show v = .non from h); exact .non
  | .bl b, v, _, h => by cases (show v = .bl b from h); exact .bl b
  | .int b, v, _, h => by cases (show v = .int b from h); exact .int b
  | .str b, v, _, h => by cases (show v = .str b from h); exact .str b
  | .tup ds, v, p, h => by
    obtain ⟨q, vs, rfl, h1, h2⟩ := (show ∃ p vs, v = .ref p ∧ H p = some (.tup vs) ∧ RepL K H ds vs from h)
    exact .tup (Evl.st_of h1) (dpL_of p h2)
  | .lst ds, v, p, h => by
    obtain ⟨q, vs, rfl, h1, h2⟩ := (show ∃ p vs, v = .ref p ∧ H p = some (.lst vs) ∧ RepL K H ds vs from h)
    exact .lst (Evl.sq_of h1) (dpL_of p h2)
  | .adr _, _, p, _ => by cases p
  | .dic _, _, p, _ => by cases p
  | .obj _ _, _, p, _ => by cases p
  | .scr _, _, p, _ => by cases p
theorem dpL_of : ∀ {ds : List D} {vs : List V}, plainDs ds = true → RepL K H ds vs → DpAll K H vs (toPyL ds)
  | [], vs, _, h => by cases (show vs = [] from h); exact .nil
  | d :: ds, vs, p, h => by
    obtain ⟨v, r, rfl, h1, h2⟩ := (show ∃ v r, vs = v :: r ∧ Rep K H d v ∧ RepL K H ds r from h)
    have p' : (plainD d && plainDs ds) = true := p
    rw [Bool.and_eq_true] at p'
    exact .cons (dp_of p'.1 h1) (dpL_of p'.2 h2)
end
theorem rs_eqD {d e : D} {b : Bool} (p1 : plainD d = true) (p2 : plainD e = true) (h1 : SeqAt.shaped (toPy d) = true) (h2 : SeqAt.shaped (toPy e) = true) (hb : PyData.eqv (toPy d) (toPy e) = b) : RS K T (rEqU K) (.rd d) (.rd e) (.sh (.bl b)) := fun B0 H0 cs H v' w' Q st k => .inr (by
  refine ⟨toPy d, toPy e, dp_of p1 st.drop.rep, dp_of p2 st.rep, h1, h2, ?_⟩
  rw [hb]
  exact k _ H (st.drop2.push Sc.bl))
theorem rs_neD {d e : D} {b : Bool} (p1 : plainD d = true) (p2 : plainD e = true) (h1 : SeqAt.shaped (toPy d) = true) (h2 : SeqAt.shaped (toPy e) = true) (hb : (!PyData.eqv (toPy d) (toPy e)) = b) : RS K T (rNeU K) (.rd d) (.rd e) (.sh (.bl b)) := fun B0 H0 cs H v' w' Q st k => .inr (by
  refine ⟨toPy d, toPy e, dp_of p1 st.drop.rep, dp_of p2 st.rep, h1, h2, ?_⟩
  rw [hb]
  exact k _ H (st.drop2.push Sc.bl))
/-- an item of a list, read now -/
theorem St.item {ds : List D} {v : V} {d : D} {n : Nat} (h : St K T B0 H0 ((.rd (.lst ds), some v) :: cs) H) (hn : ds[n]? = some d) : ∃ p vs w, v = .ref p ∧ H p = some (.lst vs) ∧ vs.length = ds.length ∧ vs[n]? = some w ∧ St K T B0 H0 ((.sh d, some w) :: (.rd (.lst ds), some v) :: cs) H := by
  obtain ⟨B, e1, e2, e3, nt, tb, e4, e5, e6, e7⟩ := h
  obtain ⟨w, q, p, vs, r1, r2, r3⟩ := e5 _ List.mem_cons_self
  cases q
  obtain ⟨u, h1, h2⟩ := r3.get hn
  refine ⟨p, vs, u, r1, r2, r3.length.symm, h1, B, e1, e2, e3, nt, tb, e4, fun c hc => ?_, e6, e7⟩
  rcases List.mem_cons.mp hc with z | z
  · rw [z]
    exact ⟨u, rfl, h2⟩
  · exact e5 c z
theorem St.itemT {ds : List D} {v : V} {d : D} {n : Nat} (h : St K T B0 H0 ((.sh (.tup ds), some v) :: cs) H) (hn : ds[n]? = some d) : ∃ p vs w, v = .ref p ∧ H p = some (.tup vs) ∧ vs.length = ds.length ∧ vs[n]? = some w ∧ St K T B0 H0 ((.sh d, some w) :: (.sh (.tup ds), some v) :: cs) H := by
  obtain ⟨B, e1, e2, e3, nt, tb, e4, e5, e6, e7⟩ := h
  obtain ⟨w, q, p, vs, r1, r2, r3⟩ := e5 _ List.mem_cons_self
  cases q
  obtain ⟨u, h1, h2⟩ := r3.get hn
  refine ⟨p, vs, u, r1, e3 _ _ r2, r3.length.symm, h1, B, e1, e2, e3, nt, tb, e4, fun c hc => ?_, e6, e7⟩
  rcases List.mem_cons.mp hc with z | z
  · rw [z]
    exact ⟨u, rfl, h2⟩
  · exact e5 c z
theorem atI_of {α β : Type} {xs : List α} {ys : List β} {i : Int} {v : α} (hl : ys.length = xs.length) (h : atI xs i = some v) : ∃ n : Nat, xs[n]? = some v ∧ ∀ w, ys[n]? = some w → atI ys i = some w := by
  unfold atI at h
  cases e : ixN xs.length i with
  | none => rw [e] at h; cases h
  | some n =>
    rw [e] at h
    refine ⟨n, h, fun w hw => ?_⟩
    unfold atI
    rw [hl, e]
    exact hw
theorem sub132 {a b : Cell} : SubP (a :: cs) (a :: b :: cs) := .of_sublist (List.Sublist.cons_cons _ (List.sublist_cons_self _ _))
theorem ev_ixL {ds : List D} {d : D} (ha : EvS K T ta Γ Γ1 (.rd (.lst ds))) (hb : EvS K T tb Γ1 Γ2 (.sh (.int i))) (h : atI ds i = some d) : EvS K T (tIxU K ta tb) Γ Γ2 (.sh d) := by
  have q : EvS K T (tOp (rIx K) ta tb) Γ Γ2 (.sh d) := ev_op ha hb fun B0 H0 cs H v w Q st k => .inl (by
    have st1 := st.swap
    obtain ⟨B, e1, e2, e3, nt, tb, e4, e5, e6, e7⟩ := id st1
    obtain ⟨_, q, p, vs, r1, r2, r3⟩ := e5 _ List.mem_cons_self
    cases q
    obtain ⟨n, hn, hw⟩ := atI_of r3.length.symm h
    obtain ⟨p', vs', u, f1, f2, f3, f4, st2⟩ := st1.item hn
    have ew : w = .int i := st.repS
    rw [r1] at f1
    cases f1
    rw [r2] at f2
    cases f2
    refine ⟨p, vs, i, u, r1, ew, Evl.sq_of r2, hw u f4, k u H ?_⟩
    exact st2.sub (.of_sublist (List.Sublist.cons_cons _ ((List.sublist_cons_self _ _).trans (List.sublist_cons_self _ _)))))
  exact ⟨q.1, fun B0 H0 σ Z H Q hl st k => .inl (q.2 B0 H0 σ Z H Q hl st k)⟩
theorem ev_ixT {ds : List D} {d : D} (ha : EvS K T ta Γ Γ1 (.sh (.tup ds))) (hb : EvS K T tb Γ1 Γ2 (.sh (.int i))) (h : atI ds i = some d) : EvS K T (tIxU K ta tb) Γ Γ2 (.sh d) := by
  have q : EvS K T (tOp (rIx K) ta tb) Γ Γ2 (.sh d) := ev_op ha hb fun B0 H0 cs H v w Q st k => .inr (.inl (by
    have st1 := st.swap
    obtain ⟨p, vs, r1, r2, hl⟩ : ∃ p vs, v = .ref p ∧ H p = some (.tup vs) ∧ vs.length = ds.length := by
      obtain ⟨p, vs, r1, r2, r3⟩ := (show ∃ p vs, v = .ref p ∧ H p = some (.tup vs) ∧ RepL K H ds vs from st1.repS)
      exact ⟨p, vs, r1, r2, r3.length.symm⟩
    obtain ⟨n, hn, hw⟩ := atI_of hl h
    obtain ⟨p', vs', u, f1, f2, f3, f4, st2⟩ := st1.itemT hn
    have ew : w = .int i := st.repS
    rw [r1] at f1
    cases f1
    rw [r2] at f2
    cases f2
    refine ⟨p, vs, i, u, r1, ew, Evl.st_of r2, hw u f4, k u H ?_⟩
    exact st2.sub (.of_sublist (List.Sublist.cons_cons _ ((List.sublist_cons_self _ _).trans (List.sublist_cons_self _ _))))))
  exact ⟨q.1, fun B0 H0 σ Z H Q hl st k => .inl (q.2 B0 H0 σ Z H Q hl st k)⟩
theorem ev_ixS {c : Nat} (ha : EvS K T ta Γ Γ1 (.sh (.str x))) (hb : EvS K T tb Γ1 Γ2 (.sh (.int i))) (hz : x.length ≤ 100000) (h : atI x.cps.toList i = some c) : EvS K T (tIxU K ta tb) Γ Γ2 (.sh (.str ⟨#[c]⟩)) := by
  have q : EvS K T (tOp (rIx K) ta tb) Γ Γ2 (.sh (.str ⟨#[c]⟩)) := ev_op ha hb fun B0 H0 cs H v w Q st k => .inr (.inr
    ⟨x, i, c, st.drop.repS, st.repS, Evl.sz_of hz, h, k _ H (st.drop2.push Sc.str)⟩)
  exact ⟨q.1, fun B0 H0 σ Z H Q hl st k => .inl (q.2 B0 H0 σ Z H Q hl st k)⟩
/-- the script's items -/
theorem ev_ixR {ns : List Int} {m : Int} (ha : EvS K T ta Γ Γ1 (.sh (.scr ns))) (hb : EvS K T tb Γ1 Γ2 (.sh (.int i))) (h : atI ns i = some m) : EvS K T (tIxU K ta tb) Γ Γ2 (.sh (.int m)) := by
  have q : EvS K T (tOp (rIx K) ta tb) Γ Γ2 (.sh (.int m)) := ev_op ha hb fun B0 H0 cs H v w Q st k => .inl (by
    obtain ⟨p, r1, r2⟩ := (show ∃ p, v = .ref p ∧ SqL K H p (ns.map V.int) from st.drop.repS)
    obtain ⟨n, hn, hw⟩ := atI_of (ys := ns.map V.int) (by simp) h
    exact ⟨p, _, i, .int m, r1, st.repS, r2, hw _ (by rw [List.getElem?_map, hn]; rfl), k _ H (st.drop2.push Sc.int)⟩)
  exact ⟨q.1, fun B0 H0 σ Z H Q hl st k => .inl (q.2 B0 H0 σ Z H Q hl st k)⟩
end
end Fx

/-! Fx E: loops, comprehensions, built-ins. -/
namespace Fx
open PySem L2 NdefX
section
variable {K : PySem.W.Frag} {T : Amb} {B B' B0 H0 H H' : Hp} {cs cs' : List Cell} {Γ Γ' Γ1 Γ2 : List Slot} {s s1 s2 : Slot} {ta tb te : TE} {tt : TT} {t u : TS} {R : Outc → Prop}
/-- less is known -/
inductive Wk : List Slot → List Slot → Prop where
  | nil : Wk [] []
  | same {s : Slot} {a b : List Slot} (h : Wk a b) : Wk (s :: a) (s :: b)
  | any {s : Slot} {a b : List Slot} (h : Wk a b) : Wk (s :: a) (.any :: b)
theorem Wk.refl : ∀ a : List Slot, Wk a a
  | [] => .nil
  | _ :: a => .same (Wk.refl a)
theorem Wk.length {a b : List Slot} (h : Wk a b) : b.length = a.length := by
  induction h with
  | nil => rfl
  | same _ ih => rw [List.length_cons, List.length_cons, ih]
  | any _ ih => rw [List.length_cons, List.length_cons, ih]
theorem Wk.filterMap {a b : List Slot} (h : Wk a b) : ∀ σ : L2.St, ((b.zip σ).filterMap owned).Sublist ((a.zip σ).filterMap owned) := by
  induction h with
  | nil => intro σ; exact .refl _
  | @same s a b _ ih =>
    intro σ
    cases σ with
    | nil => simp
    | cons o σ =>
      rw [List.zip_cons_cons, List.zip_cons_cons, List.filterMap_cons, List.filterMap_cons]
      cases owned (s, o) with
      | none => exact ih σ
      | some p => exact (ih σ).cons_cons p
  | @any s a b _ ih =>
    intro σ
    cases σ with
    | nil => simp
    | cons o σ =>
      rw [List.zip_cons_cons, List.zip_cons_cons, List.filterMap_cons, List.filterMap_cons]
      cases owned (s, o) with
      | none => exact ih σ
      | some p => exact (ih σ).trans (List.sublist_cons_self _ _)
theorem Wk.mem {a b : List Slot} (h : Wk a b) : ∀ (σ : L2.St) (c : Cell), c ∈ b.zip σ → c ∈ a.zip σ ∨ c.1 = .any := by
  induction h with
  | nil => intro σ c hc; exact .inl hc
  | @same s a b _ ih =>
    intro σ c hc
    cases σ with
    | nil => simp at hc
    | cons o σ =>
      rw [List.zip_cons_cons] at hc ⊢
      rcases List.mem_cons.mp hc with z | z
      · exact .inl (z ▸ List.mem_cons_self)
      · exact (ih σ c z).elim (fun q => .inl (List.mem_cons_of_mem _ q)) .inr
  | @any s a b _ ih =>
    intro σ c hc
    cases σ with
    | nil => simp at hc
    | cons o σ =>
      rw [List.zip_cons_cons] at hc ⊢
      rcases List.mem_cons.mp hc with z | z
      · exact .inr (by rw [z])
      · exact (ih σ c z).elim (fun q => .inl (List.mem_cons_of_mem _ q)) .inr
theorem St.wk {Z : List Cell} {σ : L2.St} (h : St K T B0 H0 (Z ++ Γ.zip σ) H) (w : Wk Γ Γ') : St K T B0 H0 (Z ++ Γ'.zip σ) H := by
  obtain ⟨B, e1, e2, e3, nt, tb, e4, e5, e6, e7⟩ := h
  have sl : ((Z ++ Γ'.zip σ).filterMap owned).Sublist ((Z ++ Γ.zip σ).filterMap owned) := by
    rw [List.filterMap_append, List.filterMap_append]
    exact (List.append_sublist_append_left _).mpr (w.filterMap σ)
  refine ⟨B, e1, e2, e3, nt, tb, e4, fun c hc => ?_, e6.sublist sl, fun p hp => e7 p (sl.subset hp)⟩
  rcases List.mem_append.mp hc with z | z
  · exact e5 c (List.mem_append_left _ z)
  · rcases w.mem σ c z with q | q
    · exact e5 c (List.mem_append_right _ q)
    · obtain ⟨sl, o⟩ := c
      cases (show sl = .any from q)
      trivial
theorem does_wk (w : Wk Γ Γ') (h : DoesS K T t Γ' R) : DoesS K T t Γ R := fun B0 H0 σ Z H D nr hl st e =>
  h B0 H0 σ Z H D nr (hl.trans w.length.symm) (st.wk w) (w.length.symm ▸ e)

/-! ### loops -/
/-- a loop's body: what it reaches, what leaves the loop -/
def loopR (R : Outc → Prop) (I : List Slot → Prop) : Outc → Prop
  | .nx Γ => I Γ
  | .ct Γ => I Γ
  | .bk Γ => R (.nx Γ)
  | .rt s => R (.rt s)
theorem NoRd.append {a b : List Cell} (h : NoRd a) (h' : NoRd b) : NoRd (a ++ b) := fun c hc => (List.mem_append.mp hc).elim (h c) (h' c)
theorem does_while {α : Type} (S : α → List Slot) (P : α → Prop) (c : α → Bool) (m : α → Nat) (a0 : α) (w0 : Wk Γ (S a0)) (h0 : P a0)
    (hs : ∀ a, P a → EvB K T tt (S a) (S a) (c a) ∧ (c a = true → DoesS K T t (S a) (loopR R fun Γ' => ∃ a', P a' ∧ m a' < m a ∧ Wk Γ' (S a'))) ∧ (c a = false → R (.nx (S a)))) :
    DoesS K T (tWhile tt t) Γ R := fun B0 H0 σ Z H D nr hl st e => by
  refine ⟨fun n σ H => ∃ a, P a ∧ n = m a ∧ (S a).length = Γ.length ∧ σ.length = Γ.length ∧ St K T B0 H0 (Z ++ (S a).zip σ) H, ⟨m a0, a0, h0, rfl, w0.length, hl, st.wk w0⟩, ?_⟩
  rintro n σ1 H1 ⟨a, pa, rfl, l1, l2, st1⟩
  obtain ⟨hb, h1, h2⟩ := hs a pa
  generalize c a = b at hb h1 h2
  refine hb.2 B0 H0 σ1 Z H1 _ (l2.trans l1.symm) st1 fun H2 st2 => ?_
  cases b with
  | true =>
    refine ⟨fun σ' H' => ∃ a', m a' < m a ∧ P a' ∧ (S a').length = Γ.length ∧ σ'.length = Γ.length ∧ St K T B0 H0 (Z ++ (S a').zip σ') H', fun σ' H' ⟨a', q1, q2, q3, q4, q5⟩ => ⟨m a', q1, a', q2, rfl, q3, q4, q5⟩, ?_⟩
    refine h1 rfl B0 H0 σ1 Z H2 _ nr (l2.trans l1.symm) st2 ⟨fun Γ' σ' H' r g1 g2 st' => ?_, e.rt, fun Γ' σ' H' r g1 g2 st' => e.nx Γ' σ' H' r (g1.trans l1) (g2.trans l1) st', fun Γ' σ' H' r g1 g2 st' => ?_⟩
    · obtain ⟨a', p1, p2, p3⟩ := r
      exact ⟨a', p2, p1, p3.length.trans (g1.trans l1), g2.trans l1, st'.wk p3⟩
    · obtain ⟨a', p1, p2, p3⟩ := r
      exact ⟨a', p2, p1, p3.length.trans (g1.trans l1), g2.trans l1, st'.wk p3⟩
  | false => exact e.nx (S a) σ1 H2 (h2 rfl) l1 l2 st2
/-- what an iterator yields: ds, while the cells of F are known -/
def IterOk (K : PySem.W.Frag) (T : Amb) (J : It) (F : List Cell) (ds : List D) : Prop := ∀ (B0 H0 : Hp) (cs : List Cell) (H : Hp) (i : Nat), St K T B0 H0 (F ++ cs) H →
  (∀ d, ds[i]? = some d → J.go i H ∧ ∀ x H', J.yld i H x H' → St K T B0 H0 ((.sh d, some x) :: (F ++ cs)) H') ∧ (ds.length ≤ i → J.stop i H)
/-- an iterable -/
def EvI (K : PySem.W.Frag) (T : Amb) (wi : TI) (Γ Γ' : List Slot) (ds : List D) : Prop :=
  Γ'.length = Γ.length ∧ ∀ (B0 H0 : Hp) (σ : L2.St) (Z : List Cell) (H : Hp) (Rk : It → Hp → Prop), σ.length = Γ.length → St K T B0 H0 (Z ++ Γ.zip σ) H →
    (∀ J F H', NoRd F → IterOk K T J F ds → St K T B0 H0 (F ++ (Z ++ Γ'.zip σ)) H' → Rk J H') → wi σ H Rk
theorem does_for {α : Type} {wi : TI} {g : TG} {ds : List D} (S : Nat → α → List Slot) (P : Nat → α → Prop) (a0 : α) (hi : EvI K T wi Γ Γ1 ds) (w0 : Wk Γ1 (S 0 a0)) (h0 : P 0 a0)
    (hs : ∀ i a d, ds[i]? = some d → P i a → ∃ Γb ws, BindG K T g ws (.sh d) (S i a) Γb ∧ DoesS K T t Γb (loopR R fun Γ' => ∃ a', P (i + 1) a' ∧ Wk Γ' (S (i + 1) a')))
    (hd : ∀ a, P ds.length a → R (.nx (S ds.length a))) : DoesS K T (tFor wi g t) Γ R := fun B0 H0 σ Z H D nr hl st e => by
  refine hi.2 B0 H0 σ Z H _ hl st fun J F H1 nf ok st1 => ?_
  refine ⟨fun i m σ H => m = ds.length - i ∧ i ≤ ds.length ∧ ∃ a, P i a ∧ (S i a).length = Γ.length ∧ σ.length = Γ.length ∧ St K T B0 H0 (F ++ (Z ++ (S i a).zip σ)) H,
    ⟨ds.length, rfl, Nat.zero_le _, a0, h0, w0.length.trans hi.1, hl, ?_⟩, ?_⟩
  · rw [← List.append_assoc] at st1 ⊢
    exact st1.wk w0
  rintro i m σ1 H1 ⟨rfl, hle, a, pa, l1, l2, st1⟩
  obtain ⟨go, stop⟩ := ok B0 H0 _ H1 i st1
  by_cases hlt : i < ds.length
  · right
    obtain ⟨g1, g2⟩ := go ds[i] (List.getElem?_eq_getElem hlt)
    obtain ⟨Γb, ws, hb, hdo⟩ := hs i a ds[i] (List.getElem?_eq_getElem hlt) pa
    refine ⟨g1, fun σ' H' => i + 1 ≤ ds.length ∧ ∃ a, P (i + 1) a ∧ (S (i + 1) a).length = Γ.length ∧ σ'.length = Γ.length ∧ St K T B0 H0 (F ++ (Z ++ (S (i + 1) a).zip σ')) H', fun σ' H' ⟨q1, q2⟩ => ⟨ds.length - (i + 1), by omega, rfl, q1, q2⟩, fun x H' y => ?_⟩
    have st2 := g2 x H' y
    rw [← List.append_assoc] at st2
    refine hb.2 B0 H0 σ1 (F ++ Z) H' x _ (l2.trans l1.symm) st2 fun σ' l' _ st3 => ?_
    refine hdo B0 H0 σ' (F ++ Z) H' _ (nf.append nr) (l'.trans hb.1.symm) st3 ⟨fun Γ' σ2 H2 r q1 q2 st' => ?_, fun s v H2 r st' => ?_, fun Γ' σ2 H2 r q1 q2 st' => ?_, fun Γ' σ2 H2 r q1 q2 st' => ?_⟩
    · obtain ⟨a', p1, p2⟩ := r
      have st4 := st'.wk p2
      rw [List.append_assoc] at st4
      exact ⟨hlt, a', p1, p2.length.trans (q1.trans (hb.1.trans l1)), q2.trans (hb.1.trans l1), st4⟩
    · exact e.rt s v H2 r (st'.sub (.of_sublist (List.Sublist.cons_cons _ (List.sublist_append_right _ _))))
    · refine e.nx Γ' σ2 H2 r (q1.trans (hb.1.trans l1)) (q2.trans (hb.1.trans l1)) ?_
      rw [List.append_assoc] at st'
      exact st'.sub (.of_sublist (List.sublist_append_right _ _))
    · obtain ⟨a', p1, p2⟩ := r
      have st4 := st'.wk p2
      rw [List.append_assoc] at st4
      exact ⟨hlt, a', p1, p2.length.trans (q1.trans (hb.1.trans l1)), q2.trans (hb.1.trans l1), st4⟩
  · left
    have hi' : i = ds.length := by omega
    subst hi'
    exact ⟨stop (Nat.le_refl _), e.nx (S ds.length a) σ1 H1 (hd a pa) l1 l2 (st1.sub (.of_sublist (List.sublist_append_right _ _)))⟩
/-- a list that nobody changes -/
theorem ei_list {tl : TE} {ds : List D} (h : EvS K T tl Γ Γ' (.sh (.lst ds))) : EvI K T (iList K tl) Γ Γ' ds := ⟨h.1, fun B0 H0 σ Z H Rk hl st k => by
  refine h.2 B0 H0 σ Z H _ hl st fun v H1 st1 => ?_
  obtain ⟨p, vs, rfl, r2, r3⟩ := (show ∃ p vs, v = .ref p ∧ H1 p = some (.lst vs) ∧ RepL K H1 ds vs from st1.repS)
  refine ⟨p, rfl, ⟨vs, Evl.sq_of r2⟩, k (Itl K p) [(.sh (.lst ds), some (.ref p))] H1 (fun c hc => by rw [List.mem_singleton.mp hc]; rfl) (fun B0 H0 cs H i st => ?_) st1⟩
  have st' : St K T B0 H0 ((.sh (.lst ds), some (.ref p)) :: cs) H := st
  obtain ⟨q, ws, e, h1, h2⟩ := (show ∃ q ws, V.ref p = .ref q ∧ H q = some (.lst ws) ∧ RepL K H ds ws from st'.repS)
  cases e
  refine ⟨fun d hd => ?_, fun hle => ⟨ws, Evl.sq_of h1, by rw [← h2.length]; exact hle⟩⟩
  obtain ⟨p', vs', u, f1, f2, f3, f4, st2⟩ := st'.rd.item hd
  cases f1
  rw [h1] at f2
  cases f2
  refine ⟨⟨ws, u, Evl.sq_of h1, f4⟩, fun x H' y => ?_⟩
  obtain ⟨rfl, y⟩ := y
  have ex := y ws (Evl.sq_of h1)
  rw [f4] at ex
  cases ex
  have st3 := st2.sub (cs' := (.sh d, some u) :: cs) (.of_sublist (List.Sublist.cons_cons _ (List.sublist_cons_self _ _)))
  -- the list's own cell again
  obtain ⟨B, e1, e2, e3, nt, tb, e4, e5, e6, e7⟩ := id st'
  obtain ⟨_, q1, q2, q3, q4, q5, q6⟩ := e5 _ List.mem_cons_self
  cases q1
  cases q4
  have z := e3 _ _ q5
  rw [h1] at z
  cases z
  obtain ⟨w, w1, w2⟩ := q6.get hd
  rw [f4] at w1
  cases w1
  refine ⟨B, e1, e2, e3, nt, tb, e4, fun c hc => ?_, e6, e7⟩
  rcases List.mem_cons.mp hc with z | z
  · rw [z]
    exact ⟨u, rfl, w2⟩
  · exact e5 c z⟩
/-- the script -/
theorem ei_scr {tl : TE} {ns : List Int} (h : EvS K T tl Γ Γ' (.sh (.scr ns))) : EvI K T (iList K tl) Γ Γ' (ns.map .int) := ⟨h.1, fun B0 H0 σ Z H Rk hl st k => by
  refine h.2 B0 H0 σ Z H _ hl st fun v H1 st1 => ?_
  obtain ⟨p, rfl, r2⟩ := (show ∃ p, v = .ref p ∧ SqL K H1 p (ns.map V.int) from st1.repS)
  refine ⟨p, rfl, ⟨_, r2⟩, k (Itl K p) [(.sh (.scr ns), some (.ref p))] H1 (fun c hc => by rw [List.mem_singleton.mp hc]; rfl) (fun B0 H0 cs H i st => ?_) st1⟩
  have st' : St K T B0 H0 ((.sh (.scr ns), some (.ref p)) :: cs) H := st
  obtain ⟨q, e, h1⟩ := (show ∃ q, V.ref p = .ref q ∧ SqL K H q (ns.map V.int) from st'.repS)
  cases e
  refine ⟨fun d hd => ?_, fun hle => ⟨_, h1, by simpa using hle⟩⟩
  rw [List.getElem?_map] at hd
  cases hn : ns[i]? with
  | none => rw [hn] at hd; cases hd
  | some n =>
    rw [hn] at hd
    cases hd
    have hv : (ns.map V.int)[i]? = some (.int n) := by rw [List.getElem?_map, hn]; rfl
    refine ⟨⟨_, _, h1, hv⟩, fun x H' y => ?_⟩
    obtain ⟨rfl, y⟩ := y
    have ex := y _ h1
    rw [hv] at ex
    cases ex
    exact st'.push Sc.int⟩
def rngD (lo : Int) (n : Nat) : List D := (List.range n).map fun (i : Nat) => D.int (lo + (i : Int))
theorem rngD_get {lo : Int} {n i : Nat} {d : D} (h : (rngD lo n)[i]? = some d) : i < n ∧ d = .int (lo + i) := by
  unfold rngD at h
  rw [List.getElem?_map] at h
  by_cases hi : i < n
  · rw [List.getElem?_range hi] at h
    exact ⟨hi, (Option.some.inj h).symm⟩
  · rw [List.getElem?_eq_none (by simpa using Nat.le_of_not_lt hi)] at h
    cases h
theorem rngD_length {lo : Int} {n : Nat} : (rngD lo n).length = n := by simp [rngD]
theorem iter_rng {lo : Int} {n : Nat} : IterOk K T (Itr lo n) [] (rngD lo n) := fun B0 H0 cs H i st => by
  refine ⟨fun d hd => ?_, fun hle => by rw [rngD_length] at hle; exact hle⟩
  obtain ⟨hi, rfl⟩ := rngD_get hd
  refine ⟨hi, fun x H' y => ?_⟩
  obtain ⟨rfl, rfl⟩ := y
  exact St.push (cs := cs) st Sc.int
theorem ei_rng1 {t : TA} {j : Int} (h : EvA K T t Γ Γ' [.sh (.int j)]) (hj : -(2 ^ 62) ≤ j ∧ j < 2 ^ 62) : EvI K T (iRng1 t) Γ Γ' (rngD 0 j.toNat) := ⟨h.1, fun B0 H0 σ Z H Rk hl st k => by
  refine h.2 B0 H0 σ Z H _ hl st fun vs H1 e st1 => ?_
  match vs, e with
  | [v], _ =>
    have st2 : St K T B0 H0 ((.sh (.int j), some v) :: (Z ++ Γ'.zip σ)) H1 := st1
    cases (show v = .int j from st2.repS)
    exact ⟨j, rfl, hj.1, hj.2, k _ [] H1 (fun c hc => absurd hc (by simp)) iter_rng st2.drop⟩⟩
theorem ei_rng2 {t : TA} {i j : Int} (h : EvA K T t Γ Γ' [.sh (.int i), .sh (.int j)]) (hj : -(2 ^ 62) ≤ i ∧ i < 2 ^ 62 ∧ -(2 ^ 62) ≤ j ∧ j < 2 ^ 62) : EvI K T (iRng2 t) Γ Γ' (rngD i (j - i).toNat) := ⟨h.1, fun B0 H0 σ Z H Rk hl st k => by
  refine h.2 B0 H0 σ Z H _ hl st fun vs H1 e st1 => ?_
  match vs, e with
  | [v, w], _ =>
    have st2 : St K T B0 H0 ((.sh (.int i), some v) :: (.sh (.int j), some w) :: (Z ++ Γ'.zip σ)) H1 := st1
    cases (show v = .int i from st2.repS)
    cases (show w = .int j from st2.drop.repS)
    exact ⟨i, j, rfl, hj, k _ [] H1 (fun c hc => absurd hc (by simp)) iter_rng st2.drop2⟩⟩
end
end Fx

/-! Fx F: comprehensions, built-ins, own lists, dicts and objects. -/
namespace Fx
open PySem L2 NdefX
section
variable {K : PySem.W.Frag} {T : Amb} {B B' B0 H0 H H' : Hp} {cs cs' : List Cell} {Γ Γ' Γ1 Γ2 : List Slot} {s s1 s2 : Slot} {ta tb te : TE} {tt : TT} {t u : TS} {R : Outc → Prop}
/-! ### names forgotten -/
def wipeG (Γ : List Slot) : List Nat → List Slot
  | [] => Γ
  | v :: vs => (wipeG Γ vs).set v .any
theorem wipeG_length : ∀ vs : List Nat, (wipeG Γ vs).length = Γ.length
  | [] => rfl
  | v :: vs => by unfold wipeG; rw [List.length_set, wipeG_length vs]
theorem St.pushAny {o : Option V} (h : St K T B0 H0 cs H) : St K T B0 H0 ((.any, o) :: cs) H := by
  obtain ⟨B, e1, e2, e3, nt, tb, e4, e5, e6, e7⟩ := h
  exact ⟨B, e1, e2, e3, nt, tb, e4, fun c hc => (List.mem_cons.mp hc).elim (fun z => by rw [z]; trivial) (e5 c), e6, e7⟩
theorem St.wipe {Z : List Cell} {σ : L2.St} (h : St K T B0 H0 (Z ++ Γ.zip σ) H) : ∀ vs : List Nat, St K T B0 H0 (Z ++ (wipeG Γ vs).zip (L2.wipe σ vs)) H
  | [] => h
  | v :: vs => by
    show St K T B0 H0 (Z ++ ((wipeG Γ vs).set v .any).zip ((L2.wipe σ vs).set v none)) H
    rw [zip_set2]
    exact (St.pushAny (o := none) (h.wipe vs)).sub SubP.append_set
theorem wipe_get {σ : L2.St} {k : Nat} : ∀ {vs : List Nat}, k ∉ vs → (L2.wipe σ vs)[k]? = σ[k]?
  | [], _ => rfl
  | v :: vs, h => by
    unfold L2.wipe
    rw [List.getElem?_set_ne (fun z => h (by rw [z]; exact List.mem_cons_self)), wipe_get fun z => h (List.mem_cons_of_mem _ z)]
theorem wipe_in {σ : L2.St} {k : Nat} : ∀ {vs : List Nat}, k ∈ vs → (L2.wipe σ vs)[k]? = if k < σ.length then some none else none
  | [], h => by simp at h
  | v :: vs, h => by
    unfold L2.wipe
    rw [List.getElem?_set, wipe_length]
    by_cases z : v = k
    · subst z
      rw [if_pos rfl]
    · rw [if_neg z]
      rcases List.mem_cons.mp h with q | q
      · exact absurd q.symm z
      · exact wipe_in q
theorem wipe_eq {σ σ' : L2.St} {vs : List Nat} (hl : σ'.length = σ.length) (h : ∀ k, k ∉ vs → σ'[k]? = σ[k]?) : L2.wipe σ' vs = L2.wipe σ vs := by
  apply List.ext_getElem?
  intro k
  by_cases hk : k ∈ vs
  · rw [wipe_in hk, wipe_in hk, hl]
  · rw [wipe_get hk, wipe_get hk, h k hk]
theorem wipeG_in {k : Nat} : ∀ {vs : List Nat}, k ∈ vs → k < Γ.length → (wipeG Γ vs)[k]? = some .any
  | [], h, _ => by simp at h
  | v :: vs, h, hk => by
    unfold wipeG
    rw [List.getElem?_set, wipeG_length]
    by_cases z : v = k
    · subst z
      rw [if_pos rfl, if_pos hk]
    · rw [if_neg z]
      rcases List.mem_cons.mp h with q | q
      · exact absurd q.symm z
      · exact wipeG_in q hk
/-- other values at forgotten names -/
theorem zip_any : ∀ {Γ : List Slot} {σ σ' : L2.St}, σ'.length = σ.length → (∀ k : Nat, Γ[k]? = some Slot.any ∨ Γ[k]? = none ∨ σ'[k]? = σ[k]?) →
    (Γ.zip σ').filterMap owned = (Γ.zip σ).filterMap owned ∧ ∀ c ∈ Γ.zip σ', c ∈ Γ.zip σ ∨ c.1 = Slot.any
  | [], σ, σ', _, _ => ⟨by simp, fun c hc => by simp at hc⟩
  | s :: Γ, [], [], _, _ => ⟨by simp, fun c hc => by simp at hc⟩
  | s :: Γ, [], o :: σ', e, _ => by simp at e
  | s :: Γ, o :: σ, [], e, _ => by simp at e
  | s :: Γ, o :: σ, o' :: σ', e, h => by
    obtain ⟨h1, h2⟩ := zip_any (Γ := Γ) (σ := σ) (σ' := σ') (by simpa using e) fun k => by
      have q := h (k + 1)
      simpa using q
    have q0 := h 0
    simp at q0
    rw [List.zip_cons_cons, List.zip_cons_cons, List.filterMap_cons, List.filterMap_cons]
    rcases q0 with z | z
    · subst z
      exact ⟨h1, fun c hc => (List.mem_cons.mp hc).elim (fun q => Or.inr (by rw [q])) fun q => (h2 c q).elim (fun q => .inl (List.mem_cons_of_mem _ q)) .inr⟩
    · subst z
      refine ⟨by rw [h1], fun c hc => (List.mem_cons.mp hc).elim (fun q => .inl (by rw [q]; exact List.mem_cons_self)) fun q => (h2 c q).elim (fun q => .inl (List.mem_cons_of_mem _ q)) .inr⟩
theorem St.unwipe {Z : List Cell} {σ : L2.St} {vs : List Nat} (hl : σ.length = Γ.length) (h : St K T B0 H0 (Z ++ (wipeG Γ vs).zip (L2.wipe σ vs)) H) : St K T B0 H0 (Z ++ (wipeG Γ vs).zip σ) H := by
  obtain ⟨B, e1, e2, e3, nt, tb, e4, e5, e6, e7⟩ := h
  obtain ⟨h1, h2⟩ := zip_any (Γ := wipeG Γ vs) (σ := L2.wipe σ vs) (σ' := σ) (wipe_length σ vs).symm fun k => by
    by_cases hk : k ∈ vs
    · by_cases hk2 : k < Γ.length
      · exact .inl (wipeG_in hk hk2)
      · exact .inr (.inl (List.getElem?_eq_none (by rw [wipeG_length]; omega)))
    · exact .inr (.inr (wipe_get hk).symm)
  have fm : (Z ++ (wipeG Γ vs).zip σ).filterMap owned = (Z ++ (wipeG Γ vs).zip (L2.wipe σ vs)).filterMap owned := by
    rw [List.filterMap_append, List.filterMap_append, h1]
  refine ⟨B, e1, e2, e3, nt, tb, e4, fun c hc => ?_, by rw [fm]; exact e6, fun p hp => e7 p (by rw [← fm]; exact hp)⟩
  rcases List.mem_append.mp hc with z | z
  · exact e5 c (List.mem_append_left _ z)
  · rcases h2 c z with q | q
    · exact e5 c (List.mem_append_right _ q)
    · obtain ⟨sl, o⟩ := c
      cases (show sl = .any from q)
      trivial
/-! ### comprehensions -/
theorem eb_yes : EvB K T tYes Γ Γ true := ⟨rfl, fun B0 H0 σ Z H Q hl st k => k H st⟩
/-- a list of the def's own gets one more item -/
theorem St.app {i : Nat} {ds : List D} {d : D} {y : V} {p : Addr} (h : St K T B0 H0 ((.sh d, some y) :: cs) H) (hi : cs[i]? = some (.ownL ds, some (.ref p))) (nr : NoRdAt p cs) :
    ∃ vs, H p = some (.lst vs) ∧ vs.length = ds.length ∧ St K T B0 H0 (cs.set i (.ownL (ds ++ [d]), some (.ref p))) (upd H p (.lst (vs ++ [y]))) := by
  obtain ⟨vs, h1, h2⟩ : ∃ vs, H p = some (.lst vs) ∧ vs.length = ds.length := by
    obtain ⟨B, _, _, _, _, _, _, e5, _⟩ := id h
    obtain ⟨q, vs, e, h1, h2⟩ := e5 _ (List.mem_cons_of_mem _ (List.mem_of_getElem? hi))
    cases e
    exact ⟨vs, h1, h2.length.symm⟩
  refine ⟨vs, h1, h2, ?_⟩
  have m := St.mut (i := i + 1) (s' := .ownL (ds ++ [d])) (o := .lst (vs ++ [y])) h (by rw [List.getElem?_cons_succ]; exact hi) rfl rfl
    (fun c hc z => (List.mem_cons.mp hc).elim (fun q => by rw [q] at z; cases z) fun q => nr c q z) h1 (fun _ z => by cases z) (fun _ z => by cases z) (fun _ z => by cases z) fun B e3 bp ok => by
      obtain ⟨q, vs', e, g1, g2⟩ := ok _ (List.mem_cons_of_mem _ (List.mem_of_getElem? hi))
      cases e
      rw [h1] at g1
      cases g1
      obtain ⟨v, e, r⟩ := ok _ List.mem_cons_self
      cases e
      exact ⟨p, _, rfl, upd_same, g2.append (.cons r .nil)⟩
  rw [List.set_cons_succ] at m
  exact m.drop
theorem ev_lc {wi : TI} {g : TG} {vs : List Nat} {ds : List D} (outs : Nat → List D) (hi : EvI K T wi Γ Γ1 ds) (h0 : outs 0 = []) (hz : ∀ i, i ≤ ds.length → (outs i).length ≤ 100000 - 1)
    (hs : ∀ i d, ds[i]? = some d → ∃ Γb ws b, BindG K T g ws (.sh d) (wipeG Γ1 vs) Γb ∧ (∀ k ∈ ws, k ∈ vs) ∧ wipeG Γb vs = wipeG Γ1 vs ∧ EvB K T tt Γb Γb b ∧ (b = false → outs (i + 1) = outs i) ∧
      (b = true → ∃ e Γc, EvS K T te Γb Γc (.sh e) ∧ wipeG Γc vs = wipeG Γ1 vs ∧ (Γc.all fun s => !isRd s) = true ∧ outs (i + 1) = outs i ++ [e])) :
    EvS K T (tLc wi g tt te vs) Γ (wipeG Γ1 vs) (.ownL (outs ds.length)) := ⟨(wipeG_length vs).trans hi.1, fun B0 H0 σ Z H Q hl st k => by
  refine hi.2 B0 H0 σ Z H _ hl st fun J F H1 nf ok st1 Dl hD => ?_
  have hl1 : σ.length = Γ1.length := hl.trans hi.1.symm
  have zr : NoRdAt Dl Z := fun c hc hr z => by
    obtain ⟨B, _, _, _, _, _, _, e5, _⟩ := id st1
    have q := e5 c (List.mem_append_right _ (List.mem_append_left _ hc))
    obtain ⟨sl, o⟩ := c
    cases sl with
    | rd d =>
      obtain ⟨v, e, r⟩ := q
      have ev : v = .ref Dl := Option.some.inj (e.symm.trans z)
      subst ev
      cases d with
      | lst ds =>
        obtain ⟨p, vs, g1, g2, _⟩ := (show ∃ p vs, V.ref Dl = .ref p ∧ H1 p = some (.lst vs) ∧ RepL K B ds vs from r)
        cases g1
        rw [hD] at g2
        cases g2
      | dic ds =>
        obtain ⟨p, vs, g1, g2, _⟩ := (show ∃ p ws, V.ref Dl = .ref p ∧ H1 p = some (.dK ws) ∧ RepK K B ds ws from r)
        cases g1
        rw [hD] at g2
        cases g2
      | non => cases hr
      | bl b => cases hr
      | int i => cases hr
      | str s => cases hr
      | adr a => cases hr
      | tup ds => cases hr
      | obj C fs => cases hr
      | scr ns => cases hr
    | any => cases hr
    | sh d => cases hr
    | ownL ds => cases hr
    | ownK ds => cases hr
    | ownT ds => cases hr
    | ownO p C fs => cases hr
  have gr : ∀ {Γ' : List Slot} {σ' : L2.St}, (Γ'.all fun s => !isRd s) = true → NoRdAt Dl (Γ'.zip σ') := fun {Γ' σ'} h c hc hr => by
    have q := List.all_eq_true.mp h c.1 (List.of_mem_zip (a := c.1) (b := c.2) hc).1
    rw [hr] at q
    cases q
  have cat : ∀ {a b : List Cell}, NoRdAt Dl a → NoRdAt Dl b → NoRdAt Dl (a ++ b) := fun h h' c hc => (List.mem_append.mp hc).elim (h c) (h' c)
  -- the cells at each turn
  refine ⟨fun i m H => m = ds.length - i ∧ i ≤ ds.length ∧ St K T B0 H0 ((.ownL (outs i), some (.ref Dl)) :: (F ++ (Z ++ (wipeG Γ1 vs).zip (L2.wipe σ vs)))) H,
    ⟨ds.length, rfl, Nat.zero_le _, ?_⟩, ?_⟩
  · rw [h0]
    have st2 : St K T B0 H0 (F ++ (Z ++ (wipeG Γ1 vs).zip (L2.wipe σ vs))) H1 := by
      rw [← List.append_assoc] at st1 ⊢
      exact st1.wipe vs
    exact st2.newOwn (s := .ownL []) hD rfl fun B _ _ => ⟨Dl, [], rfl, upd_same, rfl⟩
  rintro i m H2 ⟨rfl, hle, st2⟩
  have st2' : St K T B0 H0 (F ++ ((.ownL (outs i), some (.ref Dl)) :: (Z ++ (wipeG Γ1 vs).zip (L2.wipe σ vs)))) H2 := st2.sub (.of_perm List.perm_middle)
  obtain ⟨go, stop⟩ := ok B0 H0 _ H2 i st2'
  by_cases hlt : i < ds.length
  · right
    obtain ⟨g1, g2⟩ := go ds[i] (List.getElem?_eq_getElem hlt)
    obtain ⟨Γb, ws, b, hb, hws, hwb, ht, hf, hT⟩ := hs i ds[i] (List.getElem?_eq_getElem hlt)
    refine ⟨g1, fun H' => i + 1 ≤ ds.length ∧ St K T B0 H0 ((.ownL (outs (i + 1)), some (.ref Dl)) :: (F ++ (Z ++ (wipeG Γ1 vs).zip (L2.wipe σ vs)))) H', fun H' q => ⟨ds.length - (i + 1), by omega, rfl, q.1, q.2⟩, fun x H' y => ?_⟩
    have st3 : St K T B0 H0 ((.sh ds[i], some x) :: (((.ownL (outs i), some (.ref Dl)) :: (F ++ Z)) ++ (wipeG Γ1 vs).zip (L2.wipe σ vs))) H' := (g2 x H' y).sub (.of_perm (by
      refine List.Perm.cons _ ?_
      rw [List.cons_append, List.append_assoc]
      exact List.perm_middle.symm))
    refine hb.2 B0 H0 (L2.wipe σ vs) _ H' x _ (by rw [wipe_length, wipeG_length, hl1]) st3 fun σ2 l2 ag st4 => ?_
    have we : L2.wipe σ2 vs = L2.wipe σ vs := by
      have e1 : L2.wipe σ2 vs = L2.wipe (L2.wipe σ vs) vs := wipe_eq (by rw [l2, wipeG_length, wipe_length, hl1]) fun k hk => ag k fun z => hk (hws k z)
      rw [e1]
      exact wipe_eq (wipe_length σ vs) fun k hk => wipe_get hk
    refine ⟨we, ?_⟩
    have lb : σ2.length = Γb.length := l2.trans hb.1.symm
    refine ht.2 B0 H0 σ2 _ H' _ lb st4 fun H3 st5 => ?_
    cases b with
    | false =>
      show i + 1 ≤ ds.length ∧ _
      refine ⟨hlt, ?_⟩
      rw [hf rfl]
      have st6 := st5.wipe vs
      rw [hwb, we] at st6
      rw [List.cons_append, List.append_assoc] at st6
      exact st6
    | true =>
      show te σ2 H3 _
      obtain ⟨e, Γc, he, hwc, hnr, ho⟩ := hT rfl
      refine he.2 B0 H0 σ2 _ H3 _ lb st5 fun v H4 st6 => ?_
      obtain ⟨acc, a1, a2, st7⟩ := St.app (i := 0) (p := Dl) (ds := outs i) (cs := (.ownL (outs i), some (.ref Dl)) :: ((F ++ Z) ++ Γc.zip σ2)) st6 rfl (fun c hc hr => by
        rcases List.mem_cons.mp hc with z | z
        · rw [z] at hr
          cases hr
        · exact cat (cat nf.at zr) (gr hnr) c z hr)
      refine ⟨acc, a1, ?_, hlt, ?_⟩
      · rw [a2]
        have := hz i (by omega)
        exact Evl.sz_lt (by omega)
      · rw [ho]
        have st8 : St K T B0 H0 (((.ownL (outs i ++ [e]), some (.ref Dl)) :: (F ++ Z)) ++ Γc.zip σ2) (upd H4 Dl (.lst (acc ++ [v]))) := st7
        have st9 := st8.wipe vs
        rw [hwc, we, List.cons_append, List.append_assoc] at st9
        exact st9
  · left
    have hi' : i = ds.length := by omega
    subst hi'
    refine ⟨stop (Nat.le_refl _), k _ _ ?_⟩
    have st3 : St K T B0 H0 (((.ownL (outs ds.length), some (.ref Dl)) :: Z) ++ (wipeG Γ1 vs).zip (L2.wipe σ vs)) H2 := st2.sub (.of_sublist (List.Sublist.cons_cons _ (List.sublist_append_right _ _)))
    exact st3.unwipe hl1⟩
/-- without a test, over items by a list -/
theorem ev_lc_map {α : Type} {wi : TI} {g : TG} {vs : List Nat} {xs : List α} {enc f : α → D} (hi : EvI K T wi Γ Γ1 (xs.map enc)) (hz : xs.length ≤ 90000)
    (hs : ∀ (i : Nat) (x : α), xs[i]? = some x → ∃ Γb ws Γc, BindG K T g ws (.sh (enc x)) (wipeG Γ1 vs) Γb ∧ (∀ k ∈ ws, k ∈ vs) ∧ wipeG Γb vs = wipeG Γ1 vs ∧ EvS K T te Γb Γc (.sh (f x)) ∧ wipeG Γc vs = wipeG Γ1 vs ∧ (Γc.all fun s => !isRd s) = true) :
    EvS K T (tLc wi g tYes te vs) Γ (wipeG Γ1 vs) (.ownL (xs.map f)) := by
  have q := ev_lc (tt := tYes) (te := te) (g := g) (vs := vs) (fun i => (xs.take i).map f) hi (by simp) (fun i _ => by simp; omega) fun i d hd => by
    rw [List.getElem?_map] at hd
    cases hx : xs[i]? with
    | none => rw [hx] at hd; cases hd
    | some x =>
      rw [hx] at hd
      cases hd
      obtain ⟨Γb, ws, Γc, h1, h2, h3, h4, h5, h6⟩ := hs i x hx
      refine ⟨Γb, ws, true, h1, h2, h3, eb_yes, (fun z => by cases z), fun _ => ⟨f x, Γc, h4, h5, h6, ?_⟩⟩
      rw [List.take_add_one, hx]
      simp
  simpa using q
/-- with a test -/
theorem ev_lc_filter {α : Type} {wi : TI} {g : TG} {vs : List Nat} {xs : List α} {enc f : α → D} {p : α → Bool} (hi : EvI K T wi Γ Γ1 (xs.map enc)) (hz : xs.length ≤ 90000)
    (hs : ∀ (i : Nat) (x : α), xs[i]? = some x → ∃ Γb ws Γc, BindG K T g ws (.sh (enc x)) (wipeG Γ1 vs) Γb ∧ (∀ k ∈ ws, k ∈ vs) ∧ wipeG Γb vs = wipeG Γ1 vs ∧ EvB K T tt Γb Γb (p x) ∧ (p x = true → EvS K T te Γb Γc (.sh (f x)) ∧ wipeG Γc vs = wipeG Γ1 vs ∧ (Γc.all fun s => !isRd s) = true)) :
    EvS K T (tLc wi g tt te vs) Γ (wipeG Γ1 vs) (.ownL ((xs.filter p).map f)) := by
  have q := ev_lc (tt := tt) (te := te) (g := g) (vs := vs) (fun i => ((xs.take i).filter p).map f) hi (by simp) (fun i _ => by
      have h1 := List.length_filter_le p (xs.take i)
      simp at h1 ⊢
      omega) fun i d hd => by
    rw [List.getElem?_map] at hd
    cases hx : xs[i]? with
    | none => rw [hx] at hd; cases hd
    | some x =>
      rw [hx] at hd
      cases hd
      obtain ⟨Γb, ws, Γc, h1, h2, h3, h4, h5⟩ := hs i x hx
      refine ⟨Γb, ws, p x, h1, h2, h3, h4, fun z => ?_, fun z => ⟨f x, Γc, (h5 z).1, (h5 z).2.1, (h5 z).2.2, ?_⟩⟩
      · rw [List.take_add_one, hx]
        simp [z]
      · rw [List.take_add_one, hx]
        simp [z]
  simpa using q
end
end Fx

/-! Fx G: built-ins, own lists, dicts and objects. -/
namespace Fx
open PySem L2 NdefX
/-! ### dicts of trees -/
section
variable {κ : Type} [DecidableEq κ]
def valD (kvs : List (κ × D)) (k : κ) : Option D := (kvs.find? fun kv => decide (kv.1 = k)).map (·.2)
def putD (kvs : List (κ × D)) (k : κ) (v : D) : List (κ × D) :=
  if (kvs.any fun kv => decide (kv.1 = k)) = true then kvs.map (fun kv => if kv.1 = k then (kv.1, v) else kv) else kvs ++ [(k, v)]
end
section
variable {K : PySem.W.Frag} {H H' : Hp}
theorem RepK.val : ∀ {kvs : List (Key × D)} {ws : List (Key × V)} (k : Key), RepK K H kvs ws → (valD kvs k = none ∧ valV ws k = none) ∨ ∃ d v, valD kvs k = some d ∧ valV ws k = some v ∧ Rep K H d v
  | [], ws, k, h => by cases (show ws = [] from h); exact .inl ⟨rfl, rfl⟩
  | (k0, d) :: kvs, ws, k, h => by
    obtain ⟨v, r, rfl, h1, h2⟩ := (show ∃ v r, ws = (k0, v) :: r ∧ Rep K H d v ∧ RepK K H kvs r from h)
    by_cases e : k0 = k
    · exact .inr ⟨d, v, by simp [valD, List.find?_cons, e], by simp [valV, List.find?_cons, e], h1⟩
    · have a : valD ((k0, d) :: kvs) k = valD kvs k := by simp [valD, List.find?_cons, e]
      have b : valV ((k0, v) :: r) k = valV r k := by simp [valV, List.find?_cons, e]
      rw [a, b]
      exact RepK.val k h2
theorem RepK.append : ∀ {kvs : List (Key × D)} {ws : List (Key × V)} {k : Key} {d : D} {v : V}, RepK K H kvs ws → Rep K H d v → RepK K H (kvs ++ [(k, d)]) (ws ++ [(k, v)])
  | [], ws, k, d, v, h, r => by cases (show ws = [] from h); exact ⟨v, [], rfl, r, rfl⟩
  | (k0, d0) :: kvs, ws, k, d, v, h, r => by
    obtain ⟨v0, r0, rfl, h1, h2⟩ := (show ∃ v r, ws = (k0, v) :: r ∧ Rep K H d0 v ∧ RepK K H kvs r from h)
    exact ⟨v0, _, rfl, h1, RepK.append h2 r⟩
theorem RepK.repl {d : D} {v : V} (r : Rep K H d v) (k : Key) : ∀ {kvs : List (Key × D)} {ws : List (Key × V)}, RepK K H kvs ws → RepK K H (kvs.map fun kv => if kv.1 = k then (kv.1, d) else kv) (ws.map fun kv => if kv.1 = k then (kv.1, v) else kv)
  | [], ws, h => by cases (show ws = [] from h); exact rfl
  | (k0, d0) :: kvs, ws, h => by
    obtain ⟨v0, r0, rfl, h1, h2⟩ := (show ∃ v r, ws = (k0, v) :: r ∧ Rep K H d0 v ∧ RepK K H kvs r from h)
    rw [List.map_cons, List.map_cons]
    by_cases e : k0 = k
    · simp only [e, if_true]
      exact ⟨v, _, rfl, r, RepK.repl r k h2⟩
    · simp only [e, if_false]
      exact ⟨v0, _, rfl, h1, RepK.repl r k h2⟩
theorem RepK.any : ∀ {kvs : List (Key × D)} {ws : List (Key × V)} (k : Key), RepK K H kvs ws → (kvs.any fun kv => decide (kv.1 = k)) = (ws.any fun kv => decide (kv.1 = k))
  | [], ws, k, h => by cases (show ws = [] from h); rfl
  | (k0, d0) :: kvs, ws, k, h => by
    obtain ⟨v0, r0, rfl, h1, h2⟩ := (show ∃ v r, ws = (k0, v) :: r ∧ Rep K H d0 v ∧ RepK K H kvs r from h)
    rw [List.any_cons, List.any_cons, RepK.any k h2]
theorem RepK.put {kvs : List (Key × D)} {ws : List (Key × V)} {k : Key} {d : D} {v : V} (h : RepK K H kvs ws) (r : Rep K H d v) : RepK K H (putD kvs k d) (putK ws k v) := by
  unfold putD putK
  rw [h.any k]
  split
  · exact h.repl r k
  · exact h.append r
theorem RepK.length : ∀ {kvs : List (Key × D)} {ws : List (Key × V)}, RepK K H kvs ws → kvs.length = ws.length
  | [], ws, h => by cases (show ws = [] from h); rfl
  | (k0, d0) :: kvs, ws, h => by
    obtain ⟨v0, r0, rfl, h1, h2⟩ := (show ∃ v r, ws = (k0, v) :: r ∧ Rep K H d0 v ∧ RepK K H kvs r from h)
    rw [List.length_cons, List.length_cons, RepK.length h2]
/-- a scalar as a key -/
def keyD : Key → D
  | .inl i => .int i
  | .inr x => .str x
theorem keyD_rep {k : Key} {v : V} (h : Rep K H (keyD k) v) : v = kV k := by
  cases k with
  | inl i => exact h
  | inr x => exact h
end
section
variable {X : Cx}
theorem callOr {f : Value} {r r' : List V → Hp → VK → Prop} (h : CallR X f r) (h' : CallR X f r') : CallR X f (fun xs H Q => r xs H Q ∨ r' xs H Q) := fun pins s σ H xs us Q I rx q =>
  q.elim (h pins s σ H xs us Q I rx) (h' pins s σ H xs us Q I rx)
def rLenU (K : PySem.W.Frag) : List V → Hp → VK → Prop := fun xs H Q => (∃ p ys, xs = [.ref p] ∧ (SqL K H p ys ∨ SqT K H p ys) ∧ Q (.int ys.length) H) ∨ (∃ z, xs = [.str z] ∧ z.length ≤ sizeLine ∧ Q (.int z.length) H) ∨ ∃ a kvs, xs = [V.ref a] ∧ H a = some (.dK kvs) ∧ Q (.int kvs.length) H
theorem call_lenU : CallR X (.builtin "len") (rLenU X.K) := callOr call_len_seq (callOr call_len_str call_lenD)
def rInt1 : List V → Hp → VK → Prop := fun xs H Q => (∃ i, xs = [.int i] ∧ Q (.int i) H) ∨ ∃ k, xs = [.bl k] ∧ Q (.int (if k then 1 else 0)) H
theorem call_intU : CallR X (.type "int") rInt1 := call_int1
def rMaxU (K : PySem.W.Frag) : List V → Hp → VK → Prop := fun xs H Q => (∃ i j, xs = [.int i, .int j] ∧ Q (.int (if j > i then j else i)) H) ∨ rMax K xs H Q
def rMinU (K : PySem.W.Frag) : List V → Hp → VK → Prop := fun xs H Q => (∃ i j, xs = [.int i, .int j] ∧ Q (.int (if j < i then j else i)) H) ∨ rMin K xs H Q
theorem call_maxU (hc : X.calm = true) : CallR X (.builtin "max") (rMaxU X.K) := callOr (call_max2 hc) (cr_max hc)
theorem call_minU (hc : X.calm = true) : CallR X (.builtin "min") (rMinU X.K) := callOr (call_min2 hc) (cr_min hc)
def rListU (K : PySem.W.Frag) : List V → Hp → VK → Prop := fun xs H Q => ∃ p ys, xs = [.ref p] ∧ (SqL K H p ys ∨ SqT K H p ys) ∧ ∀ l, H l = none → Q (.ref l) (upd H l (.lst ys))
theorem call_listU : CallR X (.type "list") (rListU X.K) := call_list_of
end
section
variable {K : PySem.W.Frag} {T : Amb} {B B' B0 H0 H H' : Hp} {cs cs' : List Cell} {Γ Γ' Γ1 Γ2 : List Slot} {s s1 s2 : Slot} {ta tb te td ty tv : TE} {tt : TT} {t u : TS} {R : Outc → Prop} {i j : Int} {x y : Str}
/-! ### built-ins -/
theorem ra_one {r : List V → Hp → VK → Prop} (h : ∀ (B0 H0 : Hp) (cs : List Cell) (H : Hp) (v : V) (Q : VK), St K T B0 H0 ((s1, some v) :: cs) H → (∀ u H', St K T B0 H0 ((s, some u) :: cs) H' → Q u H') → r [v] H Q) : RA K T r [s1] s := fun B0 H0 cs H vs Q e st k => by
  match vs, e with
  | [v], _ => exact h B0 H0 cs H v Q st k
theorem ra_two {r : List V → Hp → VK → Prop} (h : ∀ (B0 H0 : Hp) (cs : List Cell) (H : Hp) (v w : V) (Q : VK), St K T B0 H0 ((s1, some v) :: (s2, some w) :: cs) H → (∀ u H', St K T B0 H0 ((s, some u) :: cs) H' → Q u H') → r [v, w] H Q) : RA K T r [s1, s2] s := fun B0 H0 cs H vs Q e st k => by
  match vs, e with
  | [v, w], _ => exact h B0 H0 cs H v w Q st k
theorem ra_len {ds : List D} : RA K T (rLenU K) [.rd (.lst ds)] (.sh (.int ds.length)) := ra_one fun B0 H0 cs H v Q st k => by
  obtain ⟨p, vs, rfl, h1, h2⟩ := (show ∃ p vs, v = .ref p ∧ H p = some (.lst vs) ∧ RepL K H ds vs from st.rep)
  refine .inl ⟨p, vs, rfl, .inl (Evl.sq_of h1), ?_⟩
  rw [← h2.length]
  exact k _ H (st.drop.push Sc.int)
theorem ra_lenT {ds : List D} : RA K T (rLenU K) [.sh (.tup ds)] (.sh (.int ds.length)) := ra_one fun B0 H0 cs H v Q st k => by
  obtain ⟨p, vs, rfl, h1, h2⟩ := (show ∃ p vs, v = .ref p ∧ H p = some (.tup vs) ∧ RepL K H ds vs from st.repS)
  refine .inl ⟨p, vs, rfl, .inr (Evl.st_of h1), ?_⟩
  rw [← h2.length]
  exact k _ H (st.drop.push Sc.int)
theorem ra_lenR {ns : List Int} : RA K T (rLenU K) [.sh (.scr ns)] (.sh (.int ns.length)) := ra_one fun B0 H0 cs H v Q st k => by
  obtain ⟨p, rfl, h1⟩ := (show ∃ p, v = .ref p ∧ SqL K H p (ns.map V.int) from st.repS)
  refine .inl ⟨p, _, rfl, .inl h1, ?_⟩
  rw [List.length_map]
  exact k _ H (st.drop.push Sc.int)
theorem ra_lenS (h : x.length ≤ 100000) : RA K T (rLenU K) [.sh (.str x)] (.sh (.int x.length)) := ra_one fun B0 H0 cs H v Q st k => .inr (.inl ⟨x, by rw [show v = .str x from st.repS], Evl.sz_of h, k _ H (st.drop.push Sc.int)⟩)
theorem ra_lenD {kvs : List (Key × D)} : RA K T (rLenU K) [.rd (.dic kvs)] (.sh (.int kvs.length)) := ra_one fun B0 H0 cs H v Q st k => by
  obtain ⟨p, vs, rfl, h1, h2⟩ := (show ∃ p vs, v = .ref p ∧ H p = some (.dK vs) ∧ RepK K H kvs vs from st.rep)
  refine .inr (.inr ⟨p, vs, rfl, h1, ?_⟩)
  rw [← h2.length]
  exact k _ H (st.drop.push Sc.int)
theorem ra_intB {b : Bool} : RA K T rInt1 [.sh (.bl b)] (.sh (.int (if b then 1 else 0))) := ra_one fun B0 H0 cs H v Q st k => .inr ⟨b, by rw [show v = .bl b from st.repS], k _ H (st.drop.push Sc.int)⟩
theorem ra_max2 : RA K T (rMaxU K) [.sh (.int i), .sh (.int j)] (.sh (.int (max i j))) := ra_two fun B0 H0 cs H v w Q st k => .inl ⟨i, j, by rw [show v = .int i from st.repS, show w = .int j from st.drop.repS], by
  rw [show (if j > i then j else i) = max i j by omega]
  exact k _ H (st.drop2.push Sc.int)⟩
theorem ra_min2 : RA K T (rMinU K) [.sh (.int i), .sh (.int j)] (.sh (.int (min i j))) := ra_two fun B0 H0 cs H v w Q st k => .inl ⟨i, j, by rw [show v = .int i from st.repS, show w = .int j from st.drop.repS], by
  rw [show (if j < i then j else i) = min i j by omega]
  exact k _ H (st.drop2.push Sc.int)⟩
/-- list(xs): a new list -/
theorem ra_list {ds : List D} : RA K T (rListU K) [.sh (.lst ds)] (.ownL ds) := ra_one fun B0 H0 cs H v Q st k => by
  obtain ⟨p, vs, rfl, h1, h2⟩ := (show ∃ p vs, v = .ref p ∧ H p = some (.lst vs) ∧ RepL K H ds vs from st.repS)
  refine ⟨p, vs, rfl, .inl (Evl.sq_of h1), fun l hl => k _ _ (St.sub (st.newOwn (s := .ownL ds) hl rfl fun B e3 ok => ?_) (.of_sublist (List.Sublist.cons_cons _ (List.sublist_cons_self _ _))))⟩
  obtain ⟨v, e, p', vs', g1, g2, g3⟩ := ok _ List.mem_cons_self
  cases e
  cases g1
  have z := e3 _ _ g2
  rw [h1] at z
  cases z
  exact ⟨l, vs, rfl, upd_same, g3⟩
/-- isinstance of what is known -/
def tyD : D → Option Value
  | .non => some (.type "NoneType")
  | .bl _ => some (.type "bool")
  | .int _ => some (.type "int")
  | .str _ => some (.type "str")
  | .tup _ => some (.type "tuple")
  | .lst _ => some (.type "list")
  | .dic _ => some (.type "dict")
  | _ => none
theorem tyx_of {d : D} {v : V} {c : Value} (h : tyD d = some c) (r : Rep K H d v) : TyX K H v c := by
  cases d with
  | non => cases h; cases (show v = .non from r); exact .base .non
  | bl b => cases h; cases (show v = .bl b from r); exact .base (.bl b)
  | int b => cases h; cases (show v = .int b from r); exact .base (.int b)
  | str b => cases h; cases (show v = .str b from r); exact .base (.str b)
  | tup ds =>
    cases h
    obtain ⟨p, vs, rfl, h1, _⟩ := (show ∃ p vs, v = .ref p ∧ H p = some (.tup vs) ∧ RepL K H ds vs from r)
    exact .base (.tup h1)
  | lst ds =>
    cases h
    obtain ⟨p, vs, rfl, h1, _⟩ := (show ∃ p vs, v = .ref p ∧ H p = some (.lst vs) ∧ RepL K H ds vs from r)
    exact .base (.lst h1)
  | dic ds =>
    cases h
    obtain ⟨p, vs, rfl, h1, _⟩ := (show ∃ p ws, v = .ref p ∧ H p = some (.dK ws) ∧ RepK K H ds ws from r)
    exact .base (.dK h1)
  | _ => cases h
theorem ev_ty {n : String} {Γ : List Slot} {d : D} {c : Value} {b : Bool} (h : EvS K T ta Γ Γ' (.sh d)) (hc : tyD d = some c) (hb : PySem.W.kitOne K c (.type n) = some b) :
    EvS K T (tCB (rIsi K) (tCons ta (tCons (tC (.ty n)) tNil))) Γ Γ' (.sh (.bl b)) := ⟨h.1, fun B0 H0 σ Z H Q hl st k => h.2 B0 H0 σ Z H _ hl st fun v H1 st1 =>
  ⟨v, .ty n, c, .type n, b, rfl, .ty n, tyx_of hc st1.repS, hb, k _ H1 (st1.drop.push Sc.bl)⟩⟩

/-! ### own lists and dicts -/
theorem getZ {Z : List Cell} {σ : L2.St} {n : Nat} {o : Option V} (h : Γ[n]? = some s) (ho : σ[n]? = some o) : (Z ++ Γ.zip σ)[Z.length + n]? = some (s, o) := by
  rw [List.getElem?_append_right (by omega), Nat.add_sub_cancel_left, List.getElem?_zip_eq_some]
  exact ⟨h, ho⟩
theorem setZ {Z : List Cell} {σ : L2.St} {n : Nat} {o : Option V} (h : σ[n]? = some o) (hl : σ.length = Γ.length) : (Z ++ Γ.zip σ).set (Z.length + n) (s, o) = Z ++ (Γ.set n s).zip σ := by
  rw [List.set_append_right _ _ (by omega), Nat.add_sub_cancel_left, zip_set h hl]
theorem noRdG {Γ : List Slot} (h : (Γ.all fun s => !isRd s) = true) (σ : L2.St) : NoRd (Γ.zip σ) := fun c hc => by
  have q := List.all_eq_true.mp h c.1 (List.of_mem_zip (a := c.1) (b := c.2) hc).1
  cases z : isRd c.1 with
  | false => rfl
  | true => rw [z] at q; cases q
/-- xs.append(e), xs a name's own list -/
theorem does_app {n : Nat} {ds : List D} {d : D} (he : EvS K T te Γ Γ1 (.sh d)) (h0 : Γ[n]? = some (.ownL ds)) (h : Γ1[n]? = some (.ownL ds)) (hz : ds.length < 100000) (nr : (Γ1.all fun s => !isRd s) = true) (k : R (.nx (Γ1.set n (.ownL (ds ++ [d]))))) :
    DoesS K T (tDrop (tBM K "list" rAppend (tVar n) (tCons te tNil))) Γ R := fun B0 H0 σ Z H D nrz hl st e => by
  obtain ⟨o, h1, h2⟩ := zip_get hl h0
  obtain ⟨B, _, _, _, _, _, _, e5, _⟩ := id st
  obtain ⟨p, vs, rfl, g1, g2⟩ := e5 _ (List.mem_append_right _ h2)
  refine ⟨.ref p, h1, Or.inl ⟨rfl, vs, Evl.sq_of g1⟩, ?_⟩
  refine he.2 B0 H0 σ Z H _ hl st fun v H1 st1 => ?_
  have l1 : σ.length = Γ1.length := hl.trans he.1.symm
  obtain ⟨vs', f1, f2, st2⟩ := St.app st1 (getZ h h1) ((nrz.append (noRdG nr σ)).at)
  rw [setZ h1 l1] at st2
  exact ⟨p, vs', v, rfl, rfl, f1, Evl.sz_lt (by omega), e.nx _ σ _ k (by rw [List.length_set]; exact he.1) hl st2⟩
/-- x = xs.pop() -/
theorem St.pop {n : Nat} {ds : List D} {d : D} {p : Addr} (h : St K T B0 H0 cs H) (hi : cs[n]? = some (.ownL (ds ++ [d]), some (.ref p))) (nr : NoRdAt p cs) :
    ∃ vs y, H p = some (.lst (vs ++ [y])) ∧ vs.length = ds.length ∧ St K T B0 H0 ((.sh d, some y) :: cs.set n (.ownL ds, some (.ref p))) (upd H p (.lst vs)) := by
  obtain ⟨vs, y, h1, h2⟩ : ∃ vs y, H p = some (.lst (vs ++ [y])) ∧ vs.length = ds.length := by
    obtain ⟨B, _, _, _, _, _, _, e5, _⟩ := id h
    obtain ⟨q, vs, e, h1, h2⟩ := e5 _ (List.mem_of_getElem? hi)
    cases e
    have hl := h2.length
    rw [List.length_append, List.length_singleton] at hl
    obtain ⟨ws, y, rfl⟩ : ∃ ws y, vs = ws ++ [y] := ⟨vs.dropLast, vs.getLast (by intro z; rw [z] at hl; simp at hl), (List.dropLast_concat_getLast _).symm⟩
    exact ⟨ws, y, h1, by simp at hl; omega⟩
  refine ⟨vs, y, h1, h2, ?_⟩
  -- the item's cell first
  have st1 : St K T B0 H0 ((.sh d, some y) :: cs) H := by
    obtain ⟨B, e1, e2, e3, nt, tb, e4, e5, e6, e7⟩ := h
    refine ⟨B, e1, e2, e3, nt, tb, e4, fun c hc => ?_, e6, e7⟩
    rcases List.mem_cons.mp hc with z | z
    · rw [z]
      obtain ⟨q, vs', e, g1, g2⟩ := e5 _ (List.mem_of_getElem? hi)
      cases e
      rw [h1] at g1
      cases g1
      obtain ⟨w, w1, w2⟩ := g2.get (i := ds.length) (d := d) (by simp)
      rw [← h2] at w1
      simp at w1
      exact ⟨y, rfl, w1 ▸ w2⟩
    · exact e5 c z
  have m := St.mut (i := n + 1) (s' := .ownL ds) (o := .lst vs) st1 (by rw [List.getElem?_cons_succ]; exact hi) rfl rfl
    (fun c hc z => (List.mem_cons.mp hc).elim (fun q => by rw [q] at z; cases z) fun q => nr c q z) h1 (fun _ z => by cases z) (fun _ z => by cases z) (fun _ z => by cases z) fun B e3 bp ok => by
      obtain ⟨q, vs', e, g1, g2⟩ := ok _ (List.mem_cons_of_mem _ (List.mem_of_getElem? hi))
      cases e
      rw [h1] at g1
      cases g1
      have g3 := g2.dropLast
      rw [List.dropLast_concat, List.dropLast_concat] at g3
      exact ⟨p, vs, rfl, upd_same, g3⟩
  rw [List.set_cons_succ] at m
  exact m
theorem does_pop {n k : Nat} {ds : List D} {d : D} (h : Γ[n]? = some (.ownL (ds ++ [d]))) (nr : (Γ.all fun s => !isRd s) = true) (kk : R (.nx ((Γ.set n (.ownL ds)).set k (.sh d)))) :
    DoesS K T (tAsg (tBM0 K "list" rPop (tVar n)) (gName k)) Γ R := fun B0 H0 σ Z H D nrz hl st e => by
  obtain ⟨o, h1, h2⟩ := zip_get hl h
  obtain ⟨B, _, _, _, _, _, _, e5, _⟩ := id st
  obtain ⟨p, vs0, rfl, g1, g2⟩ := e5 _ (List.mem_append_right _ h2)
  obtain ⟨vs, y, f1, f2, st2⟩ := St.pop st (getZ h h1) ((nrz.append (noRdG nr σ)).at)
  rw [setZ h1 hl] at st2
  refine ⟨.ref p, h1, Or.inl ⟨rfl, _, Evl.sq_of f1⟩, p, vs ++ [y], y, rfl, rfl, f1, by simp, ?_⟩
  rw [List.dropLast_concat]
  exact bind_name.2 B0 H0 σ Z _ y _ (hl.trans List.length_set.symm) st2 fun σ' l' _ st3 => e.nx _ σ' _ kk (by rw [List.length_set, List.length_set]) (l'.trans List.length_set) st3
/-- {} -/
theorem ev_dnew : EvS K T tDNewK Γ Γ (.ownK []) := ⟨rfl, fun B0 H0 σ Z H Q hl st k p hp => k _ _ (st.newOwn (s := .ownK []) hp rfl fun B _ _ => ⟨p, [], rfl, upd_same, rfl⟩)⟩
/-- {k: v} -/
theorem ev_disp1 {tk tw : TE} {kk : Key} {d : D} (hk : EvS K T tk Γ Γ1 (.sh (keyD kk))) (hv : EvS K T tw Γ1 Γ2 (.sh d)) (hnr : (Γ2.all fun s => !isRd s) = true) (h1 : Γ2 = Γ) : EvS K T (tDisp [(tk, tw)]) Γ Γ2 (.ownK [(kk, d)]) := ⟨hv.1.trans hk.1, fun B0 H0 σ Z H Q hl st k p hp => by
  have st1 : St K T B0 H0 ((.ownK [], some (.ref p)) :: Z ++ Γ.zip σ) (upd H p (.dK [])) := st.newOwn (s := .ownK []) hp rfl fun B _ _ => ⟨p, [], rfl, upd_same, rfl⟩
  have hzr : NoRdAt p (Z ++ Γ.zip σ) := fun c hc hr z => by
    obtain ⟨B, _, _, e3, _, _, _, e5, _⟩ := id st
    have q := e5 c hc
    obtain ⟨sl, o⟩ := c
    cases sl with
    | rd d =>
      obtain ⟨v, e, r⟩ := q
      have ev : v = .ref p := Option.some.inj (e.symm.trans z)
      subst ev
      cases d with
      | lst ds =>
        obtain ⟨p', vs, g1, g2, _⟩ := (show ∃ q vs, V.ref p = .ref q ∧ H q = some (.lst vs) ∧ RepL K B ds vs from r)
        cases g1
        rw [hp] at g2
        cases g2
      | dic ds =>
        obtain ⟨p', vs, g1, g2, _⟩ := (show ∃ q ws, V.ref p = .ref q ∧ H q = some (.dK ws) ∧ RepK K B ds ws from r)
        cases g1
        rw [hp] at g2
        cases g2
      | _ => cases hr
    | _ => cases hr
  refine hk.2 B0 H0 σ _ _ _ hl st1 fun v H1 st2 => ?_
  refine hv.2 B0 H0 σ ((.sh (keyD kk), some v) :: (.ownK [], some (.ref p)) :: Z) H1 _ (hl.trans hk.1.symm) st2 fun w H2 st3 => ?_
  have ev : v = kV kk := keyD_rep st3.drop.repS
  have hown : H2 p = some (.dK []) := by
    obtain ⟨B, _, _, _, _, _, _, e5, _⟩ := id st3
    obtain ⟨q, ws, e, g1, g2⟩ := e5 (.ownK [], some (.ref p)) (by simp)
    cases e
    cases (show ws = [] from g2)
    exact g1
  refine ⟨hown, [(kk, w)], by rw [ev]; rfl, by show 1 ≤ 15; decide, ?_⟩
  subst h1
  have st4 : St K T B0 H0 ((.sh d, some w) :: (.ownK [], some (.ref p)) :: (Z ++ Γ2.zip σ)) H2 := st3.sub (.of_sublist (List.Sublist.cons_cons _ (List.sublist_cons_self _ _)))
  have m := St.mut (i := 1) (s' := .ownK [(kk, d)]) (o := .dK (mergeK [] [(kk, w)])) st4 rfl rfl rfl (fun c hc hr => ?_) hown (fun _ z => by cases z) (fun _ z => by cases z) (fun _ z => by cases z) fun B e3 bp ok => ?_
  · exact k _ _ m.drop
  · rcases List.mem_cons.mp hc with z | z
    · rw [z] at hr
      cases hr
    · rcases List.mem_cons.mp z with z | z
      · rw [z] at hr
        cases hr
      · exact hzr c z hr
  · obtain ⟨v', e, r⟩ := ok _ List.mem_cons_self
    cases e
    exact ⟨p, _, rfl, upd_same, w, [], rfl, r, rfl⟩⟩
/-- d[k] = v, d a name's own dict -/
theorem does_dput {n : Nat} {kvs : List (Key × D)} {kk : Key} {d : D} (hv : EvS K T tv Γ Γ1 (.sh d)) (hk : EvS K T ty Γ1 Γ2 (.sh (keyD kk))) (h1 : Γ1[n]? = some (.ownK kvs)) (h : Γ2[n]? = some (.ownK kvs)) (hz : kvs.length < 100000) (nr : (Γ2.all fun s => !isRd s) = true)
    (k : R (.nx (Γ2.set n (.ownK (putD kvs kk d))))) : DoesS K T (sDPut (tVar n) ty tv) Γ R := fun B0 H0 σ Z H D nrz hl st e => by
  refine hv.2 B0 H0 σ Z H _ hl st fun v H1 st1 => ?_
  have l1 : σ.length = Γ1.length := hl.trans hv.1.symm
  obtain ⟨o, g1, g2⟩ := zip_get l1 h1
  obtain ⟨p, rfl⟩ : ∃ p, o = some (.ref p) := by
    obtain ⟨B, _, _, _, _, _, _, e5, _⟩ := id st1
    obtain ⟨p, vs, q, _⟩ := e5 _ (List.mem_cons_of_mem _ (List.mem_append_right _ g2))
    exact ⟨p, q⟩
  refine ⟨.ref p, g1, ?_⟩
  refine hk.2 B0 H0 σ ((.sh d, some v) :: Z) H1 _ l1 st1 fun w H2 st2 => ?_
  have l2 : σ.length = Γ2.length := l1.trans hk.1.symm
  have ew : w = kV kk := keyD_rep st2.repS
  have st3 : St K T B0 H0 (((.sh d, some v) :: Z) ++ Γ2.zip σ) H2 := st2.drop
  have gz : (((.sh d, some v) :: Z) ++ Γ2.zip σ)[((.sh d, some v) :: Z).length + n]? = some (Slot.ownK kvs, some (V.ref p)) := getZ h g1
  obtain ⟨ws, f1, f2⟩ : ∃ ws, H2 p = some (.dK ws) ∧ ws.length = kvs.length := by
    obtain ⟨B, _, _, _, _, _, _, e5, _⟩ := id st3
    obtain ⟨q, ws, e, x1, x2⟩ := e5 _ (List.mem_of_getElem? gz)
    cases e
    exact ⟨ws, x1, x2.length.symm⟩
  refine ⟨p, _, rfl, ew ▸ DPut.k (k := kk) f1 (Evl.sz_lt (by omega)), ?_⟩
  have m := St.mut (s' := .ownK (putD kvs kk d)) (o := .dK (putK ws kk v)) st3 gz rfl rfl (NoRd.at (NoRd.append (fun c hc => (List.mem_cons.mp hc).elim (fun z => by rw [z]; rfl) (nrz c)) (noRdG nr σ))) f1 (fun _ z => by cases z) (fun _ z => by cases z) (fun _ z => by cases z) fun B e3 bp ok => by
    obtain ⟨q, ws', e, x1, x2⟩ := ok _ (List.mem_of_getElem? gz)
    cases e
    rw [f1] at x1
    cases x1
    obtain ⟨v', e, r⟩ := ok (.sh d, some v) (by simp)
    cases e
    exact ⟨p, _, rfl, upd_same, x2.put r⟩
  rw [setZ g1 l2] at m
  exact e.nx _ σ _ k (by rw [List.length_set]; exact hk.1.trans hv.1) hl (m.sub (.of_sublist (List.sublist_cons_self _ _)))
/-- k in d, d[k] -/
theorem rs_inD {kvs : List (Key × D)} {kk : Key} : RS K T (rInU K) (.sh (keyD kk)) (.rd (.dic kvs)) (.sh (.bl (valD kvs kk).isSome)) := rs_inr (rs_inr fun B0 H0 cs H v w Q st k => by
  obtain ⟨p, ws, rfl, h1, h2⟩ := (show ∃ p vs, w = .ref p ∧ H p = some (.dK vs) ∧ RepK K H kvs vs from st.rep)
  refine ⟨p, valV ws kk, rfl, keyD_rep st.drop.repS ▸ DGet.k h1, ?_⟩
  have e : (valV ws kk).isSome = (valD kvs kk).isSome := by
    rcases h2.val kk with ⟨a, b⟩ | ⟨d, v, a, b, _⟩
    · rw [a, b]; rfl
    · rw [a, b]; rfl
  rw [e]
  exact k _ H (st.drop2.push Sc.bl))
theorem rs_notInD {kvs : List (Key × D)} {kk : Key} : RS K T (rNotInU K) (.sh (keyD kk)) (.rd (.dic kvs)) (.sh (.bl (!(valD kvs kk).isSome))) := rs_inr (rs_inr fun B0 H0 cs H v w Q st k => by
  obtain ⟨p, ws, rfl, h1, h2⟩ := (show ∃ p vs, w = .ref p ∧ H p = some (.dK vs) ∧ RepK K H kvs vs from st.rep)
  refine ⟨p, valV ws kk, rfl, keyD_rep st.drop.repS ▸ DGet.k h1, ?_⟩
  have e : (valV ws kk).isSome = (valD kvs kk).isSome := by
    rcases h2.val kk with ⟨a, b⟩ | ⟨d, v, a, b, _⟩
    · rw [a, b]; rfl
    · rw [a, b]; rfl
  rw [e]
  exact k _ H (st.drop2.push Sc.bl))
theorem ev_dget {kvs : List (Key × D)} {kk : Key} {d : D} (hd : EvS K T td Γ Γ1 (.rd (.dic kvs))) (hk : EvS K T ty Γ1 Γ2 (.sh (keyD kk))) (h : valD kvs kk = some d) : EvS K T (tIxU K td ty) Γ Γ2 (.sh d) := ⟨hk.1.trans hd.1, fun B0 H0 σ Z H Q hl st k => .inr (by
  refine hd.2 B0 H0 σ Z H _ hl st fun v H1 st1 => ?_
  refine hk.2 B0 H0 σ ((.rd (.dic kvs), some v) :: Z) H1 _ (hl.trans hd.1.symm) st1 fun w H2 st2 => ?_
  obtain ⟨B, e1, e2, e3, nt, tb, e4, e5, e6, e7⟩ := id st2
  obtain ⟨v', e, p, ws, rfl, h1, h2⟩ := e5 (.rd (.dic kvs), some v) (by simp)
  cases e
  rcases h2.val kk with ⟨a, b⟩ | ⟨d', u, a, b, r⟩
  · rw [h] at a
    cases a
  · rw [h] at a
    cases a
    refine ⟨p, u, rfl, by rw [← b, keyD_rep st2.repS]; exact DGet.k h1, k u H2 ?_⟩
    exact ⟨B, e1, e2, e3, nt, tb, e4, fun c hc => (List.mem_cons.mp hc).elim (fun z => by rw [z]; exact ⟨u, rfl, r⟩) fun z => e5 c (List.mem_cons_of_mem _ (List.mem_cons_of_mem _ z)), e6, e7⟩)⟩
/-! ### objects -/
theorem RepF.look : ∀ {fs : List (Str × D)} {ws : List (Str × V)} (f : Str), RepF K H fs ws → (fs.lookup f = none ∧ ws.lookup f = none) ∨ ∃ d v, fs.lookup f = some d ∧ ws.lookup f = some v ∧ Rep K H d v
  | [], ws, f, h => by cases (show ws = [] from h); exact .inl ⟨rfl, rfl⟩
  | (k0, d) :: fs, ws, f, h => by
    obtain ⟨v, r, rfl, h1, h2⟩ := (show ∃ v r, ws = (k0, v) :: r ∧ Rep K H d v ∧ RepF K H fs r from h)
    by_cases e : f = k0
    · exact .inr ⟨d, v, by simp [List.lookup, e], by simp [List.lookup, e], h1⟩
    · have e' : (f == k0) = false := by simpa using e
      simp only [List.lookup, e']
      exact RepF.look f h2
theorem ev_fld {C : Addr} {fs : List (Str × D)} {f : Str} {d : D} (h : EvS K T ta Γ Γ' (.sh (.obj C fs))) (hc : Cls K C) (hn : NoAttr K C f) (hf : fs.lookup f = some d) : EvS K T (tFld K ta f) Γ Γ' (.sh d) := ⟨h.1, fun B0 H0 σ Z H Q hl st k => by
  refine h.2 B0 H0 σ Z H _ hl st fun v H1 st1 => ?_
  obtain ⟨B, e1, e2, e3, nt, tb, e4, e5, e6, e7⟩ := id st1
  obtain ⟨v', e, p, dx, ws, rfl, h1, h2⟩ := e5 _ List.mem_cons_self
  cases e
  rcases h2.look f with ⟨a, b⟩ | ⟨d', u, a, b, r⟩
  · rw [hf] at a
    cases a
  · rw [hf] at a
    cases a
    exact ⟨p, C, dx, ws, u, rfl, e3 _ _ h1, hc, hn, b, k u H1 ⟨B, e1, e2, e3, nt, tb, e4, fun c hc => (List.mem_cons.mp hc).elim (fun z => by rw [z]; exact ⟨u, rfl, r⟩) fun z => e5 c (List.mem_cons_of_mem _ z), e6, e7⟩⟩⟩
/-- a field of the def's own instance -/
def putFD (f : Str) (v : D) : List (Str × D) → List (Str × D)
  | [] => [(f, v)]
  | (g, w) :: r => if g = f then (f, v) :: r else (g, w) :: putFD f v r
end
end Fx

/-! Fx H: fields, makers, methods, a def's promise by its body. -/
namespace Fx
open PySem L2 NdefX
section
variable {K : PySem.W.Frag} {T : Amb} {B B' B0 H0 H H' : Hp} {cs cs' : List Cell} {Γ Γ' Γ1 Γ2 : List Slot} {s s1 s2 : Slot} {ta tb te td ty tv : TE} {tt : TT} {t u : TS} {R : Outc → Prop}
theorem RepF.put {f : Str} {d : D} {v : V} (r : Rep K H d v) : ∀ {fs : List (Str × D)} {ws : List (Str × V)}, RepF K H fs ws → RepF K H (putFD f d fs) (putF f v ws)
  | [], ws, h => by cases (show ws = [] from h); exact ⟨v, [], rfl, r, rfl⟩
  | (g, d0) :: fs, ws, h => by
    obtain ⟨v0, r0, rfl, h1, h2⟩ := (show ∃ v r, ws = (g, v) :: r ∧ Rep K H d0 v ∧ RepF K H fs r from h)
    unfold putFD putF
    by_cases e : g = f
    · rw [if_pos e, if_pos e, e]
      exact ⟨v, r0, rfl, r, h2⟩
    · rw [if_neg e, if_neg e]
      exact ⟨v0, _, rfl, h1, RepF.put r h2⟩
theorem RepF.length : ∀ {kvs : List (Str × D)} {ws : List (Str × V)}, RepF K H kvs ws → kvs.length = ws.length
  | [], ws, h => by cases (show ws = [] from h); rfl
  | (k0, d0) :: kvs, ws, h => by
    obtain ⟨v0, r0, rfl, h1, h2⟩ := (show ∃ v r, ws = (k0, v) :: r ∧ Rep K H d0 v ∧ RepF K H kvs r from h)
    rw [List.length_cons, List.length_cons, RepF.length h2]
/-- o.f = e, o the def's own instance -/
theorem does_fld {n : Nat} {p C : Addr} {fs : List (Str × D)} {f : Str} {d : D} (hv : EvS K T tv Γ Γ1 (.sh d)) (h : Γ1[n]? = some (.ownO p C fs)) (hc : Cls K C) (hn : NoAttr K C f) (hl9 : fs.length < 1000) (nr : (Γ1.all fun s => !isRd s) = true)
    (k : R (.nx (Γ1.set n (.ownO p C (putFD f d fs))))) : DoesS K T (sFld K (tVar n) tv f) Γ R := fun B0 H0 σ Z H D nrz hl st e => by
  refine hv.2 B0 H0 σ Z H _ hl st fun v H1 st1 => ?_
  have l1 : σ.length = Γ1.length := hl.trans hv.1.symm
  obtain ⟨o, g1, g2⟩ := zip_get l1 h
  obtain ⟨ws, dx, rfl, f1, f2⟩ : ∃ ws dx, o = some (.ref p) ∧ H1 p = some (.ins C dx ws) ∧ ws.length = fs.length := by
    obtain ⟨B, _, _, _, _, _, _, e5, _⟩ := id st1
    obtain ⟨q, vs, e, ⟨rfl, dx, x1⟩, x2⟩ := e5 _ (List.mem_cons_of_mem _ (List.mem_append_right _ g2))
    exact ⟨vs, dx, e, x1, x2.length.symm⟩
  refine ⟨.ref p, g1, p, C, dx, ws, rfl, f1, hc, hn, by omega, ?_⟩
  have gz : ((Slot.sh d, some v) :: (Z ++ Γ1.zip σ))[Z.length + n + 1]? = some (Slot.ownO p C fs, some (V.ref p)) := by
    rw [List.getElem?_cons_succ]
    exact getZ h g1
  have m := St.mut (s' := .ownO p C (putFD f d fs)) (o := .ins C dx (putF f v ws)) st1 gz rfl rfl (fun c hc hr => (List.mem_cons.mp hc).elim (fun z => by rw [z] at hr; cases hr) ((nrz.append (noRdG nr σ)).at c · hr)) f1 (fun _ z => by cases z) (fun _ z => by cases z) (fun _ z => by cases z) fun B e3 bp ok => by
    obtain ⟨q, ws', e, ⟨rfl, dx', x1⟩, x2⟩ := ok _ (List.mem_of_getElem? gz)
    rw [f1] at x1
    cases x1
    obtain ⟨v', e, r⟩ := ok _ List.mem_cons_self
    cases e
    exact ⟨q, _, rfl, ⟨rfl, dx, upd_same⟩, x2.put r⟩
  rw [List.set_cons_succ, setZ g1 l1] at m
  exact e.nx _ σ _ k (by rw [List.length_set]; exact hv.1) hl m.drop
/-- a class's __init__: from ds it lays the fields fs -/
def spNew (K : PySem.W.Frag) (T : List NTab) (C : Addr) (Rel : List D → List (Str × D) → Prop) : Sp := fun vs H Q _ => ∃ (H1 B : Hp) (x dx : Addr) (rest : List V) (ds : List D) (fs : List (Str × D)), vs = .ref x :: rest ∧ Rel ds fs ∧ Ex B H1 ∧ NoTab B ∧ TabsN T H1 ∧ RepL K B ds rest ∧
  H1 x = none ∧ H1 dx = none ∧ dx ≠ x ∧ H = upd (upd H1 dx (.own x)) x (.ins C dx []) ∧ ∀ H', St K (plainA T) B H1 [(.ownO x C fs, some (.ref x))] H' → Q .non H'
theorem ev_make {C : Addr} {Rel : List D → List (Str × D) → Prop} {ds : List D} {fs : List (Str × D)} {t : TA} {E : XK} (h : EvA K T t Γ Γ' (ds.map .sh)) (hr : Rel ds fs) : EvS K T (tMake C (spNew K T.tabs C Rel) [] E t) Γ Γ' (.sh (.obj C fs)) := by
  refine ⟨h.1, fun B0 H0 σ Z H Q hl st k => ?_⟩
  refine h.2 B0 H0 σ Z H _ hl st fun vs H1 e st1 x dx nx nd ne => ?_
  rw [List.append_nil]
  obtain ⟨B, e1, e2, e3, nt, tb, e4, e5, e6, e7⟩ := st1
  have sl : (Z ++ Γ'.zip σ).Sublist ((ds.map Slot.sh).zip (vs.map some) ++ (Z ++ Γ'.zip σ)) := List.sublist_append_right _ _
  refine ⟨H1, B, x, dx, vs, ds, fs, rfl, hr, e3, nt, tb.1, repL_of (H := H1) (by rw [e, List.length_map]) fun c hc => e5 c (List.mem_append_left _ hc), nx, nd, ne, rfl, fun H' st2 => ⟨rfl, ?_⟩⟩
  have st3 := (St.merge (T := T) (T' := plainA T.tabs) (B0 := B0) (H0 := H0) (B1 := B) rfl tb.2 e1 e2 e4 (fun c hc => e5 c (sl.subset hc)) (e6.sublist (sl.filterMap owned)) (fun p hp => e7 p ((sl.filterMap owned).subset hp)) st2)
  exact k _ H' st3.freezeO
/-- o.m(..), o an instance that nobody changes -/
theorem ev_meth {C : Addr} {m : Str} {Rel : List D → Slot → Prop} {fs : List (Str × D)} {ds dd : List D} {dvs : List V} {t : TA} {E : XK} (ho : EvS K T ta Γ Γ1 (.sh (.obj C fs))) (hm : fs.lookup m = none) (h : EvA K T t Γ1 Γ2 (ds.map .sh)) (hdv : ∀ H, RepL K H dd dvs) (hr : Rel (.obj C fs :: (ds ++ dd)) s) :
    EvS K T (tMeth C m (spR K T.tabs Rel) dvs E ta t) Γ Γ2 s := by
  refine ⟨h.1.trans ho.1, fun B0 H0 σ Z H Q hl st k => ?_⟩
  refine ho.2 B0 H0 σ Z H _ hl st fun v H1 st1 => ?_
  obtain ⟨p, dx, ws, rfl, h1, h2⟩ := (show ∃ p dx ws, v = .ref p ∧ H1 p = some (.ins C dx ws) ∧ RepF K H1 fs ws from st1.repS)
  refine ⟨p, dx, ws, rfl, h1, ?_, ?_⟩
  · rcases h2.look m with ⟨_, b⟩ | ⟨d, w, a, _, _⟩
    · exact b
    · rw [hm] at a
      cases a
  refine h.2 B0 H0 σ ((.sh (.obj C fs), some (.ref p)) :: Z) H1 _ (hl.trans ho.1.symm) st1 fun vs H2 e st2 => ?_
  have e' : vs.length = ds.length := by rw [e, List.length_map]
  have st3 : St K T B0 H0 ((.sh (.obj C fs), some (.ref p)) :: ((ds.map Slot.sh).zip (vs.map some) ++ (Z ++ Γ2.zip σ))) H2 := st2.sub (.of_perm List.perm_middle.symm)
  obtain ⟨B, e1, e2, e3, nt, tb, e4, e5, e6, e7⟩ := st3
  have sl : (Z ++ Γ2.zip σ).Sublist ((.sh (.obj C fs), some (.ref p)) :: ((ds.map Slot.sh).zip (vs.map some) ++ (Z ++ Γ2.zip σ))) := (List.sublist_append_right _ _).trans (List.sublist_cons_self _ _)
  refine ⟨.obj C fs :: (ds ++ dd), s, B, hr, e3, nt, tb.1, ?_, fun v H' st' => k v H' (St.merge (T' := plainA T.tabs) (B1 := B) rfl tb.2 e1 e2 e4 (fun c hc => e5 c (sl.subset hc)) (e6.sublist (sl.filterMap owned)) (fun p hp => e7 p ((sl.filterMap owned).subset hp)) st')⟩
  obtain ⟨v', q, r⟩ := e5 _ List.mem_cons_self
  cases q
  exact .cons r ((repL_of (H := H2) e' fun c hc => e5 c (List.mem_cons_of_mem _ (List.mem_append_left _ hc))).append (hdv B))
theorem ev_calld {Rel : List D → Slot → Prop} {ds dd : List D} {dvs : List V} {t : TA} {E : XK} (h : EvA K T t Γ Γ' (ds.map .sh)) (hdv : ∀ H, RepL K H dd dvs) (hr : Rel (ds ++ dd) s) : EvS K T (tCall (spR K T.tabs Rel) dvs E t) Γ Γ' s := by
  refine ⟨h.1, fun B0 H0 σ Z H Q hl st k => ?_⟩
  refine h.2 B0 H0 σ Z H _ hl st fun vs H1 e st1 => ?_
  obtain ⟨B, e1, e2, e3, nt, tb, e4, e5, e6, e7⟩ := st1
  have sl : (Z ++ Γ'.zip σ).Sublist ((ds.map Slot.sh).zip (vs.map some) ++ (Z ++ Γ'.zip σ)) := List.sublist_append_right _ _
  exact ⟨ds ++ dd, s, B, hr, e3, nt, tb.1, (repL_of (H := H1) (by rw [e, List.length_map]) fun c hc => e5 c (List.mem_append_left _ hc)).append (hdv B), fun v H' st' =>
    k v H' (St.merge (T' := plainA T.tabs) (B1 := B) rfl tb.2 e1 e2 e4 (fun c hc => e5 c (sl.subset hc)) (e6.sublist (sl.filterMap owned)) (fun p hp => e7 p ((sl.filterMap owned).subset hp)) st')⟩

/-! ### a def by its body -/
def entry (n : Nat) (ds : List D) : List Slot := ds.map .sh ++ List.replicate (n - ds.length) .any
theorem entry_length {n : Nat} {ds : List D} (h : ds.length ≤ n) : (entry n ds).length = n := by unfold entry; simp; omega
theorem start_length {N : List Str} {vs : List V} (h : vs.length ≤ N.length) : (L2.start N vs).length = N.length := by unfold L2.start; simp; omega
def retR (s : Slot) : Outc → Prop
  | .rt s' => s' = s
  | .nx _ => s = .sh .non
  | _ => False
theorem cells_any {n : Nat} {o : List (Option V)} : ∀ c ∈ (List.replicate n Slot.any).zip o, c.1 = .any := fun c hc => by
  have q := (List.of_mem_zip (a := c.1) (b := c.2) hc).1
  exact (List.mem_replicate.mp q).2
theorem owned_any : ∀ {l : List Cell}, (∀ c ∈ l, c.1 = .any) → l.filterMap owned = []
  | [], _ => rfl
  | c :: l, h => by
    rw [List.filterMap_cons]
    obtain ⟨s, o⟩ := c
    cases (show s = .any from h _ List.mem_cons_self)
    exact owned_any fun c hc => h c (List.mem_cons_of_mem _ hc)
theorem st_entry {N : List Str} {ds : List D} {vs : List V} (hB : Ex B H) (nt : NoTab B) (tb : TabsN T.tabs H) (fa : T.fact B H) (r : RepL K B ds vs) (hl : ds.length ≤ N.length) : St K T B H ([] ++ (entry N.length ds).zip (L2.start N vs)) H := by
  have e : (entry N.length ds).zip (L2.start N vs) = (ds.map Slot.sh).zip (vs.map some) ++ (List.replicate (N.length - ds.length) Slot.any).zip (List.replicate (N.length - vs.length) none) := by
    unfold entry L2.start
    rw [List.zip_append (by rw [List.length_map, List.length_map, r.length])]
  rw [List.nil_append, e]
  refine ⟨B, Evl.Ex.refl B, ExN.refl H, hB, nt, ⟨tb, fa⟩, fun q o h => .inl h, fun c hc => ?_, ?_, fun p hp => ?_⟩
  · rcases List.mem_append.mp hc with z | z
    · exact repL_cells r c z
    · obtain ⟨s, o⟩ := c
      cases (show s = .any from cells_any _ z)
      trivial
  · rw [List.filterMap_append, owned_sh, owned_any cells_any]
    exact List.nodup_nil
  · rw [List.filterMap_append, owned_sh, owned_any cells_any] at hp
    cases hp
section
variable {P : Program} {w : World} {mg : Str → Option Value} {base : Heap} {T : List NTab}
theorem fun_ok {x qual : Str} {st : Stmt} {f : Addr} {fd : FuncData} {N ps : List Str} {k : Nat} {Rel : List D → Slot → Prop} (F : Fun K x qual st f fd) (S : FnScope N ps (defScope st)) (len : ∀ ds s, Rel ds s → ds.length = ps.length) (hN : ps.length ≤ N.length)
    (hbody : ∀ (cdv : Value) (A : Around) (outer : List Env) (s : Shared) (H : Hp) (E : XK), Room k (A.deeper (PyProof.Rows.envOfC qual (defScope st) s.heap.objs.size f cdv)) →
      ∃ t, PSs (cxOf CX0 P w K mg base N qual (defScope st) f cdv A outer s H E).nox (defBody st) t ∧ ∀ ds s, Rel ds s → DoesS K (plainA T) t (entry N.length ds) (retR s)) : FnOk P w K mg base CX0 (k + 1) f fd ps (spR K T Rel) := by
  refine F.ok S (fun vs H Q E h => ?_) (fun cdv A outer s H vs Q E hr h => ?_)
  · obtain ⟨ds, s, B, hr, _, _, _, rl, _⟩ := h
    rw [← rl.length]
    exact len ds s hr
  · obtain ⟨ds, sl, B, hrel, hB, nt, tb, rl, k⟩ := h
    obtain ⟨t, ht, hd⟩ := hbody cdv A outer s H E hr
    have hl : ds.length ≤ N.length := by rw [len ds sl hrel]; exact hN
    refine ⟨t, ht, hd ds sl hrel B H _ [] H _ (fun c hc => absurd hc (by simp)) ?_ (st_entry (T := plainA T) hB nt tb True.intro rl hl) ⟨fun Γ' σ' H' r g1 g2 st' => ?_, fun s' v H' r st' => ?_, fun _ _ _ r => r.elim, fun _ _ _ r => r.elim⟩⟩
    · rw [entry_length hl, start_length (by rw [← rl.length]; exact hl)]
    · cases (show sl = .sh .non from r)
      exact k _ H' ((st'.push Sc.non).sub (.of_sublist (List.Sublist.cons_cons _ (List.nil_sublist _))))
    · cases (show s' = sl from r)
      exact k v H' st'
/-- an __init__ by its body -/
theorem new_ok {x qual sf : Str} {st : Stmt} {f C : Addr} {fd : FuncData} {N ps : List Str} {k : Nat} {Rel : List D → List (Str × D) → Prop} (F : Fun K x qual st f fd) (S : FnScope N (sf :: ps) (defScope st)) (len : ∀ ds s, Rel ds s → ds.length = ps.length) (hN : ps.length + 1 ≤ N.length)
    (hbody : ∀ (cdv : Value) (A : Around) (outer : List Env) (s : Shared) (H : Hp) (E : XK), Room k (A.deeper (PyProof.Rows.envOfC qual (defScope st) s.heap.objs.size f cdv)) →
      ∃ t, PSs (cxOf CX0 P w K mg base N qual (defScope st) f cdv A outer s H E).nox (defBody st) t ∧ ∀ ds fs x, Rel ds fs → DoesS K (plainA T) t (.ownO x C [] :: entry (N.length - 1) ds) fun o => ∃ Γ, o = .nx Γ ∧ Γ[0]? = some (.ownO x C fs)) : FnOk P w K mg base CX0 (k + 1) f fd (sf :: ps) (spNew K T C Rel) := by
  refine F.ok S (fun vs H Q E h => ?_) (fun cdv A outer s H vs Q E hr h => ?_)
  · obtain ⟨H1, B, x, dx, rest, ds, fs, rfl, hr, _, _, _, rl, _⟩ := h
    rw [List.length_cons, List.length_cons, ← rl.length, len ds fs hr]
  · obtain ⟨H1, B, x, dx, rest, ds, fs, rfl, hrel, hB, nt, tb, rl, nx, nd, ne, rfl, k⟩ := h
    obtain ⟨t, ht, hd⟩ := hbody cdv A outer s _ E hr
    have hl : ds.length ≤ N.length - 1 := by rw [len ds fs hrel]; omega
    have eh : Ex H1 (upd (upd H1 dx (.own x)) x (.ins C dx [])) := (Evl.Ex.new nd).trans (Evl.Ex.new (by rw [upd_ne ne.symm]; exact nx))
    have bx : B x = none := Evl.fresh_back hB nx
    have es : L2.start N (V.ref x :: rest) = some (.ref x) :: (rest.map some ++ List.replicate (N.length - 1 - rest.length) none) := by
      unfold L2.start
      rw [List.map_cons, List.length_cons, List.cons_append]
      congr 3
      omega
    refine ⟨t, ht, hd ds fs x hrel B H1 _ [] _ _ (fun c hc => absurd hc (by simp)) ?_ ?_ ⟨fun Γ' σ' H' r g1 g2 st' => ?_, fun s' v H' r st' => ?_, fun _ _ _ r => ?_, fun _ _ _ r => ?_⟩⟩
    · rw [es, List.length_cons, List.length_cons, entry_length hl]
      simp
      rw [← rl.length]
      omega
    · rw [es, List.nil_append, List.zip_cons_cons]
      have e : (entry (N.length - 1) ds).zip (rest.map some ++ List.replicate (N.length - 1 - rest.length) none) = (ds.map Slot.sh).zip (rest.map some) ++ (List.replicate (N.length - 1 - ds.length) Slot.any).zip (List.replicate (N.length - 1 - rest.length) none) := by
        unfold entry
        rw [List.zip_append (by rw [List.length_map, List.length_map, rl.length])]
      rw [e]
      refine ⟨B, Evl.Ex.refl B, ExN.of eh, hB.trans eh, nt, ⟨tb.ext eh, True.intro⟩, fun q o h => .inl h, fun c hc => ?_, ?_, fun p hp => ?_⟩
      · rcases List.mem_cons.mp hc with z | z
        · rw [z]
          exact ⟨x, [], rfl, ⟨rfl, dx, upd_same⟩, rfl⟩
        · rcases List.mem_append.mp z with z | z
          · exact repL_cells rl c z
          · obtain ⟨s, o⟩ := c
            cases (show s = .any from cells_any _ z)
            trivial
      · rw [List.filterMap_cons, List.filterMap_append, owned_sh, owned_any cells_any]
        simp [owned]
      · rw [List.filterMap_cons, List.filterMap_append, owned_sh, owned_any cells_any] at hp
        have : p = x := by simpa [owned] using hp
        rw [this]
        exact ⟨bx, nx⟩
    · obtain ⟨Γ, e, h0⟩ := r
      cases e
      rw [List.nil_append] at st'
      obtain ⟨o, h1, h2⟩ := zip_get (g2.trans g1.symm) h0
      have st2 := st'.sub (cs' := [(.ownO x C fs, o)]) (.of_sublist (List.singleton_sublist.mpr h2))
      obtain ⟨B', _, _, _, _, _, _, e5, _⟩ := id st2
      obtain ⟨q, ws, e, ⟨rfl, _⟩, _⟩ := e5 _ List.mem_cons_self
      rw [e] at st2
      exact k H' st2
    · obtain ⟨Γ, e, _⟩ := r
      cases e
    · obtain ⟨Γ, e, _⟩ := r
      cases e
    · obtain ⟨Γ, e, _⟩ := r
      cases e
end
end
end Fx

/-! Fx I: defs and their promises by name. -/
namespace Fx
open PySem L2 NdefX
section
variable (P : Program) (w : World) (K : PySem.W.Frag) (mg : Str → Option Value) (base : Heap) (T : List NTab)
/-- the def st stands under the name x -/
structure Here (x : Str) (st : Stmt) (ps : List Str) : Prop where
  ex : ∃ a fd, mg x = some (.ref a) ∧ Fun K x x st a fd ∧ Binds K fd ps []
/-- what stands under the name x keeps a promise -/
structure Prom (k : Nat) (x : Str) (ps : List Str) (Rel : List D → Slot → Prop) : Prop where
  ex : ∃ a fd, mg x = some (.ref a) ∧ PySem.W.keepIn K (.ref a) = true ∧ Binds K fd ps [] ∧ FnOk P w K mg base CX0 k a fd ps (spR K T Rel)
/-- the class at C has the method m -/
structure HereM (C : Addr) (m qual : Str) (st : Stmt) (ps : List Str) : Prop where
  ex : ∃ a fd, Meth K C m a ∧ Fun K m qual st a fd ∧ Binds K fd ps []
structure PromM (k : Nat) (C : Addr) (m : Str) (ps : List Str) (Rel : List D → Slot → Prop) : Prop where
  ex : ∃ a fd, Meth K C m a ∧ Binds K fd ps [] ∧ FnOk P w K mg base CX0 k a fd ps (spR K T Rel)
/-- the class under the name x, made by its own __init__ -/
structure HereC (C : Addr) (x qual : Str) (st : Stmt) (ps : List Str) : Prop where
  g : mg x = some (.ref C)
  cl : Cls K C
  ex : ∃ a fd, Mk K C a ∧ Fun K "__init__" qual st a fd ∧ Binds K fd ps []
structure PromC (k : Nat) (C : Addr) (x : Str) (ps : List Str) (Rel : List D → List (Str × D) → Prop) : Prop where
  ex : ∃ a fd, mg x = some (.ref C) ∧ Mk K C a ∧ Binds K fd ps [] ∧ FnOk P w K mg base CX0 k a fd ps (spNew K T C Rel)
end
section
variable {P : Program} {w : World} {K : PySem.W.Frag} {mg : Str → Option Value} {base : Heap} {T : List NTab} {j k : Nat} {x m qual : Str} {ps : List Str} {Rel Rel' : List D → Slot → Prop} {st : Stmt} {N : List Str} {C : Addr}
theorem Prom.mono (h : Prom P w K mg base T j x ps Rel) (l : j ≤ k) : Prom P w K mg base T k x ps Rel := let ⟨a, fd, h1, h2, h3, h4⟩ := h; ⟨a, fd, h1, h2, h3, h4.mono l⟩
theorem PromM.mono (h : PromM P w K mg base T j C m ps Rel) (l : j ≤ k) : PromM P w K mg base T k C m ps Rel := let ⟨a, fd, h1, h2, h3⟩ := h; ⟨a, fd, h1, h2, h3.mono l⟩
theorem PromC.mono {Rel : List D → List (Str × D) → Prop} (h : PromC P w K mg base T j C x ps Rel) (l : j ≤ k) : PromC P w K mg base T k C x ps Rel := let ⟨a, fd, h1, h2, h3, h4⟩ := h; ⟨a, fd, h1, h2, h3, h4.mono l⟩
/-- a smaller promise -/
theorem Prom.imp (h : Prom P w K mg base T k x ps Rel) (i : ∀ ds s, Rel' ds s → Rel ds s) : Prom P w K mg base T k x ps Rel' := let ⟨a, fd, h1, h2, h3, h4⟩ := h; ⟨a, fd, h1, h2, h3, h4.imp fun vs H Q E ⟨ds, s, B, r, q⟩ => ⟨ds, s, B, i ds s r, q⟩⟩
/-- the context of a def's body, whichever its address -/
abbrev bodyX (P : Program) (w : World) (K : PySem.W.Frag) (mg : Str → Option Value) (base : Heap) (N : List Str) (qual : Str) (st : Stmt) (f : Addr) (cdv : Value) (A : Around) (outer : List Env) (s : Shared) (H : Hp) (E : XK) : Cx :=
  (cxOf CX0 P w K mg base N qual (defScope st) f cdv A outer s H E).nox
theorem prom_of (h : Here K mg x st ps) (S : FnScope N ps (defScope st)) (len : ∀ ds s, Rel ds s → ds.length = ps.length) (hN : ps.length ≤ N.length)
    (hbody : ∀ (f : Addr) (cdv : Value) (A : Around) (outer : List Env) (s : Shared) (H : Hp) (E : XK), Room k (bodyX P w K mg base N x st f cdv A outer s H E).A →
      ∃ t, PSs (bodyX P w K mg base N x st f cdv A outer s H E) (defBody st) t ∧ ∀ ds s, Rel ds s → DoesS K (plainA T) t (entry N.length ds) (retR s)) : Prom P w K mg base T (k + 1) x ps Rel := by
  obtain ⟨a, fd, h1, F, h3⟩ := h
  exact ⟨a, fd, h1, F.kp, h3, fun_ok F S len hN fun cdv A outer s H E hr => hbody a cdv A outer s H E hr⟩
theorem promM_of (h : HereM K C m qual st ps) (S : FnScope N ps (defScope st)) (len : ∀ ds s, Rel ds s → ds.length = ps.length) (hN : ps.length ≤ N.length)
    (hbody : ∀ (f : Addr) (cdv : Value) (A : Around) (outer : List Env) (s : Shared) (H : Hp) (E : XK), Room k (bodyX P w K mg base N qual st f cdv A outer s H E).A →
      ∃ t, PSs (bodyX P w K mg base N qual st f cdv A outer s H E) (defBody st) t ∧ ∀ ds s, Rel ds s → DoesS K (plainA T) t (entry N.length ds) (retR s)) : PromM P w K mg base T (k + 1) C m ps Rel := by
  obtain ⟨a, fd, h1, F, h3⟩ := h
  exact ⟨a, fd, h1, h3, fun_ok F S len hN fun cdv A outer s H E hr => hbody a cdv A outer s H E hr⟩
theorem promC_of {sf : Str} {Rel : List D → List (Str × D) → Prop} (h : HereC K mg C x qual st (sf :: ps)) (S : FnScope N (sf :: ps) (defScope st)) (len : ∀ ds s, Rel ds s → ds.length = ps.length) (hN : ps.length + 1 ≤ N.length)
    (hbody : ∀ (f : Addr) (cdv : Value) (A : Around) (outer : List Env) (s : Shared) (H : Hp) (E : XK), Room k (bodyX P w K mg base N qual st f cdv A outer s H E).A →
      ∃ t, PSs (bodyX P w K mg base N qual st f cdv A outer s H E) (defBody st) t ∧ ∀ ds fs p, Rel ds fs → DoesS K (plainA T) t (.ownO p C [] :: entry (N.length - 1) ds) fun o => ∃ Γ, o = .nx Γ ∧ Γ[0]? = some (.ownO p C fs)) : PromC P w K mg base T (k + 1) C x (sf :: ps) Rel := by
  obtain ⟨g, cl, a, fd, h1, F, h3⟩ := h
  exact ⟨a, fd, g, h1, h3, new_ok F S len hN fun cdv A outer s H E hr => hbody a cdv A outer s H E hr⟩
end
section
variable {X : Cx} {T : List NTab} {j k : Nat} {x m : Str} {ps : List Str} {Rel : List D → Slot → Prop} {C : Addr} {e o : Expr} {es : List Expr} {t : TA} {ta : TE} {p pos apos : Pos}
theorem pe_prom (G : Prom X.prog X.w X.K X.mg X.base T k x ps Rel) (hr : Room k X.A) (hg : Gl X x) (ha : PA X (e :: es) t) (hdb : (x == ("__debug__" : Str)) = false := by decide) (he : starEach (e :: es) X.env = (false, eval e X.env) :: starEach es X.env := by rfl) (hpl : (backTo pos (starEach es X.env)).any (·.1) = false := by rfl) :
    PE X (.Call (.Name x p) (e :: es) [] pos) (tCall (spR X.K T Rel) [] E0 t) := by
  obtain ⟨a, fd, h1, h2, h3, h4⟩ := G
  exact pe_call h4 hr hg h1 h2 h3 .nil pass0 ha hdb he hpl
theorem pe_promC {Rel : List D → List (Str × D) → Prop} (G : PromC X.prog X.w X.K X.mg X.base T k C x ps Rel) (hr : Room (k + 1) X.A) (hg : Gl X x) (ha : PA X (e :: es) t) (hdb : (x == ("__debug__" : Str)) = false := by decide) (he : starEach (e :: es) X.env = (false, eval e X.env) :: starEach es X.env := by rfl) (hpl : (backTo pos (starEach es X.env)).any (·.1) = false := by rfl) :
    PE X (.Call (.Name x p) (e :: es) [] pos) (tMake C (spNew X.K T C Rel) [] E0 t) := by
  obtain ⟨a, fd, h1, h2, h3, h4⟩ := G
  exact pe_make h2 h4 hr hg h1 h3 .nil pass0 ha hdb he hpl
theorem pe_promM {pl : Sem Bool} (G : PromM X.prog X.w X.K X.mg X.base T k C m ps Rel) (hr : Room k X.A) (c : Cls X.K C) (he : PE X o ta) (ha : PA X (e :: es) t)
    (hst : starEach (e :: es) X.env = (false, eval e X.env) :: starEach es X.env := by rfl) (hpl : (backTo pos (starEach es X.env)).any (·.1) = false := by rfl)
    (ht : eval (.Call (.Attribute o m apos) (e :: es) [] pos) X.env = (do
      let ov ← eval o X.env
      standAt apos.atName
      let (f, first) ← holding [ov] (getMethod ov m pl)
      callWith pos f first (backTo pos (starEach (e :: es) X.env)) (backToKw pos (keywordEach [] X.env))) := by rfl) :
    PE X (.Call (.Attribute o m apos) (e :: es) [] pos) (tMeth C m (spR X.K T Rel) [] E0 ta t) := by
  obtain ⟨a, fd, h1, h3, h4⟩ := G
  exact pe_meth he c h1 h4 hr h3 .nil pass0 ha hst hpl ht
end
end Fx

/-! Fx J: the same by kinds, for a search. -/
namespace Fx
open PySem L2 NdefX
section
variable {K : PySem.W.Frag} {T : Amb} {Γ Γ' Γ1 Γ2 Γ3 : List Slot} {s s1 s2 : Slot} {ta tb te tc td ty tv : TE} {tt tu : TT} {t u : TS} {R : Outc → Prop} {i j l : Int} {x y : Str}
theorem ev_add (ha : EvS K T ta Γ Γ1 (.sh (.int i))) (hb : EvS K T tb Γ1 Γ2 (.sh (.int j))) : EvS K T (tOp rAddU ta tb) Γ Γ2 (.sh (.int (i + j))) := ev_op ha hb rs_add
theorem ev_addS (ha : EvS K T ta Γ Γ1 (.sh (.str x))) (hb : EvS K T tb Γ1 Γ2 (.sh (.str y))) (h : x.length + y.length ≤ sizeLine) : EvS K T (tOp rAddU ta tb) Γ Γ2 (.sh (.str (x ++ y))) := ev_op ha hb (rs_addS h)
theorem ev_sub (ha : EvS K T ta Γ Γ1 (.sh (.int i))) (hb : EvS K T tb Γ1 Γ2 (.sh (.int j))) : EvS K T (tOp rSubI ta tb) Γ Γ2 (.sh (.int (i - j))) := ev_op ha hb rs_sub
theorem ev_mul (ha : EvS K T ta Γ Γ1 (.sh (.int i))) (hb : EvS K T tb Γ1 Γ2 (.sh (.int j))) (h : CMulW i j) : EvS K T (tOp rMulI ta tb) Γ Γ2 (.sh (.int (i * j))) := ev_op ha hb (rs_mul h)
theorem ev_mod (ha : EvS K T ta Γ Γ1 (.sh (.int i))) (hb : EvS K T tb Γ1 Γ2 (.sh (.int j))) (h : 0 < j) : EvS K T (tOp rModI ta tb) Γ Γ2 (.sh (.int (i % j))) := ev_op ha hb (rs_mod h)
theorem ev_div (ha : EvS K T ta Γ Γ1 (.sh (.int i))) (hb : EvS K T tb Γ1 Γ2 (.sh (.int j))) (h : CDivW i j) : EvS K T (tOp rDivI ta tb) Γ Γ2 (.sh (.int (i / j))) := ev_op ha hb (rs_div h)
theorem ev_pow (ha : EvS K T ta Γ Γ1 (.sh (.int i))) (hb : EvS K T tb Γ1 Γ2 (.sh (.int j))) (h : CPow i j) : EvS K T (tOp rPow ta tb) Γ Γ2 (.sh (.int (i ^ j.toNat))) := ev_op ha hb (rs_pow h)
theorem ev_shl (ha : EvS K T ta Γ Γ1 (.sh (.int i))) (hb : EvS K T tb Γ1 Γ2 (.sh (.int j))) (h : CPow i j) : EvS K T (tOp rShl ta tb) Γ Γ2 (.sh (.int (i * 2 ^ j.toNat))) := ev_op ha hb (rs_shl h)
theorem ev_shr (ha : EvS K T ta Γ Γ1 (.sh (.int i))) (hb : EvS K T tb Γ1 Γ2 (.sh (.int j))) (h : 0 ≤ j) : EvS K T (tOp rShr ta tb) Γ Γ2 (.sh (.int (i / 2 ^ j.toNat))) := ev_op ha hb (rs_shr h)
theorem ev_bor (ha : EvS K T ta Γ Γ1 (.sh (.int i))) (hb : EvS K T tb Γ1 Γ2 (.sh (.int j))) : EvS K T (tOp rOr ta tb) Γ Γ2 (.sh (.int (Builtin.bitOr i j))) := ev_op ha hb rs_or
theorem ev_band (ha : EvS K T ta Γ Γ1 (.sh (.int i))) (hb : EvS K T tb Γ1 Γ2 (.sh (.int j))) : EvS K T (tOp rAnd ta tb) Γ Γ2 (.sh (.int (Builtin.bitAnd i j))) := ev_op ha hb rs_and
theorem ev_bxor (ha : EvS K T ta Γ Γ1 (.sh (.int i))) (hb : EvS K T tb Γ1 Γ2 (.sh (.int j))) : EvS K T (tOp rXor ta tb) Γ Γ2 (.sh (.int (Builtin.bitXor i j))) := ev_op ha hb rs_xor
theorem ev_neg (ha : EvS K T ta Γ Γ1 (.sh (.int i))) : EvS K T (tUn (rU fun i => .int (-i)) ta) Γ Γ1 (.sh (.int (-i))) := ⟨ha.1, fun B0 H0 σ Z H Q hl st k => ha.2 B0 H0 σ Z H _ hl st fun v H1 q => ⟨i, q.repS, k _ H1 (q.drop.push Sc.int)⟩⟩
theorem ev_lt (ha : EvS K T ta Γ Γ1 (.sh (.int i))) (hb : EvS K T tb Γ1 Γ2 (.sh (.int j))) : EvS K T (tOp rLt ta tb) Γ Γ2 (.sh (.bl (decide (i < j)))) := ev_op ha hb rs_cmp
theorem ev_le (ha : EvS K T ta Γ Γ1 (.sh (.int i))) (hb : EvS K T tb Γ1 Γ2 (.sh (.int j))) : EvS K T (tOp rLe ta tb) Γ Γ2 (.sh (.bl (decide (i ≤ j)))) := ev_op ha hb rs_cmp
theorem ev_gt (ha : EvS K T ta Γ Γ1 (.sh (.int i))) (hb : EvS K T tb Γ1 Γ2 (.sh (.int j))) : EvS K T (tOp rGt ta tb) Γ Γ2 (.sh (.bl (decide (j < i)))) := ev_op ha hb rs_cmp
theorem ev_ge (ha : EvS K T ta Γ Γ1 (.sh (.int i))) (hb : EvS K T tb Γ1 Γ2 (.sh (.int j))) : EvS K T (tOp rGe ta tb) Γ Γ2 (.sh (.bl (decide (j ≤ i)))) := ev_op ha hb rs_cmp
theorem ev_eqI (ha : EvS K T ta Γ Γ1 (.sh (.int i))) (hb : EvS K T tb Γ1 Γ2 (.sh (.int j))) : EvS K T (tOp (rEqU K) ta tb) Γ Γ2 (.sh (.bl (decide (i = j)))) := ev_op ha hb rs_eqI
theorem ev_neI (ha : EvS K T ta Γ Γ1 (.sh (.int i))) (hb : EvS K T tb Γ1 Γ2 (.sh (.int j))) : EvS K T (tOp (rNeU K) ta tb) Γ Γ2 (.sh (.bl (!decide (i = j)))) := ev_op ha hb rs_neI
theorem ev_eqS (ha : EvS K T ta Γ Γ1 (.sh (.str x))) (hb : EvS K T tb Γ1 Γ2 (.sh (.str y))) : EvS K T (tOp (rEqU K) ta tb) Γ Γ2 (.sh (.bl (decide (x = y)))) := ev_op ha hb rs_eqS
theorem ev_neS (ha : EvS K T ta Γ Γ1 (.sh (.str x))) (hb : EvS K T tb Γ1 Γ2 (.sh (.str y))) : EvS K T (tOp (rNeU K) ta tb) Γ Γ2 (.sh (.bl (!decide (x = y)))) := ev_op ha hb rs_neS
theorem ev_eqD {d e : D} {b : Bool} (ha : EvS K T ta Γ Γ1 (.rd d)) (hb : EvS K T tb Γ1 Γ2 (.rd e)) (p1 : plainD d = true) (p2 : plainD e = true) (h1 : SeqAt.shaped (toPy d) = true) (h2 : SeqAt.shaped (toPy e) = true) (h : PyData.eqv (toPy d) (toPy e) = b) : EvS K T (tOp (rEqU K) ta tb) Γ Γ2 (.sh (.bl b)) := ev_op ha hb (rs_eqD p1 p2 h1 h2 h)
theorem ev_neD {d e : D} {b : Bool} (ha : EvS K T ta Γ Γ1 (.rd d)) (hb : EvS K T tb Γ1 Γ2 (.rd e)) (p1 : plainD d = true) (p2 : plainD e = true) (h1 : SeqAt.shaped (toPy d) = true) (h2 : SeqAt.shaped (toPy e) = true) (h : (!PyData.eqv (toPy d) (toPy e)) = b) : EvS K T (tOp (rNeU K) ta tb) Γ Γ2 (.sh (.bl b)) := ev_op ha hb (rs_neD p1 p2 h1 h2 h)
/-- in a list of whole numbers -/
theorem inV_ints (n : Int) : ∀ ns : List Int, inV (.int n) (ns.map V.int) = decide (n ∈ ns)
  | [] => by simp [inV]
  | m :: ns => by
    have ih := inV_ints n ns
    unfold inV at ih ⊢
    rw [List.map_cons, List.any_cons, ih]
    show ((m == n) || decide (n ∈ ns)) = _
    rw [Bool.eq_iff_iff]
    simp only [Bool.or_eq_true, beq_iff_eq, decide_eq_true_eq, List.mem_cons]
    constructor
    · rintro (h | h)
      · exact .inl h.symm
      · exact .inr h
    · rintro (h | h)
      · exact .inl h.symm
      · exact .inr h
theorem flat_ints : ∀ ns : List Int, (ns.map V.int).all flatV = true
  | [] => rfl
  | n :: ns => by rw [List.map_cons, List.all_cons, flat_ints ns]; rfl
theorem rs_inL {n : Int} {ns : List Int} : RS K T (rInU K) (.sh (.int n)) (.rd (.lst (ns.map .int))) (.sh (.bl (decide (n ∈ ns)))) := rs_inl fun B0 H0 cs H v w Q st k => by
  obtain ⟨p, vs, rfl, h1, h2⟩ := (show ∃ p vs, w = .ref p ∧ H p = some (.lst vs) ∧ RepL K H (ns.map .int) vs from st.rep)
  have e := h2.ints
  subst e
  refine ⟨p, _, rfl, .inl (Evl.sq_of h1), ?_, flat_ints ns, ?_⟩
  · rw [show v = .int n from st.drop.repS]
    rfl
  · rw [show v = .int n from st.drop.repS]
    simp only [inV_ints]
    exact k _ H (st.drop2.push Sc.bl)
theorem rs_notInL {n : Int} {ns : List Int} : RS K T (rNotInU K) (.sh (.int n)) (.rd (.lst (ns.map .int))) (.sh (.bl (!decide (n ∈ ns)))) := rs_inl fun B0 H0 cs H v w Q st k => by
  obtain ⟨p, vs, rfl, h1, h2⟩ := (show ∃ p vs, w = .ref p ∧ H p = some (.lst vs) ∧ RepL K H (ns.map .int) vs from st.rep)
  have e := h2.ints
  subst e
  refine ⟨p, _, rfl, .inl (Evl.sq_of h1), ?_, flat_ints ns, ?_⟩
  · rw [show v = .int n from st.drop.repS]
    rfl
  · rw [show v = .int n from st.drop.repS]
    simp only [inV_ints]
    exact k _ H (st.drop2.push Sc.bl)
theorem ev_inL {n : Int} {ns : List Int} (ha : EvS K T ta Γ Γ1 (.sh (.int n))) (hb : EvS K T tb Γ1 Γ2 (.rd (.lst (ns.map .int)))) : EvS K T (tOp (rInU K) ta tb) Γ Γ2 (.sh (.bl (decide (n ∈ ns)))) := ev_op ha hb rs_inL
theorem ev_notInL {n : Int} {ns : List Int} (ha : EvS K T ta Γ Γ1 (.sh (.int n))) (hb : EvS K T tb Γ1 Γ2 (.rd (.lst (ns.map .int)))) : EvS K T (tOp (rNotInU K) ta tb) Γ Γ2 (.sh (.bl (!decide (n ∈ ns)))) := ev_op ha hb rs_notInL
theorem ev_inD {n : Int} {kvs : List (Key × D)} (ha : EvS K T ta Γ Γ1 (.sh (.int n))) (hb : EvS K T tb Γ1 Γ2 (.rd (.dic kvs))) : EvS K T (tOp (rInU K) ta tb) Γ Γ2 (.sh (.bl (valD kvs (.inl n)).isSome)) := ev_op ha hb (rs_inD (kk := .inl n))
theorem ev_notInD {n : Int} {kvs : List (Key × D)} (ha : EvS K T ta Γ Γ1 (.sh (.int n))) (hb : EvS K T tb Γ1 Γ2 (.rd (.dic kvs))) : EvS K T (tOp (rNotInU K) ta tb) Γ Γ2 (.sh (.bl (!(valD kvs (.inl n)).isSome))) := ev_op ha hb (rs_notInD (kk := .inl n))
theorem ev_ixD {n : Int} {kvs : List (Key × D)} {d : D} (ha : EvS K T ta Γ Γ1 (.rd (.dic kvs))) (hb : EvS K T tb Γ1 Γ2 (.sh (.int n))) (h : valD kvs (.inl n) = some d) : EvS K T (tIxU K ta tb) Γ Γ2 (.sh d) := ev_dget (kk := .inl n) ha hb h
theorem ev_len {ds : List D} (h : EvS K T ta Γ Γ1 (.rd (.lst ds))) : EvS K T (tCB (rLenU K) (tCons ta tNil)) Γ Γ1 (.sh (.int ds.length)) := ev_cb (ea_cons h ea_nil) ra_len
theorem ev_lenT {ds : List D} (h : EvS K T ta Γ Γ1 (.sh (.tup ds))) : EvS K T (tCB (rLenU K) (tCons ta tNil)) Γ Γ1 (.sh (.int ds.length)) := ev_cb (ea_cons h ea_nil) ra_lenT
theorem ev_lenR {ns : List Int} (h : EvS K T ta Γ Γ1 (.sh (.scr ns))) : EvS K T (tCB (rLenU K) (tCons ta tNil)) Γ Γ1 (.sh (.int ns.length)) := ev_cb (ea_cons h ea_nil) ra_lenR
theorem ev_lenD {kvs : List (Key × D)} (h : EvS K T ta Γ Γ1 (.rd (.dic kvs))) : EvS K T (tCB (rLenU K) (tCons ta tNil)) Γ Γ1 (.sh (.int kvs.length)) := ev_cb (ea_cons h ea_nil) ra_lenD
theorem ev_lenS (h : EvS K T ta Γ Γ1 (.sh (.str x))) (hz : x.length ≤ 100000) : EvS K T (tCB (rLenU K) (tCons ta tNil)) Γ Γ1 (.sh (.int x.length)) := ev_cb (ea_cons h ea_nil) (ra_lenS hz)
theorem ev_intB {b : Bool} (h : EvS K T ta Γ Γ1 (.sh (.bl b))) : EvS K T (tCB rInt1 (tCons ta tNil)) Γ Γ1 (.sh (.int (if b then 1 else 0))) := ev_cb (ea_cons h ea_nil) ra_intB
theorem ev_max2 (ha : EvS K T ta Γ Γ1 (.sh (.int i))) (hb : EvS K T tb Γ1 Γ2 (.sh (.int j))) : EvS K T (tCB (rMaxU K) (tCons ta (tCons tb tNil))) Γ Γ2 (.sh (.int (max i j))) := ev_cb (ea_cons ha (ea_cons hb ea_nil)) ra_max2
theorem ev_min2 (ha : EvS K T ta Γ Γ1 (.sh (.int i))) (hb : EvS K T tb Γ1 Γ2 (.sh (.int j))) : EvS K T (tCB (rMinU K) (tCons ta (tCons tb tNil))) Γ Γ2 (.sh (.int (min i j))) := ev_cb (ea_cons ha (ea_cons hb ea_nil)) ra_min2
theorem ev_listc {ds : List D} (h : EvS K T ta Γ Γ1 (.sh (.lst ds))) : EvS K T (tCB (rListU K) (tCons ta tNil)) Γ Γ1 (.ownL ds) := ev_cb (ea_cons h ea_nil) ra_list
/-- a < b < c -/
theorem ev_chain {r r' : R2} {a b c : D} {k1 k2 : Bool} (ha : EvS K T ta Γ Γ (.sh a)) (hb : EvS K T tb Γ Γ (.sh b)) (h1 : RS K T r (.sh a) (.sh b) (.sh (.bl k1))) (hc : EvS K T tc Γ Γ (.sh c)) (h2 : RS K T r' (.sh b) (.sh c) (.sh (.bl k2))) :
    EvS K T (tChain r r' ta tb tc) Γ Γ (.sh (.bl (k1 && k2))) := ⟨rfl, fun B0 H0 σ Z H Q hl st k => by
  refine ha.2 B0 H0 σ Z H _ hl st fun v H1 st1 => ?_
  refine hb.2 B0 H0 σ ((.sh a, some v) :: Z) H1 _ hl st1 fun w H2 st2 => ?_
  have st2' : St K T B0 H0 ((.sh b, some w) :: (.sh a, some v) :: (Z ++ Γ.zip σ)) H2 := st2
  refine h1 B0 H0 ((.sh b, some w) :: (Z ++ Γ.zip σ)) H2 v w _ ((st2'.again List.mem_cons_self).sub (.of_perm (List.Perm.cons _ (List.Perm.swap _ _ _)))) fun z H3 st3 => ?_
  refine ⟨k1, st3.repS, ?_⟩
  cases k1 with
  | true =>
    show tc σ H3 _
    have st4 : St K T B0 H0 (((.sh b, some w) :: Z) ++ Γ.zip σ) H3 := st3.drop
    refine hc.2 B0 H0 σ _ H3 _ hl st4 fun u H4 st5 => ?_
    exact h2 B0 H0 (Z ++ Γ.zip σ) H4 w u _ st5 fun x H5 st6 => k x H5 st6
  | false =>
    refine k _ H3 ?_
    exact (st3.drop.drop).push Sc.bl⟩
def isIntD : D → Bool
  | .bl _ => true
  | .int _ => true
  | _ => false
theorem ev_isInt {d : D} (h : EvS K T ta Γ Γ' (.sh d)) (hc : (tyD d).isSome = true) : EvS K T (tCB (rIsi K) (tCons ta (tCons (tC (.ty "int")) tNil))) Γ Γ' (.sh (.bl (isIntD d))) := by
  cases d with
  | non => exact ev_ty (b := false) h rfl (kit_ty (by decide +kernel))
  | bl b => exact ev_ty (b := true) h rfl (kit_ty (by decide +kernel))
  | int b => exact ev_ty (b := true) h rfl (kit_ty (by decide +kernel))
  | str b => exact ev_ty (b := false) h rfl (kit_ty (by decide +kernel))
  | tup b => exact ev_ty (b := false) h rfl (kit_ty (by decide +kernel))
  | lst b => exact ev_ty (b := false) h rfl (kit_ty (by decide +kernel))
  | dic b => exact ev_ty (b := false) h rfl (kit_ty (by decide +kernel))
  | _ => cases hc
def isBoolD : D → Bool
  | .bl _ => true
  | _ => false
theorem ev_isBool {d : D} (h : EvS K T ta Γ Γ' (.sh d)) (hc : (tyD d).isSome = true) : EvS K T (tCB (rIsi K) (tCons ta (tCons (tC (.ty "bool")) tNil))) Γ Γ' (.sh (.bl (isBoolD d))) := by
  cases d with
  | non => exact ev_ty (b := false) h rfl (kit_ty (by decide +kernel))
  | bl b => exact ev_ty (b := true) h rfl (kit_ty (by decide +kernel))
  | int b => exact ev_ty (b := false) h rfl (kit_ty (by decide +kernel))
  | str b => exact ev_ty (b := false) h rfl (kit_ty (by decide +kernel))
  | tup b => exact ev_ty (b := false) h rfl (kit_ty (by decide +kernel))
  | lst b => exact ev_ty (b := false) h rfl (kit_ty (by decide +kernel))
  | dic b => exact ev_ty (b := false) h rfl (kit_ty (by decide +kernel))
  | _ => cases hc
def isListD : D → Bool
  | .lst _ => true
  | _ => false
theorem ev_isList {d : D} (h : EvS K T ta Γ Γ' (.sh d)) (hc : (tyD d).isSome = true) : EvS K T (tCB (rIsi K) (tCons ta (tCons (tC (.ty "list")) tNil))) Γ Γ' (.sh (.bl (isListD d))) := by
  cases d with
  | non => exact ev_ty (b := false) h rfl (kit_ty (by decide +kernel))
  | bl b => exact ev_ty (b := false) h rfl (kit_ty (by decide +kernel))
  | int b => exact ev_ty (b := false) h rfl (kit_ty (by decide +kernel))
  | str b => exact ev_ty (b := false) h rfl (kit_ty (by decide +kernel))
  | tup b => exact ev_ty (b := false) h rfl (kit_ty (by decide +kernel))
  | lst b => exact ev_ty (b := true) h rfl (kit_ty (by decide +kernel))
  | dic b => exact ev_ty (b := false) h rfl (kit_ty (by decide +kernel))
  | _ => cases hc
def isStrD : D → Bool
  | .str _ => true
  | _ => false
theorem ev_isStr {d : D} (h : EvS K T ta Γ Γ' (.sh d)) (hc : (tyD d).isSome = true) : EvS K T (tCB (rIsi K) (tCons ta (tCons (tC (.ty "str")) tNil))) Γ Γ' (.sh (.bl (isStrD d))) := by
  cases d with
  | non => exact ev_ty (b := false) h rfl (kit_ty (by decide +kernel))
  | bl b => exact ev_ty (b := false) h rfl (kit_ty (by decide +kernel))
  | int b => exact ev_ty (b := false) h rfl (kit_ty (by decide +kernel))
  | str b => exact ev_ty (b := true) h rfl (kit_ty (by decide +kernel))
  | tup b => exact ev_ty (b := false) h rfl (kit_ty (by decide +kernel))
  | lst b => exact ev_ty (b := false) h rfl (kit_ty (by decide +kernel))
  | dic b => exact ev_ty (b := false) h rfl (kit_ty (by decide +kernel))
  | _ => cases hc
def isTupleD : D → Bool
  | .tup _ => true
  | _ => false
theorem ev_isTuple {d : D} (h : EvS K T ta Γ Γ' (.sh d)) (hc : (tyD d).isSome = true) : EvS K T (tCB (rIsi K) (tCons ta (tCons (tC (.ty "tuple")) tNil))) Γ Γ' (.sh (.bl (isTupleD d))) := by
  cases d with
  | non => exact ev_ty (b := false) h rfl (kit_ty (by decide +kernel))
  | bl b => exact ev_ty (b := false) h rfl (kit_ty (by decide +kernel))
  | int b => exact ev_ty (b := false) h rfl (kit_ty (by decide +kernel))
  | str b => exact ev_ty (b := false) h rfl (kit_ty (by decide +kernel))
  | tup b => exact ev_ty (b := true) h rfl (kit_ty (by decide +kernel))
  | lst b => exact ev_ty (b := false) h rfl (kit_ty (by decide +kernel))
  | dic b => exact ev_ty (b := false) h rfl (kit_ty (by decide +kernel))
  | _ => cases hc
/-- arguments that are data -/
def EvD (K : PySem.W.Frag) (T : Amb) (ta : TA) (Γ Γ' : List Slot) (ds : List D) : Prop := EvA K T ta Γ Γ' (ds.map .sh)
theorem ed_nil : EvD K T tNil Γ Γ [] := ea_nil
theorem ed_cons {tr : TA} {d : D} {ds : List D} (h : EvS K T te Γ Γ1 (.sh d)) (t : EvD K T tr Γ1 Γ2 ds) : EvD K T (tCons te tr) Γ Γ2 (d :: ds) := ea_cons h t
theorem ev_callD {Rel : List D → Slot → Prop} {ds : List D} {t : TA} {E : XK} (h : EvD K T t Γ Γ' ds) (hr : Rel ds s) : EvS K T (tCall (spR K T.tabs Rel) [] E t) Γ Γ' s := ev_call h hr
theorem ev_tupD {ds : List D} {t : TA} (h : EvD K T t Γ Γ' ds) (hz : ds.length ≤ 100000 := by decide) : EvS K T (tTup t) Γ Γ' (.sh (.tup ds)) := ev_tup h hz
theorem ev_lstD {ds : List D} {t : TA} (h : EvD K T t Γ Γ' ds) (hz : ds.length ≤ 100000 := by decide) : EvS K T (tLst t) Γ Γ' (.ownL ds) := ev_lst h hz
theorem ev_makeD {C : Addr} {Rel : List D → List (Str × D) → Prop} {ds : List D} {fs : List (Str × D)} {t : TA} {E : XK} (h : EvD K T t Γ Γ' ds) (hr : Rel ds fs) : EvS K T (tMake C (spNew K T.tabs C Rel) [] E t) Γ Γ' (.sh (.obj C fs)) := ev_make h hr
theorem ev_methD {C : Addr} {m : Str} {Rel : List D → Slot → Prop} {fs : List (Str × D)} {ds : List D} {t : TA} {E : XK} (ho : EvS K T ta Γ Γ1 (.sh (.obj C fs))) (h : EvD K T t Γ1 Γ2 ds) (hr : Rel (.obj C fs :: ds) s) (hm : fs.lookup m = none) :
    EvS K T (tMeth C m (spR K T.tabs Rel) [] E ta t) Γ Γ2 s := ev_meth (dd := []) ho hm h (fun _ => rfl) (by rw [List.append_nil]; exact hr)
/-- comprehensions, for a search: Γ2 is Γ1 with the own names forgotten -/
theorem ev_lcM {α : Type} {wi : TI} {g : TG} {vs : List Nat} {xs : List α} {enc f : α → D} (hi : EvI K T wi Γ Γ1 (xs.map enc)) (hw : wipeG Γ1 vs = Γ2) (hz : xs.length ≤ 90000)
    (hs : ∀ (i : Nat) (x : α), xs[i]? = some x → ∃ Γb ws Γc, BindG K T g ws (.sh (enc x)) Γ2 Γb ∧ (∀ k ∈ ws, k ∈ vs) ∧ wipeG Γb vs = Γ2 ∧ EvS K T te Γb Γc (.sh (f x)) ∧ wipeG Γc vs = Γ2 ∧ (Γc.all fun s => !isRd s) = true) :
    EvS K T (tLc wi g tYes te vs) Γ Γ2 (.ownL (xs.map f)) := by
  subst hw
  exact ev_lc_map hi hz hs
theorem ev_lcF {α : Type} {wi : TI} {g : TG} {vs : List Nat} {xs : List α} {enc f : α → D} {p : α → Bool} (hi : EvI K T wi Γ Γ1 (xs.map enc)) (hw : wipeG Γ1 vs = Γ2) (hz : xs.length ≤ 90000)
    (hs : ∀ (i : Nat) (x : α), xs[i]? = some x → ∃ Γb ws Γc, BindG K T g ws (.sh (enc x)) Γ2 Γb ∧ (∀ k ∈ ws, k ∈ vs) ∧ wipeG Γb vs = Γ2 ∧ EvB K T tt Γb Γb (p x) ∧ (p x = true → EvS K T te Γb Γc (.sh (f x)) ∧ wipeG Γc vs = Γ2 ∧ (Γc.all fun s => !isRd s) = true)) :
    EvS K T (tLc wi g tt te vs) Γ Γ2 (.ownL ((xs.filter p).map f)) := by
  subst hw
  exact ev_lc_filter hi hz hs
theorem all_set {Γ : List Slot} {n : Nat} {d : D} (h : (Γ.all fun s => !isRd s) = true) : ((Γ.set n (.sh d)).all fun s => !isRd s) = true := by
  refine List.all_eq_true.mpr fun s hs => ?_
  rcases List.mem_or_eq_of_mem_set hs with z | z
  · exact List.all_eq_true.mp h s z
  · rw [z]; rfl
/-- the target a name -/
theorem ev_lcN {α : Type} {wi : TI} {n : Nat} {xs : List α} {enc f : α → D} (hi : EvI K T wi Γ Γ1 (xs.map enc)) (hw : Γ1.set n .any = Γ2) (hz : xs.length ≤ 90000) (hnr : (Γ2.all fun s => !isRd s) = true)
    (hs : ∀ (i : Nat) (x : α), xs[i]? = some x → EvS K T te (Γ2.set n (.sh (enc x))) (Γ2.set n (.sh (enc x))) (.sh (f x))) : EvS K T (tLc wi (gName n) tYes te [n]) Γ Γ2 (.ownL (xs.map f)) := by
  subst hw
  exact ev_lcM hi rfl hz fun i x hx => ⟨_, [n], _, bind_name, fun k hk => hk, by simp [wipeG], hs i x hx, by simp [wipeG], all_set hnr⟩
theorem ev_lcNF {α : Type} {wi : TI} {n : Nat} {xs : List α} {enc f : α → D} {p : α → Bool} (hi : EvI K T wi Γ Γ1 (xs.map enc)) (hw : Γ1.set n .any = Γ2) (hz : xs.length ≤ 90000) (hnr : (Γ2.all fun s => !isRd s) = true)
    (ht : ∀ (i : Nat) (x : α), xs[i]? = some x → EvB K T tt (Γ2.set n (.sh (enc x))) (Γ2.set n (.sh (enc x))) (p x))
    (hs : ∀ (i : Nat) (x : α), xs[i]? = some x → p x = true → EvS K T te (Γ2.set n (.sh (enc x))) (Γ2.set n (.sh (enc x))) (.sh (f x))) : EvS K T (tLc wi (gName n) tt te [n]) Γ Γ2 (.ownL ((xs.filter p).map f)) := by
  subst hw
  exact ev_lcF hi rfl hz fun i x hx => ⟨_, [n], _, bind_name, fun k hk => hk, by simp [wipeG], ht i x hx, fun hp => ⟨hs i x hx hp, by simp [wipeG], all_set hnr⟩⟩
/-- a name's own object is handed on -/
theorem ev_var_mv {i : Nat} (h : Γ[i]? = some s) (hs : s ≠ .any) : EvS K T (tVar i) Γ (Γ.set i .any) s := by
  refine ⟨List.length_set, fun B0 H0 σ Z H Q hl st k => ?_⟩
  obtain ⟨o, h1, h2⟩ := zip_get hl h
  have hz : (Γ.zip σ)[i]? = some (s, o) := by rw [List.getElem?_zip_eq_some]; exact ⟨h, h1⟩
  have hi : i < (Γ.zip σ).length := (List.getElem?_eq_some_iff.mp hz).1
  have p1 : (Z ++ Γ.zip σ).Perm ((s, o) :: (Z ++ (Γ.zip σ).eraseIdx i)) := by
    have e : (Γ.zip σ) = (Γ.zip σ).set i (s, o) := by
      apply List.ext_getElem?
      intro j
      rw [List.getElem?_set]
      by_cases z : i = j
      · subst z
        rw [if_pos rfl, if_pos hi, hz]
      · rw [if_neg z]
    have q := set_perm (s, o) (Γ.zip σ) i hi
    rw [← e] at q
    exact (q.append_left Z).trans List.perm_middle
  have st1 := st.sub (.of_perm p1.symm)
  obtain ⟨v, rfl⟩ := st1.val hs
  refine ⟨v, h1, k v H ?_⟩
  have st2 := (St.pushAny (o := some v) st1)
  refine st2.sub (.of_perm ?_)
  refine (List.Perm.cons _ ?_).trans (List.Perm.swap _ _ _)
  rw [zip_set h1 hl]
  exact ((set_perm (Slot.any, some v) (Γ.zip σ) i hi).append_left Z).trans List.perm_middle
/-- xs.index(n), a list of whole numbers that has it -/
theorem find_idx {n : Int} : ∀ {ns : List Int}, n ∈ ns → (ns.map V.int)[ns.idxOf n]? = some (.int n) ∧ ∀ (m : Nat) (z : V), m < ns.idxOf n → (ns.map V.int)[m]? = some z → eqV z (.int n) = false
  | [], h => by simp at h
  | a :: ns, h => by
    by_cases e : a = n
    · subst e
      rw [List.idxOf_cons_self]
      exact ⟨rfl, fun m z hm => absurd hm (Nat.not_lt_zero _)⟩
    · have hn : n ∈ ns := by
        rcases List.mem_cons.mp h with z | z
        · exact absurd z.symm e
        · exact z
      obtain ⟨h1, h2⟩ := find_idx hn
      have ei : List.idxOf n (a :: ns) = List.idxOf n ns + 1 := by
        rw [List.idxOf_cons]
        have e' : (a == n) = false := by simpa using e
        rw [e']
        rfl
      rw [ei]
      refine ⟨by simpa using h1, fun m z hm hz => ?_⟩
      cases m with
      | zero =>
        simp at hz
        subst hz
        show (a == n) = false
        simpa using e
      | succ m => exact h2 m z (by omega) (by simpa using hz)
theorem ev_index {n : Int} {ns : List Int} (ho : EvS K T ta Γ Γ1 (.rd (.lst (ns.map .int)))) (h : EvS K T te Γ1 Γ2 (.sh (.int n))) (hn : n ∈ ns) : EvS K T (tBM K "list" (rIndex K) ta (tCons te tNil)) Γ Γ2 (.sh (.int (ns.idxOf n))) := ⟨h.1.trans ho.1, fun B0 H0 σ Z H Q hl st k => by
  refine ho.2 B0 H0 σ Z H _ hl st fun v H1 st1 => ?_
  obtain ⟨p, vs, rfl, h1, h2⟩ := (show ∃ p vs, v = .ref p ∧ H1 p = some (.lst vs) ∧ RepL K H1 (ns.map .int) vs from st1.rep)
  have e := h2.ints
  subst e
  refine ⟨Or.inl ⟨rfl, _, Evl.sq_of h1⟩, ?_⟩
  refine h.2 B0 H0 σ ((.rd (.lst (ns.map .int)), some (.ref p)) :: Z) H1 _ (hl.trans ho.1.symm) st1 fun w H2 st2 => ?_
  cases (show w = .int n from st2.repS)
  have st3 : St K T B0 H0 ((.rd (.lst (ns.map .int)), some (.ref p)) :: (Z ++ Γ2.zip σ)) H2 := st2.drop
  obtain ⟨p', vs, e, h3, h4⟩ := (show ∃ q vs, V.ref p = .ref q ∧ H2 q = some (.lst vs) ∧ RepL K H2 (ns.map .int) vs from st3.rep)
  cases e
  have e := h4.ints
  subst e
  obtain ⟨f1, f2⟩ := find_idx hn
  exact ⟨p, _, .int n, ns.idxOf n, .int n, rfl, rfl, Evl.sq_of h3, rfl, flat_ints ns, f1, by show (n == n) = true; simp, f2, k _ H2 (st3.drop.push Sc.int)⟩⟩
/-- a loop over items told by a list -/
theorem does_forM {α β : Type} {wi : TI} {g : TG} {xs : List β} {enc : β → D} (S : Nat → α → List Slot) (P : Nat → α → Prop) (a0 : α) (hi : EvI K T wi Γ Γ1 (xs.map enc)) (w0 : Wk Γ1 (S 0 a0)) (h0 : P 0 a0)
    (hs : ∀ (i : Nat) (a : α) (x : β), xs[i]? = some x → P i a → ∃ Γb ws, BindG K T g ws (.sh (enc x)) (S i a) Γb ∧ DoesS K T t Γb (loopR R fun Γ' => ∃ a', P (i + 1) a' ∧ Wk Γ' (S (i + 1) a')))
    (hd : ∀ a, P xs.length a → R (.nx (S xs.length a))) : DoesS K T (tFor wi g t) Γ R := does_for S P a0 hi w0 h0 (fun i a d hd pa => by
  rw [List.getElem?_map] at hd
  cases hx : xs[i]? with
  | none => rw [hx] at hd; cases hd
  | some x =>
    rw [hx] at hd
    cases hd
    exact hs i a x hx pa) (fun a pa => by
  rw [List.length_map] at pa ⊢
  exact hd a pa)
/-- over a name's slot -/
theorem does_forN {α β : Type} {wi : TI} {n : Nat} {xs : List β} {enc : β → D} (S : Nat → α → List Slot) (P : Nat → α → Prop) (a0 : α) (hi : EvI K T wi Γ Γ1 (xs.map enc)) (w0 : Wk Γ1 (S 0 a0)) (h0 : P 0 a0)
    (hs : ∀ (i : Nat) (a : α) (x : β), xs[i]? = some x → P i a → DoesS K T t ((S i a).set n (.sh (enc x))) (loopR R fun Γ' => ∃ a', P (i + 1) a' ∧ Wk Γ' (S (i + 1) a')))
    (hd : ∀ a, P xs.length a → R (.nx (S xs.length a))) : DoesS K T (tFor wi (gName n) t) Γ R := does_forM S P a0 hi w0 h0 (fun i a x hx pa => ⟨_, _, bind_name, hs i a x hx pa⟩) hd
theorem rngD_eq (lo : Int) (n : Nat) : rngD lo n = (List.range n).map fun (i : Nat) => D.int (lo + (i : Int)) := rfl
/-- over range(n) -/
theorem does_forR {α : Type} {n : Nat} {ta : TA} {j : Int} (S : Nat → α → List Slot) (P : Nat → α → Prop) (a0 : α) (hi : EvA K T ta Γ Γ1 [.sh (.int j)]) (hj : 0 ≤ j ∧ j < 2 ^ 62) (w0 : Wk Γ1 (S 0 a0)) (h0 : P 0 a0)
    (hs : ∀ (i : Nat) (a : α), (i : Int) < j → P i a → DoesS K T t ((S i a).set n (.sh (.int i))) (loopR R fun Γ' => ∃ a', P (i + 1) a' ∧ Wk Γ' (S (i + 1) a')))
    (hd : ∀ a, P j.toNat a → R (.nx (S j.toNat a))) : DoesS K T (tFor (iRng1 ta) (gName n) t) Γ R := does_for S P a0 (ei_rng1 hi (by omega)) w0 h0 (fun i a d hd pa => by
  obtain ⟨h1, rfl⟩ := rngD_get hd
  have e : (0 : Int) + (i : Int) = (i : Int) := Int.zero_add _
  rw [e]
  exact ⟨_, _, bind_name, hs i a (by omega) pa⟩) (fun a pa => by
  rw [rngD_length] at pa ⊢
  exact hd a pa)
end
end Fx

/-! Fx K: the rules that name K, told by K itself (a comprehension's block has another context). -/
namespace Fx
open PySem L2 NdefX
section
variable {X : Cx} {K : PySem.W.Frag} {T : List NTab} {a b e o : Expr} {es : List Expr} {ta tb te : TE} {t : TA} {p pos apos tpos : Pos} {tg : Expr}
theorem k_len (h : X.K = K := by rfl) : CallR X (.builtin "len") (rLenU K) := by subst h; exact call_lenU
theorem k_max (hc : X.calm = true := by rfl) (h : X.K = K := by rfl) : CallR X (.builtin "max") (rMaxU K) := by subst h; exact call_maxU hc
theorem k_min (hc : X.calm = true := by rfl) (h : X.K = K := by rfl) : CallR X (.builtin "min") (rMinU K) := by subst h; exact call_minU hc
theorem k_listc (h : X.K = K := by rfl) : CallR X (.type "list") (rListU K) := by subst h; exact call_listU
theorem k_isi (h : X.K = K := by rfl) : CallR X (.builtin "isinstance") (rIsi K) := by subst h; exact call_isi
theorem k_eq (hu : X.A.units + 64 < cLine) (h : X.K = K := by rfl) : OpR X (compareOp .Eq) (rEqU K) := by subst h; exact op_eqU hu
theorem k_ne (hu : X.A.units + 64 < cLine) (h : X.K = K := by rfl) : OpR X (compareOp .NotEq) (rNeU K) := by subst h; exact op_neU hu
theorem k_in (hu : X.A.units + 1 < cLine) (h : X.K = K := by rfl) : OpR X (compareOp .In) (rInU K) := by subst h; exact op_inU hu
theorem k_notIn (hu : X.A.units + 1 < cLine) (h : X.K = K := by rfl) : OpR X (compareOp .NotIn) (rNotInU K) := by subst h; exact op_notInU hu
theorem k_ix (hu : X.A.units + 1 < cLine) (ha : PE X a ta) (hb : PE X b tb) (h1 : PlainIx b := by exact (fun _ _ => rfl)) (h2 : NoSl b := by exact (fun _ _ => rfl)) (h : X.K = K := by rfl) : PE X (.Subscript a b pos) (tIxU K ta tb) := by subst h; exact pe_ixU hu ha hb h1 h2
theorem k_fld {f : Str} (he : PE X e ta) (hb : attributeBase e f X.env (eval e X.env) = eval e X.env := by rfl) (h : X.K = K := by rfl) : PE X (.Attribute e f pos) (tFld K ta f) := by subst h; exact pe_fld he hb
theorem k_sfld {f : Str} {value : Expr} {pos' : Pos} (ho : PE X o ta) (hv : PE X value tb) (hs : swapsWith value (some (.Attribute o f pos')) pos.line X.env = pure false := by rfl) (h : X.K = K := by rfl) : PS X (.Assign [.Attribute o f pos'] value pos) (sFld K ta tb f) := by subst h; exact ps_fld ho hv hs
theorem k_ilist (hl : PE X e te) (h : X.K = K := by rfl) : PI X tg e (iList K te) := by subst h; exact pi_list hl
theorem k_prom {P : Program} {w : World} {mg : Str → Option Value} {base : Heap} {k : Nat} {x : Str} {ps : List Str} {Rel : List D → Slot → Prop} (G : Prom P w K mg base T k x ps Rel) (hr : Room k X.A) (hg : Gl X x) (ha : PA X (e :: es) t)
    (e1 : X.prog = P := by rfl) (e2 : X.w = w := by rfl) (e3 : X.K = K := by rfl) (e4 : X.mg = mg := by rfl) (e5 : X.base = base := by rfl)
    (hdb : (x == ("__debug__" : Str)) = false := by decide) (he : starEach (e :: es) X.env = (false, eval e X.env) :: starEach es X.env := by rfl) (hpl : (backTo pos (starEach es X.env)).any (·.1) = false := by rfl) :
    PE X (.Call (.Name x p) (e :: es) [] pos) (tCall (spR K T Rel) [] E0 t) := by
  subst e1 e2 e3 e4 e5
  exact pe_prom G hr hg ha hdb he hpl
theorem k_promC {P : Program} {w : World} {mg : Str → Option Value} {base : Heap} {k : Nat} {x : Str} {C : Addr} {ps : List Str} {Rel : List D → List (Str × D) → Prop} (G : PromC P w K mg base T k C x ps Rel) (hr : Room (k + 1) X.A) (hg : Gl X x) (ha : PA X (e :: es) t)
    (e1 : X.prog = P := by rfl) (e2 : X.w = w := by rfl) (e3 : X.K = K := by rfl) (e4 : X.mg = mg := by rfl) (e5 : X.base = base := by rfl)
    (hdb : (x == ("__debug__" : Str)) = false := by decide) (he : starEach (e :: es) X.env = (false, eval e X.env) :: starEach es X.env := by rfl) (hpl : (backTo pos (starEach es X.env)).any (·.1) = false := by rfl) :
    PE X (.Call (.Name x p) (e :: es) [] pos) (tMake C (spNew K T C Rel) [] E0 t) := by
  subst e1 e2 e3 e4 e5
  exact pe_promC G hr hg ha hdb he hpl
theorem k_promM {P : Program} {w : World} {mg : Str → Option Value} {base : Heap} {k : Nat} {m : Str} {C : Addr} {ps : List Str} {Rel : List D → Slot → Prop} {pl : Sem Bool} (G : PromM P w K mg base T k C m ps Rel) (hr : Room k X.A) (c : Cls K C) (he : PE X o ta) (ha : PA X (e :: es) t)
    (e1 : X.prog = P := by rfl) (e2 : X.w = w := by rfl) (e3 : X.K = K := by rfl) (e4 : X.mg = mg := by rfl) (e5 : X.base = base := by rfl)
    (hst : starEach (e :: es) X.env = (false, eval e X.env) :: starEach es X.env := by rfl) (hpl : (backTo pos (starEach es X.env)).any (·.1) = false := by rfl)
    (ht : eval (.Call (.Attribute o m apos) (e :: es) [] pos) X.env = (do
      let ov ← eval o X.env
      standAt apos.atName
      let (f, first) ← holding [ov] (getMethod ov m pl)
      callWith pos f first (backTo pos (starEach (e :: es) X.env)) (backToKw pos (keywordEach [] X.env))) := by rfl) :
    PE X (.Call (.Attribute o m apos) (e :: es) [] pos) (tMeth C m (spR K T Rel) [] E0 ta t) := by
  subst e1 e2 e3 e4 e5
  exact pe_promM G hr c he ha hst hpl ht
end
theorem cmul {i j : Int} (hi : -(2 ^ 400) < i ∧ i < 2 ^ 400) (hj : -(2 ^ 400) < j ∧ j < 2 ^ 400) : CMulW i j := wide_mul (a := 400) (b := 400) (by omega) (by omega) (by decide) (by decide) (by decide)
theorem cdiv {i j : Int} (h : 0 < j) (hj : j < 2 ^ 400) : CDivW i j := wide_div (b := 400) h (by omega) (by decide) (by decide)
end Fx

/-! Fx L: closures handed to a def, called there. -/
namespace Fx
open PySem L2 NdefX LamX
/-! ### promises of a def that takes a closure -/
/-- the promise of the def at g, with the closure F at f among what stands -/
structure FnOkF (P : Program) (w : World) (K : PySem.W.Frag) (mg : Str → Option Value) (base : Heap) (k : Nat) (g : Addr) (fd : FuncData) (ps : List Str) (f : Addr) (F : NF) (fr : List Str) (ws : List (Option V)) (sp : Sp) : Prop where
  len : ∀ vs H Q E, sp vs H Q E → vs.length = ps.length
  run : ∀ (A : Around) (outer : List Env) (s : Shared) (H : Hp) (args : Args) (us : List Value) (vs : List V) (Q : VK) (E : XK), Room k A → Env0 P w K mg base A outer s H → H f = some (FnO f F) → H F.c = some (CodeO F.c F.qual) → CellsAt F.cl fr ws s.heap H →
    (∀ y c, F.cl.lookup y = some c → c ∉ frs outer) → BindsTo s fd args (ps.zip us) → Vals vs us → sp vs H Q E → codeAny (model P w) A (.call (.ref g) args) (CR CX0 outer P w H s Q E) s
/-- a closure's promise: while its captured names hold ws -/
def spN (K : PySem.W.Frag) (T : List NTab) (ws : List (Option V)) (R : List D → Slot → Prop) : List (Option V) → Sp := fun ws' vs H Q E => ws' = ws ∧ spR K T R vs H Q E
section
variable (P : Program) (w : World) (K : PySem.W.Frag) (mg : Str → Option Value) (base : Heap) (T : List NTab)
structure PromF {α : Type} (j k : Nat) (x : Str) (ps psn : List Str) (Ron : α → List D → Slot → Prop) (Rel : Addr → α → List D → Slot → Prop) : Prop where
  ex : ∃ a fd, mg x = some (.ref a) ∧ PySem.W.keepIn K (.ref a) = true ∧ Binds K fd ps [] ∧ ∀ (f : Addr) (F : NF) (fr : List Str) (ws : List (Option V)) (o : α), NOk P w K mg base CX0 j f F psn fr (spN K T ws (Ron o)) →
    FnOkF P w K mg base k a fd ps f F fr ws (spR K T (Rel f o))
end
section
variable {X : Cx} {pins : List (Addr × Obj)} {σ : L2.St} {H : Hp} {s : Shared} {cl : List (Str × Addr)} {fr : List Str} {js : List Nat}
/-- the maker's cells are no frame -/
theorem caps_nofr (I : Inv X pins σ H s) (c : Caps X cl fr js) (hfn : ∀ x, X.fn x = true) : ∀ y a, cl.lookup y = some a → a ∉ frs X.stack := fun y a e hb => by
  have e' := c.sub y a e
  have h1 : a ∉ X.fs := fun hb => by
    obtain ⟨_, o, ho, _⟩ := I.ok.funs.mem hb
    exact absurd (Nat.lt_of_lt_of_le (Heap.lt_size ho) (I.ok.cab y a (hfn y) e')) (Nat.lt_irrefl _)
  rcases I.ok.stk with z | ⟨z, z2⟩
  · rw [z] at hb
    exact h1 hb
  · rw [z] at hb
    unfold frs at hb
    rw [List.filterMap_cons, z2] at hb
    rcases List.mem_cons.mp hb with q | q
    · exact I.cne y a e' q
    · exact h1 q
end
/-- g(..) with a closure made by mk among the arguments -/
def tCallF {β : Type} (mk : Addr → NF) (js : List Nat) (ws : β → List (Option V)) (sp : Addr → β → Sp) (t : TA) : TE := fun σ H Q => t σ H fun vs H1 => ∃ f c' b, H1 f = some (FnO f (mk c')) ∧ H1 (mk c').c = some (CodeO (mk c').c (mk c').qual) ∧ js.map (slotAt σ) = ws b ∧ sp f b vs H1 Q E0
/-- f(..), f the closure that this def was given -/
def tCallC (f : Addr) (F : NF) (i : Nat) (sp : Sp) (t : TA) : TE := fun σ H Q => σ[i]? = some (some (.ref f)) ∧ H f = some (FnO f F) ∧ t σ H fun vs H1 => H1 f = some (FnO f F) ∧ H1 F.c = some (CodeO F.c F.qual) ∧ sp vs H1 Q E0
section
variable {X : Cx} {T : List NTab} {j k : Nat} {x : Str} {ps psn fr : List Str} {e : Expr} {es : List Expr} {t : TA} {p pos : Pos}
theorem pe_callF {α β : Type} {Ron : α → List D → Slot → Prop} {Rel : Addr → α → List D → Slot → Prop} {mk : Addr → NF} {cl : List (Str × Addr)} {js : List Nat} {ws : β → List (Option V)} {en : β → α} (G : PromF X.prog X.w X.K X.mg X.base T j k x ps psn Ron Rel)
    (No : ∀ f c' b, NOk X.prog X.w X.K X.mg X.base CX0 j f (mk c') psn fr (spN X.K T (ws b) (Ron (en b)))) (hcl : ∀ c', (mk c').cl = cl) (cp : X.Ok → Caps X cl fr js) (hfn : ∀ x, X.fn x = true)
    (hr : Room k X.A) (hg : Gl X x) (ha : PA X (e :: es) t) (hdb : (x == ("__debug__" : Str)) = false := by decide) (he : starEach (e :: es) X.env = (false, eval e X.env) :: starEach es X.env := by rfl) (hpl : (backTo pos (starEach es X.env)).any (·.1) = false := by rfl) :
    PE X (.Call (.Name x p) (e :: es) [] pos) (tCallF mk js ws (fun f b => spR X.K T (Rel f (en b))) t) := by
  obtain ⟨a, fd, h1, h2, h3, h4⟩ := G
  refine ⟨fun pins s σ H Q I h => ?_⟩
  refine wpAny_Call_Name_kw (ld_glob I hg h1 ?_ hdb)
  refine PySem.W.callWith_K (h₀ := X.base) I.ok.mod.kin h2 (thn (ha.run pos pins s σ H _ I h) fun us s1 ⟨vs, H1, I1, r, q⟩ => ⟨I1.kIn, ?_⟩) he hpl
  obtain ⟨f, c', b, q1, q2, q3, q4⟩ := q
  have F := h4 f (mk c') fr (ws b) (en b) (No f c' b)
  have hl : us.length = ps.length := by rw [← r.length]; exact F.len _ _ _ _ q4
  have hb := h3 s1 us I1.kIn (by rw [List.append_nil]; exact hl)
  rw [List.append_nil] at hb
  have C : CellsAt (mk c').cl fr (ws b) s1.heap H1 := by
    rw [hcl c', ← q3]
    exact cells_of I1 (cp I1.ok)
  have nf : ∀ y c, (mk c').cl.lookup y = some c → c ∉ frs X.stack := by
    rw [hcl c']
    exact caps_nofr I1 (cp I1.ok) hfn
  refine wpAny_call (codeAny_mono (F.run X.A X.stack s1 H1 ⟨us, []⟩ us vs Q E0 hr I1.env0 q1 q2 C nf hb r q4) fun r s' hq => ?_)
  cases r with
  | error e => exact hq.elim
  | ok fl =>
    cases fl with
    | ret u => exact I1.after hq
    | next => exact False.elim hq
    | brk => exact False.elim hq
    | cont => exact False.elim hq
theorem pe_callC {f : Addr} {F : NF} {ws : List (Option V)} {R : List D → Slot → Prop} {i : Nat} (No : NOk X.prog X.w X.K X.mg X.base CX0 k f F psn fr (spN X.K T ws R)) (C : CellsAt F.cl fr ws X.s_0.heap X.H_0) (nf : ∀ y c, F.cl.lookup y = some c → c ∉ X.fs) (hex : X.ex = [])
    (hr : Room k X.A) (hN : X.N[i]? = some x) (hv : Vis X.env.scope x) (ha : PA X (e :: es) t)
    (hd : (x == ("__debug__" : Str)) = false := by decide) (hcd : (x == ("__classdict__" : Str)) = false := by decide)
    (he : starEach (e :: es) X.env = (false, eval e X.env) :: starEach es X.env := by rfl) (hpl : (backTo pos (starEach es X.env)).any (·.1) = false := by rfl) :
    PE X (.Call (.Name x p) (e :: es) [] pos) (tCallC f F i (spR X.K T R) t) := by
  refine ⟨fun pins s σ H Q I h => ?_⟩
  obtain ⟨hs, hf, ht⟩ := h
  refine wpAny_Call_Name_kw (thn ((pe_var (pos := p) hN hv hd hcd).run pins s σ H (fun v H1 => v = .ref f ∧ H1 = H) I ⟨.ref f, hs, rfl, rfl⟩) fun u s1 ⟨v, H1, I1, r1, q1⟩ => ?_)
  obtain ⟨ev, eH⟩ := q1
  subst ev
  rw [eH] at I1
  obtain rfl : u = Value.ref f := r1
  refine PySem.W.callWith_F (first := []) (fnAt_of I1 hf) (thn (ha.run pos pins s1 σ H _ I1 ht) fun us s2 ⟨vs, H2, I2, r, h1, h2, q⟩ => ⟨fnAt_of I2 h1, ?_⟩) he hpl
  have C2 := C.later nf (fun y c _ hc => by rw [hex] at hc; cases hc) I2
  refine wpAny_call (codeAny_mono (No.run X.A X.stack s2 H2 us vs ws Q E0 hr I2.env0 h1 h2 C2 r ⟨rfl, q⟩) fun r s' hq => ?_)
  cases r with
  | error e => exact hq.elim
  | ok fl =>
    cases fl with
    | ret u => exact I2.after hq
    | next => exact False.elim hq
    | brk => exact False.elim hq
    | cont => exact False.elim hq
end
/-! ### readings -/
section
variable {K : PySem.W.Frag} {T : Amb} {Γ Γ' : List Slot} {s : Slot} {R R' : Outc → Prop}
/-- the closure among what stood at the entry -/
def factF (f : Addr) (F : NF) : Hp → Hp → Prop := fun _ H0 => H0 f = some (FnO f F) ∧ H0 F.c = some (CodeO F.c F.qual)
theorem factF.at {f : Addr} {F : NF} {B0 H0 H : Hp} {cs : List Cell} (hT : ∀ B0 H0, T.fact B0 H0 → factF f F B0 H0) (st : St K T B0 H0 cs H) : H f = some (FnO f F) ∧ H F.c = some (CodeO F.c F.qual) := by
  obtain ⟨B, e1, e2, e3, nt, tb, e4, e5, e6, e7⟩ := st
  obtain ⟨h1, h2⟩ := hT _ _ tb.2
  exact ⟨e2.1 f _ h1 (fun ps => fnO_ne ps), e2.1 _ _ h2 codeO_ne⟩
theorem ev_callC {f : Addr} {F : NF} {i : Nat} {Rel : List D → Slot → Prop} {ds : List D} {t : TA} (hT : ∀ B0 H0, T.fact B0 H0 → factF f F B0 H0) (hi : Γ[i]? = some (.sh (.adr f))) (h : EvD K T t Γ Γ' ds) (hr : Rel ds s) : EvS K T (tCallC f F i (spR K T.tabs Rel) t) Γ Γ' s := by
  refine ⟨h.1, fun B0 H0 σ Z H Q hl st k => ?_⟩
  have hs : σ[i]? = some (some (.ref f)) := by
    obtain ⟨o, h1, h2⟩ := zip_get hl hi
    have st2 := st.sub (cs' := [(.sh (.adr f), o)]) (.of_sublist ((List.singleton_sublist.mpr h2).trans (List.sublist_append_right _ _)))
    obtain ⟨B', _, _, _, _, _, _, e5, _⟩ := st2
    obtain ⟨v, e, hv⟩ := e5 _ List.mem_cons_self
    rw [h1, show o = some v from e, show v = .ref f from hv]
  refine ⟨hs, (factF.at hT st).1, h.2 B0 H0 σ Z H _ hl st fun vs H1 e q1 => ?_⟩
  obtain ⟨f1, f2⟩ := factF.at hT q1
  exact ⟨f1, f2, q1.callee (by rw [e, List.length_map]) hr k⟩
/-- a nested def; behind it only a return -/
theorem does_ndef {i : Nat} {mk : Addr → NF} {u : TS} (hΓ : (Γ.all fun s => match s with | .sh _ => true | .any => true | _ => false) = true)
    (h : ∀ f c', DoesS K ⟨T.tabs, factF f (mk c')⟩ u (Γ.set i (.sh (.adr f))) fun o => ∃ s, o = .rt s ∧ R (.rt s)) (hc : ∀ c', (mk c').c = c') : DoesS K T (tSeq (tNdefM T.tabs i mk) u) Γ R := fun B0 H0 σ Z H D nr hl st e => by
  obtain ⟨B, e1, e2, e3, nt, tb, e4, e5, e6, e7⟩ := st
  refine ⟨tb.1, fun f c' H1 eN nn T1 f0 f1 c1 => ?_⟩
  have eN' : ExN H H1 := ⟨eN, nn⟩
  have eB : Ex B H1 := fun b o hb => eN b o (e3 b o hb) fun ps z => nt b ps (by rw [hb, z])
  have st1 : St K ⟨T.tabs, factF f (mk c')⟩ B H1 ([] ++ (Γ.set i (.sh (.adr f))).zip (σ.set i (some (.ref f)))) H1 := by
    have own : ((Γ.set i (.sh (.adr f))).zip (σ.set i (some (.ref f)))).filterMap owned = [] := by
      refine List.filterMap_eq_nil_iff.mpr fun c hc => ?_
      have hm := (List.of_mem_zip (a := c.1) (b := c.2) hc).1
      rcases List.mem_or_eq_of_mem_set hm with z | z
      · have := List.all_eq_true.mp hΓ _ z
        obtain ⟨s, o⟩ := c
        cases s <;> first | rfl | (simp at this)
      · obtain ⟨s, o⟩ := c
        cases (show s = _ from z)
        rfl
    refine ⟨B, Evl.Ex.refl B, ExN.refl H1, eB, nt, ⟨T1, f1, by rw [hc]; exact c1⟩, fun q o h => .inl h, fun c hc => ?_, ?_, fun p hp => ?_⟩
    · rw [List.nil_append, zip_set2] at hc
      rcases List.mem_or_eq_of_mem_set hc with z | z
      · exact (e5 c (List.mem_append_right _ z)).mono (Evl.Ex.refl B) eN
      · rw [z]
        exact ⟨.ref f, rfl, rfl⟩
    · rw [List.nil_append, own]
      exact List.nodup_nil
    · rw [List.nil_append, own] at hp
      cases hp
  refine h f c' B H1 _ [] H1 _ (fun c hc => absurd hc (by simp)) (by rw [List.length_set, List.length_set]; exact hl) st1 ⟨fun _ _ _ r => ?_, fun s v H' r st' => ?_, fun _ _ _ r => ?_, fun _ _ _ r => ?_⟩
  · obtain ⟨_, z, _⟩ := r; cases z
  · obtain ⟨s', z, hR⟩ := r
    cases z
    have sl : Z.Sublist (Z ++ Γ.zip σ) := List.sublist_append_left _ _
    exact e.rt s v H' hR (St.merge (T := T) (T' := ⟨T.tabs, factF f (mk c')⟩) (B1 := B) rfl tb.2 e1 (e2.trans eN') e4 (fun c hc => (e5 c (sl.subset hc)).mono (Evl.Ex.refl B) eN) (e6.sublist (sl.filterMap owned)) (fun p hp => e7 p ((sl.filterMap owned).subset hp)) st')
  · obtain ⟨_, z, _⟩ := r; cases z
  · obtain ⟨_, z, _⟩ := r; cases z
/-- the call that takes the closure -/
theorem ev_callF {β : Type} {f : Addr} {c' : Addr} {mk : Addr → NF} {js : List Nat} {ws : β → List (Option V)} {Rel : Addr → β → List D → Slot → Prop} {ds : List D} {t : TA} (b : β) (hT : ∀ B0 H0, T.fact B0 H0 → factF f (mk c') B0 H0) (h : EvD K T t Γ Γ' ds)
    (hw : ∀ σ : L2.St, σ.length = Γ.length → (∀ (i : Nat) (n : Int), Γ[i]? = some (.sh (.int n)) → slotAt σ i = some (.int n)) → js.map (slotAt σ) = ws b) (hr : Rel f b ds s) :
    EvS K T (tCallF mk js ws (fun f b => spR K T.tabs (Rel f b)) t) Γ Γ' s := by
  refine ⟨h.1, fun B0 H0 σ Z H Q hl st k => ?_⟩
  have hs : ∀ (i : Nat) (n : Int), Γ[i]? = some (.sh (.int n)) → slotAt σ i = some (.int n) := fun i n hi => by
    obtain ⟨o, h1, h2⟩ := zip_get hl hi
    have st2 := st.sub (cs' := [(.sh (.int n), o)]) (.of_sublist ((List.singleton_sublist.mpr h2).trans (List.sublist_append_right _ _)))
    obtain ⟨B', _, _, _, _, _, _, e5, _⟩ := st2
    obtain ⟨v, e, hv⟩ := e5 _ List.mem_cons_self
    refine slotAt_of ?_
    rw [h1, show o = some v from e, show v = .int n from hv]
  refine h.2 B0 H0 σ Z H _ hl st fun vs H1 e q1 => ?_
  obtain ⟨f1, f2⟩ := factF.at hT q1
  exact ⟨f, c', b, f1, f2, hw σ hl hs, q1.callee (by rw [e, List.length_map]) hr k⟩
end
/-! ### by the body -/
section
variable {P : Program} {w : World} {K : PySem.W.Frag} {mg : Str → Option Value} {base : Heap} {T : List NTab} {j k : Nat} {x qual : Str} {ps psn : List Str} {st : Stmt} {N : List Str}
open PyProof.Rows in
theorem fnf_of {g : Addr} {fd : FuncData} {f : Addr} {F : NF} {fr : List Str} {ws : List (Option V)} {Rel : List D → Slot → Prop} (Fu : Fun K x qual st g fd) (S : FnScope N ps (defScope st)) (len : ∀ ds s, Rel ds s → ds.length = ps.length) (hN : ps.length ≤ N.length)
    (hbody : ∀ (cdv : Value) (A : Around) (outer : List Env) (s : Shared) (H : Hp) (E : XK), Room k (A.deeper (envOfC qual (defScope st) s.heap.objs.size g cdv)) → CellsAt F.cl fr ws s.heap H → (∀ y c, F.cl.lookup y = some c → c ∉ frs outer) →
      ∃ t, PSs (cxOf CX0 P w K mg base N qual (defScope st) g cdv A outer s H E).nox (defBody st) t ∧ ∀ ds s, Rel ds s → DoesS K ⟨T, factF f F⟩ t (entry N.length ds) (retR s)) : FnOkF P w K mg base (k + 1) g fd ps f F fr ws (spR K T Rel) := by
  have lenS : ∀ vs H Q E, spR K T Rel vs H Q E → vs.length = ps.length := fun vs H Q E h => by
    obtain ⟨ds, s, B, hr, _, _, _, rl, _⟩ := h
    rw [← rl.length]
    exact len ds s hr
  obtain ⟨oc, od, kV, doc, pm, an, cdv, ct, osl, rfl, lk, hcd⟩ := Fu.ex
  refine ⟨lenS, fun A outer s H args us vs Q E hr e0 hf hc C nf hb r hsp => ?_⟩
  have hl := lenS _ _ _ _ hsp
  have KX : K.In s.heap := e0.mod.kin.keeps fun b o e => (e0.bs b o e).1
  have lim : s.heap.NoLimit := e0.mod.nolimit.keeps fun b o e => (e0.bs b o e).1
  have hkind : ∀ y ∈ ps.zip us, (defScope st).names.lookup y.1 = some .local ∨ ((defScope st).names.lookup y.1 = some .cell ∧ ((cellsFrom (s.heap.objs.size + 1) (defScope st).names []).lookup y.1).isSome = true) := fun ⟨n, v⟩ hy => by
    rcases S.par n (List.of_mem_zip hy).1 with q | q
    · exact .inl q
    · exact .inr ⟨q, PySem.W.cellsFrom_some _ _ _ (.inl q)⟩
  refine codeAny_call_function hr.depth (KX _ _ lk) rfl S.co S.gen rfl (PySem.W.codeRec_of KX hcd) (hb _ _ _ _ ?_)
  refine wpAny_newFunctionEnv_cells S.kind hkind fun env he s1 x => ?_
  subst he
  refine ⟨lim.keeps x.toInCall.keep, codeAny_func ?_⟩
  obtain ⟨t, ht0, hd⟩ := hbody cdv A outer s H E (hr.deeper _) C nf
  have ht := ht0.nox
  have hq : t { nx := fun _ H' => Q .non H', rt := Q } (L2.start N vs) H := by
    obtain ⟨ds, sl, B, hrel, hB, nt, tb, rl, k⟩ := hsp
    have hl : ds.length ≤ N.length := by rw [len ds sl hrel]; exact hN
    refine hd ds sl hrel B H _ [] H _ (fun c hc => absurd hc (by simp)) ?_ (st_entry (T := ⟨T, factF f F⟩) hB nt tb ⟨hf, hc⟩ rl hl) ⟨fun Γ' σ' H' r g1 g2 st' => ?_, fun s' v H' r st' => ?_, fun _ _ _ r => r.elim, fun _ _ _ r => r.elim⟩
    · rw [entry_length hl, start_length (by rw [← rl.length]; exact hl)]
    · cases (show sl = .sh .non from r)
      have q := (st'.push Sc.non).sub (cs' := [(.sh .non, some .non)]) (.of_sublist (List.Sublist.cons_cons _ (List.nil_sublist _)))
      obtain ⟨B', a1, a2, a3, a4, a5, a6⟩ := q
      exact k _ H' ⟨B', a1, a2, a3, a4, ⟨a5.1, True.intro⟩, a6⟩
    · cases (show s' = sl from r)
      obtain ⟨B', a1, a2, a3, a4, a5, a6⟩ := st'
      exact k v H' ⟨B', a1, a2, a3, a4, ⟨a5.1, True.intro⟩, a6⟩
  have I : Inv (cxOf CX0 P w K mg base N qual (defScope st) g cdv A outer s H E) [] (L2.start N vs) H s1 := inv_start S hr.hd e0 hl r x
  refine wpAny_mono (ht.run [] s1 (L2.start N vs) H _ I hq) (fun fl s' hs => ?_) fun e s' hs => hs
  have fin : ∀ {σ' : L2.St} {H' : Hp} {v : V} {u : Value}, Inv (cxOf CX0 P w K mg base N qual (defScope st) g cdv A outer s H E) [] σ' H' s' → RelV v u → Q v H' → CE outer P w H s Q u s' :=
    fun {σ' H' v u} J rv q => ⟨v, H', J.os, J.bare, J.base, J.hok, rv, q⟩
  cases fl with
  | ret u =>
    obtain ⟨v, σ', H', J, rv, q⟩ := hs
    exact fin J rv q
  | next =>
    obtain ⟨σ', H', J, q⟩ := hs
    exact fin (v := V.non) (u := Value.none) J rfl q
  | brk =>
    obtain ⟨_, _, _, q⟩ := hs
    exact False.elim q
  | cont =>
    obtain ⟨_, _, _, q⟩ := hs
    exact False.elim q
theorem promF_of {α : Type} {Ron : α → List D → Slot → Prop} {Rel : Addr → α → List D → Slot → Prop} (h : Here K mg x st ps) (S : FnScope N ps (defScope st)) (len : ∀ f o ds s, Rel f o ds s → ds.length = ps.length) (hN : ps.length ≤ N.length)
    (hbody : ∀ (fc : Addr) (F : NF) (fr : List Str) (ws : List (Option V)) (o : α), NOk P w K mg base CX0 j fc F psn fr (spN K T ws (Ron o)) → ∀ (f : Addr) (cdv : Value) (A : Around) (outer : List Env) (s : Shared) (H : Hp) (E : XK), Room k (bodyX P w K mg base N x st f cdv A outer s H E).A →
      CellsAt F.cl fr ws s.heap H → (∀ y c, F.cl.lookup y = some c → c ∉ frs outer) →
      ∃ t, PSs (bodyX P w K mg base N x st f cdv A outer s H E) (defBody st) t ∧ ∀ ds s, Rel fc o ds s → DoesS K ⟨T, factF fc F⟩ t (entry N.length ds) (retR s)) : PromF P w K mg base T j (k + 1) x ps psn Ron Rel := by
  obtain ⟨a, fd, h1, Fu, h3⟩ := h
  exact ⟨a, fd, h1, Fu.kp, h3, fun f F fr ws o No => fnf_of Fu S (len f o) hN fun cdv A outer s H E hr C nf => hbody f F fr ws o No a cdv A outer s H E hr C nf⟩
/-- the entry of a closure that captures whole numbers -/
def entryF (n : Nat) (ds : List D) (cs : List Int) : List Slot := ds.map .sh ++ (cs.map fun c => .sh (.int c)) ++ List.replicate (n - ds.length - cs.length) .any
/-- a closure by its body -/
theorem nok_of' {f : Addr} {F : NF} {fr : List Str} {cs : List Int} {R : List D → Slot → Prop} (S : NScope N ps fr F.scope) (hb : ∀ (doc pm ctv : Value) (us : List Value), us.length = ps.length → bindArgs (F.fd doc pm ctv) ⟨us, []⟩ = pure (ps.zip us)) (len : ∀ ds s, R ds s → ds.length = ps.length)
    (hcs : cs.length = fr.length) (hN : ps.length + fr.length ≤ N.length)
    (hbody : ∀ (A : Around) (outer : List Env) (s : Shared) (H : Hp) (E : XK), Room k (A.deeper (envF F f s.heap.objs.size)) → ∃ t, PSs (ncx CX0 P w K mg base N F f A outer s H E) F.body t ∧ ∀ ds s, R ds s → DoesS K (plainA T) t (entryF N.length ds cs) (retR s)) :
    NOk P w K mg base CX0 (k + 1) f F ps fr (spN K T (cs.map fun c => some (.int c)) R) := by
  have lenS : ∀ ws vs H Q E, spN K T (cs.map fun c => some (.int c)) R ws vs H Q E → vs.length = ps.length := fun ws vs H Q E h => by
    obtain ⟨_, ds, s, B, hr, _, _, _, rl, _⟩ := h
    rw [← rl.length]
    exact len ds s hr
  refine nok_of S hb lenS fun A outer s H vs ws Q E hr hf hc hwl hsp => ?_
  obtain ⟨t, ht, hd⟩ := hbody A outer s H E hr
  obtain ⟨rfl, ds, sl, B, hrel, hB, nt, tb, rl, k⟩ := hsp
  have hl : ds.length = ps.length := len ds sl hrel
  have hv : vs.length = ds.length := rl.length.symm
  have e : (entryF N.length ds cs).zip (startF N vs (cs.map fun c => some (.int c))) = (ds.map Slot.sh).zip (vs.map some) ++ ((cs.map fun c => Slot.sh (.int c)).zip (cs.map fun c => some (V.int c)) ++ (List.replicate (N.length - ds.length - cs.length) Slot.any).zip (List.replicate (N.length - vs.length - (cs.map fun c => some (V.int c)).length) none)) := by
    unfold entryF startF
    rw [List.append_assoc, List.zip_append (by rw [List.length_map, List.length_map, hv]), List.zip_append (by rw [List.length_map, List.length_map])]
  refine ⟨t, ht, hd ds sl hrel B H _ [] H _ (fun c hc => absurd hc (by simp)) ?_ ?_ ⟨fun Γ' σ' H' r g1 g2 st' => ?_, fun s' v H' r st' => ?_, fun _ _ _ r => r.elim, fun _ _ _ r => r.elim⟩⟩
  · unfold entryF startF
    simp
    omega
  · rw [List.nil_append, e]
    have hcz : ∀ c ∈ (cs.map fun c => Slot.sh (.int c)).zip (cs.map fun c => some (V.int c)), ∃ n : Int, c = (Slot.sh (.int n), some (V.int n)) := fun c hc => by
      rw [List.zip_map', List.mem_map] at hc
      obtain ⟨n, _, rfl⟩ := hc
      exact ⟨n, rfl⟩
    have own : ((ds.map Slot.sh).zip (vs.map some) ++ ((cs.map fun c => Slot.sh (.int c)).zip (cs.map fun c => some (V.int c)) ++ (List.replicate (N.length - ds.length - cs.length) Slot.any).zip (List.replicate (N.length - vs.length - (cs.map fun c => some (V.int c)).length) none))).filterMap owned = [] := by
      rw [List.filterMap_append, List.filterMap_append, owned_sh, owned_any cells_any, List.filterMap_eq_nil_iff.mpr fun c hc => by obtain ⟨n, rfl⟩ := hcz c hc; rfl]
      rfl
    refine ⟨B, Evl.Ex.refl B, ExN.refl H, hB, nt, ⟨tb, True.intro⟩, fun q o h => .inl h, fun c hc => ?_, by rw [own]; exact List.nodup_nil, fun p hp => by rw [own] at hp; cases hp⟩
    rcases List.mem_append.mp hc with z | z
    · exact repL_cells rl c z
    · rcases List.mem_append.mp z with z | z
      · obtain ⟨n, rfl⟩ := hcz c z
        exact ⟨.int n, rfl, rfl⟩
      · obtain ⟨s, o⟩ := c
        cases (show s = .any from cells_any _ z)
        trivial
  · cases (show sl = .sh .non from r)
    exact k _ H' ((st'.push Sc.non).sub (.of_sublist (List.Sublist.cons_cons _ (List.nil_sublist _))))
  · cases (show s' = sl from r)
    exact k v H' st'
end
end Fx

/-! Fx M: defs that make closures. -/
namespace Fx
open PySem L2 NdefX LamX
/-- a def of the text whose code object stands at c -/
structure HereT (K : PySem.W.Frag) (mg : Str → Option Value) (x : Str) (st : Stmt) (ps : List Str) (c : Addr) : Prop where
  ex : ∃ (a : Addr) (oc : Value) (od : Option Addr) (kV doc pm : Value) (an : Option Addr) (ct : Value) (osl : Array (Option Value)), mg x = some (.ref a) ∧ PySem.W.keepIn K (.ref a) = true ∧
    K.lookup a = some ⟨oc, od, .func (PySem.W.fnOf x x (defArgs st) (defBody st) (defScope st) .none kV doc pm an (.ref c) ct), osl⟩ ∧ PySem.W.codeIn K (.ref c) x = true ∧
    ∀ us : List Value, us.length = ps.length → bindArgs (PySem.W.fnOf x x (defArgs st) (defBody st) (defScope st) .none kV doc pm an (.ref c) ct) ⟨us, []⟩ = pure (ps.zip us)
section
variable {P : Program} {w : World} {K : PySem.W.Frag} {mg : Str → Option Value} {base : Heap} {T : List NTab} {k : Nat} {x : Str} {ps : List Str} {Rel : List D → Slot → Prop} {st : Stmt} {N : List Str} {c : Addr}
theorem promT_of (h : HereT K mg x st ps c) (S : FnScope N ps (defScope st)) (len : ∀ ds s, Rel ds s → ds.length = ps.length) (hN : ps.length ≤ N.length)
    (hbody : ∀ (f : Addr) (A : Around) (outer : List Env) (s : Shared) (H : Hp) (E : XK), Room k (bodyX P w K mg base N x st f (.ref c) A outer s H E).A →
      ∃ t, PSs (bodyX P w K mg base N x st f (.ref c) A outer s H E) (defBody st) t ∧ ∀ ds s, Rel ds s → DoesS K (plainA T) t (entry N.length ds) (retR s)) : Prom P w K mg base T (k + 1) x ps Rel := by
  obtain ⟨a, oc, od, kV, doc, pm, an, ct, osl, h1, kp, lk, hcd, hb⟩ := h
  refine ⟨a, _, h1, kp, .all hb, ?_⟩
  refine fn_of lk hcd S (fun vs H Q E h => ?_) (fun A outer s H vs Q E hr h => ?_)
  · obtain ⟨ds, s, B, hr, _, _, _, rl, _⟩ := h
    rw [← rl.length]
    exact len ds s hr
  · obtain ⟨ds, sl, B, hrel, hB, nt, tb, rl, k⟩ := h
    obtain ⟨t, ht, hd⟩ := hbody a A outer s H E hr
    have hl : ds.length ≤ N.length := by rw [len ds sl hrel]; exact hN
    refine ⟨t, ht.nox, hd ds sl hrel B H _ [] H _ (fun c hc => absurd hc (by simp)) ?_ (st_entry (T := plainA T) hB nt tb True.intro rl hl) ⟨fun Γ' σ' H' r g1 g2 st' => ?_, fun s' v H' r st' => ?_, fun _ _ _ r => r.elim, fun _ _ _ r => r.elim⟩⟩
    · rw [entry_length hl, start_length (by rw [← rl.length]; exact hl)]
    · cases (show sl = .sh .non from r)
      exact k _ H' ((st'.push Sc.non).sub (.of_sublist (List.Sublist.cons_cons _ (List.nil_sublist _))))
    · cases (show s' = sl from r)
      exact k v H' st'
end
end Fx

/-! Fx N: == of data. -/
namespace Fx
open PySem L2 NdefX
mutual
def deepB : Nat → D → Bool
  | _, .non => true
  | _, .bl _ => true
  | _, .int _ => true
  | n, .tup ds => (match n with
    | 0 => false
    | n + 1 => deepBs n ds)
  | n, .lst ds => (match n with
    | 0 => false
    | n + 1 => deepBs n ds)
  | _, _ => false
def deepBs : Nat → List D → Bool
  | _, [] => true
  | n, d :: ds => deepB n d && deepBs n ds
end
mutual
theorem deep_ok : ∀ (n : Nat) (d : D), deepB n d = true → plainD d = true ∧ (toPy d).canLay0 = true ∧ (toPy d).depth ≤ n + 1
  | n, .non, _ => by simp [plainD, toPy, PyData.canLay0, PyData.depth]
  | n, .bl _, _ => by simp [plainD, toPy, PyData.canLay0, PyData.depth]
  | n, .int _, _ => by simp [plainD, toPy, PyData.canLay0, PyData.depth]
  | 0, .tup ds, h => by simp [deepB] at h
  | 0, .lst ds, h => by simp [deepB] at h
  | n + 1, .tup ds, h => by
    obtain ⟨h1, h2, h3⟩ := deeps_ok n ds (by simpa [deepB] using h)
    refine ⟨by simpa [plainD] using h1, by simpa [toPy, PyData.canLay0] using h2, ?_⟩
    simp only [toPy, PyData.depth]
    omega
  | n + 1, .lst ds, h => by
    obtain ⟨h1, h2, h3⟩ := deeps_ok n ds (by simpa [deepB] using h)
    refine ⟨by simpa [plainD] using h1, by simpa [toPy, PyData.canLay0] using h2, ?_⟩
    simp only [toPy, PyData.depth]
    omega
  | _, .str _, h => by simp [deepB] at h
  | _, .adr _, h => by simp [deepB] at h
  | _, .dic _, h => by simp [deepB] at h
  | _, .obj _ _, h => by simp [deepB] at h
  | _, .scr _, h => by simp [deepB] at h
theorem deeps_ok : ∀ (n : Nat) (ds : List D), deepBs n ds = true → plainDs ds = true ∧ PyData.canLayAll0 (toPyL ds) = true ∧ PyData.depthAll (toPyL ds) ≤ n + 1
  | n, [], _ => by simp [plainDs, toPyL, PyData.canLayAll0, PyData.depthAll]
  | n, d :: ds, h => by
    have h : deepB n d = true ∧ deepBs n ds = true := by simpa [deepBs] using h
    obtain ⟨a1, a2, a3⟩ := deep_ok n d h.1
    obtain ⟨b1, b2, b3⟩ := deeps_ok n ds h.2
    refine ⟨by simp [plainDs, a1, b1], by simp [toPyL, PyData.canLayAll0, a2, b2], ?_⟩
    simp only [toPyL, PyData.depthAll]
    omega
end
theorem deepBs_ints (n : Nat) : ∀ ns : List Int, deepBs n (ns.map .int) = true
  | [] => rfl
  | _ :: r => by rw [List.map_cons, deepBs, deepBs_ints n r]; rfl
theorem deepBs_of {n : Nat} {α : Type} {f : α → D} (h : ∀ a, deepB n (f a) = true) : ∀ xs : List α, deepBs n (xs.map f) = true
  | [] => rfl
  | x :: r => by rw [List.map_cons, deepBs, deepBs_of h r, h x]; rfl
section
variable {K : PySem.W.Frag} {T : Amb} {Γ Γ1 Γ2 : List Slot} {ta tb : TE} {d : D}
theorem shaped_deep (h : deepB 60 d = true) : SeqAt.shaped (toPy d) = true := by
  obtain ⟨h1, h2, h3⟩ := deep_ok 60 d h
  unfold SeqAt.shaped
  rw [h2, Bool.true_and]
  exact decide_eq_true (by omega)
theorem eqv_deep (h : deepB 60 d = true) : PyData.eqv (toPy d) (toPy d) = true := PySem.SeqAt.eqv_refl _ (deep_ok 60 d h).2.1
/-- the same data stand on both sides -/
theorem ev_neSame {e : D} (ha : EvS K T ta Γ Γ1 (.rd d)) (hb : EvS K T tb Γ1 Γ2 (.rd e)) (he : d = e) (h : deepB 60 d = true) : EvS K T (tOp (rNeU K) ta tb) Γ Γ2 (.sh (.bl false)) := by
  subst he
  exact ev_neD ha hb (deep_ok 60 d h).1 (deep_ok 60 d h).1 (shaped_deep h) (shaped_deep h) (by rw [eqv_deep h]; rfl)
theorem ev_eqSame {e : D} (ha : EvS K T ta Γ Γ1 (.rd d)) (hb : EvS K T tb Γ1 Γ2 (.rd e)) (he : d = e) (h : deepB 60 d = true) : EvS K T (tOp (rEqU K) ta tb) Γ Γ2 (.sh (.bl true)) := by
  subst he
  exact ev_eqD ha hb (deep_ok 60 d h).1 (deep_ok 60 d h).1 (shaped_deep h) (shaped_deep h) (eqv_deep h)
end
end Fx

/-! Fx O: the end of a row. -/
namespace Fx
open PySem L2 NdefX LamX
/-- the written part without the tables -/
def drop (K : PySem.W.Frag) (ps : List Addr) : PySem.W.Frag := K.filter fun p => !(ps.contains p.1)
theorem drop_lookup {ps : List Addr} {a : Addr} {o : Obj} : ∀ {K : PySem.W.Frag}, (drop K ps).lookup a = some o → K.lookup a = some o
  | [], h => by cases h
  | (b, x) :: r, h => by
    unfold drop at h
    rw [List.filter_cons] at h
    by_cases hb : ps.contains b = true
    · simp only [hb, Bool.not_true, Bool.false_eq_true, if_false] at h
      have ih := drop_lookup (K := r) h
      rw [List.lookup_cons]
      by_cases e : (a == b) = true
      · exfalso
        have e' : a = b := by simpa using e
        subst e'
        have : ∀ {K : PySem.W.Frag}, (drop K ps).lookup a = some o → False := by
          intro K
          induction K with
          | nil => intro h; cases h
          | cons p r ih =>
            obtain ⟨c, y⟩ := p
            intro h
            unfold drop at h
            rw [List.filter_cons] at h
            by_cases hc : ps.contains c = true
            · simp only [hc, Bool.not_true, Bool.false_eq_true, if_false] at h
              exact ih h
            · have hc' : ps.contains c = false := by simpa using hc
              simp only [hc', Bool.not_false, if_true] at h
              rw [List.lookup_cons] at h
              by_cases e2 : (a == c) = true
              · have e2' : a = c := by simpa using e2
                subst e2'
                rw [hb] at hc'
                cases hc'
              · have e2' : (a == c) = false := by simpa using e2
                rw [e2'] at h
                exact ih h
        exact this h
      · have e' : (a == b) = false := by simpa using e
        rw [e']
        exact ih
    · have hb' : ps.contains b = false := by simpa using hb
      simp only [hb', Bool.not_false, if_true] at h
      rw [List.lookup_cons] at h ⊢
      by_cases e : (a == b) = true
      · rw [e] at h ⊢
        exact h
      · have e' : (a == b) = false := by simpa using e
        rw [e'] at h ⊢
        exact drop_lookup (K := r) h
theorem drop_in {K : PySem.W.Frag} {ps : List Addr} {h : Heap} (X : K.In h) : (drop K ps).In h := fun a o e => X a o (drop_lookup e)
theorem law_end {l : PySem.W.OpenLaw} {w : World} {K : PySem.W.Frag} {mg : Str → Option Value} {fa : Addr} {h : Heap} {k n : Nat} {x : Str} {fd : FuncData} {cs : List (Addr × Addr)} {nm : Nat → Nat → Str} {Rel : List D → Slot → Prop}
    (hT : ∀ p ∈ cs, h.get? p.2 = some { cls := .none, data := .fields #[] }) (nT : ∀ p ∈ cs, K.lookup p.2 = none) (C : ∀ p ∈ cs, PySem.W.CodeHd h p.1 p.2) (hb : ∀ (s : Shared) (u : Value), BindsTo s fd ⟨[u], []⟩ [(x, u)])
    (hrel : ∀ ns : List Int, ns.length ≤ n → Rel [.scr ns] (.sh (.bl true)))
    (hF : ∀ base : Heap, K.In base → base.Ns mainGlobals mg → (∀ p ∈ cs, TabB base mg p.1 p.2) → FnOk l.prog w K mg base CX0 k fa fd [x] (spR K (cs.map fun p => (p.2, nm)) Rel)) : LawAtS l w K CX0 k n x mg fa h := by
  refine ⟨fd, cs, spR K (cs.map fun p => (p.2, nm)) Rel, hT, nT, C, hb, fun H a ns hl _ hH hS => ?_, hF⟩
  refine ⟨[.scr ns], .sh (.bl true), fun b => match H b with | some (.tbl _) => none | o => o, hrel ns hl, fun b o e => ?_, fun b ps e => ?_, fun p hp => ?_, ?_, fun v H' st => st.repS⟩
  · have e : (match H b with | some (.tbl _) => none | o => o) = some o := e
    cases q : H b with
    | none => rw [q] at e; cases e
    | some u =>
      rw [q] at e
      cases u <;> first | exact e | cases e
  · have e : (match H b with | some (.tbl _) => none | o => o) = some (.tbl ps) := e
    cases q : H b with
    | none => rw [q] at e; cases e
    | some u =>
      rw [q] at e
      cases u <;> cases e
  · obtain ⟨q, hq, rfl⟩ := List.mem_map.mp hp
    exact TabN.nil (hH q hq)
  · refine ⟨.ref a, [], rfl, ⟨a, rfl, ?_⟩, rfl⟩
    rcases hS with (z | ⟨o, z⟩) | z
    · exact .inl (.inl (by simp only [z]))
    · exact .inl (.inr ⟨o, by simp only [z]⟩)
    · exact .inr z
section
variable {P : Program} {w : World} {K : PySem.W.Frag} {mg : Str → Option Value} {h : Heap}
theorem here_mk {x : Str} {st : Stmt} {ps : List Str} {f : Addr} {oc : Value} {od an : Option Addr} {osl : Array (Option Value)} {kV doc pm cdv ct : Value} (X : K.In h) (G : h.Ns mainGlobals mg) (a : PySem.W.nsIn K mainGlobals x = some (some (.ref f)))
    (l : K.lookup f = some ⟨oc, od, .func (PySem.W.fnOf x x (defArgs st) (defBody st) (defScope st) .none kV doc pm an cdv ct), osl⟩) (c : PySem.W.codeIn K cdv x = true) (k : PySem.W.keepIn K (.ref f) = true)
    (hb : ∀ (kV doc pm : Value) (an : Option Addr) (cdv ct : Value) (us : List Value), us.length = ps.length → bindArgs (PySem.W.fnOf x x (defArgs st) (defBody st) (defScope st) .none kV doc pm an cdv ct) ⟨us, []⟩ = pure (ps.zip us)) : Here K mg x st ps :=
  ⟨f, _, PySem.W.mg_of X G a, fun_mk l c k, (fun_mk l c k).binds hb⟩
theorem hereT_mk {x : Str} {st : Stmt} {ps : List Str} {f co : Addr} {oc : Value} {od an : Option Addr} {osl : Array (Option Value)} {kV doc pm ct : Value} (X : K.In h) (G : h.Ns mainGlobals mg) (a : PySem.W.nsIn K mainGlobals x = some (some (.ref f)))
    (l : K.lookup f = some ⟨oc, od, .func (PySem.W.fnOf x x (defArgs st) (defBody st) (defScope st) .none kV doc pm an (.ref co) ct), osl⟩) (c : PySem.W.codeIn K (.ref co) x = true) (k : PySem.W.keepIn K (.ref f) = true)
    (hb : ∀ (kV doc pm : Value) (an : Option Addr) (cdv ct : Value) (us : List Value), us.length = ps.length → bindArgs (PySem.W.fnOf x x (defArgs st) (defBody st) (defScope st) .none kV doc pm an cdv ct) ⟨us, []⟩ = pure (ps.zip us)) : HereT K mg x st ps co :=
  ⟨f, oc, od, kV, doc, pm, an, ct, osl, PySem.W.mg_of X G a, k, l, c, fun us hl => hb kV doc pm an (.ref co) ct us hl⟩
theorem hereC_mk {x qual : Str} {st : Stmt} {ps : List Str} {C f : Addr} {oc : Value} {od an : Option Addr} {osl : Array (Option Value)} {kV doc pm cdv ct : Value} (X : K.In h) (G : h.Ns mainGlobals mg) (aC : PySem.W.nsIn K mainGlobals x = some (some (.ref C)))
    (pg : PySem.W.plainGet K C Str.empty = true) (hd : PySem.W.hasDictIn K C = true) (po : PySem.W.plainOver K C = true) (sa : PySem.W.findIn K (.ref C) "__setattr__" = some (some (.builtin "object.__setattr__"))) (mk : PySem.W.makesIn K C = true) (kc : PySem.W.keepIn K (.ref C) = true)
    (a : PySem.W.findIn K (.ref C) "__init__" = some (some (.ref f))) (i : PySem.W.isFn K (.ref f) = true)
    (l : K.lookup f = some ⟨oc, od, .func (PySem.W.fnOf "__init__" qual (defArgs st) (defBody st) (defScope st) .none kV doc pm an cdv ct), osl⟩) (c : PySem.W.codeIn K cdv qual = true) (k : PySem.W.keepIn K (.ref f) = true)
    (hb : ∀ (kV doc pm : Value) (an : Option Addr) (cdv ct : Value) (us : List Value), us.length = ps.length → bindArgs (PySem.W.fnOf "__init__" qual (defArgs st) (defBody st) (defScope st) .none kV doc pm an cdv ct) ⟨us, []⟩ = pure (ps.zip us)) : HereC K mg C x qual st ps :=
  ⟨PySem.W.mg_of X G aC, ⟨pg, hd, po, sa⟩, f, _, ⟨mk, a, i, kc⟩, fun_mk l c k, (fun_mk l c k).binds hb⟩
theorem glob_mk {x : Str} {v : V} {u : Value} (X : K.In h) (G : h.Ns mainGlobals mg) (a : PySem.W.nsIn K mainGlobals x = some (some u)) (r : RelV v u) : ∃ u, mg x = some u ∧ RelV v u := ⟨u, PySem.W.mg_of X G a, r⟩
end
end Fx

namespace Lp
open PySem L2 NdefX Fx
def top (i : Nat) : Stmt := PySem.Challenge.pw_looprank_k84_rooms_of_fractions.main.body.getD i (.Pass ⟨0, 0, 0, 0⟩)
local macro_rules | `(tactic| walk_at "side") => `(tactic| first
  | assumption
  | ((with_reducible show CMulW _ _); exact cmul (by omega) (by omega))
  | ((with_reducible show CDivW _ _); exact cdiv (by omega) (by omega))
  | ((with_reducible show (_ : Int) < _); first | omega | decide)
  | ((with_reducible show (_ : Nat) < _); omega)
  | ((with_reducible show (_ : Nat) ≤ _); omega)
  | rfl)
local macro_rules | `(tactic| walk_at "ev") => `(tactic| first
  | assumption
  | exact ev_int | exact ev_str | exact ev_bl | exact ev_non
  | exact ev_var rfl | exact ev_var_rdL rfl | exact ev_var_rdK rfl | exact ev_rd (ev_var rfl) | exact ev_var_own rfl
  | (apply ev_add <;> walk_at "ev")
  | (apply ev_sub <;> walk_at "ev")
  | (apply ev_mul <;> first | walk_at "ev" | walk_at "side")
  | (apply ev_mod <;> first | walk_at "ev" | walk_at "side")
  | (apply ev_div <;> first | walk_at "ev" | walk_at "side")
  | (apply ev_lt <;> walk_at "ev") | (apply ev_le <;> walk_at "ev") | (apply ev_gt <;> walk_at "ev") | (apply ev_ge <;> walk_at "ev")
  | (apply ev_eqI <;> walk_at "ev") | (apply ev_neI <;> walk_at "ev")
  | (apply ev_inL <;> walk_at "ev") | (apply ev_notInL <;> walk_at "ev")
  | (apply ev_inD <;> walk_at "ev") | (apply ev_notInD <;> walk_at "ev")
  | (apply ev_notV; walk_at "ev")
  | (apply ev_andV; (case h => walk_at "ev"); (case h2 => (intro _; walk_at "ev")))
  | (apply ev_orV; (case h => walk_at "ev"); (case h2 => (intro _; walk_at "ev")))
  | (apply ev_len; walk_at "ev") | (apply ev_lenT; walk_at "ev") | (apply ev_lenR; walk_at "ev") | (apply ev_lenD; walk_at "ev")
  | (apply ev_lenS <;> first | walk_at "ev" | decide | omega)
  | (apply ev_intB; walk_at "ev") | (apply ev_max2 <;> walk_at "ev") | (apply ev_min2 <;> walk_at "ev")
  | (apply ev_chain; (case ha => walk_at "ev"); (case hb => walk_at "ev"); (case h1 => walk_at "rs"); (case hc => walk_at "ev"); (case h2 => walk_at "rs"))
  | (apply ev_listc; walk_at "ev")
  | (apply ev_ixL <;> first | walk_at "ev" | walk_at "side")
  | (apply ev_ixT <;> first | walk_at "ev" | walk_at "side")
  | (apply ev_ixR <;> first | walk_at "ev" | walk_at "side")
  | (apply ev_ixD <;> first | walk_at "ev" | walk_at "side")
  | (apply ev_pow <;> first | walk_at "ev" | (refine ⟨by decide, by decide, by decide⟩))
  | (apply ev_index <;> first | walk_at "ev" | walk_at "side")
  | (apply ev_neg; walk_at "ev")
  | (apply ev_fld <;> first | walk_at "ev" | assumption | rfl)
  | (apply ev_callD; (case h => walk_at "ed"); (case hr => walk_at "rel"))
  | (apply ev_makeD; (case h => walk_at "ed"); (case hr => walk_at "rel"))
  | (apply ev_methD; (case ho => walk_at "ev"); (case h => walk_at "ed"); (case hr => walk_at "rel"); (case hm => rfl))
  | (apply ev_tupD; (case h => walk_at "ed"); (case hz => exact Nat.le_of_ble_eq_true rfl))
  | (apply ev_lstD; (case h => walk_at "ed"); (case hz => exact Nat.le_of_ble_eq_true rfl))
  | ((first | apply ev_isInt | apply ev_isBool | apply ev_isList | apply ev_isStr | apply ev_isTuple) <;> first | walk_at "ev" | rfl | assumption)
  | (apply ev_frz; walk_at "ev") | (apply ev_frzK; walk_at "ev") | (apply ev_rd; walk_at "ev"))
local macro_rules | `(tactic| walk_at "rs") => `(tactic| first
  | exact rs_cmp | exact rs_eqI | exact rs_neI)
local macro_rules | `(tactic| walk_at "ed") => `(tactic| first
  | exact ed_nil
  | (apply ed_cons; (case h => walk_at "ev"); (case t => walk_at "ed")))
local macro_rules | `(tactic| walk_at "ea") => `(tactic| first
  | exact ea_nil
  | (apply ea_cons; (case h => walk_at "ev"); (case t => walk_at "ea")))
-- x = e; ..
local macro_rules | `(tactic| walk_at "set") => `(tactic| first
  | (apply does_seq; apply does_set; (case h => walk_at "ev"))
  | (apply does_set; (case h => walk_at "ev")))
local macro_rules | `(tactic| walk_at "ret") => `(tactic| (apply does_ret; (case h => walk_at "ev")))
local macro_rules | `(tactic| walk_at "tb") => `(tactic| first
  | (apply eb_not; walk_at "tb")
  | (apply eb_or; (case h => walk_at "tb"); (case h2 => (intro _; walk_at "tb")))
  | (apply eb_and; (case h => walk_at "tb"); (case h2 => (intro _; walk_at "tb")))
  | (apply eb_test; walk_at "ev")
  | (apply eb_B; walk_at "ev"))
-- if c: ..
local macro_rules | `(tactic| walk_at "if") => `(tactic| first
  | (apply does_seq; apply does_if; (case h => walk_at "tb"))
  | (apply does_if; (case h => walk_at "tb")))
local macro_rules | `(tactic| walk_at "wk") => `(tactic| repeat (first | exact Wk.nil | apply Wk.same | apply Wk.any))
-- for x in xs: the list is data
local macro_rules | `(tactic| walk_at "il") => `(tactic| first
  | (apply ei_list; walk_at "ev")
  | (apply ei_scr; walk_at "ev")
  | (apply ei_rng1 <;> first | walk_at "ea" | omega))
-- a break, a continue, pass
local macro_rules | `(tactic| walk_at "nx") => `(tactic| first | apply does_next | apply does_break | apply does_cont)
local macro_rules | `(tactic| walk_at "app") => `(tactic| first
  | (apply does_seq; apply does_app; (case he => walk_at "ev"); (case h0 => rfl); (case h => rfl); (case hz => walk_at "side"); (case nr => rfl))
  | (apply does_app; (case he => walk_at "ev"); (case h0 => rfl); (case h => rfl); (case hz => walk_at "side"); (case nr => rfl)))
local macro_rules | `(tactic| walk_at "mv") => `(tactic| (apply does_ret; (case h => exact ev_var_mv rfl (by intro z; cases z))))

structure Bn (mg : Str → Option Value) : Prop where
  len : mg "len" = none
  range : mg "range" = none
  int : mg "int" = none
  bool : mg "bool" = none
  list : mg "list" = none
  isinstance : mg "isinstance" = none
  min : mg "min" = none
  max : mg "max" = none
section
variable {P : Program} {w : World} {K : PySem.W.Frag} {mg : Str → Option Value} {base : Heap} {T : List NTab} {k : Nat}
/-- one // two by Euclid, as the program goes -/
def gcdN : Nat → Int → Int → Int
  | 0, a, _ => a
  | n + 1, a, b => if 0 < b then gcdN n b (a % b) else a
def gcdI (a b : Int) : Int := gcdN (b.toNat + 1) a b
theorem gcdN_le : ∀ (n m : Nat) (a b : Int), b.toNat < n → b.toNat < m → gcdN n a b = gcdN m a b
  | 0, _, _, _, h, _ => absurd h (Nat.not_lt_zero _)
  | _, 0, _, _, _, h => absurd h (Nat.not_lt_zero _)
  | n + 1, m + 1, a, b, h1, h2 => by
    unfold gcdN
    by_cases hb : 0 < b
    · rw [if_pos hb, if_pos hb]
      have := Int.emod_lt_of_pos a hb
      have := Int.emod_nonneg a (show b ≠ 0 by omega)
      exact gcdN_le n m _ _ (by omega) (by omega)
    · rw [if_neg hb, if_neg hb]
theorem gcdI_eq (a b : Int) : gcdI a b = if 0 < b then gcdI b (a % b) else a := by
  by_cases hb : 0 < b
  · rw [if_pos hb]
    have := Int.emod_lt_of_pos a hb
    have := Int.emod_nonneg a (show b ≠ 0 by omega)
    show gcdN (b.toNat + 1) a b = gcdN ((a % b).toNat + 1) b (a % b)
    rw [gcdN, if_pos hb]
    exact gcdN_le _ _ _ _ (by omega) (by omega)
  · rw [if_neg hb]
    show gcdN (b.toNat + 1) a b = a
    rw [gcdN, if_neg hb]
abbrev s_shared : Stmt := (top 17)
theorem sc_shared : FnScope ["one", "other", "rest"] ["one", "other"] (defScope s_shared) := ⟨rfl, rfl, rfl, by decide +kernel, rfl, by decide +kernel, by decide +kernel⟩
def R_shared : List D → Slot → Prop := fun ds s => ∃ a b : Int, ds = [.int a, .int b] ∧ s = .sh (.int (gcdI a b))
theorem ok_shared (h : Here K mg "shared" s_shared ["one", "other"]) : Prom P w K mg base T (k + 1) "shared" ["one", "other"] R_shared := by
  refine prom_of h sc_shared (by rintro ds s ⟨a, b, rfl, rfl⟩; rfl) (by decide) fun f cdv A outer s H E hr => ⟨_, (pss_cons (ps_while PassesOwn.never (pt_cmpR op_gtI (pv 1) pe_int (nomark _))
    (pss_cons (ps_set (i := 2) sc_shared.nd rfl (Or.inl rfl) (pe_op op_modI (pv 0) (pv 1)))
    (pss_cons (ps_set (i := 0) sc_shared.nd rfl (Or.inl rfl) (pv 1))
    (pss_one (ps_set (i := 1) sc_shared.nd rfl (Or.inl rfl) (pv 2))))))
  (pss_one (ps_ret (pv 0)))), ?_⟩
  rintro ds s ⟨a, b, rfl, rfl⟩
  refine does_seq (does_while (α := Int × Int) (fun p => [.sh (.int p.1), .sh (.int p.2), .any]) (fun p => gcdI p.1 p.2 = gcdI a b) (fun p => decide (0 < p.2)) (fun p => p.2.toNat) (a, b) (.same (.same (.any .nil))) rfl ?_)
  rintro ⟨p, q⟩ hp
  refine ⟨by walk_at "tb", fun hb => ?_, fun hb => ?_⟩
  · have hq : 0 < q := of_decide_eq_true hb
    walk_at "set"
    walk_at "set"
    walk_at "set"
    refine ⟨(q, p % q), ?_, ?_, .same (.same (.any .nil))⟩
    · rw [gcdI_eq, if_pos hq] at hp
      exact hp
    · have := Int.emod_lt_of_pos p hq
      have := Int.emod_nonneg p (show q ≠ 0 by omega)
      show (p % q).toNat < q.toNat
      omega
  · have hq : ¬ 0 < q := of_decide_eq_false hb
    walk_at "ret"
    show Slot.sh _ = _
    rw [← hp]
    show Slot.sh (.int p) = .sh (.int (gcdI p q))
    rw [gcdI_eq, if_neg hq]
def isWhole : D → Bool
  | .int _ => true
  | _ => false
abbrev s_is_whole : Stmt := (top 8)
theorem sc_is_whole : FnScope ["thing"] ["thing"] (defScope s_is_whole) := ⟨rfl, rfl, rfl, by decide +kernel, rfl, by decide +kernel, by decide +kernel⟩
def R_is_whole : List D → Slot → Prop := fun ds s => ∃ d, ds = [d] ∧ (tyD d).isSome = true ∧ s = .sh (.bl (isWhole d))
theorem ok_is_whole (h : Here K mg "is_whole" s_is_whole ["thing"]) (Z : Bn mg) : Prom P w K mg base T (k + 1) "is_whole" ["thing"] R_is_whole := by
  refine prom_of h sc_is_whole (by rintro ds s ⟨a, rfl, _, rfl⟩; rfl) (by decide) fun f cdv A outer s H E hr => ⟨_, (pss_one (ps_ret (pe_and (pe_callB k_isi (by rfl) Z.isinstance (by decide +kernel) (pa_cons (pv 0) (pa_cons (pe_bltn (v := .ty "int") (u := .type "int") (by rfl) Z.int (by decide +kernel) rfl) pa_nil))) (pe_one (pe_not (pe_callB k_isi (by rfl) Z.isinstance (by decide +kernel) (pa_cons (pv 0) (pa_cons (pe_bltn (v := .ty "bool") (u := .type "bool") (by rfl) Z.bool (by decide +kernel) rfl) pa_nil)))))))), ?_⟩
  rintro ds s ⟨d, rfl, hc, rfl⟩
  walk_at "ret"
  cases d <;> rfl
theorem r_is_whole {d : D} (h : (tyD d).isSome = true) : R_is_whole [d] (.sh (.bl (isWhole d))) := ⟨d, rfl, h, rfl⟩
local macro_rules | `(tactic| walk_at "rel") => `(tactic| exact r_is_whole rfl)
theorem len_abc : (Str.ofString "abc").length = 3 := rfl
def encI (ns : List Int) : D := .lst (ns.map .int)
def encS (ss : List (List Int)) : D := .lst (ss.map encI)
def stepB (m : Int) (ns : List Int) : Bool := decide (1 ≤ ns.length) && decide (ns.length ≤ 3) && ns.all fun r => decide (0 ≤ r) && decide (r < m)
def R_is_step : List D → Slot → Prop := fun ds s => ∃ ns m, ds = [encI ns, .int m] ∧ s = .sh (.bl (stepB m ns))
theorem r_is_step {ns : List Int} {m : Int} : R_is_step [encI ns, .int m] (.sh (.bl (stepB m ns))) := ⟨ns, m, rfl, rfl⟩
abbrev s_is_step : Stmt := (top 9)
theorem sc_is_step : FnScope ["thing", "many", "room"] ["thing", "many"] (defScope s_is_step) := ⟨rfl, rfl, rfl, by decide +kernel, rfl, by decide +kernel, by decide +kernel⟩
theorem ok_is_step (h : Here K mg "is_step" s_is_step ["thing", "many"]) (Z : Bn mg) (gL : ∃ u, mg "LETTERS" = some u ∧ RelV (.str "abc") u) (G_is_whole : Prom P w K mg base T k "is_whole" ["thing"] R_is_whole) : Prom P w K mg base T (k + 1) "is_step" ["thing", "many"] R_is_step := by
  obtain ⟨u, g_LETTERS, r_LETTERS⟩ := gL
  refine prom_of h sc_is_step (by rintro ds s ⟨a, b, rfl, rfl⟩; rfl) (by decide) fun f cdv A outer s H E hr => ⟨_, (pss_cons (ps_if (PW.pt (pw_or (pt_not (pt_val (pe_callB k_isi (by rfl) Z.isinstance (by decide +kernel) (pa_cons (pv 0) (pa_cons (pe_bltn (v := .ty "list") (u := .type "list") (by rfl) Z.list (by decide +kernel) rfl) pa_nil))))) (pw_or (pt_cmpR op_ltI (pe_callB k_len (by rfl) Z.len PySem.boot_len (pa_cons (pv 0) pa_nil)) pe_int (nomark _)) (pw_or1 (pt_cmpR op_gtI (pe_callB k_len (by rfl) Z.len PySem.boot_len (pa_cons (pv 0) pa_nil)) (pe_callB k_len (by rfl) Z.len PySem.boot_len (pa_cons (pe_glob rfl g_LETTERS r_LETTERS) pa_nil)) (nomark _))))))
    (pss_one (ps_ret pe_bl))
    pss_nil)
  (pss_cons (ps_for PassesOwn.never rfl (k_ilist (pv 0)) (pg_name (i := 2) sc_is_step.nd rfl (Or.inl rfl))
    (pss_one (ps_if (PW.pt (pw_or (pt_not (pt_val (k_prom G_is_whole (hr.mono (by omega)) rfl (pa_cons (pv 2) pa_nil)))) (pw_or (pt_cmpR op_ltI (pv 2) pe_int (nomark _)) (pw_or1 (pt_cmpR op_geI (pv 2) (pv 1) (nomark _))))))
      (pss_one (ps_ret pe_bl))
      pss_nil)))
  (pss_one (ps_ret pe_bl)))), ?_⟩
  rintro ds s ⟨ns, m, rfl, rfl⟩
  walk_at "if"
  · intro hb
    walk_at "ret"
    have hb2 : ns.length < 1 ∨ 3 < ns.length := by
      have q : (ns.length : Int) < 1 ∨ (3 : Int) < ns.length := by simpa [encI, isListD, len_abc] using hb
      omega
    show Slot.sh (.bl false) = .sh (.bl (stepB m ns))
    unfold stepB
    rcases hb2 with z | z
    · rw [decide_eq_false (by omega)]; rfl
    · rw [decide_eq_false (show ¬ ns.length ≤ 3 by omega)]; simp
  · intro hb
    have hb2 : 1 ≤ ns.length ∧ ns.length ≤ 3 := by
      have q : 1 ≤ (ns.length : Int) ∧ (ns.length : Int) ≤ 3 := by simpa [encI, isListD, len_abc] using hb
      omega
    walk_at "nx"
    apply does_seq
    apply does_forN (xs := ns) (enc := D.int) (fun _ (_ : Unit) => [.sh (encI ns), .sh (.int m), .any]) (fun i _ => ((ns.take i).all fun r => decide (0 ≤ r) && decide (r < m)) = true) ()
    case hi => walk_at "il"
    case w0 => walk_at "wk"
    case h0 => simp
    case hs =>
      intro i _ x hx hp
      walk_at "if"
      · intro hb3
        walk_at "ret"
        have q : x < 0 ∨ m ≤ x := by simpa [isWhole] using hb3
        show Slot.sh (.bl false) = .sh (.bl (stepB m ns))
        have e : (ns.all fun r => decide (0 ≤ r) && decide (r < m)) = false := by
          refine Bool.eq_false_iff.mpr fun z => ?_
          have z2 := List.all_eq_true.mp z x (List.mem_of_getElem? hx)
          simp at z2
          omega
        unfold stepB
        rw [e]
        simp
      · intro hb3
        have q : 0 ≤ x ∧ x < m := by simpa [isWhole] using hb3
        walk_at "nx"
        refine ⟨(), ?_, by walk_at "wk"⟩
        rw [List.take_add_one, hx]
        simp [hp, q]
    case hd =>
      intro _ hp
      walk_at "ret"
      show Slot.sh (.bl true) = .sh (.bl (stepB m ns))
      unfold stepB
      rw [List.take_length] at hp
      rw [hp, decide_eq_true hb2.1, decide_eq_true hb2.2]
      rfl
local macro_rules | `(tactic| walk_at "rel") => `(tactic| exact r_is_step)
def stepsB (ss : List (List Int)) : Bool := decide (1 ≤ ss.length) && decide (ss.length ≤ 8) && ss.all fun st => stepB ss.length st && decide (st.length = (ss.headD []).length)
def R_are_steps : List D → Slot → Prop := fun ds s => ∃ ss, ds = [encS ss] ∧ s = .sh (.bl (stepsB ss))
theorem r_are_steps {ss : List (List Int)} : R_are_steps [encS ss] (.sh (.bl (stepsB ss))) := ⟨ss, rfl, rfl⟩
abbrev s_are_steps : Stmt := (top 10)
theorem sc_are_steps : FnScope ["thing", "step"] ["thing"] (defScope s_are_steps) := ⟨rfl, rfl, rfl, by decide +kernel, rfl, by decide +kernel, by decide +kernel⟩
theorem ok_are_steps (h : Here K mg "are_steps" s_are_steps ["thing"]) (Z : Bn mg) (gM : ∃ u, mg "MOST_ROOMS" = some u ∧ RelV (.int 8) u) (G_is_step : Prom P w K mg base T k "is_step" ["thing", "many"] R_is_step) : Prom P w K mg base T (k + 1) "are_steps" ["thing"] R_are_steps := by
  obtain ⟨u, g_MOST_ROOMS, r_MOST_ROOMS⟩ := gM
  refine prom_of h sc_are_steps (by rintro ds s ⟨a, rfl, rfl⟩; rfl) (by decide) fun f cdv A outer s H E hr => ⟨_, (pss_cons (ps_if (PW.pt (pw_or (pt_not (pt_val (pe_callB k_isi (by rfl) Z.isinstance (by decide +kernel) (pa_cons (pv 0) (pa_cons (pe_bltn (v := .ty "list") (u := .type "list") (by rfl) Z.list (by decide +kernel) rfl) pa_nil))))) (pw_or (pt_cmpR op_ltI (pe_callB k_len (by rfl) Z.len PySem.boot_len (pa_cons (pv 0) pa_nil)) pe_int (nomark _)) (pw_or1 (pt_cmpR op_gtI (pe_callB k_len (by rfl) Z.len PySem.boot_len (pa_cons (pv 0) pa_nil)) (pe_glob rfl g_MOST_ROOMS r_MOST_ROOMS) (nomark _))))))
    (pss_one (ps_ret pe_bl))
    pss_nil)
  (pss_cons (ps_for PassesOwn.never rfl (k_ilist (pv 0)) (pg_name (i := 1) sc_are_steps.nd rfl (Or.inl rfl))
    (pss_one (ps_if (PW.pt (pw_or (pt_not (pt_val (k_prom G_is_step (hr.mono (by omega)) rfl (pa_cons (pv 1) (pa_cons (pe_callB k_len (by rfl) Z.len PySem.boot_len (pa_cons (pv 0) pa_nil)) pa_nil))))) (pw_or1 (pt_cmpR (k_ne hr.units) (pe_callB k_len (by rfl) Z.len PySem.boot_len (pa_cons (pv 1) pa_nil)) (pe_callB k_len (by rfl) Z.len PySem.boot_len (pa_cons (k_ix (hu_of hr) (pv 0) pe_int) pa_nil)) (nomark _)))))
      (pss_one (ps_ret pe_bl))
      pss_nil)))
  (pss_one (ps_ret pe_bl)))), ?_⟩
  rintro ds s ⟨ss, rfl, rfl⟩
  walk_at "if"
  · intro hb
    walk_at "ret"
    have hb2 : ss.length < 1 ∨ 8 < ss.length := by
      have q : (ss.length : Int) < 1 ∨ (8 : Int) < ss.length := by simpa [encS, isListD] using hb
      omega
    show Slot.sh (.bl false) = .sh (.bl (stepsB ss))
    unfold stepsB
    rcases hb2 with z | z
    · rw [decide_eq_false (by omega)]; rfl
    · rw [decide_eq_false (show ¬ ss.length ≤ 8 by omega)]; simp
  · intro hb
    have hb2 : 1 ≤ ss.length ∧ ss.length ≤ 8 := by
      have q : 1 ≤ (ss.length : Int) ∧ (ss.length : Int) ≤ 8 := by simpa [encS, isListD] using hb
      omega
    walk_at "nx"
    apply does_seq
    apply does_forN (xs := ss) (enc := encI) (fun _ (_ : Unit) => [.sh (encS ss), .any]) (fun i _ => ((ss.take i).all fun st => stepB ss.length st && decide (st.length = (ss.headD []).length)) = true) ()
    case hi => walk_at "il"
    case w0 => walk_at "wk"
    case h0 => simp
    case hs =>
      intro i _ x hx hp
      have h0 : atI (ss.map encI) 0 = some (encI (ss.headD [])) := by
        cases ss with
        | nil => simp at hb2
        | cons a r => exact atI_nat (j := 0) rfl
      walk_at "if"
      · intro hb3
        walk_at "ret"
        have q : (stepB ss.length x && decide (x.length = (ss.headD []).length)) = false := by
          have z : stepB ss.length x = false ∨ ¬ x.length = (ss.headD []).length := by
            have q : stepB ss.length x = false ∨ ¬ (x.length : Int) = ((ss.headD []).length : Int) := by simpa [encI, encS] using hb3
            rcases q with q | q
            · exact .inl q
            · exact .inr (by omega)
          rcases z with z | z
          · rw [z]; rfl
          · rw [decide_eq_false z]; simp
        show Slot.sh (.bl false) = .sh (.bl (stepsB ss))
        have e : (ss.all fun st => stepB ss.length st && decide (st.length = (ss.headD []).length)) = false := by
          refine Bool.eq_false_iff.mpr fun z => ?_
          have z2 := List.all_eq_true.mp z x (List.mem_of_getElem? hx)
          rw [q] at z2
          cases z2
        unfold stepsB
        rw [e]
        simp
      · intro hb3
        have q : (stepB ss.length x && decide (x.length = (ss.headD []).length)) = true := by
          have q : stepB ss.length x = true ∧ (x.length : Int) = ((ss.headD []).length : Int) := by simpa [encI, encS] using hb3
          rw [q.1, decide_eq_true (by omega)]
          rfl
        walk_at "nx"
        refine ⟨(), ?_, by walk_at "wk"⟩
        rw [List.take_add_one, hx]
        rw [List.all_append, hp]
        simpa using q
    case hd =>
      intro _ hp
      walk_at "ret"
      show Slot.sh (.bl true) = .sh (.bl (stepsB ss))
      unfold stepsB
      rw [List.take_length] at hp
      rw [hp, decide_eq_true hb2.1, decide_eq_true hb2.2]
      rfl
local macro_rules | `(tactic| walk_at "rel") => `(tactic| exact r_are_steps)
def ranksB (m : Int) (ns : List Int) : Bool := decide ((ns.length : Int) = m) && ns.all fun r => decide (0 ≤ r)
def R_are_ranks : List D → Slot → Prop := fun ds s => ∃ ns m, ds = [encI ns, .int m] ∧ s = .sh (.bl (ranksB m ns))
theorem r_are_ranks {ns : List Int} {m : Int} : R_are_ranks [encI ns, .int m] (.sh (.bl (ranksB m ns))) := ⟨ns, m, rfl, rfl⟩
abbrev s_are_ranks : Stmt := (top 11)
theorem sc_are_ranks : FnScope ["thing", "many", "rank"] ["thing", "many"] (defScope s_are_ranks) := ⟨rfl, rfl, rfl, by decide +kernel, rfl, by decide +kernel, by decide +kernel⟩
theorem ok_are_ranks (h : Here K mg "are_ranks" s_are_ranks ["thing", "many"]) (Z : Bn mg) (G_is_whole : Prom P w K mg base T k "is_whole" ["thing"] R_is_whole) : Prom P w K mg base T (k + 1) "are_ranks" ["thing", "many"] R_are_ranks := by
  refine prom_of h sc_are_ranks (by rintro ds s ⟨a, b, rfl, rfl⟩; rfl) (by decide) fun f cdv A outer s H E hr => ⟨_, (pss_cons (ps_if (PW.pt (pw_or (pt_not (pt_val (pe_callB k_isi (by rfl) Z.isinstance (by decide +kernel) (pa_cons (pv 0) (pa_cons (pe_bltn (v := .ty "list") (u := .type "list") (by rfl) Z.list (by decide +kernel) rfl) pa_nil))))) (pw_or1 (pt_cmpR (k_ne hr.units) (pe_callB k_len (by rfl) Z.len PySem.boot_len (pa_cons (pv 0) pa_nil)) (pv 1) (nomark _)))))
    (pss_one (ps_ret pe_bl))
    pss_nil)
  (pss_cons (ps_for PassesOwn.never rfl (k_ilist (pv 0)) (pg_name (i := 2) sc_are_ranks.nd rfl (Or.inl rfl))
    (pss_one (ps_if (PW.pt (pw_or (pt_not (pt_val (k_prom G_is_whole (hr.mono (by omega)) rfl (pa_cons (pv 2) pa_nil)))) (pw_or1 (pt_cmpR op_ltI (pv 2) pe_int (nomark _)))))
      (pss_one (ps_ret pe_bl))
      pss_nil)))
  (pss_one (ps_ret pe_bl)))), ?_⟩
  rintro ds s ⟨ns, m, rfl, rfl⟩
  walk_at "if"
  · intro hb
    walk_at "ret"
    have q : ¬ (ns.length : Int) = m := by simpa [encI, isListD] using hb
    show Slot.sh (.bl false) = .sh (.bl (ranksB m ns))
    unfold ranksB
    rw [decide_eq_false q]; rfl
  · intro hb
    have hb2 : (ns.length : Int) = m := by simpa [encI, isListD] using hb
    walk_at "nx"
    apply does_seq
    apply does_forN (xs := ns) (enc := D.int) (fun _ (_ : Unit) => [.sh (encI ns), .sh (.int m), .any]) (fun i _ => ((ns.take i).all fun r => decide (0 ≤ r)) = true) ()
    case hi => walk_at "il"
    case w0 => walk_at "wk"
    case h0 => simp
    case hs =>
      intro i _ x hx hp
      walk_at "if"
      · intro hb3
        walk_at "ret"
        have q : x < 0 := by simpa [isWhole] using hb3
        show Slot.sh (.bl false) = .sh (.bl (ranksB m ns))
        have e : (ns.all fun r => decide (0 ≤ r)) = false := by
          refine Bool.eq_false_iff.mpr fun z => ?_
          have z2 := List.all_eq_true.mp z x (List.mem_of_getElem? hx)
          simp at z2
          omega
        unfold ranksB
        rw [e]
        simp
      · intro hb3
        have q : 0 ≤ x := by simpa [isWhole] using hb3
        walk_at "nx"
        refine ⟨(), ?_, by walk_at "wk"⟩
        rw [List.take_add_one, hx]
        simp [hp, q]
    case hd =>
      intro _ hp
      walk_at "ret"
      show Slot.sh (.bl true) = .sh (.bl (ranksB m ns))
      unfold ranksB
      rw [List.take_length] at hp
      rw [hp, decide_eq_true hb2]
      rfl
local macro_rules | `(tactic| walk_at "rel") => `(tactic| exact r_are_ranks)
/-- a machine's fields -/
def machF (ss : List (List Int)) (rs : List Int) : List (Str × D) := [("steps", encS ss), ("ranks", encI rs), ("many", .int ss.length), ("letters", .int (ss.headD []).length)]
def R_Machine : List D → List (Str × D) → Prop := fun ds fs => ∃ ss rs, ds = [encS ss, encI rs] ∧ stepsB ss = true ∧ ranksB ss.length rs = true ∧ fs = machF ss rs
abbrev s_Machine___init__ : Stmt := (inClass (top 12) 0)
theorem sc_Machine___init__ : FnScope ["self", "steps", "ranks", "step"] ["self", "steps", "ranks"] (defScope s_Machine___init__) := ⟨rfl, rfl, rfl, by decide +kernel, rfl, by decide +kernel, by decide +kernel⟩
theorem ok_Machine {C : Addr} (h : HereC K mg C "Machine" "Machine.__init__" s_Machine___init__ ["self", "steps", "ranks"]) (Z : Bn mg) (n1 : NoAttr K C "steps") (n2 : NoAttr K C "ranks") (n3 : NoAttr K C "many") (n4 : NoAttr K C "letters")
    (G_are_steps : Prom P w K mg base T k "are_steps" ["thing"] R_are_steps) (G_are_ranks : Prom P w K mg base T k "are_ranks" ["thing", "many"] R_are_ranks) : PromC P w K mg base T (k + 1) C "Machine" ["self", "steps", "ranks"] R_Machine := by
  have cl := h.cl
  refine promC_of h sc_Machine___init__ (by rintro ds s ⟨a, b, rfl, _⟩; rfl) (by decide) fun f cdv A outer s H E hr => ⟨_, (pss_cons (ps_if (PW.pt (pw_or (pt_not (pt_val (k_prom G_are_steps (hr.mono (by omega)) rfl (pa_cons (pv 1) pa_nil)))) (pw_or1 (pt_not (pt_val (k_prom G_are_ranks (hr.mono (by omega)) rfl (pa_cons (pv 2) (pa_cons (pe_callB k_len (by rfl) Z.len PySem.boot_len (pa_cons (pv 1) pa_nil)) pa_nil))))))))
    (pss_one ps_never)
    pss_nil)
  (pss_cons (k_sfld (pv 0) (pe_lc (own := [("step", 3)]) (g := gName 3) rfl sc_Machine___init__.nd (k_ilist (pv 1)) (blkOk_by (N := ["self", "steps", "ranks", "step"]) (sc := defScope s_Machine___init__) (by decide +kernel)) (fun _ _ _ _ _ => (pg_name (i := 3) sc_Machine___init__.nd rfl (Or.inl rfl))) (fun _ _ _ _ _ => pts_nil) (fun _ _ _ _ _ => (pe_callTy k_listc (by rfl) Z.list (by decide +kernel) (pa_cons (pv 3) pa_nil)))))
  (pss_cons (k_sfld (pv 0) (pe_callTy k_listc (by rfl) Z.list (by decide +kernel) (pa_cons (pv 2) pa_nil)))
  (pss_cons (k_sfld (pv 0) (pe_callB k_len (by rfl) Z.len PySem.boot_len (pa_cons (pv 1) pa_nil)))
  (pss_one (k_sfld (pv 0) (pe_callB k_len (by rfl) Z.len PySem.boot_len (pa_cons (k_ix (hu_of hr) (pv 1) pe_int) pa_nil)))))))), ?_⟩
  rintro ds fs p ⟨ss, rs, rfl, h1, h2, rfl⟩
  walk_at "if"
  · intro hb
    rw [h1] at hb
    have : (ranksB (ss.length : Int) rs) = false := by simpa [encS] using hb
    rw [h2] at this
    cases this
  · intro _
    walk_at "nx"
    have hlc : EvS K (plainA T) (tLc (iList K (tVar 1)) (gName 3) tYes (tCB (rListU K) (tCons (tVar 3) tNil)) [3]) [.ownO p C [], .sh (encS ss), .sh (encI rs), .any] [.ownO p C [], .sh (encS ss), .sh (encI rs), .any] (.ownL (ss.map encI)) := by
      apply ev_lcN (xs := ss) (enc := encI) (f := encI)
      case hi => walk_at "il"
      case hw => rfl
      case hz => simp [stepsB] at h1; omega
      case hnr => rfl
      case hs =>
        intro i x _
        walk_at "ev"
    apply does_seq
    apply does_fld (d := encS ss)
    case hv => exact ev_frz hlc
    case h => rfl
    case hc => exact cl
    case hn => exact n1
    case hl9 => exact Nat.le_of_ble_eq_true rfl
    case nr => rfl
    apply does_seq
    apply does_fld (d := encI rs)
    case hv => walk_at "ev"
    case h => rfl
    case hc => exact cl
    case hn => exact n2
    case hl9 => exact Nat.le_of_ble_eq_true rfl
    case nr => rfl
    apply does_seq
    apply does_fld (d := .int ss.length)
    case hv => exact ev_is (ev_len (ev_rd (ev_var rfl))) (by rw [List.length_map])
    case h => rfl
    case hc => exact cl
    case hn => exact n3
    case hl9 => exact Nat.le_of_ble_eq_true rfl
    case nr => rfl
    apply does_fld (d := .int (ss.headD []).length)
    case hv =>
      have h0 : atI (ss.map encI) 0 = some (encI (ss.headD [])) := by
        cases ss with
        | nil => simp [stepsB] at h1
        | cons a r => exact atI_nat (j := 0) rfl
      exact ev_is (ev_len (ev_rd (ev_ixL (ev_rd (ev_var rfl)) ev_int h0))) (by rw [List.length_map])
    case h => rfl
    case hc => exact cl
    case hn => exact n4
    case hl9 => exact Nat.le_of_ble_eq_true rfl
    case nr => rfl
    exact ⟨_, rfl, rfl⟩
abbrev s_need_base : Stmt := (top 16)
theorem sc_need_base : FnScope ["base"] ["base"] (defScope s_need_base) := ⟨rfl, rfl, rfl, by decide +kernel, rfl, by decide +kernel, by decide +kernel⟩
def R_need_base : List D → Slot → Prop := fun ds s => ∃ b : Int, ds = [.int b] ∧ 2 ≤ b ∧ b ≤ 3 ∧ s = .sh .non
theorem ok_need_base (h : Here K mg "need_base" s_need_base ["base"]) (Z : Bn mg) (G_is_whole : Prom P w K mg base T k "is_whole" ["thing"] R_is_whole) : Prom P w K mg base T (k + 1) "need_base" ["base"] R_need_base := by
  refine prom_of h sc_need_base (by rintro ds s ⟨a, rfl, _⟩; rfl) (by decide) fun f cdv A outer s H E hr => ⟨_, (pss_one (ps_if (PW.pt (pw_or (pt_not (pt_val (k_prom G_is_whole (hr.mono (by omega)) rfl (pa_cons (pv 0) pa_nil)))) (pw_or1 (pt_not (pt_chain op_leI op_leI pe_int (pv 0) pe_int)))))
    (pss_one ps_never)
    pss_nil)), ?_⟩
  rintro ds s ⟨b, rfl, h2, h3, rfl⟩
  walk_at "if"
  · intro hb
    have : False := by
      simp [isWhole] at hb
      omega
    exact this.elim
  · intro _
    walk_at "nx"
    rfl
theorem r_need_base {b : Int} (h2 : 2 ≤ b) (h3 : b ≤ 3) : R_need_base [.int b] (.sh .non) := ⟨b, rfl, h2, h3, rfl⟩
local macro_rules | `(tactic| walk_at "rel") => `(tactic| exact r_need_base (by omega) (by omega))
theorem r_shared {a b : Int} : R_shared [.int a, .int b] (.sh (.int (gcdI a b))) := ⟨a, b, rfl, rfl⟩
local macro_rules | `(tactic| walk_at "rel") => `(tactic| exact r_shared)
abbrev s_lowest_terms : Stmt := (top 18)
theorem sc_lowest_terms : FnScope ["top", "bottom", "share"] ["top", "bottom"] (defScope s_lowest_terms) := ⟨rfl, rfl, rfl, by decide +kernel, rfl, by decide +kernel, by decide +kernel⟩
def R_lowest_terms : List D → Slot → Prop := fun ds s => ∃ a b : Int, ds = [.int a, .int b] ∧ 0 < gcdI a b ∧ gcdI a b < 2 ^ 400 ∧ s = .sh (.tup [.int (a / gcdI a b), .int (b / gcdI a b)])
theorem ok_lowest_terms (h : Here K mg "lowest_terms" s_lowest_terms ["top", "bottom"]) (G_shared : Prom P w K mg base T k "shared" ["one", "other"] R_shared) : Prom P w K mg base T (k + 1) "lowest_terms" ["top", "bottom"] R_lowest_terms := by
  refine prom_of h sc_lowest_terms (by rintro ds s ⟨a, b, rfl, _⟩; rfl) (by decide) fun f cdv A outer s H E hr => ⟨_, (pss_cons (ps_set (i := 2) sc_lowest_terms.nd rfl (Or.inl rfl) (k_prom G_shared (hr.mono (by omega)) rfl (pa_cons (pv 0) (pa_cons (pv 1) pa_nil))))
  (pss_one (ps_ret (pe_tup (pa_cons (pe_op op_divI (pv 0) (pv 2)) (pa_cons (pe_op op_divI (pv 1) (pv 2)) pa_nil)))))), ?_⟩
  rintro ds s ⟨a, b, rfl, h2, h3, rfl⟩
  walk_at "set"
  walk_at "ret"
  rfl
theorem r_lowest_terms {a b : Int} (h1 : 0 < gcdI a b) (h2 : gcdI a b < 2 ^ 400) : R_lowest_terms [.int a, .int b] (.sh (.tup [.int (a / gcdI a b), .int (b / gcdI a b)])) := ⟨a, b, rfl, h1, h2, rfl⟩
local macro_rules | `(tactic| walk_at "rel") => `(tactic| exact r_lowest_terms (by assumption) (by assumption))
abbrev s_fraction_by : Stmt := (top 19)
theorem sc_fraction_by : FnScope ["top", "bottom", "base"] ["top", "bottom", "base"] (defScope s_fraction_by) := ⟨rfl, rfl, rfl, by decide +kernel, rfl, by decide +kernel, by decide +kernel⟩
def R_fraction_by : List D → Slot → Prop := fun ds s => ∃ a b c : Int, ds = [.int a, .int b, .int c] ∧ 0 ≤ a ∧ a ≤ b ∧ 1 ≤ b ∧ b ≤ 6 ∧ 2 ≤ c ∧ c ≤ 3 ∧ 0 < gcdI a b ∧ gcdI a b < 2 ^ 400 ∧ s = .sh (.tup [.int (a / gcdI a b), .int (b / gcdI a b)])
theorem ok_fraction_by (h : Here K mg "fraction_by" s_fraction_by ["top", "bottom", "base"]) (gM : ∃ u, mg "MOST_BOTTOM" = some u ∧ RelV (.int 6) u) (G_need_base : Prom P w K mg base T k "need_base" ["base"] R_need_base) (G_is_whole : Prom P w K mg base T k "is_whole" ["thing"] R_is_whole)
    (G_lowest_terms : Prom P w K mg base T k "lowest_terms" ["top", "bottom"] R_lowest_terms) : Prom P w K mg base T (k + 1) "fraction_by" ["top", "bottom", "base"] R_fraction_by := by
  obtain ⟨u, g_MOST_BOTTOM, r_MOST_BOTTOM⟩ := gM
  refine prom_of h sc_fraction_by (by rintro ds s ⟨a, b, c, rfl, _⟩; rfl) (by decide) fun f cdv A outer s H E hr => ⟨_, (pss_cons (ps_expr (k_prom G_need_base (hr.mono (by omega)) rfl (pa_cons (pv 2) pa_nil)))
  (pss_cons (ps_if (PW.pt (pw_or (pt_not (pt_val (k_prom G_is_whole (hr.mono (by omega)) rfl (pa_cons (pv 1) pa_nil)))) (pw_or1 (pt_not (pt_chain op_leI op_leI pe_int (pv 1) (pe_glob rfl g_MOST_BOTTOM r_MOST_BOTTOM))))))
    (pss_one ps_never)
    pss_nil)
  (pss_cons (ps_if (PW.pt (pw_or (pt_not (pt_val (k_prom G_is_whole (hr.mono (by omega)) rfl (pa_cons (pv 0) pa_nil)))) (pw_or1 (pt_not (pt_chain op_leI op_leI pe_int (pv 0) (pv 1))))))
    (pss_one ps_never)
    pss_nil)
  (pss_one (ps_ret (k_prom G_lowest_terms (hr.mono (by omega)) rfl (pa_cons (pv 0) (pa_cons (pv 1) pa_nil)))))))), ?_⟩
  rintro ds s ⟨a, b, c, rfl, h1, h2, h3, h4, h5, h6, h7, h8, rfl⟩
  apply does_seq
  apply does_drop
  case h => walk_at "ev"
  walk_at "if"
  · intro hb
    have : False := by
      simp [isWhole] at hb
      omega
    exact this.elim
  · intro _
    walk_at "nx"
    walk_at "if"
    · intro hb
      have : False := by
        simp [isWhole] at hb
        omega
      exact this.elim
    · intro _
      walk_at "nx"
      walk_at "ret"
      rfl
end
end Lp

namespace Lp
open PySem L2 NdefX Fx
local macro_rules | `(tactic| walk_at "side") => `(tactic| first
  | assumption
  | ((with_reducible show CMulW _ _); exact cmul (by omega) (by omega))
  | ((with_reducible show CDivW _ _); exact cdiv (by omega) (by omega))
  | ((with_reducible show (_ : Int) < _); first | omega | decide)
  | ((with_reducible show (_ : Nat) < _); omega)
  | ((with_reducible show (_ : Nat) ≤ _); omega)
  | rfl)
local macro_rules | `(tactic| walk_at "ev") => `(tactic| first
  | assumption
  | exact ev_int | exact ev_str | exact ev_bl | exact ev_non
  | exact ev_var rfl | exact ev_var_rdL rfl | exact ev_var_rdK rfl | exact ev_rd (ev_var rfl) | exact ev_var_own rfl
  | (apply ev_add <;> walk_at "ev")
  | (apply ev_sub <;> walk_at "ev")
  | (apply ev_mul <;> first | walk_at "ev" | walk_at "side")
  | (apply ev_mod <;> first | walk_at "ev" | walk_at "side")
  | (apply ev_div <;> first | walk_at "ev" | walk_at "side")
  | (apply ev_lt <;> walk_at "ev") | (apply ev_le <;> walk_at "ev") | (apply ev_gt <;> walk_at "ev") | (apply ev_ge <;> walk_at "ev")
  | (apply ev_eqI <;> walk_at "ev") | (apply ev_neI <;> walk_at "ev")
  | (apply ev_inL <;> walk_at "ev") | (apply ev_notInL <;> walk_at "ev")
  | (apply ev_inD <;> walk_at "ev") | (apply ev_notInD <;> walk_at "ev")
  | (apply ev_notV; walk_at "ev")
  | (apply ev_andV; (case h => walk_at "ev"); (case h2 => (intro _; walk_at "ev")))
  | (apply ev_orV; (case h => walk_at "ev"); (case h2 => (intro _; walk_at "ev")))
  | (apply ev_len; walk_at "ev") | (apply ev_lenT; walk_at "ev") | (apply ev_lenR; walk_at "ev") | (apply ev_lenD; walk_at "ev")
  | (apply ev_lenS <;> first | walk_at "ev" | decide | omega)
  | (apply ev_intB; walk_at "ev") | (apply ev_max2 <;> walk_at "ev") | (apply ev_min2 <;> walk_at "ev")
  | (apply ev_chain; (case ha => walk_at "ev"); (case hb => walk_at "ev"); (case h1 => walk_at "rs"); (case hc => walk_at "ev"); (case h2 => walk_at "rs"))
  | (apply ev_listc; walk_at "ev")
  | (apply ev_ixL <;> first | walk_at "ev" | walk_at "side")
  | (apply ev_ixT <;> first | walk_at "ev" | walk_at "side")
  | (apply ev_ixR <;> first | walk_at "ev" | walk_at "side")
  | (apply ev_ixD <;> first | walk_at "ev" | walk_at "side")
  | (apply ev_pow <;> first | walk_at "ev" | (refine ⟨by decide, by decide, by decide⟩))
  | (apply ev_index <;> first | walk_at "ev" | walk_at "side")
  | (apply ev_neg; walk_at "ev")
  | (apply ev_fld <;> first | walk_at "ev" | assumption | rfl)
  | (apply ev_callD; (case h => walk_at "ed"); (case hr => walk_at "rel"))
  | (apply ev_makeD; (case h => walk_at "ed"); (case hr => walk_at "rel"))
  | (apply ev_methD; (case ho => walk_at "ev"); (case h => walk_at "ed"); (case hr => walk_at "rel"); (case hm => rfl))
  | (apply ev_tupD; (case h => walk_at "ed"); (case hz => exact Nat.le_of_ble_eq_true rfl))
  | (apply ev_lstD; (case h => walk_at "ed"); (case hz => exact Nat.le_of_ble_eq_true rfl))
  | ((first | apply ev_isInt | apply ev_isBool | apply ev_isList | apply ev_isStr | apply ev_isTuple) <;> first | walk_at "ev" | rfl | assumption)
  | (apply ev_frz; walk_at "ev") | (apply ev_frzK; walk_at "ev") | (apply ev_rd; walk_at "ev"))
local macro_rules | `(tactic| walk_at "rs") => `(tactic| first
  | exact rs_cmp | exact rs_eqI | exact rs_neI)
local macro_rules | `(tactic| walk_at "ed") => `(tactic| first
  | exact ed_nil
  | (apply ed_cons; (case h => walk_at "ev"); (case t => walk_at "ed")))
local macro_rules | `(tactic| walk_at "ea") => `(tactic| first
  | exact ea_nil
  | (apply ea_cons; (case h => walk_at "ev"); (case t => walk_at "ea")))
-- x = e; ..
local macro_rules | `(tactic| walk_at "set") => `(tactic| first
  | (apply does_seq; apply does_set; (case h => walk_at "ev"))
  | (apply does_set; (case h => walk_at "ev")))
local macro_rules | `(tactic| walk_at "ret") => `(tactic| (apply does_ret; (case h => walk_at "ev")))
local macro_rules | `(tactic| walk_at "tb") => `(tactic| first
  | (apply eb_not; walk_at "tb")
  | (apply eb_or; (case h => walk_at "tb"); (case h2 => (intro _; walk_at "tb")))
  | (apply eb_and; (case h => walk_at "tb"); (case h2 => (intro _; walk_at "tb")))
  | (apply eb_test; walk_at "ev")
  | (apply eb_B; walk_at "ev"))
-- if c: ..
local macro_rules | `(tactic| walk_at "if") => `(tactic| first
  | (apply does_seq; apply does_if; (case h => walk_at "tb"))
  | (apply does_if; (case h => walk_at "tb")))
local macro_rules | `(tactic| walk_at "wk") => `(tactic| repeat (first | exact Wk.nil | apply Wk.same | apply Wk.any))
-- for x in xs: the list is data
local macro_rules | `(tactic| walk_at "il") => `(tactic| first
  | (apply ei_list; walk_at "ev")
  | (apply ei_scr; walk_at "ev")
  | (apply ei_rng1 <;> first | walk_at "ea" | omega))
-- a break, a continue, pass
local macro_rules | `(tactic| walk_at "nx") => `(tactic| first | apply does_next | apply does_break | apply does_cont)
local macro_rules | `(tactic| walk_at "app") => `(tactic| first
  | (apply does_seq; apply does_app; (case he => walk_at "ev"); (case h0 => rfl); (case h => rfl); (case hz => walk_at "side"); (case nr => rfl))
  | (apply does_app; (case he => walk_at "ev"); (case h0 => rfl); (case h => rfl); (case hz => walk_at "side"); (case nr => rfl)))
local macro_rules | `(tactic| walk_at "mv") => `(tactic| (apply does_ret; (case h => exact ev_var_mv rfl (by intro z; cases z))))

section
variable {P : Program} {w : World} {K : PySem.W.Frag} {mg : Str → Option Value} {base : Heap} {T : List NTab} {k : Nat}
def cellF (ns : List Int) (k : Int) : Int :=
  if k < ns.length then ns.getD k.toNat 0 % 10 ^ 30
  else ((if 0 < (ns.length : Int) then ns.getD (k % ns.length).toNat 0 % 999983 else 0) * 48271 + 7919 * k + 11) * (k + 2) % 2147483647
theorem atI_getD {ns : List Int} {k : Int} (h0 : 0 ≤ k) (h : k < ns.length) : atI ns k = some (ns.getD k.toNat 0) := by
  obtain ⟨n, rfl⟩ : ∃ n : Nat, k = n := ⟨k.toNat, by omega⟩
  have hk : n < ns.length := by omega
  refine atI_nat ?_
  simp [List.getD, List.getElem?_eq_getElem hk]
abbrev s__law_cell : Stmt := (top 24)
theorem sc__law_cell : FnScope ["_law_script", "_law_k", "_law_rest"] ["_law_script", "_law_k"] (defScope s__law_cell) := ⟨rfl, rfl, rfl, by decide +kernel, rfl, by decide +kernel, by decide +kernel⟩
def R_cell : List D → Slot → Prop := fun ds s => ∃ ns k, ds = [.scr ns, .int k] ∧ 0 ≤ k ∧ k < 2 ^ 62 ∧ s = .sh (.int (cellF ns k))
theorem ok_cell (h : Here K mg "_law_cell" s__law_cell ["_law_script", "_law_k"]) (Z : Bn mg) : Prom P w K mg base T (k + 1) "_law_cell" ["_law_script", "_law_k"] R_cell := by
  refine prom_of h sc__law_cell (by rintro ds s ⟨a, b, rfl, _⟩; rfl) (by decide) fun f cdv A outer s H E hr => ⟨_, (pss_cons (ps_if (pt_cmpR op_ltI (pv 1) (pe_callB k_len (by rfl) Z.len PySem.boot_len (pa_cons (pv 0) pa_nil)) (nomark _))
    (pss_one (ps_ret (pe_op op_modI (k_ix (hu_of hr) (pv 0) (pv 1)) (pe_op op_powI pe_int pe_int))))
    pss_nil)
  (pss_cons (ps_set (i := 2) sc__law_cell.nd rfl (Or.inl rfl) pe_int)
  (pss_cons (ps_if (pt_cmpR op_gtI (pe_callB k_len (by rfl) Z.len PySem.boot_len (pa_cons (pv 0) pa_nil)) pe_int (nomark _))
    (pss_one (ps_set (i := 2) sc__law_cell.nd rfl (Or.inl rfl) (pe_op op_modI (k_ix (hu_of hr) (pv 0) (pe_op op_modI (pv 1) (pe_callB k_len (by rfl) Z.len PySem.boot_len (pa_cons (pv 0) pa_nil)))) pe_int)))
    pss_nil)
  (pss_one (ps_ret (pe_op op_modI (pe_op op_mulI (pe_op op_addU (pe_op op_addU (pe_op op_mulI (pv 2) pe_int) (pe_op op_mulI pe_int (pv 1))) pe_int) (pe_op op_addU (pv 1) pe_int)) pe_int)))))), ?_⟩
  rintro ds s ⟨ns, k, rfl, h0, h62, rfl⟩
  walk_at "if"
  · intro hb
    have hk : k < ns.length := by simpa using hb
    have ha := atI_getD h0 hk
    walk_at "ret"
    show Slot.sh _ = Slot.sh _
    unfold cellF
    rw [if_pos hk]
    rfl
  · intro hb
    have hk : ¬ k < ns.length := by simpa using hb
    walk_at "nx"
    walk_at "set"
    walk_at "if"
    · intro hb2
      have hl : 0 < (ns.length : Int) := by simpa using hb2
      have m0 := Int.emod_nonneg k (show (ns.length : Int) ≠ 0 by omega)
      have m1 := Int.emod_lt_of_pos k hl
      have ha := atI_getD (ns := ns) m0 m1
      walk_at "set"
      walk_at "ret"
      show Slot.sh _ = Slot.sh _
      unfold cellF
      rw [if_neg hk, if_pos hl]
    · intro hb2
      have hl : ¬ 0 < (ns.length : Int) := by simpa using hb2
      walk_at "nx"
      walk_at "ret"
      show Slot.sh _ = Slot.sh _
      unfold cellF
      rw [if_neg hk, if_neg hl]
theorem cellF_lt {ns : List Int} {k : Int} (h : 0 ≤ k) : 0 ≤ cellF ns k ∧ cellF ns k < 2 ^ 100 := by
  unfold cellF
  split
  · exact ⟨Int.emod_nonneg _ (by decide), Int.lt_of_lt_of_le (Int.emod_lt_of_pos _ (by decide)) (by decide)⟩
  · exact ⟨Int.emod_nonneg _ (by decide), Int.lt_of_lt_of_le (Int.emod_lt_of_pos _ (by decide)) (by decide)⟩
def pickN (c k : Int) : Int := (c + 15485863 * k) % 2147483629
def pickM (n : Int) : Int := n * n % 2147483647 * 69621 % 2147483629
def pickF (c k m : Int) : Int := pickM (pickN c k) * pickM (pickN c k) % 2147483587 / 32 % m
abbrev s__law_pick : Stmt := (top 25)
theorem sc__law_pick : FnScope ["_law_cell_here", "_law_k", "_law_many", "_law_number"] ["_law_cell_here", "_law_k", "_law_many"] (defScope s__law_pick) := ⟨rfl, rfl, rfl, by decide +kernel, rfl, by decide +kernel, by decide +kernel⟩
def R_pick : List D → Slot → Prop := fun ds s => ∃ c k m, ds = [.int c, .int k, .int m] ∧ 0 ≤ c ∧ c < 2 ^ 100 ∧ 0 ≤ k ∧ k < 1000 ∧ 0 < m ∧ m < 1000 ∧ s = .sh (.int (pickF c k m))
theorem ok_pick (h : Here K mg "_law_pick" s__law_pick ["_law_cell_here", "_law_k", "_law_many"]) : Prom P w K mg base T (k + 1) "_law_pick" ["_law_cell_here", "_law_k", "_law_many"] R_pick := by
  refine prom_of h sc__law_pick (by rintro ds s ⟨a, b, c, rfl, _⟩; rfl) (by decide) fun f cdv A outer s H E hr => ⟨_, (pss_cons (ps_set (i := 3) sc__law_pick.nd rfl (Or.inl rfl) (pe_op op_modI (pe_op op_addU (pv 0) (pe_op op_mulI pe_int (pv 1))) pe_int))
  (pss_cons (ps_set (i := 3) sc__law_pick.nd rfl (Or.inl rfl) (pe_op op_modI (pe_op op_mulI (pe_op op_modI (pe_op op_mulI (pv 3) (pv 3)) pe_int) pe_int) pe_int))
  (pss_one (ps_ret (pe_op op_modI (pe_op op_divI (pe_op op_modI (pe_op op_mulI (pv 3) (pv 3)) pe_int) pe_int) (pv 2)))))), ?_⟩
  rintro ds s ⟨c, k, m, rfl, h0, h1, h2, h3, h4, h5, rfl⟩
  walk_at "set"
  walk_at "set"
  walk_at "ret"
  rfl
def digitsF : Int → List Int → List Int
  | _, [] => []
  | c, z :: r => c % z :: digitsF (c / z) r
theorem digitsF_snoc : ∀ (zs : List Int) (c z : Int), digitsF c (zs ++ [z]) = digitsF c zs ++ [zs.foldl (· / ·) c % z]
  | [], c, z => rfl
  | y :: zs, c, z => by
    show c % y :: digitsF (c / y) (zs ++ [z]) = _
    rw [digitsF_snoc zs (c / y) z]
    rfl
theorem digitsF_length : ∀ (zs : List Int) (c : Int), (digitsF c zs).length = zs.length
  | [], c => rfl
  | y :: zs, c => by
    show (c % y :: digitsF (c / y) zs).length = _
    rw [List.length_cons, digitsF_length zs, List.length_cons]
abbrev s__law_digits : Stmt := (top 26)
theorem sc__law_digits : FnScope ["_law_cell_here", "_law_sizes", "_law_found", "_law_size"] ["_law_cell_here", "_law_sizes"] (defScope s__law_digits) := ⟨rfl, rfl, rfl, by decide +kernel, rfl, by decide +kernel, by decide +kernel⟩
def R_digits : List D → Slot → Prop := fun ds s => ∃ c zs, ds = [.int c, encI zs] ∧ 0 ≤ c ∧ c < 2 ^ 100 ∧ zs.length ≤ 1000 ∧ (∀ z ∈ zs, 0 < z ∧ z < 2 ^ 30) ∧ s = .ownL ((digitsF c zs).map .int)
theorem ok_digits (h : Here K mg "_law_digits" s__law_digits ["_law_cell_here", "_law_sizes"]) : Prom P w K mg base T (k + 1) "_law_digits" ["_law_cell_here", "_law_sizes"] R_digits := by
  refine prom_of h sc__law_digits (by rintro ds s ⟨a, b, rfl, _⟩; rfl) (by decide) fun f cdv A outer s H E hr => ⟨_, (pss_cons (ps_set (i := 2) sc__law_digits.nd rfl (Or.inl rfl) (pe_lst pa_nil))
  (pss_cons (ps_for PassesOwn.never rfl (k_ilist (pv 1)) (pg_name (i := 3) sc__law_digits.nd rfl (Or.inl rfl))
    (pss_cons (ps_expr (pe_bm PySem.F.plainAttrs_list PySem.F.slot_list_append PySem.F.type_list_append mt_append (pv 2) (pa_cons (pe_op op_modI (pv 0) (pv 3)) pa_nil)))
    (pss_one (ps_set (i := 0) sc__law_digits.nd rfl (Or.inl rfl) (pe_op op_divI (pv 0) (pv 3))))))
  (pss_one (ps_ret (pv 2))))), ?_⟩
  rintro ds s ⟨c, zs, rfl, h0, h1, hz, hs, rfl⟩
  walk_at "set"
  apply does_seq
  apply does_forN (xs := zs) (enc := D.int) (fun i (p : Int) => [.sh (.int p), .sh (encI zs), .ownL ((digitsF c (zs.take i)).map .int), .any]) (fun i p => p = (zs.take i).foldl (· / ·) c ∧ 0 ≤ p ∧ p < 2 ^ 100) c
  case hi => walk_at "il"
  case w0 => walk_at "wk"
  case h0 => exact ⟨rfl, h0, h1⟩
  case hs =>
    rintro i p x hx ⟨hp, p0, p1⟩
    have hx2 := hs x (List.mem_of_getElem? hx)
    have hx0 : 0 < x := hx2.1
    have hxl : x < 2 ^ 30 := hx2.2
    have hlen : ((digitsF c (zs.take i)).map D.int).length < 100000 := by
      rw [List.length_map, digitsF_length, List.length_take]
      omega
    walk_at "app"
    walk_at "set"
    have q0 : 0 ≤ p / x := Int.ediv_nonneg p0 (by omega)
    have q1 : p / x < 2 ^ 100 := Int.lt_of_le_of_lt (Int.ediv_le_self x p0) p1
    refine ⟨p / x, ⟨?_, q0, q1⟩, ?_⟩
    · rw [List.take_add_one, hx, List.foldl_append, ← hp]
      rfl
    · have e : (digitsF c (zs.take i)).map D.int ++ [D.int (p % x)] = (digitsF c (zs.take (i + 1))).map D.int := by
        rw [List.take_add_one, hx]
        show _ = (digitsF c (zs.take i ++ [x])).map D.int
        rw [digitsF_snoc, ← hp, List.map_append]
        rfl
      rw [← e]
      walk_at "wk"
  case hd =>
    rintro p _
    walk_at "mv"
    rw [List.take_length]
    rfl
def nextF (way top bottom b d : Int) : Int :=
  if top = 2 * bottom ∨ (way = 0 ∧ top = bottom) ∨ (way = 1 ∧ top = 0) then top
  else if way = 0 ∧ bottom ≤ top * b - d * bottom then bottom
  else if way = 1 ∧ top * b - d * bottom ≤ 0 then 0
  else if (way = 0 ∧ top * b - d * bottom < 0) ∨ (way = 1 ∧ bottom < top * b - d * bottom) then 2 * bottom
  else top * b - d * bottom
abbrev s__law_next : Stmt := (top 27)
theorem sc__law_next : FnScope ["_law_way", "_law_top", "_law_bottom", "_law_base", "_law_digit", "_law_rest"] ["_law_way", "_law_top", "_law_bottom", "_law_base", "_law_digit"] (defScope s__law_next) := ⟨rfl, rfl, rfl, by decide +kernel, rfl, by decide +kernel, by decide +kernel⟩
def R_next : List D → Slot → Prop := fun ds s => ∃ w t m b d, ds = [.int w, .int t, .int m, .int b, .int d] ∧ 0 ≤ t ∧ t < 100 ∧ 0 ≤ m ∧ m < 100 ∧ 0 ≤ b ∧ b < 10 ∧ 0 ≤ d ∧ d < 10 ∧ s = .sh (.int (nextF w t m b d))
theorem ok_next (h : Here K mg "_law_next" s__law_next ["_law_way", "_law_top", "_law_bottom", "_law_base", "_law_digit"]) : Prom P w K mg base T (k + 1) "_law_next" ["_law_way", "_law_top", "_law_bottom", "_law_base", "_law_digit"] R_next := by
  refine prom_of h sc__law_next (by rintro ds s ⟨a, b, c, d, e, rfl, _⟩; rfl) (by decide) fun f cdv A outer s H E hr => ⟨_, (pss_cons (ps_if (PW.pt (pw_or (pt_cmpR (k_eq hr.units) (pv 1) (pe_op op_mulI pe_int (pv 2)) (nomark _)) (pw_or (PW.pt (pw_and (pt_cmpR (k_eq hr.units) (pv 0) pe_int (nomark _)) (pw_and1 (pt_cmpR (k_eq hr.units) (pv 1) (pv 2) (nomark _))))) (pw_or1 (PW.pt (pw_and (pt_cmpR (k_eq hr.units) (pv 0) pe_int (nomark _)) (pw_and1 (pt_cmpR (k_eq hr.units) (pv 1) pe_int (nomark _)))))))))
    (pss_one (ps_ret (pv 1)))
    pss_nil)
  (pss_cons (ps_set (i := 5) sc__law_next.nd rfl (Or.inl rfl) (pe_op op_subI (pe_op op_mulI (pv 1) (pv 3)) (pe_op op_mulI (pv 4) (pv 2))))
  (pss_cons (ps_if (PW.pt (pw_and (pt_cmpR (k_eq hr.units) (pv 0) pe_int (nomark _)) (pw_and1 (pt_cmpR op_geI (pv 5) (pv 2) (nomark _)))))
    (pss_one (ps_ret (pv 2)))
    pss_nil)
  (pss_cons (ps_if (PW.pt (pw_and (pt_cmpR (k_eq hr.units) (pv 0) pe_int (nomark _)) (pw_and1 (pt_cmpR op_leI (pv 5) pe_int (nomark _)))))
    (pss_one (ps_ret pe_int))
    pss_nil)
  (pss_cons (ps_if (PW.pt (pw_or (PW.pt (pw_and (pt_cmpR (k_eq hr.units) (pv 0) pe_int (nomark _)) (pw_and1 (pt_cmpR op_ltI (pv 5) pe_int (nomark _))))) (pw_or1 (PW.pt (pw_and (pt_cmpR (k_eq hr.units) (pv 0) pe_int (nomark _)) (pw_and1 (pt_cmpR op_gtI (pv 5) (pv 2) (nomark _))))))))
    (pss_one (ps_ret (pe_op op_mulI pe_int (pv 2))))
    pss_nil)
  (pss_one (ps_ret (pv 5)))))))), ?_⟩
  rintro ds s ⟨w, t, m, b, d, rfl, h0, h1, h2, h3, h4, h5, h6, h7, rfl⟩
  have e : ∀ {x : D}, Slot.sh x = .sh (.int (nextF w t m b d)) → retR (.sh (.int (nextF w t m b d))) (.rt (.sh x)) := fun h => h
  have n1 : 0 ≤ t * b ∧ t * b ≤ 1000 := by
    have := Int.mul_nonneg h0 h4
    have := Int.mul_le_mul (show t ≤ 100 by omega) (show b ≤ 10 by omega) h4 (by omega)
    omega
  have n2 : 0 ≤ d * m ∧ d * m ≤ 1000 := by
    have := Int.mul_nonneg h6 h2
    have := Int.mul_le_mul (show d ≤ 10 by omega) (show m ≤ 100 by omega) h2 (by omega)
    omega
  walk_at "if"
  · intro hb
    have q : t = 2 * m ∨ (w = 0 ∧ t = m) ∨ (w = 1 ∧ t = 0) := by simpa using hb
    walk_at "ret"
    apply e
    unfold nextF
    rw [if_pos q]
  · intro hb
    have q : ¬ (t = 2 * m ∨ (w = 0 ∧ t = m) ∨ (w = 1 ∧ t = 0)) := by
      rw [← Bool.not_eq_true] at hb
      intro z
      apply hb
      simpa using z
    walk_at "nx"
    walk_at "set"
    walk_at "if"
    · intro hb2
      have q2 : w = 0 ∧ m ≤ t * b - d * m := by simpa using hb2
      walk_at "ret"
      apply e
      unfold nextF
      rw [if_neg q, if_pos q2]
    · intro hb2
      have q2 : ¬ (w = 0 ∧ m ≤ t * b - d * m) := by
        rw [← Bool.not_eq_true] at hb2
        intro z
        apply hb2
        simpa using z
      walk_at "nx"
      walk_at "if"
      · intro hb3
        have q3 : w = 1 ∧ t * b - d * m ≤ 0 := by simpa using hb3
        walk_at "ret"
        apply e
        unfold nextF
        rw [if_neg q, if_neg q2, if_pos q3]
      · intro hb3
        have q3 : ¬ (w = 1 ∧ t * b - d * m ≤ 0) := by
          rw [← Bool.not_eq_true] at hb3
          intro z
          apply hb3
          simpa using z
        walk_at "nx"
        walk_at "if"
        · intro hb4
          have q4 : (w = 0 ∧ t * b - d * m < 0) ∨ (w = 1 ∧ m < t * b - d * m) := by simpa using hb4
          walk_at "ret"
          apply e
          unfold nextF
          rw [if_neg q, if_neg q2, if_neg q3, if_pos q4]
        · intro hb4
          have q4 : ¬ ((w = 0 ∧ t * b - d * m < 0) ∨ (w = 1 ∧ m < t * b - d * m)) := by
            rw [← Bool.not_eq_true] at hb4
            intro z
            apply hb4
            simpa using z
          walk_at "nx"
          walk_at "ret"
          apply e
          unfold nextF
          rw [if_neg q, if_neg q2, if_neg q3, if_neg q4]
local macro_rules | `(tactic| walk_at "rel") => `(tactic| exact ⟨_, _, _, _, _, rfl, by omega, by omega, by omega, by omega, by omega, by omega, by omega, by omega, rfl⟩)
/-- one digit's turn: the rooms, the step -/
def dueD (w m b : Int) (kk : Nat) (p : List Int × List Int) (d : Nat) : List Int × List Int :=
  let r := nextF w (p.1.getD kk 0) m b d
  let rooms := if r ∈ p.1 then p.1 else p.1 ++ [r]
  (rooms, p.2 ++ [(rooms.idxOf r : Int)])
def dueK (w m b : Int) (p : List Int × List (List Int)) (kk : Nat) : List Int × List (List Int) :=
  if kk < p.1.length then
    let q := (List.range b.toNat).foldl (dueD w m b kk) (p.1, [])
    (q.1, p.2 ++ [q.2])
  else p
def dueP (w t m b : Int) : List Int × List (List Int) := (List.range (m + 2).toNat).foldl (dueK w m b) ([t], [])
def dueR (w t m b : Int) : List Int := (dueP w t m b).1.map fun r => if r = 2 * m then 1 else 0
theorem nextF_lt {w t m b d : Int} (h0 : 0 ≤ t) (h1 : t ≤ 2 * m) (hm : 0 < m) : (w = 0 ∨ w = 1) → 0 ≤ nextF w t m b d ∧ nextF w t m b d ≤ 2 * m := by
  intro hw
  unfold nextF
  split
  · omega
  · split
    · omega
    · split
      · omega
      · split
        · omega
        · rename_i a1 a2 a3 a4
          generalize t * b - d * m = x at *
          omega
abbrev s__law_due : Stmt := (top 28)
theorem sc__law_due : FnScope ["_law_way", "_law_top", "_law_bottom", "_law_base", "_law_rooms", "_law_steps", "_law_k", "_law_step", "_law_digit", "_law_rest"] ["_law_way", "_law_top", "_law_bottom", "_law_base"] (defScope s__law_due) := ⟨rfl, rfl, rfl, by decide +kernel, rfl, by decide +kernel, by decide +kernel⟩
def R_due : List D → Slot → Prop := fun ds s => ∃ w t m b, ds = [.int w, .int t, .int m, .int b] ∧ (w = 0 ∨ w = 1) ∧ 0 ≤ t ∧ t ≤ m ∧ 1 ≤ m ∧ m ≤ 6 ∧ 2 ≤ b ∧ b ≤ 3 ∧ s = .sh (.tup [encS (dueP w t m b).2, encI (dueR w t m b)])
theorem ok_due (h : Here K mg "_law_due" s__law_due ["_law_way", "_law_top", "_law_bottom", "_law_base"]) (Z : Bn mg) (G__law_next : Prom P w K mg base T k "_law_next" ["_law_way", "_law_top", "_law_bottom", "_law_base", "_law_digit"] R_next) : Prom P w K mg base T (k + 1) "_law_due" ["_law_way", "_law_top", "_law_bottom", "_law_base"] R_due := by
  refine prom_of h sc__law_due (by rintro ds s ⟨a, b, c, d, rfl, _⟩; rfl) (by decide) fun f cdv A outer s H E hr => ⟨_, (pss_cons (ps_set (i := 4) sc__law_due.nd rfl (Or.inl rfl) (pe_lst (pa_cons (pv 1) pa_nil)))
  (pss_cons (ps_set (i := 5) sc__law_due.nd rfl (Or.inl rfl) (pe_lst pa_nil))
  (pss_cons (ps_for PassesOwn.never rfl (pi_range1 rfl Z.range (pa_cons (pe_op op_addU (pv 2) pe_int) pa_nil)) (pg_name (i := 6) sc__law_due.nd rfl (Or.inl rfl))
    (pss_one (ps_if (pt_cmpR op_ltI (pv 6) (pe_callB k_len (by rfl) Z.len PySem.boot_len (pa_cons (pv 4) pa_nil)) (nomark _))
      (pss_cons (ps_set (i := 7) sc__law_due.nd rfl (Or.inl rfl) (pe_lst pa_nil))
      (pss_cons (ps_for PassesOwn.never rfl (pi_range1 rfl Z.range (pa_cons (pv 3) pa_nil)) (pg_name (i := 8) sc__law_due.nd rfl (Or.inl rfl))
        (pss_cons (ps_set (i := 9) sc__law_due.nd rfl (Or.inl rfl) (k_prom G__law_next (hr.mono (by omega)) rfl (pa_cons (pv 0) (pa_cons (k_ix (hu_of hr) (pv 4) (pv 6)) (pa_cons (pv 2) (pa_cons (pv 3) (pa_cons (pv 8) pa_nil)))))))
        (pss_cons (ps_if (pt_cmpR (k_notIn (hu_of hr)) (pv 9) (pv 4) rfl)
          (pss_one (ps_expr (pe_bm PySem.F.plainAttrs_list PySem.F.slot_list_append PySem.F.type_list_append mt_append (pv 4) (pa_cons (pv 9) pa_nil))))
          pss_nil)
        (pss_one (ps_expr (pe_bm PySem.F.plainAttrs_list PySem.F.slot_list_append PySem.F.type_list_append mt_append (pv 7) (pa_cons (pe_bm PySem.F.plainAttrs_list PySem.F.slot_list_index PySem.F.type_list_index mt_index (pv 4) (pa_cons (pv 9) pa_nil)) pa_nil)))))))
      (pss_one (ps_expr (pe_bm PySem.F.plainAttrs_list PySem.F.slot_list_append PySem.F.type_list_append mt_append (pv 5) (pa_cons (pv 7) pa_nil))))))
      pss_nil)))
  (pss_one (ps_ret (pe_tup (pa_cons (pv 5) (pa_cons (pe_lc (own := [("_law_rest", 9)]) (g := gName 9) rfl sc__law_due.nd (k_ilist (pv 4)) (blkOk_by (N := ["_law_way", "_law_top", "_law_bottom", "_law_base", "_law_rooms", "_law_steps", "_law_k", "_law_step", "_law_digit", "_law_rest"]) (sc := defScope s__law_due) (by decide +kernel)) (fun _ _ _ _ _ => (pg_name (i := 9) sc__law_due.nd rfl (Or.inl rfl))) (fun _ _ _ _ _ => pts_nil) (fun _ _ _ _ _ => (pe_callTy call_intU (by rfl) Z.int (by decide +kernel) (pa_cons (pe_cmpR (k_eq hr.units) (pv 9) (pe_op op_mulI pe_int (pv 2)) (nomark _)) pa_nil)))) pa_nil)))))))), ?_⟩
  rintro ds s ⟨wy, t, m, b, rfl, hw, h0, h1, h2, h3, h4, h5, rfl⟩
  walk_at "set"
  walk_at "set"
  apply does_seq
  apply does_forR (fun (i : Nat) (p : List Int × List (List Int)) => [.sh (.int wy), .sh (.int t), .sh (.int m), .sh (.int b), .ownL (p.1.map .int), .ownL (p.2.map encI), .any, .any, .any, .any])
    (fun i p => p = (List.range i).foldl (dueK wy m b) ([t], []) ∧ p.1.length ≤ 1 + 3 * i ∧ p.2.length ≤ i ∧ ∀ r ∈ p.1, 0 ≤ r ∧ r ≤ 2 * m) ([t], [])
  case hi => walk_at "ea"
  case hj => omega
  case w0 => walk_at "wk"
  case h0 => exact ⟨rfl, by simp, by simp, by simp; omega⟩
  case hs =>
    rintro i ⟨rooms, steps⟩ hi ⟨hp, hl1, hl2, hr⟩
    walk_at "if"
    · intro hb
      have hk : i < rooms.length := by simpa using hb
      have hr : ∀ r ∈ rooms, 0 ≤ r ∧ r ≤ 2 * m := hr
      have hl1 : rooms.length ≤ 1 + 3 * i := hl1
      have hl2 : steps.length ≤ i := hl2
      walk_at "set"
      apply does_seq
      apply does_forR (fun (j : Nat) (q : List Int × List Int) => [.sh (.int wy), .sh (.int t), .sh (.int m), .sh (.int b), .ownL (q.1.map .int), .ownL (steps.map encI), .sh (.int i), .ownL (q.2.map .int), .any, .any])
        (fun j q => q = (List.range j).foldl (dueD wy m b i) (rooms, []) ∧ q.1.length ≤ rooms.length + j ∧ q.2.length ≤ j ∧ i < q.1.length ∧ ∀ r ∈ q.1, 0 ≤ r ∧ r ≤ 2 * m) (rooms, [])
      case hi => walk_at "ea"
      case hj => omega
      case w0 => walk_at "wk"
      case h0 => exact ⟨rfl, by simp, by simp, hk, hr⟩
      case hs =>
        rintro j ⟨rs, st⟩ hj ⟨hq, g1, g2, g3, g4⟩
        have g1 : rs.length ≤ rooms.length + j := g1
        have g2 : st.length ≤ j := g2
        have g3 : i < rs.length := g3
        have g4 : ∀ r ∈ rs, 0 ≤ r ∧ r ≤ 2 * m := g4
        have ht : rs.getD i 0 ∈ rs := by
          simp [List.getD, List.getElem?_eq_getElem g3]
        have ht2 := g4 _ ht
        have ha : atI (rs.map D.int) ((i : Nat) : Int) = some (.int (rs.getD i 0)) := by
          refine atI_nat ?_
          rw [List.getElem?_map]
          simp [List.getD, List.getElem?_eq_getElem g3]
        have hn := nextF_lt (w := wy) (b := b) (d := (j : Int)) ht2.1 ht2.2 (by omega) hw
        generalize hre : nextF wy (rs.getD i 0) m b j = r at hn
        have hc : EvS K (plainA T) (tCall (spR K T R_next) [] E0 (tCons (tVar 0) (tCons (tIxU K (tVar 4) (tVar 6)) (tCons (tVar 2) (tCons (tVar 3) (tCons (tVar 8) tNil)))))) [.sh (.int wy), .sh (.int t), .sh (.int m), .sh (.int b), .ownL (rs.map .int), .ownL (steps.map encI), .sh (.int i), .ownL (st.map .int), .sh (.int j), .any]
            [.sh (.int wy), .sh (.int t), .sh (.int m), .sh (.int b), .ownL (rs.map .int), .ownL (steps.map encI), .sh (.int i), .ownL (st.map .int), .sh (.int j), .any] (.sh (.int r)) := by
          rw [← hre]
          walk_at "ev"
        apply does_seq
        apply does_set
        case h => exact hc
        have fold : ∀ rs' st', dueD wy m b i (rs, st) j = (rs', st') → (rs', st') = (List.range (j + 1)).foldl (dueD wy m b i) (rooms, []) := fun rs' st' e => by
          rw [List.range_succ, List.foldl_append, ← hq, ← e]
          rfl
        have z1 : (rs.map D.int).length < 100000 := by rw [List.length_map]; omega
        have z2 : (st.map D.int).length < 100000 := by rw [List.length_map]; omega
        walk_at "if"
        · intro hb2
          have hm : ¬ r ∈ rs := by simpa using hb2
          walk_at "app"
          have e1 : rs.map D.int ++ [D.int r] = (rs ++ [r]).map .int := by rw [List.map_append]; rfl
          have hmem : r ∈ rs ++ [r] := by simp
          rw [e1]
          show DoesS K (plainA T) _ [.sh (.int wy), .sh (.int t), .sh (.int m), .sh (.int b), .ownL ((rs ++ [r]).map .int), .ownL (steps.map encI), .sh (.int i), .ownL (st.map .int), .sh (.int j), .sh (.int r)] _
          walk_at "app"
          refine ⟨(rs ++ [r], st ++ [((rs ++ [r]).idxOf r : Int)]), ⟨fold _ _ ?_, ?_, ?_, ?_, ?_⟩, ?_⟩
          · unfold dueD
            simp only [hre, hm, if_false]
          · show (rs ++ [r]).length ≤ rooms.length + (j + 1); simp; omega
          · show (st ++ [_]).length ≤ j + 1; simp; omega
          · show i < (rs ++ [r]).length; simp; omega
          · intro x hx
            rcases List.mem_append.mp hx with z | z
            · exact g4 x z
            · rw [List.mem_singleton.mp z]; omega
          · rw [List.map_append (l₁ := st)]
            walk_at "wk"
        · intro hb2
          have hm : r ∈ rs := by simpa using hb2
          walk_at "nx"
          walk_at "app"
          refine ⟨(rs, st ++ [(rs.idxOf r : Int)]), ⟨fold _ _ ?_, ?_, ?_, g3, g4⟩, ?_⟩
          · unfold dueD
            simp only [hre, hm, if_true]
          · show rs.length ≤ rooms.length + (j + 1); omega
          · show (st ++ [_]).length ≤ j + 1; simp; omega
          · rw [List.map_append]
            walk_at "wk"
      case hd =>
        rintro ⟨rs, st⟩ ⟨hq, g1, g2, g3, g4⟩
        have g1 : rs.length ≤ rooms.length + b.toNat := g1
        have z2 : (steps.map encI).length < 100000 := by rw [List.length_map]; omega
        show DoesS K (plainA T) _ [.sh (.int wy), .sh (.int t), .sh (.int m), .sh (.int b), .ownL (rs.map .int), .ownL (steps.map encI), .sh (.int i), .ownL (st.map .int), .any, .any] _
        walk_at "app"
        refine ⟨(rs, steps ++ [st]), ⟨?_, ?_, ?_, g4⟩, ?_⟩
        · rw [List.range_succ, List.foldl_append, ← hp]
          show _ = dueK wy m b (rooms, steps) i
          unfold dueK
          rw [if_pos hk]
          show (rs, steps ++ [st]) = (((List.range b.toNat).foldl (dueD wy m b i) (rooms, [])).1, steps ++ [((List.range b.toNat).foldl (dueD wy m b i) (rooms, [])).2])
          rw [← hq]
        · show rs.length ≤ 1 + 3 * (i + 1); omega
        · show (steps ++ [st]).length ≤ i + 1; simp; omega
        · rw [List.map_append]
          walk_at "wk"
    · intro hb
      have hk : ¬ i < rooms.length := by simpa using hb
      walk_at "nx"
      refine ⟨(rooms, steps), ⟨?_, by simp at hl1 ⊢; omega, by simp at hl2 ⊢; omega, hr⟩, by walk_at "wk"⟩
      rw [List.range_succ, List.foldl_append, ← hp]
      show _ = dueK wy m b (rooms, steps) i
      unfold dueK
      rw [if_neg hk]
  case hd =>
    rintro ⟨rooms, steps⟩ ⟨hp, hl1, hl2, hr⟩
    have hl1 : rooms.length ≤ 1 + 3 * (m + 2).toNat := hl1
    have e1 : (dueP wy t m b).1 = rooms := by unfold dueP; rw [← hp]
    have e2 : (dueP wy t m b).2 = steps := by unfold dueP; rw [← hp]
    show DoesS K (plainA T) _ [.sh (.int wy), .sh (.int t), .sh (.int m), .sh (.int b), .ownL (rooms.map .int), .ownL (steps.map encI), .any, .any, .any, .any] _
    have hlc : EvS K (plainA T) (tLc (iList K (tVar 4)) (gName 9) tYes (tCB rInt1 (tCons (tOp (rEqU K) (tVar 9) (tOp rMulI (tC (.int 2)) (tVar 2))) tNil)) [9]) [.sh (.int wy), .sh (.int t), .sh (.int m), .sh (.int b), .ownL (rooms.map .int), .sh (.lst (steps.map encI)), .any, .any, .any, .any]
        [.sh (.int wy), .sh (.int t), .sh (.int m), .sh (.int b), .sh (.lst (rooms.map .int)), .sh (.lst (steps.map encI)), .any, .any, .any, .any] (.ownL (rooms.map fun r => .int (if decide (r = 2 * m) then 1 else 0))) := by
      apply ev_lcN (xs := rooms) (enc := D.int) (f := fun r => .int (if decide (r = 2 * m) then 1 else 0))
      case hi => walk_at "il"
      case hw => rfl
      case hz => omega
      case hnr => rfl
      case hs =>
        intro i x _
        walk_at "ev"
    apply does_ret
    case h =>
      apply ev_tupD
      case h =>
        apply ed_cons
        case h => exact ev_var_own rfl
        case t =>
          apply ed_cons
          case h => exact ev_frz hlc
          case t => exact ed_nil
      case hz => exact Nat.le_of_ble_eq_true rfl
    show Slot.sh _ = Slot.sh _
    unfold dueR
    rw [e1, e2]
    show Slot.sh (.tup [.lst (steps.map encI), .lst _]) = .sh (.tup [.lst (steps.map encI), .lst _])
    congr 5
    rw [List.map_map]
    apply List.map_congr_left
    intro r _
    show D.int _ = D.int _
    by_cases h : r = 2 * m
    · simp [h]
    · simp [h]
end
end Lp

namespace Lp
open PySem L2 NdefX Fx
local macro_rules | `(tactic| walk_at "side") => `(tactic| first
  | assumption
  | ((with_reducible show CMulW _ _); exact cmul (by omega) (by omega))
  | ((with_reducible show CDivW _ _); exact cdiv (by omega) (by omega))
  | ((with_reducible show (_ : Int) < _); first | omega | decide)
  | ((with_reducible show (_ : Nat) < _); omega)
  | ((with_reducible show (_ : Nat) ≤ _); omega)
  | rfl)
local macro_rules | `(tactic| walk_at "ev") => `(tactic| first
  | assumption
  | exact ev_int | exact ev_str | exact ev_bl | exact ev_non
  | exact ev_var rfl | exact ev_var_rdL rfl | exact ev_var_rdK rfl | exact ev_rd (ev_var rfl) | exact ev_var_own rfl
  | (apply ev_add <;> walk_at "ev")
  | (apply ev_sub <;> walk_at "ev")
  | (apply ev_mul <;> first | walk_at "ev" | walk_at "side")
  | (apply ev_mod <;> first | walk_at "ev" | walk_at "side")
  | (apply ev_div <;> first | walk_at "ev" | walk_at "side")
  | (apply ev_lt <;> walk_at "ev") | (apply ev_le <;> walk_at "ev") | (apply ev_gt <;> walk_at "ev") | (apply ev_ge <;> walk_at "ev")
  | (apply ev_eqI <;> walk_at "ev") | (apply ev_neI <;> walk_at "ev")
  | (apply ev_inL <;> walk_at "ev") | (apply ev_notInL <;> walk_at "ev")
  | (apply ev_inD <;> walk_at "ev") | (apply ev_notInD <;> walk_at "ev")
  | (apply ev_notV; walk_at "ev")
  | (apply ev_andV; (case h => walk_at "ev"); (case h2 => (intro _; walk_at "ev")))
  | (apply ev_orV; (case h => walk_at "ev"); (case h2 => (intro _; walk_at "ev")))
  | (apply ev_len; walk_at "ev") | (apply ev_lenT; walk_at "ev") | (apply ev_lenR; walk_at "ev") | (apply ev_lenD; walk_at "ev")
  | (apply ev_lenS <;> first | walk_at "ev" | decide | omega)
  | (apply ev_intB; walk_at "ev") | (apply ev_max2 <;> walk_at "ev") | (apply ev_min2 <;> walk_at "ev")
  | (apply ev_chain; (case ha => walk_at "ev"); (case hb => walk_at "ev"); (case h1 => walk_at "rs"); (case hc => walk_at "ev"); (case h2 => walk_at "rs"))
  | (apply ev_listc; walk_at "ev")
  | (apply ev_ixL <;> first | walk_at "ev" | walk_at "side")
  | (apply ev_ixT <;> first | walk_at "ev" | walk_at "side")
  | (apply ev_ixR <;> first | walk_at "ev" | walk_at "side")
  | (apply ev_ixD <;> first | walk_at "ev" | walk_at "side")
  | (apply ev_pow <;> first | walk_at "ev" | (refine ⟨by decide, by decide, by decide⟩))
  | (apply ev_index <;> first | walk_at "ev" | walk_at "side")
  | (apply ev_neg; walk_at "ev")
  | (apply ev_fld <;> first | walk_at "ev" | assumption | rfl)
  | (apply ev_callD; (case h => walk_at "ed"); (case hr => walk_at "rel"))
  | (apply ev_makeD; (case h => walk_at "ed"); (case hr => walk_at "rel"))
  | (apply ev_methD; (case ho => walk_at "ev"); (case h => walk_at "ed"); (case hr => walk_at "rel"); (case hm => rfl))
  | (apply ev_tupD; (case h => walk_at "ed"); (case hz => exact Nat.le_of_ble_eq_true rfl))
  | (apply ev_lstD; (case h => walk_at "ed"); (case hz => exact Nat.le_of_ble_eq_true rfl))
  | ((first | apply ev_isInt | apply ev_isBool | apply ev_isList | apply ev_isStr | apply ev_isTuple) <;> first | walk_at "ev" | rfl | assumption)
  | (apply ev_frz; walk_at "ev") | (apply ev_frzK; walk_at "ev") | (apply ev_rd; walk_at "ev"))
local macro_rules | `(tactic| walk_at "rs") => `(tactic| first
  | exact rs_cmp | exact rs_eqI | exact rs_neI)
local macro_rules | `(tactic| walk_at "ed") => `(tactic| first
  | exact ed_nil
  | (apply ed_cons; (case h => walk_at "ev"); (case t => walk_at "ed")))
local macro_rules | `(tactic| walk_at "ea") => `(tactic| first
  | exact ea_nil
  | (apply ea_cons; (case h => walk_at "ev"); (case t => walk_at "ea")))
-- x = e; ..
local macro_rules | `(tactic| walk_at "set") => `(tactic| first
  | (apply does_seq; apply does_set; (case h => walk_at "ev"))
  | (apply does_set; (case h => walk_at "ev")))
local macro_rules | `(tactic| walk_at "ret") => `(tactic| (apply does_ret; (case h => walk_at "ev")))
local macro_rules | `(tactic| walk_at "tb") => `(tactic| first
  | (apply eb_not; walk_at "tb")
  | (apply eb_or; (case h => walk_at "tb"); (case h2 => (intro _; walk_at "tb")))
  | (apply eb_and; (case h => walk_at "tb"); (case h2 => (intro _; walk_at "tb")))
  | (apply eb_test; walk_at "ev")
  | (apply eb_B; walk_at "ev"))
-- if c: ..
local macro_rules | `(tactic| walk_at "if") => `(tactic| first
  | (apply does_seq; apply does_if; (case h => walk_at "tb"))
  | (apply does_if; (case h => walk_at "tb")))
local macro_rules | `(tactic| walk_at "wk") => `(tactic| repeat (first | exact Wk.nil | apply Wk.same | apply Wk.any))
-- for x in xs: the list is data
local macro_rules | `(tactic| walk_at "il") => `(tactic| first
  | (apply ei_list; walk_at "ev")
  | (apply ei_scr; walk_at "ev")
  | (apply ei_rng1 <;> first | walk_at "ea" | omega))
-- a break, a continue, pass
local macro_rules | `(tactic| walk_at "nx") => `(tactic| first | apply does_next | apply does_break | apply does_cont)
local macro_rules | `(tactic| walk_at "app") => `(tactic| first
  | (apply does_seq; apply does_app; (case he => walk_at "ev"); (case h0 => rfl); (case h => rfl); (case hz => walk_at "side"); (case nr => rfl))
  | (apply does_app; (case he => walk_at "ev"); (case h0 => rfl); (case h => rfl); (case hz => walk_at "side"); (case nr => rfl)))
local macro_rules | `(tactic| walk_at "mv") => `(tactic| (apply does_ret; (case h => exact ev_var_mv rfl (by intro z; cases z))))

local macro_rules | `(tactic| walk_at "rel") => `(tactic| exact r_shared)
section
variable {P : Program} {w : World} {K : PySem.W.Frag} {mg : Str → Option Value} {base : Heap} {T : List NTab} {k j : Nat} {CM : Addr}
structure Onw where
  onw : Int → Int → Int
  dom : Int → Prop
  b : Int
def R_on (o : Onw) : List D → Slot → Prop := fun ds s => ∃ l d, ds = [.int l, .int d] ∧ o.dom l ∧ 0 ≤ d ∧ d < o.b ∧ s = .sh (.int (o.onw l d))
def mbD (onw : Int → Int → Int) (kk : Nat) (p : List Int × List Int) (d : Nat) : List Int × List Int :=
  let r := onw (p.1.getD kk 0) d
  let line := if r ∈ p.1 then p.1 else p.1 ++ [r]
  (line, p.2 ++ [(line.idxOf r : Int)])
def mbS (onw : Int → Int → Int) (b : Int) (p : List Int × List (List Int)) : List Int × List (List Int) :=
  let q := (List.range b.toNat).foldl (mbD onw p.2.length) (p.1, [])
  (q.1, p.2 ++ [q.2])
def mbLoop (onw : Int → Int → Int) (b : Int) : Nat → List Int × List (List Int) → List Int × List (List Int)
  | 0, p => p
  | n + 1, p => if p.2.length < p.1.length then mbLoop onw b n (mbS onw b p) else p
def ranksOf (line : List Int) : List Int := line.map fun l => if l = -1 then 1 else 0
def R_machine_by (CM : Addr) (f : Addr) (o : Onw) : List D → Slot → Prop := fun ds s => ∃ t n res, ds = [.int t, .int o.b, .adr f] ∧ o.dom t ∧ (∀ l d, o.dom l → 0 ≤ d → d < o.b → o.dom (o.onw l d)) ∧ 2 ≤ o.b ∧ o.b ≤ 3 ∧ mbLoop o.onw o.b n ([t], []) = res ∧
  res.2.length = res.1.length ∧ res.1.length ≤ 8 ∧ stepsB res.2 = true ∧ ranksB res.2.length (ranksOf res.1) = true ∧ s = .sh (.obj CM (machF res.2 (ranksOf res.1)))
theorem mbD_len (onw : Int → Int → Int) (kk : Nat) (p : List Int × List Int) (d : Nat) : p.1.length ≤ (mbD onw kk p d).1.length := by
  show p.1.length ≤ (if onw (p.1.getD kk 0) d ∈ p.1 then p.1 else p.1 ++ [onw (p.1.getD kk 0) d]).length
  split
  · exact Nat.le_refl _
  · simp
theorem mbF_len (onw : Int → Int → Int) (kk : Nat) : ∀ (l : List Nat) (p : List Int × List Int), p.1.length ≤ (l.foldl (mbD onw kk) p).1.length
  | [], p => Nat.le_refl _
  | d :: l, p => Nat.le_trans (mbD_len onw kk p d) (mbF_len onw kk l _)
theorem mbLoop_len (onw : Int → Int → Int) (b : Int) : ∀ (n : Nat) (p : List Int × List (List Int)), p.1.length ≤ (mbLoop onw b n p).1.length ∧ p.2.length ≤ (mbLoop onw b n p).2.length
  | 0, p => ⟨Nat.le_refl _, Nat.le_refl _⟩
  | n + 1, p => by
    unfold mbLoop
    split
    · have h := mbLoop_len onw b n (mbS onw b p)
      have h1 := mbF_len onw p.2.length (List.range b.toNat) (p.1, [])
      refine ⟨Nat.le_trans h1 h.1, Nat.le_trans ?_ h.2⟩
      unfold mbS
      simp
    · exact ⟨Nat.le_refl _, Nat.le_refl _⟩
def knownFrom : Nat → List Int → List (Key × D)
  | _, [] => []
  | n, l :: r => (.inl l, .int n) :: knownFrom (n + 1) r
theorem known_val : ∀ (n : Nat) (line : List Int) (g : Int), valD (knownFrom n line) (.inl g) = if g ∈ line then some (.int ((n + line.idxOf g : Nat) : Int)) else none
  | n, [], g => rfl
  | n, l :: r, g => by
    by_cases e : l = g
    · subst e
      simp [knownFrom, valD, List.find?_cons]
    · have ih := known_val (n + 1) r g
      have h1 : valD (knownFrom n (l :: r)) (.inl g) = valD (knownFrom (n + 1) r) (.inl g) := by
        unfold valD
        rw [knownFrom, List.find?_cons]
        have : decide ((.inl l : Key) = .inl g) = false := decide_eq_false fun z => e (Sum.inl.inj z)
        simp only [this]
      rw [h1, ih]
      have e2 : ¬ g = l := fun z => e z.symm
      by_cases hm : g ∈ r
      · rw [if_pos hm, if_pos (List.mem_cons_of_mem _ hm), List.idxOf_cons]
        have : (l == g) = false := by simpa using e
        rw [this]
        simp only [cond_false]
        congr 3
        omega
      · rw [if_neg hm, if_neg (by simp [e2, hm])]
theorem known_snoc : ∀ (n : Nat) (line : List Int) (g : Int), knownFrom n (line ++ [g]) = knownFrom n line ++ [(.inl g, .int ((n + line.length : Nat) : Int))]
  | n, [], g => rfl
  | n, l :: r, g => by
    rw [List.cons_append, knownFrom, known_snoc (n + 1) r g, knownFrom, List.cons_append, List.length_cons]
    congr 5
    omega
theorem known_any : ∀ (n : Nat) (line : List Int) (g : Int), ((knownFrom n line).any fun kv => decide (kv.1 = .inl g)) = decide (g ∈ line)
  | n, [], g => rfl
  | n, l :: r, g => by
    rw [knownFrom, List.any_cons, known_any (n + 1) r g]
    by_cases e : l = g
    · subst e
      simp
    · have e2 : ¬ g = l := fun z => e z.symm
      have : decide ((.inl l : Key) = .inl g) = false := decide_eq_false fun z => e (Sum.inl.inj z)
      rw [this, Bool.false_or]
      simp [e2]
theorem known_put {line : List Int} {g : Int} (h : ¬ g ∈ line) : putD (knownFrom 0 line) (.inl g) (.int (line.length : Nat)) = knownFrom 0 (line ++ [g]) := by
  unfold putD
  rw [known_any, decide_eq_false h, known_snoc]
  simp
theorem known_len : ∀ (n : Nat) (line : List Int), (knownFrom n line).length = line.length
  | n, [] => rfl
  | n, l :: r => by rw [knownFrom, List.length_cons, known_len (n + 1) r, List.length_cons]
theorem r_Machine {ss : List (List Int)} {rs : List Int} (h1 : stepsB ss = true) (h2 : ranksB ss.length rs = true) : R_Machine [encS ss, encI rs] (machF ss rs) := ⟨ss, rs, rfl, h1, h2, rfl⟩
local macro_rules | `(tactic| walk_at "rel") => `(tactic| exact r_Machine (by assumption) (by assumption))
abbrev s_machine_by : Stmt := (top 20)
theorem sc_machine_by : FnScope ["start", "base", "onward", "known", "line", "steps", "step", "digit", "goal", "left"] ["start", "base", "onward"] (defScope s_machine_by) := ⟨rfl, rfl, rfl, by decide +kernel, rfl, by decide +kernel, by decide +kernel⟩
theorem ok_machine_by (h : Here K mg "machine_by" s_machine_by ["start", "base", "onward"]) (Z : Bn mg) (gO : ∃ u, mg "OUT" = some u ∧ RelV (.int (-1)) u) (G_Machine : PromC P w K mg base T k CM "Machine" ["self", "steps", "ranks"] R_Machine) :
    PromF P w K mg base T (k + 1) (k + 2) "machine_by" ["start", "base", "onward"] ["left", "digit"] R_on (R_machine_by CM) := by
  obtain ⟨u, g_OUT, r_OUT⟩ := gO
  refine promF_of h sc_machine_by (by rintro f o ds s ⟨t, n, res, rfl, _⟩; rfl) (by decide) fun fc F fr ws o No f cdv A outer s H E hr C nf => ⟨_, (pss_cons (ps_set (i := 3) sc_machine_by.nd rfl (Or.inl rfl) (pe_disp (pps_cons (pv 0) pe_int pps_nil) (by rfl) (by rfl) (fun z => by cases z) (by decide)))
  (pss_cons (ps_set (i := 4) sc_machine_by.nd rfl (Or.inl rfl) (pe_lst (pa_cons (pv 0) pa_nil)))
  (pss_cons (ps_set (i := 5) sc_machine_by.nd rfl (Or.inl rfl) (pe_lst pa_nil))
  (pss_cons (ps_while PassesOwn.never (pt_cmpR op_ltI (pe_callB k_len (by rfl) Z.len PySem.boot_len (pa_cons (pv 5) pa_nil)) (pe_callB k_len (by rfl) Z.len PySem.boot_len (pa_cons (pv 4) pa_nil)) (nomark _))
    (pss_cons (ps_set (i := 6) sc_machine_by.nd rfl (Or.inl rfl) (pe_lst pa_nil))
    (pss_cons (ps_for PassesOwn.never rfl (pi_range1 rfl Z.range (pa_cons (pv 1) pa_nil)) (pg_name (i := 7) sc_machine_by.nd rfl (Or.inl rfl))
      (pss_cons (ps_set (i := 8) sc_machine_by.nd rfl (Or.inl rfl) (pe_callC (i := 2) No C nf rfl hr rfl (Or.inl rfl) (pa_cons (k_ix (hu_of hr) (pv 4) (pe_callB k_len (by rfl) Z.len PySem.boot_len (pa_cons (pv 5) pa_nil))) (pa_cons (pv 7) pa_nil))))
      (pss_cons (ps_if (pt_cmpR (k_notIn (hu_of hr)) (pv 8) (pv 3) rfl)
        (pss_cons (ps_dput (hu_of hr) (pv 3) (pv 8) (pe_callB k_len (by rfl) Z.len PySem.boot_len (pa_cons (pv 4) pa_nil)) rfl)
        (pss_one (ps_expr (pe_bm PySem.F.plainAttrs_list PySem.F.slot_list_append PySem.F.type_list_append mt_append (pv 4) (pa_cons (pv 8) pa_nil)))))
        pss_nil)
      (pss_one (ps_expr (pe_bm PySem.F.plainAttrs_list PySem.F.slot_list_append PySem.F.type_list_append mt_append (pv 6) (pa_cons (k_ix (hu_of hr) (pv 3) (pv 8)) pa_nil)))))))
    (pss_one (ps_expr (pe_bm PySem.F.plainAttrs_list PySem.F.slot_list_append PySem.F.type_list_append mt_append (pv 5) (pa_cons (pv 6) pa_nil)))))))
  (pss_one (ps_ret (k_promC G_Machine hr rfl (pa_cons (pv 5) (pa_cons (pe_lc (own := [("left", 9)]) (g := gName 9) rfl sc_machine_by.nd (k_ilist (pv 4)) (blkOk_by (N := ["start", "base", "onward", "known", "line", "steps", "step", "digit", "goal", "left"]) (sc := defScope s_machine_by) (by decide +kernel)) (fun _ _ _ _ _ => (pg_name (i := 9) sc_machine_by.nd rfl (Or.inl rfl))) (fun _ _ _ _ _ => pts_nil) (fun _ _ _ _ _ => (pe_callTy call_intU (by rfl) Z.int (by decide +kernel) (pa_cons (pe_cmpR (k_eq hr.units) (pv 9) (pe_glob rfl g_OUT r_OUT) (nomark _)) pa_nil)))) pa_nil))))))))), ?_⟩
  rintro ds s ⟨t, n, res, rfl, hd0, hdom, hb1, hb2, hres, hl, h8, hst, hrk, rfl⟩
  have hd0 : o.dom t := hd0
  apply does_seq
  apply does_set (s := .ownK (knownFrom 0 [t]))
  case h =>
    apply ev_disp1 (kk := .inl t) (d := .int 0)
    case hk => walk_at "ev"
    case hv => walk_at "ev"
    case hnr => rfl
    case h1 => rfl
  walk_at "set"
  walk_at "set"
  apply does_seq
  apply does_while (α := Nat × (List Int × List (List Int))) (fun p => [.sh (.int t), .sh (.int o.b), .sh (.adr fc), .ownK (knownFrom 0 p.2.1), .ownL (p.2.1.map .int), .ownL (p.2.2.map encI), .any, .any, .any, .any])
    (fun p => mbLoop o.onw o.b p.1 p.2 = res ∧ (∀ l ∈ p.2.1, o.dom l)) (fun p => decide (((p.2.2.map encI).length : Int) < ((p.2.1.map D.int).length : Int))) (fun p => p.1) (n, ([t], []))
  case w0 => walk_at "wk"
  case h0 => exact ⟨hres, by simpa using hd0⟩
  case hs =>
    rintro ⟨m, line, steps⟩ ⟨hp, hdl⟩
    have hp : mbLoop o.onw o.b m (line, steps) = res := hp
    have hdl : ∀ l ∈ line, o.dom l := hdl
    have hlen := mbLoop_len o.onw o.b m (line, steps)
    rw [hp] at hlen
    have hlen1 : line.length ≤ res.1.length := hlen.1
    have hlen2 : steps.length ≤ res.2.length := hlen.2
    refine ⟨?_, fun hb => ?_, fun hb => ?_⟩
    · walk_at "tb"
    · have hlt : steps.length < line.length := by simpa using hb
      cases m with
      | zero =>
        have : (line, steps) = res := hp
        subst this
        exact absurd hl (by show ¬ steps.length = line.length; omega)
      | succ m =>
        have hp2 : mbLoop o.onw o.b m (mbS o.onw o.b (line, steps)) = res := by
          rw [← hp, mbLoop, if_pos hlt]
        have hlenS := mbLoop_len o.onw o.b m (mbS o.onw o.b (line, steps))
        rw [hp2] at hlenS
        walk_at "set"
        apply does_seq
        apply does_forR (fun (j : Nat) (q : List Int × List Int) => [.sh (.int t), .sh (.int o.b), .sh (.adr fc), .ownK (knownFrom 0 q.1), .ownL (q.1.map .int), .ownL (steps.map encI), .ownL (q.2.map .int), .any, .any, .any])
          (fun j q => q = (List.range j).foldl (mbD o.onw steps.length) (line, []) ∧ q.1.length ≤ line.length + j ∧ q.2.length ≤ j ∧ steps.length < q.1.length ∧ ∀ r ∈ q.1, o.dom r) (line, [])
        case hi => walk_at "ea"
        case hj => omega
        case w0 => walk_at "wk"
        case h0 => exact ⟨rfl, by simp, by simp, hlt, hdl⟩
        case hs =>
          rintro j ⟨rs, st⟩ hj ⟨hq, g1, g2, g3, g4⟩
          have g1 : rs.length ≤ line.length + j := g1
          have g2 : st.length ≤ j := g2
          have g3 : steps.length < rs.length := g3
          have g4 : ∀ r ∈ rs, o.dom r := g4
          have ht : rs.getD steps.length 0 ∈ rs := by
            simp [List.getD, List.getElem?_eq_getElem g3]
          have ha : atI (rs.map D.int) (((steps.map encI).length : Nat) : Int) = some (.int (rs.getD steps.length 0)) := by
            rw [List.length_map]
            refine atI_nat ?_
            rw [List.getElem?_map]
            simp [List.getD, List.getElem?_eq_getElem g3]
          have hdr := hdom _ (j : Int) (g4 _ ht) (by omega) (by omega)
          generalize hre : o.onw (rs.getD steps.length 0) j = r at hdr
          apply does_seq
          apply does_set (s := .sh (.int r))
          case h =>
            rw [← hre]
            apply ev_callC (fun _ _ h => h) rfl
            case h => walk_at "ed"
            case hr => exact ⟨_, _, rfl, g4 _ ht, by omega, by omega, rfl⟩
          have fold : ∀ rs' st', mbD o.onw steps.length (rs, st) j = (rs', st') → (rs', st') = (List.range (j + 1)).foldl (mbD o.onw steps.length) (line, []) := fun rs' st' e => by
            rw [List.range_succ, List.foldl_append, ← hq, ← e]
            rfl
          have z1 : (rs.map D.int).length < 100000 := by rw [List.length_map]; omega
          have z2 : (st.map D.int).length < 100000 := by rw [List.length_map]; omega
          have z3 : (knownFrom 0 rs).length < 100000 := by rw [known_len]; omega
          apply does_seq
          apply does_if
          case h => walk_at "tb"
          case h1 =>
            intro hb2
            have hm : ¬ r ∈ rs := by
              rw [known_val] at hb2
              by_cases z : r ∈ rs
              · simp [z] at hb2
              · exact z
            apply does_seq
            apply does_dput (kk := .inl r) (d := .int (rs.length : Nat))
            case hv => exact ev_is (ev_len (ev_var_rdL rfl)) (by rw [List.length_map])
            case hk => exact ev_var rfl
            case h1 => rfl
            case h => rfl
            case hz => exact z3
            case nr => rfl
            rw [known_put hm]
            walk_at "app"
            have e1 : rs.map D.int ++ [D.int r] = (rs ++ [r]).map .int := by rw [List.map_append]; rfl
            have hmem : r ∈ rs ++ [r] := by simp
            rw [e1]
            have hval : valD (knownFrom 0 (rs ++ [r])) (.inl r) = some (.int (((rs ++ [r]).idxOf r : Nat) : Int)) := by
              rw [known_val, if_pos hmem, Nat.zero_add]
            show DoesS K ⟨T, factF fc F⟩ _ [.sh (.int t), .sh (.int o.b), .sh (.adr fc), .ownK (knownFrom 0 (rs ++ [r])), .ownL ((rs ++ [r]).map .int), .ownL (steps.map encI), .ownL (st.map .int), .sh (.int j), .sh (.int r), .any] _
            walk_at "app"
            refine ⟨(rs ++ [r], st ++ [((rs ++ [r]).idxOf r : Int)]), ⟨fold _ _ ?_, ?_, ?_, ?_, ?_⟩, ?_⟩
            · unfold mbD
              simp only [hre, hm, if_false]
            · show (rs ++ [r]).length ≤ line.length + (j + 1); simp; omega
            · show (st ++ [_]).length ≤ j + 1; simp; omega
            · show steps.length < (rs ++ [r]).length; simp; omega
            · intro x hx
              rcases List.mem_append.mp hx with z | z
              · exact g4 x z
              · rw [List.mem_singleton.mp z]; exact hdr
            · rw [List.map_append (l₁ := st)]
              walk_at "wk"
          case h2 =>
            intro hb2
            have hm : r ∈ rs := by
              rw [known_val] at hb2
              by_cases z : r ∈ rs
              · exact z
              · simp [z] at hb2
            walk_at "nx"
            have hval : valD (knownFrom 0 rs) (.inl r) = some (.int ((rs.idxOf r : Nat) : Int)) := by
              rw [known_val, if_pos hm, Nat.zero_add]
            walk_at "app"
            refine ⟨(rs, st ++ [(rs.idxOf r : Int)]), ⟨fold _ _ ?_, ?_, ?_, g3, g4⟩, ?_⟩
            · unfold mbD
              simp only [hre, hm, if_true]
            · show rs.length ≤ line.length + (j + 1); omega
            · show (st ++ [_]).length ≤ j + 1; simp; omega
            · rw [List.map_append]
              walk_at "wk"
        case hd =>
          rintro ⟨rs, st⟩ ⟨hq, g1, g2, g3, g4⟩
          have eS : mbS o.onw o.b (line, steps) = (rs, steps ++ [st]) := by
            show (((List.range o.b.toNat).foldl (mbD o.onw steps.length) (line, [])).1, steps ++ [((List.range o.b.toNat).foldl (mbD o.onw steps.length) (line, [])).2]) = _
            rw [← hq]
          rw [eS] at hp2 hlenS
          have z2 : (steps.map encI).length < 100000 := by rw [List.length_map]; omega
          show DoesS K ⟨T, factF fc F⟩ _ [.sh (.int t), .sh (.int o.b), .sh (.adr fc), .ownK (knownFrom 0 rs), .ownL (rs.map .int), .ownL (steps.map encI), .ownL (st.map .int), .any, .any, .any] _
          walk_at "app"
          refine ⟨(m, (rs, steps ++ [st])), ⟨hp2, g4⟩, Nat.lt_succ_self m, ?_⟩
          show Wk _ [.sh (.int t), .sh (.int o.b), .sh (.adr fc), .ownK (knownFrom 0 rs), .ownL (rs.map .int), .ownL ((steps ++ [st]).map encI), .any, .any, .any, .any]
          rw [List.map_append]
          walk_at "wk"
    · have hge : ¬ steps.length < line.length := by simpa using hb
      have e : (line, steps) = res := by
        cases m with
        | zero => exact hp
        | succ m => rw [← hp, mbLoop, if_neg hge]
      subst e
      have hlc : EvS K ⟨T, factF fc F⟩ (tLc (iList K (tVar 4)) (gName 9) tYes (tCB rInt1 (tCons (tOp (rEqU K) (tVar 9) (tC (.int (-1)))) tNil)) [9]) [.sh (.int t), .sh (.int o.b), .sh (.adr fc), .ownK (knownFrom 0 line), .ownL (line.map .int), .sh (.lst (steps.map encI)), .any, .any, .any, .any]
          [.sh (.int t), .sh (.int o.b), .sh (.adr fc), .ownK (knownFrom 0 line), .sh (.lst (line.map .int)), .sh (.lst (steps.map encI)), .any, .any, .any, .any] (.ownL (line.map fun l => .int (if decide (l = -1) then 1 else 0))) := by
        apply ev_lcN (xs := line) (enc := D.int) (f := fun l => .int (if decide (l = -1) then 1 else 0))
        case hi => walk_at "il"
        case hw => rfl
        case hz =>
          have h8 : line.length ≤ 8 := h8
          omega
        case hnr => rfl
        case hs =>
          intro i x _
          walk_at "ev"
      have eR : encI (ranksOf line) = .lst (line.map fun l => .int (if decide (l = -1) then 1 else 0)) := by
        unfold encI ranksOf
        rw [List.map_map]
        congr 1
        apply List.map_congr_left
        intro l _
        by_cases z : l = -1
        · simp [z]
        · simp [z]
      show DoesS K ⟨T, factF fc F⟩ _ [.sh (.int t), .sh (.int o.b), .sh (.adr fc), .ownK (knownFrom 0 line), .ownL (line.map .int), .ownL (steps.map encI), .any, .any, .any, .any] _
      apply does_ret (s := .sh (.obj CM (machF steps (ranksOf line))))
      case h =>
        apply ev_makeD (ds := [encS steps, encI (ranksOf line)])
        case h =>
          apply ed_cons
          case h => exact ev_var_own rfl
          case t =>
            apply ed_cons
            case h =>
              rw [eR]
              exact ev_frz hlc
            case t => exact ed_nil
        case hr => exact r_Machine hst hrk
      rfl
end
end Lp

namespace Lp
open PySem L2 NdefX Fx
local macro_rules | `(tactic| walk_at "side") => `(tactic| first
  | assumption
  | ((with_reducible show CMulW _ _); exact cmul (by omega) (by omega))
  | ((with_reducible show CDivW _ _); exact cdiv (by omega) (by omega))
  | ((with_reducible show (_ : Int) < _); first | omega | decide)
  | ((with_reducible show (_ : Nat) < _); omega)
  | ((with_reducible show (_ : Nat) ≤ _); omega)
  | rfl)
local macro_rules | `(tactic| walk_at "ev") => `(tactic| first
  | assumption
  | exact ev_int | exact ev_str | exact ev_bl | exact ev_non
  | exact ev_var rfl | exact ev_var_rdL rfl | exact ev_var_rdK rfl | exact ev_rd (ev_var rfl) | exact ev_var_own rfl
  | (apply ev_add <;> walk_at "ev")
  | (apply ev_sub <;> walk_at "ev")
  | (apply ev_mul <;> first | walk_at "ev" | walk_at "side")
  | (apply ev_mod <;> first | walk_at "ev" | walk_at "side")
  | (apply ev_div <;> first | walk_at "ev" | walk_at "side")
  | (apply ev_lt <;> walk_at "ev") | (apply ev_le <;> walk_at "ev") | (apply ev_gt <;> walk_at "ev") | (apply ev_ge <;> walk_at "ev")
  | (apply ev_eqI <;> walk_at "ev") | (apply ev_neI <;> walk_at "ev")
  | (apply ev_inL <;> walk_at "ev") | (apply ev_notInL <;> walk_at "ev")
  | (apply ev_inD <;> walk_at "ev") | (apply ev_notInD <;> walk_at "ev")
  | (apply ev_notV; walk_at "ev")
  | (apply ev_andV; (case h => walk_at "ev"); (case h2 => (intro _; walk_at "ev")))
  | (apply ev_orV; (case h => walk_at "ev"); (case h2 => (intro _; walk_at "ev")))
  | (apply ev_len; walk_at "ev") | (apply ev_lenT; walk_at "ev") | (apply ev_lenR; walk_at "ev") | (apply ev_lenD; walk_at "ev")
  | (apply ev_lenS <;> first | walk_at "ev" | decide | omega)
  | (apply ev_intB; walk_at "ev") | (apply ev_max2 <;> walk_at "ev") | (apply ev_min2 <;> walk_at "ev")
  | (apply ev_chain; (case ha => walk_at "ev"); (case hb => walk_at "ev"); (case h1 => walk_at "rs"); (case hc => walk_at "ev"); (case h2 => walk_at "rs"))
  | (apply ev_listc; walk_at "ev")
  | (apply ev_ixL <;> first | walk_at "ev" | walk_at "side")
  | (apply ev_ixT <;> first | walk_at "ev" | walk_at "side")
  | (apply ev_ixR <;> first | walk_at "ev" | walk_at "side")
  | (apply ev_ixD <;> first | walk_at "ev" | walk_at "side")
  | (apply ev_pow <;> first | walk_at "ev" | (refine ⟨by decide, by decide, by decide⟩))
  | (apply ev_index <;> first | walk_at "ev" | walk_at "side")
  | (apply ev_neg; walk_at "ev")
  | (apply ev_fld <;> first | walk_at "ev" | assumption | rfl)
  | (apply ev_callD; (case h => walk_at "ed"); (case hr => walk_at "rel"))
  | (apply ev_makeD; (case h => walk_at "ed"); (case hr => walk_at "rel"))
  | (apply ev_methD; (case ho => walk_at "ev"); (case h => walk_at "ed"); (case hr => walk_at "rel"); (case hm => rfl))
  | (apply ev_tupD; (case h => walk_at "ed"); (case hz => exact Nat.le_of_ble_eq_true rfl))
  | (apply ev_lstD; (case h => walk_at "ed"); (case hz => exact Nat.le_of_ble_eq_true rfl))
  | ((first | apply ev_isInt | apply ev_isBool | apply ev_isList | apply ev_isStr | apply ev_isTuple) <;> first | walk_at "ev" | rfl | assumption)
  | (apply ev_frz; walk_at "ev") | (apply ev_frzK; walk_at "ev") | (apply ev_rd; walk_at "ev"))
local macro_rules | `(tactic| walk_at "rs") => `(tactic| first
  | exact rs_cmp | exact rs_eqI | exact rs_neI)
local macro_rules | `(tactic| walk_at "ed") => `(tactic| first
  | exact ed_nil
  | (apply ed_cons; (case h => walk_at "ev"); (case t => walk_at "ed")))
local macro_rules | `(tactic| walk_at "ea") => `(tactic| first
  | exact ea_nil
  | (apply ea_cons; (case h => walk_at "ev"); (case t => walk_at "ea")))
-- x = e; ..
local macro_rules | `(tactic| walk_at "set") => `(tactic| first
  | (apply does_seq; apply does_set; (case h => walk_at "ev"))
  | (apply does_set; (case h => walk_at "ev")))
local macro_rules | `(tactic| walk_at "ret") => `(tactic| (apply does_ret; (case h => walk_at "ev")))
local macro_rules | `(tactic| walk_at "tb") => `(tactic| first
  | (apply eb_not; walk_at "tb")
  | (apply eb_or; (case h => walk_at "tb"); (case h2 => (intro _; walk_at "tb")))
  | (apply eb_and; (case h => walk_at "tb"); (case h2 => (intro _; walk_at "tb")))
  | (apply eb_test; walk_at "ev")
  | (apply eb_B; walk_at "ev"))
-- if c: ..
local macro_rules | `(tactic| walk_at "if") => `(tactic| first
  | (apply does_seq; apply does_if; (case h => walk_at "tb"))
  | (apply does_if; (case h => walk_at "tb")))
local macro_rules | `(tactic| walk_at "wk") => `(tactic| repeat (first | exact Wk.nil | apply Wk.same | apply Wk.any))
-- for x in xs: the list is data
local macro_rules | `(tactic| walk_at "il") => `(tactic| first
  | (apply ei_list; walk_at "ev")
  | (apply ei_scr; walk_at "ev")
  | (apply ei_rng1 <;> first | walk_at "ea" | omega))
-- a break, a continue, pass
local macro_rules | `(tactic| walk_at "nx") => `(tactic| first | apply does_next | apply does_break | apply does_cont)
local macro_rules | `(tactic| walk_at "app") => `(tactic| first
  | (apply does_seq; apply does_app; (case he => walk_at "ev"); (case h0 => rfl); (case h => rfl); (case hz => walk_at "side"); (case nr => rfl))
  | (apply does_app; (case he => walk_at "ev"); (case h0 => rfl); (case h => rfl); (case hz => walk_at "side"); (case nr => rfl)))
local macro_rules | `(tactic| walk_at "mv") => `(tactic| (apply does_ret; (case h => exact ev_var_mv rfl (by intro z; cases z))))

/-- the names of the nested defs by their places -/
def nmT (line _col : Nat) : Str := if line = 106 then "up_to.<locals>.onward" else "from_on.<locals>.onward"
def inDef (s : Stmt) (j : Nat) : Stmt := (defBody s).getD j (.Pass ⟨0, 0, 0, 0⟩)
def upF (m b l d : Int) : Int := if l = -1 ∨ l = m then l else if l * b - d * m < 0 then -1 else min (l * b - d * m) m
def onF (m b l d : Int) : Int := if l = -1 ∨ l = 0 then l else if m < l * b - d * m then -1 else max (l * b - d * m) 0
def domF (m b l : Int) : Prop := -1 ≤ l ∧ l ≤ m ∧ 1 ≤ m ∧ m ≤ 6 ∧ 2 ≤ b ∧ b ≤ 3
theorem dom_mul {m b l d : Int} (h : domF m b l) (h0 : 0 ≤ d) (h1 : d < b) : -10 ≤ l * b ∧ l * b ≤ 1000 ∧ 0 ≤ d * m ∧ d * m ≤ 1000 := by
  obtain ⟨a1, a2, a3, a4, a5, a6⟩ := h
  have hb : b = 2 ∨ b = 3 := by omega
  have hd : d = 0 ∨ d = 1 ∨ d = 2 := by omega
  rcases hb with rfl | rfl <;> rcases hd with rfl | rfl | rfl <;> omega
theorem up_dom {m b l d : Int} (h : domF m b l) : domF m b (upF m b l d) := by
  obtain ⟨a1, a2, a3, a4, a5, a6⟩ := h
  refine ⟨?_, ?_, a3, a4, a5, a6⟩
  · unfold upF
    generalize l * b - d * m = x
    split
    · omega
    · split <;> omega
  · unfold upF
    generalize l * b - d * m = x
    split
    · omega
    · split <;> omega
theorem on_dom {m b l d : Int} (h : domF m b l) : domF m b (onF m b l d) := by
  obtain ⟨a1, a2, a3, a4, a5, a6⟩ := h
  refine ⟨?_, ?_, a3, a4, a5, a6⟩
  · unfold onF
    generalize l * b - d * m = x
    split
    · omega
    · split <;> omega
  · unfold onF
    generalize l * b - d * m = x
    split
    · omega
    · split <;> omega
def upO (p : Int × Int) : Onw := ⟨upF p.1 p.2, domF p.1 p.2, p.2⟩
def onO (p : Int × Int) : Onw := ⟨onF p.1 p.2, domF p.1 p.2, p.2⟩
section
variable {P : Program} {w : World} {K : PySem.W.Frag} {mg : Str → Option Value} {base : Heap} {T : List NTab} {k j : Nat} {CM : Addr}
abbrev s_up_to_onward : Stmt := (inDef (top 21) 1)
theorem sc_up_to_onward : NScope ["left", "digit", "base", "bottom", "rest"] ["left", "digit"] ["base", "bottom"] (defScope s_up_to_onward) := nscope_by (by decide +kernel)
abbrev s_from_on_onward : Stmt := (inDef (top 22) 1)
theorem sc_from_on_onward : NScope ["left", "digit", "base", "bottom", "rest"] ["left", "digit"] ["base", "bottom"] (defScope s_from_on_onward) := nscope_by (by decide +kernel)
abbrev s_up_to : Stmt := (top 21)
theorem sc_up_to : FnScope ["top", "bottom", "base", "onward"] ["top", "bottom", "base"] (defScope s_up_to) := ⟨rfl, rfl, rfl, by decide +kernel, rfl, by decide +kernel, by decide +kernel⟩
theorem nb_up_to : ndefB (defScope s_up_to) (C8.fnScope s_up_to_onward) ["base", "bottom"] = true := by decide +kernel
theorem nok_up (Z : Bn mg) (gO : ∃ u, mg "OUT" = some u ∧ RelV (.int (-1)) u) (cl : List (Str × Addr)) (f c' : Addr) (b : Int × Int) :
    NOk P w K mg base CX0 (k + 1) f (NF.of s_up_to_onward "onward" "up_to.<locals>.onward" cl c') ["left", "digit"] ["base", "bottom"] (spN K T ([b.2, b.1].map fun c => some (.int c)) (R_on (upO b))) := by
  obtain ⟨u, g_OUT, r_OUT⟩ := gO
  refine nok_of' (N := ["left", "digit", "base", "bottom", "rest"]) sc_up_to_onward (fun _ _ _ us hl => match us, hl with | [_, _], _ => rfl) (by rintro ds s ⟨l, d, rfl, _⟩; rfl) rfl (by decide) fun A outer s H E hr => ⟨_, (pss_cons (ps_if (PW.pt (pw_or (pt_cmpR (k_eq hr.units) (pv 0) (pe_glob rfl g_OUT r_OUT) (nomark _)) (pw_or1 (pt_cmpR (k_eq hr.units) (pv 0) (pv 3) (nomark _)))))
    (pss_one (ps_ret (pv 0)))
    pss_nil)
  (pss_cons (ps_set (i := 4) sc_up_to_onward.nd rfl (Or.inl rfl) (pe_op op_subI (pe_op op_mulI (pv 0) (pv 2)) (pe_op op_mulI (pv 1) (pv 3))))
  (pss_cons (ps_if (pt_cmpR op_ltI (pv 4) pe_int (nomark _))
    (pss_one (ps_ret (pe_glob rfl g_OUT r_OUT)))
    pss_nil)
  (pss_one (ps_ret (pe_callB k_min (by rfl) Z.min (by decide +kernel) (pa_cons (pv 4) (pa_cons (pv 3) pa_nil)))))))), ?_⟩
  rintro ds s ⟨l, d, rfl, hdm, h0, h1, rfl⟩
  obtain ⟨m, b⟩ := b
  have hdm : domF m b l := hdm
  have h1 : d < b := h1
  have hmul := dom_mul hdm h0 h1
  obtain ⟨a1, a2, a3, a4, a5, a6⟩ := hdm
  walk_at "if"
  · intro hb
    have q : l = -1 ∨ l = m := by simpa using hb
    walk_at "ret"
    show Slot.sh (.int l) = .sh (.int (upF m b l d))
    unfold upF
    rw [if_pos q]
  · intro hb
    have q : ¬ (l = -1 ∨ l = m) := by
      rw [← Bool.not_eq_true] at hb
      intro z
      apply hb
      simpa using z
    walk_at "nx"
    walk_at "set"
    walk_at "if"
    · intro hb2
      have q2 : l * b - d * m < 0 := by simpa using hb2
      walk_at "ret"
      show Slot.sh (.int (-1)) = .sh (.int (upF m b l d))
      unfold upF
      rw [if_neg q, if_pos q2]
    · intro hb2
      have q2 : ¬ l * b - d * m < 0 := by simpa using hb2
      walk_at "nx"
      walk_at "ret"
      show Slot.sh (.int _) = .sh (.int (upF m b l d))
      unfold upF
      rw [if_neg q, if_neg q2]
theorem nok_on (Z : Bn mg) (gO : ∃ u, mg "OUT" = some u ∧ RelV (.int (-1)) u) (cl : List (Str × Addr)) (f c' : Addr) (b : Int × Int) :
    NOk P w K mg base CX0 (k + 1) f (NF.of s_from_on_onward "onward" "from_on.<locals>.onward" cl c') ["left", "digit"] ["base", "bottom"] (spN K T ([b.2, b.1].map fun c => some (.int c)) (R_on (onO b))) := by
  obtain ⟨u, g_OUT, r_OUT⟩ := gO
  refine nok_of' (N := ["left", "digit", "base", "bottom", "rest"]) sc_from_on_onward (fun _ _ _ us hl => match us, hl with | [_, _], _ => rfl) (by rintro ds s ⟨l, d, rfl, _⟩; rfl) rfl (by decide) fun A outer s H E hr => ⟨_, (pss_cons (ps_if (PW.pt (pw_or (pt_cmpR (k_eq hr.units) (pv 0) (pe_glob rfl g_OUT r_OUT) (nomark _)) (pw_or1 (pt_cmpR (k_eq hr.units) (pv 0) pe_int (nomark _)))))
    (pss_one (ps_ret (pv 0)))
    pss_nil)
  (pss_cons (ps_set (i := 4) sc_from_on_onward.nd rfl (Or.inl rfl) (pe_op op_subI (pe_op op_mulI (pv 0) (pv 2)) (pe_op op_mulI (pv 1) (pv 3))))
  (pss_cons (ps_if (pt_cmpR op_gtI (pv 4) (pv 3) (nomark _))
    (pss_one (ps_ret (pe_glob rfl g_OUT r_OUT)))
    pss_nil)
  (pss_one (ps_ret (pe_callB k_max (by rfl) Z.max (by decide +kernel) (pa_cons (pv 4) (pa_cons pe_int pa_nil)))))))), ?_⟩
  rintro ds s ⟨l, d, rfl, hdm, h0, h1, rfl⟩
  obtain ⟨m, b⟩ := b
  have hdm : domF m b l := hdm
  have h1 : d < b := h1
  have hmul := dom_mul hdm h0 h1
  obtain ⟨a1, a2, a3, a4, a5, a6⟩ := hdm
  walk_at "if"
  · intro hb
    have q : l = -1 ∨ l = 0 := by simpa using hb
    walk_at "ret"
    show Slot.sh (.int l) = .sh (.int (onF m b l d))
    unfold onF
    rw [if_pos q]
  · intro hb
    have q : ¬ (l = -1 ∨ l = 0) := by
      rw [← Bool.not_eq_true] at hb
      intro z
      apply hb
      simpa using z
    walk_at "nx"
    walk_at "set"
    walk_at "if"
    · intro hb2
      have q2 : m < l * b - d * m := by simpa using hb2
      walk_at "ret"
      show Slot.sh (.int (-1)) = .sh (.int (onF m b l d))
      unfold onF
      rw [if_neg q, if_pos q2]
    · intro hb2
      have q2 : ¬ m < l * b - d * m := by simpa using hb2
      walk_at "nx"
      walk_at "ret"
      show Slot.sh (.int _) = .sh (.int (onF m b l d))
      unfold onF
      rw [if_neg q, if_neg q2]
/-! ### the makers -/
def machR (onw : Int → Int → Int → Int → Int) (a m b : Int) : List Int × List (List Int) := mbLoop (onw (m / gcdI a m) b) b 12 ([a / gcdI a m], [])
def goodR (p : List Int × List (List Int)) : Bool := decide (p.2.length = p.1.length) && decide (p.1.length ≤ 8) && stepsB p.2 && ranksB p.2.length (ranksOf p.1)
def okR (a m b : Int) : Bool := decide (0 < gcdI a m) && decide (gcdI a m < 1000) && decide (0 ≤ a / gcdI a m) && decide (a / gcdI a m ≤ m / gcdI a m) && decide (1 ≤ m / gcdI a m) && decide (m / gcdI a m ≤ 6) && goodR (machR upF a m b) && goodR (machR onF a m b)
def dueOk (a m b : Int) : Bool := decide ((machR upF a m b).2 = (dueP 0 a m b).2) && decide (ranksOf (machR upF a m b).1 = dueR 0 a m b) && decide ((machR onF a m b).2 = (dueP 1 a m b).2) && decide (ranksOf (machR onF a m b).1 = dueR 1 a m b)
def dblOk (a m b : Int) : Bool := decide (machR upF (2 * a) (2 * m) b = machR upF a m b) && decide (machR onF (2 * a) (2 * m) b = machR onF a m b)
def inAll (p : Int → Int → Int → Bool) (n : Nat) : Bool := (List.range n).all fun m => (List.range (m + 2)).all fun a => p a (m + 1 : Nat) 2 && p a (m + 1 : Nat) 3
theorem inAll_at {p : Int → Int → Int → Bool} {n : Nat} (h : inAll p n = true) {a m b : Int} (h0 : 0 ≤ a) (h1 : a ≤ m) (h2 : 1 ≤ m) (h3 : m ≤ n) (h4 : 2 ≤ b) (h5 : b ≤ 3) : p a m b = true := by
  have q := List.all_eq_true.mp (List.all_eq_true.mp h (m.toNat - 1) (List.mem_range.mpr (by omega))) a.toNat (List.mem_range.mpr (by omega))
  have e1 : ((a.toNat : Nat) : Int) = a := by omega
  have e2 : ((m.toNat - 1 + 1 : Nat) : Int) = m := by omega
  rw [e1, e2] at q
  have hb : b = 2 ∨ b = 3 := by omega
  simp only [Bool.and_eq_true] at q
  rcases hb with rfl | rfl
  · exact q.1
  · exact q.2
theorem all_ok : inAll okR 6 = true := by decide +kernel
theorem all_due : inAll dueOk 6 = true := by decide +kernel
theorem all_dbl : inAll dblOk 3 = true := by decide +kernel
def R_way (CM : Addr) (onw : Int → Int → Int → Int → Int) : List D → Slot → Prop := fun ds s => ∃ a m b : Int, ds = [.int a, .int m, .int b] ∧ 0 ≤ a ∧ a ≤ m ∧ 1 ≤ m ∧ m ≤ 6 ∧ 2 ≤ b ∧ b ≤ 3 ∧ s = .sh (.obj CM (machF (machR onw a m b).2 (ranksOf (machR onw a m b).1)))
theorem ok_up_to {c Pt : Addr} (h : HereT K mg "up_to" s_up_to ["top", "bottom", "base"] c) (Z : Bn mg) (gO : ∃ u, mg "OUT" = some u ∧ RelV (.int (-1)) u) (TB : LamX.TabB base mg c Pt) (hm : (Pt, nmT) ∈ T) (hu : ∀ p ∈ T, p.1 = Pt → p.2 = nmT)
    (G_fraction_by : Prom P w K mg base T k "fraction_by" ["top", "bottom", "base"] R_fraction_by) (G_machine_by : PromF P w K mg base T (j + 1) k "machine_by" ["start", "base", "onward"] ["left", "digit"] R_on (R_machine_by CM)) :
    Prom P w K mg base T (k + 1) "up_to" ["top", "bottom", "base"] (R_way CM upF) := by
  refine promT_of h sc_up_to (by rintro ds s ⟨a, b, c, rfl, _⟩; rfl) (by decide) fun f A outer s H E hr => ?_
  have No := fun f c' b => nok_up (P := P) (w := w) (K := K) (base := base) (T := T) (k := j) Z gO (cloFrom (bodyX P w K mg base ["top", "bottom", "base", "onward"] "up_to" s_up_to f (.ref c) A outer s H E).env.cells (C8.fnScope s_up_to_onward).names []) f c' b
  refine ⟨_, (pss_cons (ps_asg (k_prom G_fraction_by (hr.mono (by omega)) rfl (pa_cons (pv 0) (pa_cons (pv 1) (pa_cons (pv 2) pa_nil)))) (pg_tup rfl (pgs_cons (pg_name (i := 0) sc_up_to.nd rfl (Or.inl rfl)) (pgs_cons (pg_name (i := 1) sc_up_to.nd rfl (Or.inr rfl)) pgs_nil))))
  (pss_cons (ps_ndefMS (T := T) (nm := nmT) (c := c) (P := Pt) (name := "onward") (i := 3) rfl TB rfl hm rfl hu (ndef_free nb_up_to) rfl rfl rfl sc_up_to.nd rfl (Or.inl rfl) (Or.inr rfl))
  (pss_one (ps_ret (pe_callF (fr := ["base", "bottom"]) (mk := NF.of s_up_to_onward "onward" "up_to.<locals>.onward" (cloFrom (bodyX P w K mg base ["top", "bottom", "base", "onward"] "up_to" s_up_to f (.ref c) A outer s H E).env.cells (C8.fnScope s_up_to_onward).names [])) (cl := (cloFrom (bodyX P w K mg base ["top", "bottom", "base", "onward"] "up_to" s_up_to f (.ref c) A outer s H E).env.cells (C8.fnScope s_up_to_onward).names [])) (en := upO) (js := [2, 1]) (ws := fun (b : Int × Int) => [b.2, b.1].map fun c => some (.int c)) G_machine_by No (fun _ => rfl) (fun ok => Caps.made ok (ndef_free nb_up_to) (ndef_fr nb_up_to) rfl) (fun _ => rfl) (hr.mono (by omega)) rfl (pa_cons (pv 0) (pa_cons (pv 2) (pa_cons (pv 3) pa_nil)))))))), ?_⟩
  rintro ds s ⟨a, m, b, rfl, h0, h1, h2, h3, h4, h5, rfl⟩
  have q := inAll_at all_ok h0 h1 h2 h3 h4 h5
  simp only [okR, goodR, Bool.and_eq_true, decide_eq_true_eq] at q
  obtain ⟨⟨⟨⟨⟨⟨⟨q1, q2⟩, q3⟩, q4⟩, q5⟩, q6⟩, ⟨⟨⟨g1, g2⟩, g3⟩, g4⟩⟩, _⟩ := q
  have q2' : gcdI a m < 2 ^ 400 := Int.lt_trans q2 (by decide)
  apply does_seq
  apply does_asg
  case h =>
    apply ev_callD
    case h => walk_at "ed"
    case hr => exact ⟨a, m, b, rfl, h0, h1, h2, h3, h4, h5, q1, q2', rfl⟩
  case hg => exact bind_tup rfl (binds_cons bind_name (binds_cons bind_name binds_nil))
  apply does_ndef
  case hΓ => rfl
  case hc => exact fun _ => rfl
  case h =>
    intro fc c'
    apply does_ret
    case h =>
      apply ev_callF (m / gcdI a m, b) (fun _ _ h => h)
      case h => walk_at "ed"
      case hw =>
        intro σ hl hs
        have e1 := hs 2 b rfl
        have e2 := hs 1 (m / gcdI a m) rfl
        show [slotAt σ 2, slotAt σ 1] = _
        rw [e1, e2]
        rfl
      case hr =>
        refine ⟨a / gcdI a m, 12, machR upF a m b, rfl, ⟨by omega, by omega, by omega, by omega, h4, h5⟩, fun l d hd _ _ => up_dom hd, h4, h5, rfl, g1, g2, g3, g4, rfl⟩
    exact ⟨_, rfl, rfl⟩
abbrev s_from_on : Stmt := (top 22)
theorem sc_from_on : FnScope ["top", "bottom", "base", "onward"] ["top", "bottom", "base"] (defScope s_from_on) := ⟨rfl, rfl, rfl, by decide +kernel, rfl, by decide +kernel, by decide +kernel⟩
theorem nb_from_on : ndefB (defScope s_from_on) (C8.fnScope s_from_on_onward) ["base", "bottom"] = true := by decide +kernel
theorem ok_from_on {c Pt : Addr} (h : HereT K mg "from_on" s_from_on ["top", "bottom", "base"] c) (Z : Bn mg) (gO : ∃ u, mg "OUT" = some u ∧ RelV (.int (-1)) u) (TB : LamX.TabB base mg c Pt) (hm : (Pt, nmT) ∈ T) (hu : ∀ p ∈ T, p.1 = Pt → p.2 = nmT)
    (G_fraction_by : Prom P w K mg base T k "fraction_by" ["top", "bottom", "base"] R_fraction_by) (G_machine_by : PromF P w K mg base T (j + 1) k "machine_by" ["start", "base", "onward"] ["left", "digit"] R_on (R_machine_by CM)) :
    Prom P w K mg base T (k + 1) "from_on" ["top", "bottom", "base"] (R_way CM onF) := by
  refine promT_of h sc_from_on (by rintro ds s ⟨a, b, c, rfl, _⟩; rfl) (by decide) fun f A outer s H E hr => ?_
  have No := fun f c' b => nok_on (P := P) (w := w) (K := K) (base := base) (T := T) (k := j) Z gO (cloFrom (bodyX P w K mg base ["top", "bottom", "base", "onward"] "from_on" s_from_on f (.ref c) A outer s H E).env.cells (C8.fnScope s_from_on_onward).names []) f c' b
  refine ⟨_, (pss_cons (ps_asg (k_prom G_fraction_by (hr.mono (by omega)) rfl (pa_cons (pv 0) (pa_cons (pv 1) (pa_cons (pv 2) pa_nil)))) (pg_tup rfl (pgs_cons (pg_name (i := 0) sc_from_on.nd rfl (Or.inl rfl)) (pgs_cons (pg_name (i := 1) sc_from_on.nd rfl (Or.inr rfl)) pgs_nil))))
  (pss_cons (ps_ndefMS (T := T) (nm := nmT) (c := c) (P := Pt) (name := "onward") (i := 3) rfl TB rfl hm rfl hu (ndef_free nb_from_on) rfl rfl rfl sc_from_on.nd rfl (Or.inl rfl) (Or.inr rfl))
  (pss_one (ps_ret (pe_callF (fr := ["base", "bottom"]) (mk := NF.of s_from_on_onward "onward" "from_on.<locals>.onward" (cloFrom (bodyX P w K mg base ["top", "bottom", "base", "onward"] "from_on" s_from_on f (.ref c) A outer s H E).env.cells (C8.fnScope s_from_on_onward).names [])) (cl := (cloFrom (bodyX P w K mg base ["top", "bottom", "base", "onward"] "from_on" s_from_on f (.ref c) A outer s H E).env.cells (C8.fnScope s_from_on_onward).names [])) (en := onO) (js := [2, 1]) (ws := fun (b : Int × Int) => [b.2, b.1].map fun c => some (.int c)) G_machine_by No (fun _ => rfl) (fun ok => Caps.made ok (ndef_free nb_from_on) (ndef_fr nb_from_on) rfl) (fun _ => rfl) (hr.mono (by omega)) rfl (pa_cons (pv 0) (pa_cons (pv 2) (pa_cons (pv 3) pa_nil)))))))), ?_⟩
  rintro ds s ⟨a, m, b, rfl, h0, h1, h2, h3, h4, h5, rfl⟩
  have q := inAll_at all_ok h0 h1 h2 h3 h4 h5
  simp only [okR, goodR, Bool.and_eq_true, decide_eq_true_eq] at q
  obtain ⟨⟨⟨⟨⟨⟨⟨q1, q2⟩, q3⟩, q4⟩, q5⟩, q6⟩, _⟩, ⟨⟨⟨g1, g2⟩, g3⟩, g4⟩⟩ := q
  have q2' : gcdI a m < 2 ^ 400 := Int.lt_trans q2 (by decide)
  apply does_seq
  apply does_asg
  case h =>
    apply ev_callD
    case h => walk_at "ed"
    case hr => exact ⟨a, m, b, rfl, h0, h1, h2, h3, h4, h5, q1, q2', rfl⟩
  case hg => exact bind_tup rfl (binds_cons bind_name (binds_cons bind_name binds_nil))
  apply does_ndef
  case hΓ => rfl
  case hc => exact fun _ => rfl
  case h =>
    intro fc c'
    apply does_ret
    case h =>
      apply ev_callF (m / gcdI a m, b) (fun _ _ h => h)
      case h => walk_at "ed"
      case hw =>
        intro σ hl hs
        have e1 := hs 2 b rfl
        have e2 := hs 1 (m / gcdI a m) rfl
        show [slotAt σ 2, slotAt σ 1] = _
        rw [e1, e2]
        rfl
      case hr =>
        refine ⟨a / gcdI a m, 12, machR onF a m b, rfl, ⟨by omega, by omega, by omega, by omega, h4, h5⟩, fun l d hd _ _ => on_dom hd, h4, h5, rfl, g1, g2, g3, g4, rfl⟩
    exact ⟨_, rfl, rfl⟩
end
end Lp

namespace Lp
open PySem L2 NdefX Fx
local macro_rules | `(tactic| walk_at "side") => `(tactic| first
  | assumption
  | ((with_reducible show CMulW _ _); exact cmul (by omega) (by omega))
  | ((with_reducible show CDivW _ _); exact cdiv (by omega) (by omega))
  | ((with_reducible show (_ : Int) < _); first | omega | decide)
  | ((with_reducible show (_ : Nat) < _); omega)
  | ((with_reducible show (_ : Nat) ≤ _); omega)
  | rfl)
local macro_rules | `(tactic| walk_at "ev") => `(tactic| first
  | assumption
  | exact ev_int | exact ev_str | exact ev_bl | exact ev_non
  | exact ev_var rfl | exact ev_var_rdL rfl | exact ev_var_rdK rfl | exact ev_rd (ev_var rfl) | exact ev_var_own rfl
  | (apply ev_add <;> walk_at "ev")
  | (apply ev_sub <;> walk_at "ev")
  | (apply ev_mul <;> first | walk_at "ev" | walk_at "side")
  | (apply ev_mod <;> first | walk_at "ev" | walk_at "side")
  | (apply ev_div <;> first | walk_at "ev" | walk_at "side")
  | (apply ev_lt <;> walk_at "ev") | (apply ev_le <;> walk_at "ev") | (apply ev_gt <;> walk_at "ev") | (apply ev_ge <;> walk_at "ev")
  | (apply ev_eqI <;> walk_at "ev") | (apply ev_neI <;> walk_at "ev")
  | (apply ev_inL <;> walk_at "ev") | (apply ev_notInL <;> walk_at "ev")
  | (apply ev_inD <;> walk_at "ev") | (apply ev_notInD <;> walk_at "ev")
  | (apply ev_notV; walk_at "ev")
  | (apply ev_andV; (case h => walk_at "ev"); (case h2 => (intro _; walk_at "ev")))
  | (apply ev_orV; (case h => walk_at "ev"); (case h2 => (intro _; walk_at "ev")))
  | (apply ev_len; walk_at "ev") | (apply ev_lenT; walk_at "ev") | (apply ev_lenR; walk_at "ev") | (apply ev_lenD; walk_at "ev")
  | (apply ev_lenS <;> first | walk_at "ev" | decide | omega)
  | (apply ev_intB; walk_at "ev") | (apply ev_max2 <;> walk_at "ev") | (apply ev_min2 <;> walk_at "ev")
  | (apply ev_chain; (case ha => walk_at "ev"); (case hb => walk_at "ev"); (case h1 => walk_at "rs"); (case hc => walk_at "ev"); (case h2 => walk_at "rs"))
  | (apply ev_listc; walk_at "ev")
  | (apply ev_ixL <;> first | walk_at "ev" | walk_at "side")
  | (apply ev_ixT <;> first | walk_at "ev" | walk_at "side")
  | (apply ev_ixR <;> first | walk_at "ev" | walk_at "side")
  | (apply ev_ixD <;> first | walk_at "ev" | walk_at "side")
  | (apply ev_pow <;> first | walk_at "ev" | (refine ⟨by decide, by decide, by decide⟩))
  | (apply ev_index <;> first | walk_at "ev" | walk_at "side")
  | (apply ev_neg; walk_at "ev")
  | (apply ev_fld <;> first | walk_at "ev" | assumption | rfl)
  | (apply ev_callD; (case h => walk_at "ed"); (case hr => walk_at "rel"))
  | (apply ev_makeD; (case h => walk_at "ed"); (case hr => walk_at "rel"))
  | (apply ev_methD; (case ho => walk_at "ev"); (case h => walk_at "ed"); (case hr => walk_at "rel"); (case hm => rfl))
  | (apply ev_tupD; (case h => walk_at "ed"); (case hz => exact Nat.le_of_ble_eq_true rfl))
  | (apply ev_lstD; (case h => walk_at "ed"); (case hz => exact Nat.le_of_ble_eq_true rfl))
  | ((first | apply ev_isInt | apply ev_isBool | apply ev_isList | apply ev_isStr | apply ev_isTuple) <;> first | walk_at "ev" | rfl | assumption)
  | (apply ev_frz; walk_at "ev") | (apply ev_frzK; walk_at "ev") | (apply ev_rd; walk_at "ev"))
local macro_rules | `(tactic| walk_at "rs") => `(tactic| first
  | exact rs_cmp | exact rs_eqI | exact rs_neI)
local macro_rules | `(tactic| walk_at "ed") => `(tactic| first
  | exact ed_nil
  | (apply ed_cons; (case h => walk_at "ev"); (case t => walk_at "ed")))
local macro_rules | `(tactic| walk_at "ea") => `(tactic| first
  | exact ea_nil
  | (apply ea_cons; (case h => walk_at "ev"); (case t => walk_at "ea")))
-- x = e; ..
local macro_rules | `(tactic| walk_at "set") => `(tactic| first
  | (apply does_seq; apply does_set; (case h => walk_at "ev"))
  | (apply does_set; (case h => walk_at "ev")))
local macro_rules | `(tactic| walk_at "ret") => `(tactic| (apply does_ret; (case h => walk_at "ev")))
local macro_rules | `(tactic| walk_at "tb") => `(tactic| first
  | (apply eb_not; walk_at "tb")
  | (apply eb_or; (case h => walk_at "tb"); (case h2 => (intro _; walk_at "tb")))
  | (apply eb_and; (case h => walk_at "tb"); (case h2 => (intro _; walk_at "tb")))
  | (apply eb_test; walk_at "ev")
  | (apply eb_B; walk_at "ev"))
-- if c: ..
local macro_rules | `(tactic| walk_at "if") => `(tactic| first
  | (apply does_seq; apply does_if; (case h => walk_at "tb"))
  | (apply does_if; (case h => walk_at "tb")))
local macro_rules | `(tactic| walk_at "wk") => `(tactic| repeat (first | exact Wk.nil | apply Wk.same | apply Wk.any))
-- for x in xs: the list is data
local macro_rules | `(tactic| walk_at "il") => `(tactic| first
  | (apply ei_list; walk_at "ev")
  | (apply ei_scr; walk_at "ev")
  | (apply ei_rng1 <;> first | walk_at "ea" | omega))
-- a break, a continue, pass
local macro_rules | `(tactic| walk_at "nx") => `(tactic| first | apply does_next | apply does_break | apply does_cont)
local macro_rules | `(tactic| walk_at "app") => `(tactic| first
  | (apply does_seq; apply does_app; (case he => walk_at "ev"); (case h0 => rfl); (case h => rfl); (case hz => walk_at "side"); (case nr => rfl))
  | (apply does_app; (case he => walk_at "ev"); (case h0 => rfl); (case h => rfl); (case hz => walk_at "side"); (case nr => rfl)))
local macro_rules | `(tactic| walk_at "mv") => `(tactic| (apply does_ret; (case h => exact ev_var_mv rfl (by intro z; cases z))))

section
variable {P : Program} {w : World} {K : PySem.W.Frag} {mg : Str → Option Value} {base : Heap} {T : List NTab} {k j : Nat} {CM : Addr}
abbrev s_law : Stmt := (top 29)
theorem sc_law : FnScope ["_law_script", "_law_k", "_law_cell_here", "_law_numbers", "_law_bottom", "_law_top", "_law_base", "_law_found", "_law_way", "_law_again"] ["_law_script"] (defScope s_law) := ⟨rfl, rfl, rfl, by decide +kernel, rfl, by decide +kernel, by decide +kernel⟩
def R_law : List D → Slot → Prop := fun ds s => ∃ ns : List Int, ds = [.scr ns] ∧ ns.length ≤ 63 ∧ s = .sh (.bl true)
theorem deep_S (n : Nat) (ss : List (List Int)) : deepB (n + 2) (encS ss) = true := by
  show deepBs (n + 1) (ss.map encI) = true
  exact deepBs_of (fun a => by show deepBs n (a.map .int) = true; exact deepBs_ints n a) ss
theorem deep_I (n : Nat) (ss : List Int) : deepB (n + 1) (encI ss) = true := deepBs_ints n ss
theorem deep_SI (ss : List (List Int)) (rs : List Int) : deepB 60 (.tup [encS ss, encI rs]) = true := by
  show deepBs 59 [encS ss, encI rs] = true
  rw [deepBs, deepBs, deep_S 57, deep_I 58]
  rfl
theorem pick_lt {c k m : Int} (h : 0 < m) : 0 ≤ pickF c k m ∧ pickF c k m < m := by
  unfold pickF
  exact ⟨Int.emod_nonneg _ (by omega), Int.emod_lt_of_pos _ h⟩
local macro_rules | `(tactic| walk_at "rel") => `(tactic| exact ⟨_, _, rfl, by omega, by omega, rfl⟩)
local macro_rules | `(tactic| walk_at "rel") => `(tactic| exact ⟨_, _, _, rfl, by assumption, by assumption, by omega, by omega, by omega, by omega, rfl⟩)
theorem ok_law {fa : Addr} {fd : FuncData} (F : Fun K "law" "law" s_law fa fd) (Z : Bn mg) (cC : Cls K CM) (na1 : NoAttr K CM "steps") (na2 : NoAttr K CM "ranks")
    (G__law_cell : Prom P w K mg base T k "_law_cell" ["_law_script", "_law_k"] R_cell) (G__law_pick : Prom P w K mg base T k "_law_pick" ["_law_cell_here", "_law_k", "_law_many"] R_pick) (G__law_digits : Prom P w K mg base T k "_law_digits" ["_law_cell_here", "_law_sizes"] R_digits) (G__law_due : Prom P w K mg base T k "_law_due" ["_law_way", "_law_top", "_law_bottom", "_law_base"] R_due)
    (G_up_to : Prom P w K mg base T k "up_to" ["top", "bottom", "base"] (R_way CM upF)) (G_from_on : Prom P w K mg base T k "from_on" ["top", "bottom", "base"] (R_way CM onF)) : FnOk P w K mg base CX0 (k + 1) fa fd ["_law_script"] (spR K T R_law) := by
  refine fun_ok F sc_law (by rintro ds s ⟨a, rfl, _⟩; rfl) (by decide) fun cdv A outer s H E hr => ⟨_, (pss_cons (ps_for PassesOwn.never rfl (pi_range1 rfl Z.range (pa_cons (pe_callB k_max (by rfl) Z.max (by decide +kernel) (pa_cons pe_int (pa_cons (pe_callB k_min (by rfl) Z.min (by decide +kernel) (pa_cons (pe_callB k_len (by rfl) Z.len PySem.boot_len (pa_cons (pv 0) pa_nil)) (pa_cons pe_int pa_nil))) pa_nil))) pa_nil)) (pg_name (i := 1) sc_law.nd rfl (Or.inl rfl))
    (pss_cons (ps_set (i := 2) sc_law.nd rfl (Or.inl rfl) (k_prom G__law_cell (hr.mono (by omega)) rfl (pa_cons (pv 0) (pa_cons (pv 1) pa_nil))))
    (pss_cons (ps_set (i := 3) sc_law.nd rfl (Or.inl rfl) (pe_lst (pa_cons (k_prom G__law_pick (hr.mono (by omega)) rfl (pa_cons (pv 2) (pa_cons pe_int (pa_cons pe_int pa_nil)))) (pa_cons (k_prom G__law_pick (hr.mono (by omega)) rfl (pa_cons (pv 2) (pa_cons pe_int (pa_cons pe_int pa_nil)))) (pa_cons (k_prom G__law_pick (hr.mono (by omega)) rfl (pa_cons (pv 2) (pa_cons pe_int (pa_cons pe_int pa_nil)))) pa_nil)))))
    (pss_cons (ps_if (pt_cmpR (k_eq hr.units) (pe_op op_modI (pv 2) pe_int) pe_int (nomark _))
      (pss_one (ps_set (i := 3) sc_law.nd rfl (Or.inl rfl) (k_prom G__law_digits (hr.mono (by omega)) rfl (pa_cons (pe_op op_divI (pv 2) pe_int) (pa_cons (pe_lst (pa_cons pe_int (pa_cons pe_int (pa_cons pe_int pa_nil)))) pa_nil)))))
      pss_nil)
    (pss_cons (ps_set (i := 4) sc_law.nd rfl (Or.inl rfl) (pe_op op_addU pe_int (k_ix (hu_of hr) (pv 3) pe_int)))
    (pss_cons (ps_set (i := 5) sc_law.nd rfl (Or.inl rfl) (pe_op op_modI (k_ix (hu_of hr) (pv 3) pe_int) (pe_op op_addU (pv 4) pe_int)))
    (pss_cons (ps_set (i := 6) sc_law.nd rfl (Or.inl rfl) (pe_op op_addU pe_int (k_ix (hu_of hr) (pv 3) pe_int)))
    (pss_cons (ps_set (i := 7) sc_law.nd rfl (Or.inl rfl) (pe_lst (pa_cons (k_prom G_up_to (hr.mono (by omega)) rfl (pa_cons (pv 5) (pa_cons (pv 4) (pa_cons (pv 6) pa_nil)))) (pa_cons (k_prom G_from_on (hr.mono (by omega)) rfl (pa_cons (pv 5) (pa_cons (pv 4) (pa_cons (pv 6) pa_nil)))) pa_nil))))
    (pss_cons (ps_for PassesOwn.never rfl (pi_range1 rfl Z.range (pa_cons pe_int pa_nil)) (pg_name (i := 8) sc_law.nd rfl (Or.inl rfl))
      (pss_one (ps_if (pt_cmpR (k_ne hr.units) (pe_tup (pa_cons (k_fld (k_ix (hu_of hr) (pv 7) (pv 8))) (pa_cons (k_fld (k_ix (hu_of hr) (pv 7) (pv 8))) pa_nil))) (k_prom G__law_due (hr.mono (by omega)) rfl (pa_cons (pv 8) (pa_cons (pv 5) (pa_cons (pv 4) (pa_cons (pv 6) pa_nil))))) (nomark _))
        (pss_one (ps_ret pe_bl))
        pss_nil)))
    (pss_one (ps_if (pt_cmpR op_leI (pv 4) pe_int (nomark _))
      (pss_cons (ps_set (i := 9) sc_law.nd rfl (Or.inl rfl) (pe_lst (pa_cons (k_prom G_up_to (hr.mono (by omega)) rfl (pa_cons (pe_op op_mulI pe_int (pv 5)) (pa_cons (pe_op op_mulI pe_int (pv 4)) (pa_cons (pv 6) pa_nil)))) (pa_cons (k_prom G_from_on (hr.mono (by omega)) rfl (pa_cons (pe_op op_mulI pe_int (pv 5)) (pa_cons (pe_op op_mulI pe_int (pv 4)) (pa_cons (pv 6) pa_nil)))) pa_nil))))
      (pss_one (ps_for PassesOwn.never rfl (pi_range1 rfl Z.range (pa_cons pe_int pa_nil)) (pg_name (i := 8) sc_law.nd rfl (Or.inl rfl))
        (pss_one (ps_if (pt_cmpR (k_ne hr.units) (pe_tup (pa_cons (k_fld (k_ix (hu_of hr) (pv 9) (pv 8))) (pa_cons (k_fld (k_ix (hu_of hr) (pv 9) (pv 8))) pa_nil))) (pe_tup (pa_cons (k_fld (k_ix (hu_of hr) (pv 7) (pv 8))) (pa_cons (k_fld (k_ix (hu_of hr) (pv 7) (pv 8))) pa_nil))) (nomark _))
          (pss_one (ps_ret pe_bl))
          pss_nil)))))
      pss_nil)))))))))))
  (pss_one (ps_ret pe_bl))), ?_⟩
  rintro ds s ⟨ns, rfl, hn, rfl⟩
  apply does_seq
  apply does_forR (fun (i : Nat) (_ : Unit) => [.sh (.scr ns), .any, .any, .any, .any, .any, .any, .any, .any, .any]) (fun i _ => True) ()
  case hi => walk_at "ea"
  case hj => omega
  case w0 => walk_at "wk"
  case h0 => trivial
  case hd =>
    rintro _ _
    walk_at "ret"
    rfl
  case hs =>
    rintro i _ hi _
    have hi2 : (i : Int) < 64 := by omega
    have hc := cellF_lt (ns := ns) (k := (i : Int)) (by omega)
    generalize hce : cellF ns i = c at hc
    apply does_seq
    apply does_set (s := .sh (.int c))
    case h =>
      rw [← hce]
      walk_at "ev"
    obtain ⟨hc1, hc2⟩ := hc
    have p1 := pick_lt (c := c) (k := 11) (m := 6) (by omega)
    have p2 := pick_lt (c := c) (k := 12) (m := 420) (by omega)
    have p3 := pick_lt (c := c) (k := 13) (m := 2) (by omega)
    apply does_seq
    apply does_set (s := .ownL [.int (pickF c 11 6), .int (pickF c 12 420), .int (pickF c 13 2)])
    case h => walk_at "ev"
    apply does_seq
    refine does_imp (R := fun o => ∃ a b d : Int, 0 ≤ a ∧ a < 6 ∧ 0 ≤ b ∧ b < 420 ∧ 0 ≤ d ∧ d < 2 ∧ o = .nx [.sh (.scr ns), .sh (.int i), .sh (.int c), .ownL [.int a, .int b, .int d], .any, .any, .any, .any, .any, .any]) ?h ?i
    case h =>
      apply does_if
      case h => walk_at "tb"
      case h1 =>
        intro _
        apply does_set (s := .ownL ((digitsF (c / 2) [6, 420, 2]).map .int))
        case h =>
          apply ev_callD (ds := [.int (c / 2), encI [6, 420, 2]])
          case h =>
            apply ed_cons
            case h => walk_at "ev"
            case t =>
              apply ed_cons
              case h => exact ev_frz (ev_lstD (ds := [.int 6, .int 420, .int 2]) (ed_cons ev_int (ed_cons ev_int (ed_cons ev_int ed_nil))) (Nat.le_of_ble_eq_true rfl))
              case t => exact ed_nil
          case hr => exact ⟨c / 2, [6, 420, 2], rfl, by omega, by omega, by decide, by decide, rfl⟩
        exact ⟨c / 2 % 6, c / 2 / 6 % 420, c / 2 / 6 / 420 % 2, Int.emod_nonneg _ (by omega), Int.emod_lt_of_pos _ (by omega), Int.emod_nonneg _ (by omega), Int.emod_lt_of_pos _ (by omega), Int.emod_nonneg _ (by omega), Int.emod_lt_of_pos _ (by omega), rfl⟩
      case h2 =>
        intro _
        walk_at "nx"
        exact ⟨_, _, _, p1.1, p1.2, p2.1, p2.2, p3.1, p3.2, rfl⟩
    case i =>
      rintro o ⟨n1, n2, n3, b1, b2, b3, b4, b5, b6, rfl⟩
      have a0 : atI [D.int n1, D.int n2, D.int n3] 0 = some (.int n1) := atI_nat (j := 0) rfl
      have a1 : atI [D.int n1, D.int n2, D.int n3] 1 = some (.int n2) := atI_nat (j := 1) rfl
      have a2 : atI [D.int n1, D.int n2, D.int n3] 2 = some (.int n3) := atI_nat (j := 2) rfl
      show DoesS K (plainA T) _ _ _
      apply does_seq
      apply does_set (s := .sh (.int (1 + n1)))
      case h => walk_at "ev"
      apply does_seq
      apply does_set (s := .sh (.int (n2 % (1 + n1 + 1))))
      case h => walk_at "ev"
      apply does_seq
      apply does_set (s := .sh (.int (2 + n3)))
      case h => walk_at "ev"
      have m1 := Int.emod_nonneg n2 (show 1 + n1 + 1 ≠ 0 by omega)
      have m2 := Int.emod_lt_of_pos n2 (show 0 < 1 + n1 + 1 by omega)
      obtain ⟨m, hm⟩ : ∃ m, m = 1 + n1 := ⟨_, rfl⟩
      obtain ⟨b, hb⟩ : ∃ b, b = 2 + n3 := ⟨_, rfl⟩
      obtain ⟨t, ht⟩ : ∃ t, t = n2 % (1 + n1 + 1) := ⟨_, rfl⟩
      rw [← ht] at m1 m2
      rw [← ht, ← hm, ← hb]
      have t0 : 0 ≤ t := by omega
      have t1 : t ≤ m := by omega
      have h1m : 1 ≤ m := by omega
      have hm6 : m ≤ 6 := by omega
      have hb2 : 2 ≤ b := by omega
      have hb3 : b ≤ 3 := by omega
      have hdue := inAll_at all_due t0 t1 h1m hm6 hb2 hb3
      simp only [dueOk, Bool.and_eq_true, decide_eq_true_eq] at hdue
      obtain ⟨⟨⟨u1, u2⟩, u3⟩, u4⟩ := hdue
      obtain ⟨U, hU⟩ : ∃ U, U = machR upF t m b := ⟨_, rfl⟩
      obtain ⟨O, hO⟩ : ∃ O, O = machR onF t m b := ⟨_, rfl⟩
      have gU : EvS K (plainA T) (tLst (tCons (tCall (spR K T (R_way CM upF)) [] E0 (tCons (tVar 5) (tCons (tVar 4) (tCons (tVar 6) tNil)))) (tCons (tCall (spR K T (R_way CM onF)) [] E0 (tCons (tVar 5) (tCons (tVar 4) (tCons (tVar 6) tNil)))) tNil)))
          [.sh (.scr ns), .sh (.int i), .sh (.int c), .ownL [.int n1, .int n2, .int n3], .sh (.int m), .sh (.int t), .sh (.int b), .any, .any, .any] [.sh (.scr ns), .sh (.int i), .sh (.int c), .ownL [.int n1, .int n2, .int n3], .sh (.int m), .sh (.int t), .sh (.int b), .any, .any, .any]
          (.ownL [.obj CM (machF U.2 (ranksOf U.1)), .obj CM (machF O.2 (ranksOf O.1))]) := by
        rw [hU, hO]
        exact ev_lstD (ed_cons (ev_callD (ed_cons (ev_var rfl) (ed_cons (ev_var rfl) (ed_cons (ev_var rfl) ed_nil))) ⟨t, m, b, rfl, t0, t1, h1m, hm6, hb2, hb3, rfl⟩)
          (ed_cons (ev_callD (ed_cons (ev_var rfl) (ed_cons (ev_var rfl) (ed_cons (ev_var rfl) ed_nil))) ⟨t, m, b, rfl, t0, t1, h1m, hm6, hb2, hb3, rfl⟩) ed_nil)) (Nat.le_of_ble_eq_true rfl)
      rw [← hU] at u1 u2
      rw [← hO] at u3 u4
      have l0 : atI [D.obj CM (machF U.2 (ranksOf U.1)), .obj CM (machF O.2 (ranksOf O.1))] ((0 : Nat) : Int) = some (.obj CM (machF U.2 (ranksOf U.1))) := atI_nat (j := 0) rfl
      have l1 : atI [D.obj CM (machF U.2 (ranksOf U.1)), .obj CM (machF O.2 (ranksOf O.1))] ((1 : Nat) : Int) = some (.obj CM (machF O.2 (ranksOf O.1))) := atI_nat (j := 1) rfl
      apply does_seq
      apply does_set
      case h => exact gU
      apply does_seq
      apply does_forR (fun (w : Nat) (_ : Unit) => [.sh (.scr ns), .sh (.int i), .sh (.int c), .ownL [.int n1, .int n2, .int n3], .sh (.int m), .sh (.int t), .sh (.int b), .ownL [.obj CM (machF U.2 (ranksOf U.1)), .obj CM (machF O.2 (ranksOf O.1))], .any, .any]) (fun _ _ => True) ()
      case hi => walk_at "ea"
      case hj => omega
      case w0 => walk_at "wk"
      case h0 => trivial
      case hs =>
        rintro w _ hw _
        have hw : w < 2 := by omega
        have pairAt : ∀ (X : List Int × List (List Int)) (w : Nat), atI [D.obj CM (machF U.2 (ranksOf U.1)), .obj CM (machF O.2 (ranksOf O.1))] (w : Int) = some (.obj CM (machF X.2 (ranksOf X.1))) → X.2 = (dueP w t m b).2 → ranksOf X.1 = dueR w t m b → (w : Int) = 0 ∨ (w : Int) = 1 →
            EvS K (plainA T) (tOp (rNeU K) (tTup (tCons (tFld K (tIxU K (tVar 7) (tVar 8)) "steps") (tCons (tFld K (tIxU K (tVar 7) (tVar 8)) "ranks") tNil))) (tCall (spR K T R_due) [] E0 (tCons (tVar 8) (tCons (tVar 5) (tCons (tVar 4) (tCons (tVar 6) tNil))))))
              [.sh (.scr ns), .sh (.int i), .sh (.int c), .ownL [.int n1, .int n2, .int n3], .sh (.int m), .sh (.int t), .sh (.int b), .ownL [.obj CM (machF U.2 (ranksOf U.1)), .obj CM (machF O.2 (ranksOf O.1))], .sh (.int w), .any] [.sh (.scr ns), .sh (.int i), .sh (.int c), .ownL [.int n1, .int n2, .int n3], .sh (.int m), .sh (.int t), .sh (.int b), .ownL [.obj CM (machF U.2 (ranksOf U.1)), .obj CM (machF O.2 (ranksOf O.1))], .sh (.int w), .any] (.sh (.bl false)) := fun X w hat e1 e2 hw => by
          refine ev_neSame (Γ1 := [.sh (.scr ns), .sh (.int i), .sh (.int c), .ownL [.int n1, .int n2, .int n3], .sh (.int m), .sh (.int t), .sh (.int b), .ownL [.obj CM (machF U.2 (ranksOf U.1)), .obj CM (machF O.2 (ranksOf O.1))], .sh (.int w), .any]) (d := .tup [encS X.2, encI (ranksOf X.1)]) (e := .tup [encS (dueP w t m b).2, encI (dueR w t m b)]) ?_ ?_ ?_ (deep_SI _ _)
          · exact ev_rd (ev_tupD (ed_cons (ev_fld (ev_ixL (ev_var_rdL rfl) (ev_var rfl) hat) cC na1 rfl) (ed_cons (ev_fld (ev_ixL (ev_var_rdL rfl) (ev_var rfl) hat) cC na2 rfl) ed_nil)) (Nat.le_of_ble_eq_true rfl))
          · exact ev_rd (ev_callD (ed_cons (ev_var rfl) (ed_cons (ev_var rfl) (ed_cons (ev_var rfl) (ed_cons (ev_var rfl) ed_nil)))) ⟨w, t, m, b, rfl, hw, t0, t1, h1m, hm6, hb2, hb3, rfl⟩)
          · rw [e1, e2]
        apply does_if
        case h =>
          apply eb_test
          obtain ⟨X, hat, e1, e2⟩ : ∃ X : List Int × List (List Int), atI [D.obj CM (machF U.2 (ranksOf U.1)), .obj CM (machF O.2 (ranksOf O.1))] (w : Int) = some (.obj CM (machF X.2 (ranksOf X.1))) ∧ X.2 = (dueP w t m b).2 ∧ ranksOf X.1 = dueR w t m b := by
            have hw : w = 0 ∨ w = 1 := by omega
            rcases hw with rfl | rfl
            · exact ⟨U, l0, u1, u2⟩
            · exact ⟨O, l1, u3, u4⟩
          exact pairAt X w hat e1 e2 (by omega)
        case h1 => intro z; cases z
        case h2 =>
          intro _
          walk_at "nx"
          exact ⟨(), trivial, by walk_at "wk"⟩
      case hd =>
        rintro _ _
        apply does_if
        case h => walk_at "tb"
        case h2 =>
          intro _
          walk_at "nx"
          exact ⟨(), trivial, by walk_at "wk"⟩
        case h1 =>
          intro hb3m
          have hm3 : m ≤ 3 := of_decide_eq_true hb3m
          have hdbl := inAll_at all_dbl t0 t1 h1m hm3 hb2 hb3
          simp only [dblOk, Bool.and_eq_true, decide_eq_true_eq] at hdbl
          obtain ⟨v1, v2⟩ := hdbl
          rw [← hU] at v1
          rw [← hO] at v2
          have gA : EvS K (plainA T) (tLst (tCons (tCall (spR K T (R_way CM upF)) [] E0 (tCons (tOp rMulI (tC (.int 2)) (tVar 5)) (tCons (tOp rMulI (tC (.int 2)) (tVar 4)) (tCons (tVar 6) tNil)))) (tCons (tCall (spR K T (R_way CM onF)) [] E0 (tCons (tOp rMulI (tC (.int 2)) (tVar 5)) (tCons (tOp rMulI (tC (.int 2)) (tVar 4)) (tCons (tVar 6) tNil)))) tNil)))
              [.sh (.scr ns), .sh (.int i), .sh (.int c), .ownL [.int n1, .int n2, .int n3], .sh (.int m), .sh (.int t), .sh (.int b), .ownL [.obj CM (machF U.2 (ranksOf U.1)), .obj CM (machF O.2 (ranksOf O.1))], .any, .any] [.sh (.scr ns), .sh (.int i), .sh (.int c), .ownL [.int n1, .int n2, .int n3], .sh (.int m), .sh (.int t), .sh (.int b), .ownL [.obj CM (machF U.2 (ranksOf U.1)), .obj CM (machF O.2 (ranksOf O.1))], .any, .any]
              (.ownL [.obj CM (machF U.2 (ranksOf U.1)), .obj CM (machF O.2 (ranksOf O.1))]) := by
            have rU : R_way CM upF [.int (2 * t), .int (2 * m), .int b] (.sh (.obj CM (machF U.2 (ranksOf U.1)))) := ⟨2 * t, 2 * m, b, rfl, by omega, by omega, by omega, by omega, hb2, hb3, by rw [v1]⟩
            have rO : R_way CM onF [.int (2 * t), .int (2 * m), .int b] (.sh (.obj CM (machF O.2 (ranksOf O.1)))) := ⟨2 * t, 2 * m, b, rfl, by omega, by omega, by omega, by omega, hb2, hb3, by rw [v2]⟩
            exact ev_lstD (ed_cons (ev_callD (ed_cons (ev_mul ev_int (ev_var rfl) (cmul (by omega) (by omega))) (ed_cons (ev_mul ev_int (ev_var rfl) (cmul (by omega) (by omega))) (ed_cons (ev_var rfl) ed_nil))) rU)
              (ed_cons (ev_callD (ed_cons (ev_mul ev_int (ev_var rfl) (cmul (by omega) (by omega))) (ed_cons (ev_mul ev_int (ev_var rfl) (cmul (by omega) (by omega))) (ed_cons (ev_var rfl) ed_nil))) rO) ed_nil)) (Nat.le_of_ble_eq_true rfl)
          apply does_seq
          apply does_set
          case h => exact gA
          apply does_forR (fun (w : Nat) (_ : Unit) => [.sh (.scr ns), .sh (.int i), .sh (.int c), .ownL [.int n1, .int n2, .int n3], .sh (.int m), .sh (.int t), .sh (.int b), .ownL [.obj CM (machF U.2 (ranksOf U.1)), .obj CM (machF O.2 (ranksOf O.1))], .any, .ownL [.obj CM (machF U.2 (ranksOf U.1)), .obj CM (machF O.2 (ranksOf O.1))]]) (fun _ _ => True) ()
          case hi => walk_at "ea"
          case hj => omega
          case w0 => walk_at "wk"
          case h0 => trivial
          case hs =>
            rintro w _ hw _
            have hw : w < 2 := by omega
            have pairAt : ∀ (X : List Int × List (List Int)) (w : Nat), atI [D.obj CM (machF U.2 (ranksOf U.1)), .obj CM (machF O.2 (ranksOf O.1))] (w : Int) = some (.obj CM (machF X.2 (ranksOf X.1))) →
                EvS K (plainA T) (tOp (rNeU K) (tTup (tCons (tFld K (tIxU K (tVar 9) (tVar 8)) "steps") (tCons (tFld K (tIxU K (tVar 9) (tVar 8)) "ranks") tNil))) (tTup (tCons (tFld K (tIxU K (tVar 7) (tVar 8)) "steps") (tCons (tFld K (tIxU K (tVar 7) (tVar 8)) "ranks") tNil))))
                  [.sh (.scr ns), .sh (.int i), .sh (.int c), .ownL [.int n1, .int n2, .int n3], .sh (.int m), .sh (.int t), .sh (.int b), .ownL [.obj CM (machF U.2 (ranksOf U.1)), .obj CM (machF O.2 (ranksOf O.1))], .sh (.int w), .ownL [.obj CM (machF U.2 (ranksOf U.1)), .obj CM (machF O.2 (ranksOf O.1))]] [.sh (.scr ns), .sh (.int i), .sh (.int c), .ownL [.int n1, .int n2, .int n3], .sh (.int m), .sh (.int t), .sh (.int b), .ownL [.obj CM (machF U.2 (ranksOf U.1)), .obj CM (machF O.2 (ranksOf O.1))], .sh (.int w), .ownL [.obj CM (machF U.2 (ranksOf U.1)), .obj CM (machF O.2 (ranksOf O.1))]] (.sh (.bl false)) := fun X w hat => by
              refine ev_neSame (Γ1 := [.sh (.scr ns), .sh (.int i), .sh (.int c), .ownL [.int n1, .int n2, .int n3], .sh (.int m), .sh (.int t), .sh (.int b), .ownL [.obj CM (machF U.2 (ranksOf U.1)), .obj CM (machF O.2 (ranksOf O.1))], .sh (.int w), .ownL [.obj CM (machF U.2 (ranksOf U.1)), .obj CM (machF O.2 (ranksOf O.1))]]) (d := .tup [encS X.2, encI (ranksOf X.1)]) (e := .tup [encS X.2, encI (ranksOf X.1)]) ?_ ?_ rfl (deep_SI _ _)
              · exact ev_rd (ev_tupD (ed_cons (ev_fld (ev_ixL (ev_var_rdL rfl) (ev_var rfl) hat) cC na1 rfl) (ed_cons (ev_fld (ev_ixL (ev_var_rdL rfl) (ev_var rfl) hat) cC na2 rfl) ed_nil)) (Nat.le_of_ble_eq_true rfl))
              · exact ev_rd (ev_tupD (ed_cons (ev_fld (ev_ixL (ev_var_rdL rfl) (ev_var rfl) hat) cC na1 rfl) (ed_cons (ev_fld (ev_ixL (ev_var_rdL rfl) (ev_var rfl) hat) cC na2 rfl) ed_nil)) (Nat.le_of_ble_eq_true rfl))
            apply does_if
            case h =>
              apply eb_test
              obtain ⟨X, hat⟩ : ∃ X : List Int × List (List Int), atI [D.obj CM (machF U.2 (ranksOf U.1)), .obj CM (machF O.2 (ranksOf O.1))] (w : Int) = some (.obj CM (machF X.2 (ranksOf X.1))) := by
                have hw : w = 0 ∨ w = 1 := by omega
                rcases hw with rfl | rfl
                · exact ⟨U, l0⟩
                · exact ⟨O, l1⟩
              exact pairAt X w hat
            case h1 => intro z; cases z
            case h2 =>
              intro _
              walk_at "nx"
              exact ⟨(), trivial, by walk_at "wk"⟩
          case hd =>
            rintro _ _
            exact ⟨(), trivial, by walk_at "wk"⟩
end
end Lp

namespace Lp
open PySem L2 NdefX Fx
theorem law_at {w : World} {K0 : PySem.W.Frag} {mg : Str → Option Value} {fa : Addr} {h : Heap} {f_is_whole : Addr} {oc_is_whole kV_is_whole dc_is_whole pm_is_whole ct_is_whole : Value} {od_is_whole an_is_whole : Option Addr} {sl_is_whole : Array (Option Value)} {cd_is_whole : Value} {f_is_step : Addr} {oc_is_step kV_is_step dc_is_step pm_is_step ct_is_step : Value} {od_is_step an_is_step : Option Addr} {sl_is_step : Array (Option Value)} {cd_is_step : Value} {f_are_steps : Addr} {oc_are_steps kV_are_steps dc_are_steps pm_are_steps ct_are_steps : Value} {od_are_steps an_are_steps : Option Addr} {sl_are_steps : Array (Option Value)} {cd_are_steps : Value} {f_are_ranks : Addr} {oc_are_ranks kV_are_ranks dc_are_ranks pm_are_ranks ct_are_ranks : Value} {od_are_ranks an_are_ranks : Option Addr} {sl_are_ranks : Array (Option Value)} {cd_are_ranks : Value} {f_need_base : Addr} {oc_need_base kV_need_base dc_need_base pm_need_base ct_need_base : Value} {od_need_base an_need_base : Option Addr} {sl_need_base : Array (Option Value)} {cd_need_base : Value} {f_shared : Addr} {oc_shared kV_shared dc_shared pm_shared ct_shared : Value} {od_shared an_shared : Option Addr} {sl_shared : Array (Option Value)} {cd_shared : Value} {f_lowest_terms : Addr} {oc_lowest_terms kV_lowest_terms dc_lowest_terms pm_lowest_terms ct_lowest_terms : Value} {od_lowest_terms an_lowest_terms : Option Addr} {sl_lowest_terms : Array (Option Value)} {cd_lowest_terms : Value} {f_fraction_by : Addr} {oc_fraction_by kV_fraction_by dc_fraction_by pm_fraction_by ct_fraction_by : Value} {od_fraction_by an_fraction_by : Option Addr} {sl_fraction_by : Array (Option Value)} {cd_fraction_by : Value} {f_machine_by : Addr} {oc_machine_by kV_machine_by dc_machine_by pm_machine_by ct_machine_by : Value} {od_machine_by an_machine_by : Option Addr} {sl_machine_by : Array (Option Value)} {cd_machine_by : Value} {f__law_cell : Addr} {oc__law_cell kV__law_cell dc__law_cell pm__law_cell ct__law_cell : Value} {od__law_cell an__law_cell : Option Addr} {sl__law_cell : Array (Option Value)} {cd__law_cell : Value} {f__law_pick : Addr} {oc__law_pick kV__law_pick dc__law_pick pm__law_pick ct__law_pick : Value} {od__law_pick an__law_pick : Option Addr} {sl__law_pick : Array (Option Value)} {cd__law_pick : Value} {f__law_digits : Addr} {oc__law_digits kV__law_digits dc__law_digits pm__law_digits ct__law_digits : Value} {od__law_digits an__law_digits : Option Addr} {sl__law_digits : Array (Option Value)} {cd__law_digits : Value} {f__law_next : Addr} {oc__law_next kV__law_next dc__law_next pm__law_next ct__law_next : Value} {od__law_next an__law_next : Option Addr} {sl__law_next : Array (Option Value)} {cd__law_next : Value} {f__law_due : Addr} {oc__law_due kV__law_due dc__law_due pm__law_due ct__law_due : Value} {od__law_due an__law_due : Option Addr} {sl__law_due : Array (Option Value)} {cd__law_due : Value} {f_up_to : Addr} {oc_up_to kV_up_to dc_up_to pm_up_to ct_up_to : Value} {od_up_to an_up_to : Option Addr} {sl_up_to : Array (Option Value)} {co_up_to P_up_to : Addr} {o2_up_to : Value} {d2_up_to : Option Addr} {vs_up_to : Array Value} {s2_up_to : Array (Option Value)} {f_from_on : Addr} {oc_from_on kV_from_on dc_from_on pm_from_on ct_from_on : Value} {od_from_on an_from_on : Option Addr} {sl_from_on : Array (Option Value)} {co_from_on P_from_on : Addr} {o2_from_on : Value} {d2_from_on : Option Addr} {vs_from_on : Array Value} {s2_from_on : Array (Option Value)} {f_law : Addr} {oc_law kV_law dc_law pm_law ct_law : Value} {od_law an_law : Option Addr} {sl_law : Array (Option Value)} {cd_law : Value} {C_Machine : Addr} {f_Machine___init__ : Addr} {oc_Machine___init__ kV_Machine___init__ dc_Machine___init__ pm_Machine___init__ ct_Machine___init__ cd_Machine___init__ : Value} {od_Machine___init__ an_Machine___init__ : Option Addr} {sl_Machine___init__ : Array (Option Value)} {t_OUT : Tok} {t_MR : Tok} {t_MB : Tok} {t_LE : Tok}
    (X0 : K0.In h) (G : h.Ns mainGlobals mg) (hfa : mg "law" = some (.ref fa))
    (a_is_whole : PySem.W.nsIn K0 mainGlobals "is_whole" = some (some (.ref f_is_whole)))
    (l_is_whole : K0.lookup f_is_whole = some ⟨oc_is_whole, od_is_whole, .func (PySem.W.fnOf "is_whole" "is_whole" (defArgs s_is_whole) (defBody s_is_whole) (defScope s_is_whole) .none kV_is_whole dc_is_whole pm_is_whole an_is_whole cd_is_whole ct_is_whole), sl_is_whole⟩)
    (a_is_step : PySem.W.nsIn K0 mainGlobals "is_step" = some (some (.ref f_is_step)))
    (l_is_step : K0.lookup f_is_step = some ⟨oc_is_step, od_is_step, .func (PySem.W.fnOf "is_step" "is_step" (defArgs s_is_step) (defBody s_is_step) (defScope s_is_step) .none kV_is_step dc_is_step pm_is_step an_is_step cd_is_step ct_is_step), sl_is_step⟩)
    (a_are_steps : PySem.W.nsIn K0 mainGlobals "are_steps" = some (some (.ref f_are_steps)))
    (l_are_steps : K0.lookup f_are_steps = some ⟨oc_are_steps, od_are_steps, .func (PySem.W.fnOf "are_steps" "are_steps" (defArgs s_are_steps) (defBody s_are_steps) (defScope s_are_steps) .none kV_are_steps dc_are_steps pm_are_steps an_are_steps cd_are_steps ct_are_steps), sl_are_steps⟩)
    (a_are_ranks : PySem.W.nsIn K0 mainGlobals "are_ranks" = some (some (.ref f_are_ranks)))
    (l_are_ranks : K0.lookup f_are_ranks = some ⟨oc_are_ranks, od_are_ranks, .func (PySem.W.fnOf "are_ranks" "are_ranks" (defArgs s_are_ranks) (defBody s_are_ranks) (defScope s_are_ranks) .none kV_are_ranks dc_are_ranks pm_are_ranks an_are_ranks cd_are_ranks ct_are_ranks), sl_are_ranks⟩)
    (a_need_base : PySem.W.nsIn K0 mainGlobals "need_base" = some (some (.ref f_need_base)))
    (l_need_base : K0.lookup f_need_base = some ⟨oc_need_base, od_need_base, .func (PySem.W.fnOf "need_base" "need_base" (defArgs s_need_base) (defBody s_need_base) (defScope s_need_base) .none kV_need_base dc_need_base pm_need_base an_need_base cd_need_base ct_need_base), sl_need_base⟩)
    (a_shared : PySem.W.nsIn K0 mainGlobals "shared" = some (some (.ref f_shared)))
    (l_shared : K0.lookup f_shared = some ⟨oc_shared, od_shared, .func (PySem.W.fnOf "shared" "shared" (defArgs s_shared) (defBody s_shared) (defScope s_shared) .none kV_shared dc_shared pm_shared an_shared cd_shared ct_shared), sl_shared⟩)
    (a_lowest_terms : PySem.W.nsIn K0 mainGlobals "lowest_terms" = some (some (.ref f_lowest_terms)))
    (l_lowest_terms : K0.lookup f_lowest_terms = some ⟨oc_lowest_terms, od_lowest_terms, .func (PySem.W.fnOf "lowest_terms" "lowest_terms" (defArgs s_lowest_terms) (defBody s_lowest_terms) (defScope s_lowest_terms) .none kV_lowest_terms dc_lowest_terms pm_lowest_terms an_lowest_terms cd_lowest_terms ct_lowest_terms), sl_lowest_terms⟩)
    (a_fraction_by : PySem.W.nsIn K0 mainGlobals "fraction_by" = some (some (.ref f_fraction_by)))
    (l_fraction_by : K0.lookup f_fraction_by = some ⟨oc_fraction_by, od_fraction_by, .func (PySem.W.fnOf "fraction_by" "fraction_by" (defArgs s_fraction_by) (defBody s_fraction_by) (defScope s_fraction_by) .none kV_fraction_by dc_fraction_by pm_fraction_by an_fraction_by cd_fraction_by ct_fraction_by), sl_fraction_by⟩)
    (a_machine_by : PySem.W.nsIn K0 mainGlobals "machine_by" = some (some (.ref f_machine_by)))
    (l_machine_by : K0.lookup f_machine_by = some ⟨oc_machine_by, od_machine_by, .func (PySem.W.fnOf "machine_by" "machine_by" (defArgs s_machine_by) (defBody s_machine_by) (defScope s_machine_by) .none kV_machine_by dc_machine_by pm_machine_by an_machine_by cd_machine_by ct_machine_by), sl_machine_by⟩)
    (a__law_cell : PySem.W.nsIn K0 mainGlobals "_law_cell" = some (some (.ref f__law_cell)))
    (l__law_cell : K0.lookup f__law_cell = some ⟨oc__law_cell, od__law_cell, .func (PySem.W.fnOf "_law_cell" "_law_cell" (defArgs s__law_cell) (defBody s__law_cell) (defScope s__law_cell) .none kV__law_cell dc__law_cell pm__law_cell an__law_cell cd__law_cell ct__law_cell), sl__law_cell⟩)
    (a__law_pick : PySem.W.nsIn K0 mainGlobals "_law_pick" = some (some (.ref f__law_pick)))
    (l__law_pick : K0.lookup f__law_pick = some ⟨oc__law_pick, od__law_pick, .func (PySem.W.fnOf "_law_pick" "_law_pick" (defArgs s__law_pick) (defBody s__law_pick) (defScope s__law_pick) .none kV__law_pick dc__law_pick pm__law_pick an__law_pick cd__law_pick ct__law_pick), sl__law_pick⟩)
    (a__law_digits : PySem.W.nsIn K0 mainGlobals "_law_digits" = some (some (.ref f__law_digits)))
    (l__law_digits : K0.lookup f__law_digits = some ⟨oc__law_digits, od__law_digits, .func (PySem.W.fnOf "_law_digits" "_law_digits" (defArgs s__law_digits) (defBody s__law_digits) (defScope s__law_digits) .none kV__law_digits dc__law_digits pm__law_digits an__law_digits cd__law_digits ct__law_digits), sl__law_digits⟩)
    (a__law_next : PySem.W.nsIn K0 mainGlobals "_law_next" = some (some (.ref f__law_next)))
    (l__law_next : K0.lookup f__law_next = some ⟨oc__law_next, od__law_next, .func (PySem.W.fnOf "_law_next" "_law_next" (defArgs s__law_next) (defBody s__law_next) (defScope s__law_next) .none kV__law_next dc__law_next pm__law_next an__law_next cd__law_next ct__law_next), sl__law_next⟩)
    (a__law_due : PySem.W.nsIn K0 mainGlobals "_law_due" = some (some (.ref f__law_due)))
    (l__law_due : K0.lookup f__law_due = some ⟨oc__law_due, od__law_due, .func (PySem.W.fnOf "_law_due" "_law_due" (defArgs s__law_due) (defBody s__law_due) (defScope s__law_due) .none kV__law_due dc__law_due pm__law_due an__law_due cd__law_due ct__law_due), sl__law_due⟩)
    (a_up_to : PySem.W.nsIn K0 mainGlobals "up_to" = some (some (.ref f_up_to)))
    (l_up_to : K0.lookup f_up_to = some ⟨oc_up_to, od_up_to, .func (PySem.W.fnOf "up_to" "up_to" (defArgs s_up_to) (defBody s_up_to) (defScope s_up_to) .none kV_up_to dc_up_to pm_up_to an_up_to (.ref co_up_to) ct_up_to), sl_up_to⟩)
    (hc_up_to : K0.lookup co_up_to = some ⟨o2_up_to, d2_up_to, .fields vs_up_to, s2_up_to⟩)
    (hP_up_to : (vs_up_to[11]? : Option Value) = some (.ref P_up_to))
    (hT_up_to : h.get? P_up_to = some { cls := .none, data := .fields #[] })
    (a_from_on : PySem.W.nsIn K0 mainGlobals "from_on" = some (some (.ref f_from_on)))
    (l_from_on : K0.lookup f_from_on = some ⟨oc_from_on, od_from_on, .func (PySem.W.fnOf "from_on" "from_on" (defArgs s_from_on) (defBody s_from_on) (defScope s_from_on) .none kV_from_on dc_from_on pm_from_on an_from_on (.ref co_from_on) ct_from_on), sl_from_on⟩)
    (hc_from_on : K0.lookup co_from_on = some ⟨o2_from_on, d2_from_on, .fields vs_from_on, s2_from_on⟩)
    (hP_from_on : (vs_from_on[11]? : Option Value) = some (.ref P_from_on))
    (hT_from_on : h.get? P_from_on = some { cls := .none, data := .fields #[] })
    (a_law : PySem.W.nsIn K0 mainGlobals "law" = some (some (.ref f_law)))
    (l_law : K0.lookup f_law = some ⟨oc_law, od_law, .func (PySem.W.fnOf "law" "law" (defArgs s_law) (defBody s_law) (defScope s_law) .none kV_law dc_law pm_law an_law cd_law ct_law), sl_law⟩)
    (aC_Machine : PySem.W.nsIn K0 mainGlobals "Machine" = some (some (.ref C_Machine)))
    (a_Machine___init__ : PySem.W.findIn K0 (.ref C_Machine) "__init__" = some (some (.ref f_Machine___init__)))
    (l_Machine___init__ : K0.lookup f_Machine___init__ = some ⟨oc_Machine___init__, od_Machine___init__, .func (PySem.W.fnOf "__init__" "Machine.__init__" (defArgs s_Machine___init__) (defBody s_Machine___init__) (defScope s_Machine___init__) .none kV_Machine___init__ dc_Machine___init__ pm_Machine___init__ an_Machine___init__ cd_Machine___init__ ct_Machine___init__), sl_Machine___init__⟩)
    (g_OUT : PySem.W.nsIn K0 mainGlobals "OUT" = some (some (.int (-1) t_OUT)))
    (g_MOST_ROOMS : PySem.W.nsIn K0 mainGlobals "MOST_ROOMS" = some (some (.int 8 t_MR)))
    (g_MOST_BOTTOM : PySem.W.nsIn K0 mainGlobals "MOST_BOTTOM" = some (some (.int 6 t_MB)))
    (g_LETTERS : PySem.W.nsIn K0 mainGlobals "LETTERS" = some (some (.str "abc" t_LE)))
    (c_is_whole : PySem.W.codeIn K0 cd_is_whole "is_whole" = true)
    (k_is_whole : PySem.W.keepIn K0 (.ref f_is_whole) = true)
    (c_is_step : PySem.W.codeIn K0 cd_is_step "is_step" = true)
    (k_is_step : PySem.W.keepIn K0 (.ref f_is_step) = true)
    (c_are_steps : PySem.W.codeIn K0 cd_are_steps "are_steps" = true)
    (k_are_steps : PySem.W.keepIn K0 (.ref f_are_steps) = true)
    (c_are_ranks : PySem.W.codeIn K0 cd_are_ranks "are_ranks" = true)
    (k_are_ranks : PySem.W.keepIn K0 (.ref f_are_ranks) = true)
    (c_need_base : PySem.W.codeIn K0 cd_need_base "need_base" = true)
    (k_need_base : PySem.W.keepIn K0 (.ref f_need_base) = true)
    (c_shared : PySem.W.codeIn K0 cd_shared "shared" = true)
    (k_shared : PySem.W.keepIn K0 (.ref f_shared) = true)
    (c_lowest_terms : PySem.W.codeIn K0 cd_lowest_terms "lowest_terms" = true)
    (k_lowest_terms : PySem.W.keepIn K0 (.ref f_lowest_terms) = true)
    (c_fraction_by : PySem.W.codeIn K0 cd_fraction_by "fraction_by" = true)
    (k_fraction_by : PySem.W.keepIn K0 (.ref f_fraction_by) = true)
    (c_machine_by : PySem.W.codeIn K0 cd_machine_by "machine_by" = true)
    (k_machine_by : PySem.W.keepIn K0 (.ref f_machine_by) = true)
    (c__law_cell : PySem.W.codeIn K0 cd__law_cell "_law_cell" = true)
    (k__law_cell : PySem.W.keepIn K0 (.ref f__law_cell) = true)
    (c__law_pick : PySem.W.codeIn K0 cd__law_pick "_law_pick" = true)
    (k__law_pick : PySem.W.keepIn K0 (.ref f__law_pick) = true)
    (c__law_digits : PySem.W.codeIn K0 cd__law_digits "_law_digits" = true)
    (k__law_digits : PySem.W.keepIn K0 (.ref f__law_digits) = true)
    (c__law_next : PySem.W.codeIn K0 cd__law_next "_law_next" = true)
    (k__law_next : PySem.W.keepIn K0 (.ref f__law_next) = true)
    (c__law_due : PySem.W.codeIn K0 cd__law_due "_law_due" = true)
    (k__law_due : PySem.W.keepIn K0 (.ref f__law_due) = true)
    (c_up_to : PySem.W.codeIn K0 (.ref co_up_to) "up_to" = true)
    (k_up_to : PySem.W.keepIn K0 (.ref f_up_to) = true)
    (hd_up_to : PySem.W.codeHdIn K0 co_up_to P_up_to = true)
    (nT_up_to : K0.lookup P_up_to = none)
    (c_from_on : PySem.W.codeIn K0 (.ref co_from_on) "from_on" = true)
    (k_from_on : PySem.W.keepIn K0 (.ref f_from_on) = true)
    (hd_from_on : PySem.W.codeHdIn K0 co_from_on P_from_on = true)
    (nT_from_on : K0.lookup P_from_on = none)
    (c_law : PySem.W.codeIn K0 cd_law "law" = true)
    (k_law : PySem.W.keepIn K0 (.ref f_law) = true)
    (pg_Machine : PySem.W.plainGet K0 C_Machine Str.empty = true)
    (hdc_Machine : PySem.W.hasDictIn K0 C_Machine = true)
    (po_Machine : PySem.W.plainOver K0 C_Machine = true)
    (sa_Machine : PySem.W.findIn K0 (.ref C_Machine) "__setattr__" = some (some (.builtin "object.__setattr__")))
    (mk_Machine : PySem.W.makesIn K0 C_Machine = true)
    (kc_Machine : PySem.W.keepIn K0 (.ref C_Machine) = true)
    (i_Machine___init__ : PySem.W.isFn K0 (.ref f_Machine___init__) = true)
    (c_Machine___init__ : PySem.W.codeIn K0 cd_Machine___init__ "Machine.__init__" = true)
    (k_Machine___init__ : PySem.W.keepIn K0 (.ref f_Machine___init__) = true)
    (n_Machine_steps : PySem.W.findIn K0 (.ref C_Machine) "steps" = some none)
    (n_Machine_ranks : PySem.W.findIn K0 (.ref C_Machine) "ranks" = some none)
    (n_Machine_many : PySem.W.findIn K0 (.ref C_Machine) "many" = some none)
    (n_Machine_letters : PySem.W.findIn K0 (.ref C_Machine) "letters" = some none)
    (z_len : PySem.W.nsIn K0 mainGlobals "len" = some none)
    (z_range : PySem.W.nsIn K0 mainGlobals "range" = some none)
    (z_int : PySem.W.nsIn K0 mainGlobals "int" = some none)
    (z_bool : PySem.W.nsIn K0 mainGlobals "bool" = some none)
    (z_list : PySem.W.nsIn K0 mainGlobals "list" = some none)
    (z_isinstance : PySem.W.nsIn K0 mainGlobals "isinstance" = some none)
    (z_min : PySem.W.nsIn K0 mainGlobals "min" = some none)
    (z_max : PySem.W.nsIn K0 mainGlobals "max" = some none)
    : ∃ K : PySem.W.Frag, K.In h ∧ LamX.LawAtS PySem.Challenge.rw_looprank_k84_rooms_of_fractions w K CX0 8 63 "_law_script" mg fa h := by
  have X := X0
  have T_law := hfa.symm.trans (PySem.W.mg_of X G a_law)
  cases T_law
  have h_is_whole : Here K0 mg "is_whole" s_is_whole ["thing"] := here_mk X G a_is_whole l_is_whole c_is_whole k_is_whole (fun _ _ _ _ _ _ us hl => match us, hl with | [_], _ => rfl)
  have h_is_step : Here K0 mg "is_step" s_is_step ["thing", "many"] := here_mk X G a_is_step l_is_step c_is_step k_is_step (fun _ _ _ _ _ _ us hl => match us, hl with | [_, _], _ => rfl)
  have h_are_steps : Here K0 mg "are_steps" s_are_steps ["thing"] := here_mk X G a_are_steps l_are_steps c_are_steps k_are_steps (fun _ _ _ _ _ _ us hl => match us, hl with | [_], _ => rfl)
  have h_are_ranks : Here K0 mg "are_ranks" s_are_ranks ["thing", "many"] := here_mk X G a_are_ranks l_are_ranks c_are_ranks k_are_ranks (fun _ _ _ _ _ _ us hl => match us, hl with | [_, _], _ => rfl)
  have h_need_base : Here K0 mg "need_base" s_need_base ["base"] := here_mk X G a_need_base l_need_base c_need_base k_need_base (fun _ _ _ _ _ _ us hl => match us, hl with | [_], _ => rfl)
  have h_shared : Here K0 mg "shared" s_shared ["one", "other"] := here_mk X G a_shared l_shared c_shared k_shared (fun _ _ _ _ _ _ us hl => match us, hl with | [_, _], _ => rfl)
  have h_lowest_terms : Here K0 mg "lowest_terms" s_lowest_terms ["top", "bottom"] := here_mk X G a_lowest_terms l_lowest_terms c_lowest_terms k_lowest_terms (fun _ _ _ _ _ _ us hl => match us, hl with | [_, _], _ => rfl)
  have h_fraction_by : Here K0 mg "fraction_by" s_fraction_by ["top", "bottom", "base"] := here_mk X G a_fraction_by l_fraction_by c_fraction_by k_fraction_by (fun _ _ _ _ _ _ us hl => match us, hl with | [_, _, _], _ => rfl)
  have h_machine_by : Here K0 mg "machine_by" s_machine_by ["start", "base", "onward"] := here_mk X G a_machine_by l_machine_by c_machine_by k_machine_by (fun _ _ _ _ _ _ us hl => match us, hl with | [_, _, _], _ => rfl)
  have h__law_cell : Here K0 mg "_law_cell" s__law_cell ["_law_script", "_law_k"] := here_mk X G a__law_cell l__law_cell c__law_cell k__law_cell (fun _ _ _ _ _ _ us hl => match us, hl with | [_, _], _ => rfl)
  have h__law_pick : Here K0 mg "_law_pick" s__law_pick ["_law_cell_here", "_law_k", "_law_many"] := here_mk X G a__law_pick l__law_pick c__law_pick k__law_pick (fun _ _ _ _ _ _ us hl => match us, hl with | [_, _, _], _ => rfl)
  have h__law_digits : Here K0 mg "_law_digits" s__law_digits ["_law_cell_here", "_law_sizes"] := here_mk X G a__law_digits l__law_digits c__law_digits k__law_digits (fun _ _ _ _ _ _ us hl => match us, hl with | [_, _], _ => rfl)
  have h__law_next : Here K0 mg "_law_next" s__law_next ["_law_way", "_law_top", "_law_bottom", "_law_base", "_law_digit"] := here_mk X G a__law_next l__law_next c__law_next k__law_next (fun _ _ _ _ _ _ us hl => match us, hl with | [_, _, _, _, _], _ => rfl)
  have h__law_due : Here K0 mg "_law_due" s__law_due ["_law_way", "_law_top", "_law_bottom", "_law_base"] := here_mk X G a__law_due l__law_due c__law_due k__law_due (fun _ _ _ _ _ _ us hl => match us, hl with | [_, _, _, _], _ => rfl)
  have h_up_to : HereT K0 mg "up_to" s_up_to ["top", "bottom", "base"] co_up_to := hereT_mk X G a_up_to l_up_to c_up_to k_up_to (fun _ _ _ _ _ _ us hl => match us, hl with | [_, _, _], _ => rfl)
  have h_from_on : HereT K0 mg "from_on" s_from_on ["top", "bottom", "base"] co_from_on := hereT_mk X G a_from_on l_from_on c_from_on k_from_on (fun _ _ _ _ _ _ us hl => match us, hl with | [_, _, _], _ => rfl)
  have hC_Machine : HereC K0 mg C_Machine "Machine" "Machine.__init__" s_Machine___init__ ["self", "steps", "ranks"] := hereC_mk X G aC_Machine pg_Machine hdc_Machine po_Machine sa_Machine mk_Machine kc_Machine a_Machine___init__ i_Machine___init__ l_Machine___init__ c_Machine___init__ k_Machine___init__ (fun _ _ _ _ _ _ us hl => match us, hl with | [_, _, _], _ => rfl)
  have cC_Machine : Cls K0 C_Machine := ⟨pg_Machine, hdc_Machine, po_Machine, sa_Machine⟩
  have gl_OUT : ∃ u, mg "OUT" = some u ∧ RelV (.int (-1)) u := glob_mk X G g_OUT ⟨_, rfl⟩
  have gl_MOST_ROOMS : ∃ u, mg "MOST_ROOMS" = some u ∧ RelV (.int 8) u := glob_mk X G g_MOST_ROOMS ⟨_, rfl⟩
  have gl_MOST_BOTTOM : ∃ u, mg "MOST_BOTTOM" = some u ∧ RelV (.int 6) u := glob_mk X G g_MOST_BOTTOM ⟨_, rfl⟩
  have gl_LETTERS : ∃ u, mg "LETTERS" = some u ∧ RelV (.str "abc") u := glob_mk X G g_LETTERS ⟨_, rfl⟩
  have Z : Bn mg := ⟨PySem.W.mg_none_of X G z_len, PySem.W.mg_none_of X G z_range, PySem.W.mg_none_of X G z_int, PySem.W.mg_none_of X G z_bool, PySem.W.mg_none_of X G z_list, PySem.W.mg_none_of X G z_isinstance, PySem.W.mg_none_of X G z_min, PySem.W.mg_none_of X G z_max⟩
  have F := fun_mk (st := s_law) l_law c_law k_law
  refine ⟨_, X, law_end (cs := [(co_up_to, P_up_to), (co_from_on, P_from_on)]) (nm := nmT) (Rel := R_law) (fd := PySem.W.fnOf "law" "law" (defArgs s_law) (defBody s_law) (defScope s_law) .none kV_law dc_law pm_law an_law cd_law ct_law) ?_ ?_ ?_ (fun s v => .of_eq rfl) (fun ns hl => ⟨ns, rfl, hl, rfl⟩) fun base KB GB TB => ?_⟩
  · intro p hp
    simp only [List.mem_cons, List.not_mem_nil, or_false] at hp
    rcases hp with rfl | rfl
    · exact hT_up_to
    · exact hT_from_on
  · intro p hp
    simp only [List.mem_cons, List.not_mem_nil, or_false] at hp
    rcases hp with rfl | rfl
    · exact nT_up_to
    · exact nT_from_on
  · intro p hp
    simp only [List.mem_cons, List.not_mem_nil, or_false] at hp
    rcases hp with rfl | rfl
    · exact PySem.W.codeHd_of_K X hd_up_to
    · exact PySem.W.codeHd_of_K X hd_from_on

  have TBu := TB (co_up_to, P_up_to) (by simp)
  have TBf := TB (co_from_on, P_from_on) (by simp)
  have hmu : (P_up_to, nmT) ∈ [(co_up_to, P_up_to), (co_from_on, P_from_on)].map fun p => (p.2, nmT) := by simp
  have hmf : (P_from_on, nmT) ∈ [(co_up_to, P_up_to), (co_from_on, P_from_on)].map fun p => (p.2, nmT) := by simp
  have hu : ∀ a : Addr, ∀ p ∈ [(co_up_to, P_up_to), (co_from_on, P_from_on)].map (fun p => (p.2, nmT)), p.1 = a → p.2 = nmT := by
    intro a p hp _
    obtain ⟨q, _, rfl⟩ := List.mem_map.mp hp
    rfl
  generalize [(co_up_to, P_up_to), (co_from_on, P_from_on)].map (fun p => (p.2, nmT)) = T at hmu hmf hu ⊢
  have G1 := ok_is_whole (P := PySem.Challenge.rw_looprank_k84_rooms_of_fractions.prog) (w := w) (base := base) (T := T) (k := 0) h_is_whole Z
  have G2 := ok_is_step h_is_step Z gl_LETTERS G1
  have G3 := ok_are_steps h_are_steps Z gl_MOST_ROOMS G2
  have G4 := ok_are_ranks h_are_ranks Z G1
  have G5 := ok_Machine hC_Machine Z n_Machine_steps n_Machine_ranks n_Machine_many n_Machine_letters G3 (G4.mono (by decide))
  have G6 := ok_shared (P := PySem.Challenge.rw_looprank_k84_rooms_of_fractions.prog) (w := w) (base := base) (T := T) (k := 0) h_shared
  have G7 := ok_lowest_terms h_lowest_terms G6
  have G8 := ok_need_base h_need_base Z G1
  have G9 := ok_fraction_by h_fraction_by gl_MOST_BOTTOM G8 (G1.mono (by decide)) G7
  have G10 := ok_machine_by h_machine_by Z gl_OUT G5
  have G11 := ok_up_to h_up_to Z gl_OUT TBu hmu (hu _) (G9.mono (by decide)) G10
  have G12 := ok_from_on h_from_on Z gl_OUT TBf hmf (hu _) (G9.mono (by decide)) G10
  have G13 := ok_cell (P := PySem.Challenge.rw_looprank_k84_rooms_of_fractions.prog) (w := w) (base := base) (T := T) (k := 6) h__law_cell Z
  have G14 := ok_pick (P := PySem.Challenge.rw_looprank_k84_rooms_of_fractions.prog) (w := w) (base := base) (T := T) (k := 6) h__law_pick
  have G15 := ok_digits (P := PySem.Challenge.rw_looprank_k84_rooms_of_fractions.prog) (w := w) (base := base) (T := T) (k := 6) h__law_digits
  have G16 := ok_next (P := PySem.Challenge.rw_looprank_k84_rooms_of_fractions.prog) (w := w) (base := base) (T := T) (k := 5) h__law_next
  have G17 := ok_due h__law_due Z G16
  exact ok_law F Z cC_Machine n_Machine_steps n_Machine_ranks G13 G14 G15 G17 G11 G12
end Lp
open PySem PySem.W PyProof.Rows in
set_option maxRecDepth 100000 in
set_option maxHeartbeats 0 in
theorem PySem.Challenge.cw_looprank_k84_rooms_of_fractions_holds : PySem.Challenge.rw_looprank_k84_rooms_of_fractions.Holds := by
  w_on; o_law; k_head; (case hw => w_witness2)
  k_fill
  refine LamX.walk_ofTsE (l := PySem.Challenge.rw_looprank_k84_rooms_of_fractions) (n := 63) (k := 8) (x := "_law_script") (CX := fun _ => L2.CX0) rfl (by decide) rfl ⟨rfl, by decide, by decide⟩ (fun w mg fa h Y G hmg => ?F) (fun _ _ _ _ _ z => z)
  case F =>
    have KX := PySem.W.km_in_of Y
    refine' Lp.law_at KX G hmg ?a_is_whole ?l_is_whole ?a_is_step ?l_is_step ?a_are_steps ?l_are_steps ?a_are_ranks ?l_are_ranks ?a_need_base ?l_need_base ?a_shared ?l_shared ?a_lowest_terms ?l_lowest_terms ?a_fraction_by ?l_fraction_by ?a_machine_by ?l_machine_by ?a__law_cell ?l__law_cell ?a__law_pick ?l__law_pick ?a__law_digits ?l__law_digits ?a__law_next ?l__law_next ?a__law_due ?l__law_due ?a_up_to ?l_up_to ?hc_up_to ?hP_up_to ?hT_up_to ?a_from_on ?l_from_on ?hc_from_on ?hP_from_on ?hT_from_on ?a_law ?l_law ?aC_Machine ?a_Machine___init__ ?l_Machine___init__ ?g_OUT ?g_MOST_ROOMS ?g_MOST_BOTTOM ?g_LETTERS ?c_is_whole ?k_is_whole ?c_is_step ?k_is_step ?c_are_steps ?k_are_steps ?c_are_ranks ?k_are_ranks ?c_need_base ?k_need_base ?c_shared ?k_shared ?c_lowest_terms ?k_lowest_terms ?c_fraction_by ?k_fraction_by ?c_machine_by ?k_machine_by ?c__law_cell ?k__law_cell ?c__law_pick ?k__law_pick ?c__law_digits ?k__law_digits ?c__law_next ?k__law_next ?c__law_due ?k__law_due ?c_up_to ?k_up_to ?hd_up_to ?nT_up_to ?c_from_on ?k_from_on ?hd_from_on ?nT_from_on ?c_law ?k_law ?pg_Machine ?hdc_Machine ?po_Machine ?sa_Machine ?mk_Machine ?kc_Machine ?i_Machine___init__ ?c_Machine___init__ ?k_Machine___init__ ?n_Machine_steps ?n_Machine_ranks ?n_Machine_many ?n_Machine_letters ?z_len ?z_range ?z_int ?z_bool ?z_list ?z_isinstance ?z_min ?z_max
    (case a_is_whole => k_is)
    (case l_is_whole => k_is)
    (case a_is_step => k_is)
    (case l_is_step => k_is)
    (case a_are_steps => k_is)
    (case l_are_steps => k_is)
    (case a_are_ranks => k_is)
    (case l_are_ranks => k_is)
    (case a_need_base => k_is)
    (case l_need_base => k_is)
    (case a_shared => k_is)
    (case l_shared => k_is)
    (case a_lowest_terms => k_is)
    (case l_lowest_terms => k_is)
    (case a_fraction_by => k_is)
    (case l_fraction_by => k_is)
    (case a_machine_by => k_is)
    (case l_machine_by => k_is)
    (case a__law_cell => k_is)
    (case l__law_cell => k_is)
    (case a__law_pick => k_is)
    (case l__law_pick => k_is)
    (case a__law_digits => k_is)
    (case l__law_digits => k_is)
    (case a__law_next => k_is)
    (case l__law_next => k_is)
    (case a__law_due => k_is)
    (case l__law_due => k_is)
    (case a_up_to => k_is)
    (case l_up_to => k_is)
    (case hc_up_to => k_is)
    (case hP_up_to => exact rfl)
    (case hT_up_to => exact PySem.W.km_tabs_of Y _ (by decide))
    (case a_from_on => k_is)
    (case l_from_on => k_is)
    (case hc_from_on => k_is)
    (case hP_from_on => exact rfl)
    (case hT_from_on => exact PySem.W.km_tabs_of Y _ (by decide))
    (case a_law => k_is)
    (case l_law => k_is)
    (case aC_Machine => k_is)
    (case a_Machine___init__ => k_is)
    (case l_Machine___init__ => k_is)
    (case g_OUT => k_is)
    (case g_MOST_ROOMS => k_is)
    (case g_MOST_BOTTOM => k_is)
    (case g_LETTERS => k_is)
    (case c_is_whole => k_is)
    (case k_is_whole => k_is)
    (case c_is_step => k_is)
    (case k_is_step => k_is)
    (case c_are_steps => k_is)
    (case k_are_steps => k_is)
    (case c_are_ranks => k_is)
    (case k_are_ranks => k_is)
    (case c_need_base => k_is)
    (case k_need_base => k_is)
    (case c_shared => k_is)
    (case k_shared => k_is)
    (case c_lowest_terms => k_is)
    (case k_lowest_terms => k_is)
    (case c_fraction_by => k_is)
    (case k_fraction_by => k_is)
    (case c_machine_by => k_is)
    (case k_machine_by => k_is)
    (case c__law_cell => k_is)
    (case k__law_cell => k_is)
    (case c__law_pick => k_is)
    (case k__law_pick => k_is)
    (case c__law_digits => k_is)
    (case k__law_digits => k_is)
    (case c__law_next => k_is)
    (case k__law_next => k_is)
    (case c__law_due => k_is)
    (case k__law_due => k_is)
    (case c_up_to => k_is)
    (case k_up_to => k_is)
    (case hd_up_to => kernel_rfl)
    (case nT_up_to => kernel_rfl)
    (case c_from_on => k_is)
    (case k_from_on => k_is)
    (case hd_from_on => kernel_rfl)
    (case nT_from_on => kernel_rfl)
    (case c_law => k_is)
    (case k_law => k_is)
    (case pg_Machine => k_is)
    (case hdc_Machine => k_is)
    (case po_Machine => k_is)
    (case sa_Machine => k_is)
    (case mk_Machine => k_is)
    (case kc_Machine => k_is)
    (case i_Machine___init__ => k_is)
    (case c_Machine___init__ => k_is)
    (case k_Machine___init__ => k_is)
    (case n_Machine_steps => k_is)
    (case n_Machine_ranks => k_is)
    (case n_Machine_many => k_is)
    (case n_Machine_letters => k_is)
    (case z_len => k_is)
    (case z_range => k_is)
    (case z_int => k_is)
    (case z_bool => k_is)
    (case z_list => k_is)
    (case z_isinstance => k_is)
    (case z_min => k_is)
    (case z_max => k_is)

