import PyProof.Rows.All
import Wide.All
import OpenK.AllK
import Wide.FinOn
import HandS.ForMost
import HandS.Exc
import HandS.ExcOwn
import HandS.TryOnly
import HandS.WordsExc
import HandS.Defaults
import HandS.HeadHook1
import HandS.HeadHook2
import HandS.Wide
import HandS.IsInst
import HandS.ExcIs
import HandS.RevRange
import PyProof.MaxThree
import HandS.Ends
import HandS.Head0
import HandS.Head1
import HandS.Head2
import HandS.HeadEnd
import PySem.Challenge.RW_flywright_k03_moves_refused
set_option Elab.async false
set_option linter.all false
set_option maxRecDepth 100000
section
set_option maxHeartbeats 2000000
/-! FW1: plain data D, a store of changeable cells, what stands for it on the tracked heap (Rep, Ok, Post, RelS, Rel). -/
namespace FW
open PySem L2

inductive D where
  | non | bl (b : Bool) | int (i : Int) | str (s : Str) | ty (n : String) | cls (c : String)
  | lst (xs : List D) | tup (xs : List D) | dic (ks : List (Key × D))
  | obj (c : String) (fs : List (String × D)) | exc (c : String) (fs : List (String × D)) | ref (i : Nat)

instance : Inhabited D := ⟨.non⟩

/-- a changeable thing -/
inductive Cell where
  | lst (xs : List D) | dic (ks : List (Key × D)) | obj (c : String) (fs : List (String × D))
def Cell.d : Cell → D
  | .lst xs => .lst xs
  | .dic ks => .dic ks
  | .obj c fs => .obj c fs
abbrev Sto := List (Option Cell)

/-- the tracked object of a caught exception: its class, its own dict -/
def exho (a : Addr) (cls : Value) (d : Option Addr) : HO := .ext fun h => ∃ oe : Obj, h.get? a = some oe ∧ Zc cls d oe ∧ ∃ vs, oe.data = .fields vs

section
variable (K : PySem.W.Frag) (io : List Addr) (F : Hp)
mutual
def Rep : V → D → Prop
  | v, .non => v = .non
  | v, .bl b => v = .bl b
  | v, .int i => v = .int i
  | v, .str s => v = .str s
  | v, .ty n => v = .ty n
  | v, .cls c => v = .ref (He.ga K (Str.ofString c))
  | v, .lst ds => ∃ p vs, v = .ref p ∧ SqL K F p vs ∧ RepL vs ds
  | v, .tup ds => ∃ p vs, v = .ref p ∧ F p = some (.tup vs) ∧ RepL vs ds
  | v, .dic ks => ∃ p kvs, v = .ref p ∧ F p = some (.dK kvs) ∧ RepK kvs ks
  | v, .obj c fs => ∃ p dx fvs, v = .ref p ∧ F p = some (.ins (He.ga K (Str.ofString c)) dx fvs) ∧ F dx = some (.own p) ∧ RepF fvs fs
  | v, .exc c fs => ∃ p d, v = .ref p ∧ F p = some (exho p (.ref (He.ga K (Str.ofString c))) d) ∧ ((fs = [] ∧ d = none) ∨ (fs ≠ [] ∧ ∃ dx fvs, d = some dx ∧ F dx = some (.xd fvs) ∧ RepF fvs fs))
  | v, .ref i => ∃ p, io[i]? = some p ∧ v = .ref p
def RepL : List V → List D → Prop
  | vs, [] => vs = []
  | vs, d :: ds => ∃ v r, vs = v :: r ∧ Rep v d ∧ RepL r ds
def RepK : List (Key × V) → List (Key × D) → Prop
  | vs, [] => vs = []
  | vs, (k, d) :: ds => ∃ v r, vs = (k, v) :: r ∧ Rep v d ∧ RepK r ds
def RepF : List (Str × V) → List (String × D) → Prop
  | vs, [] => vs = []
  | vs, (k, d) :: ds => ∃ v r, vs = (Str.ofString k, v) :: r ∧ Rep v d ∧ RepF r ds
end
end

def Le (F F' : Hp) : Prop := ∀ a u, F a = some u → F' a = some u
theorem Le.refl (F : Hp) : Le F F := fun _ _ h => h
theorem Le.trans {F G J : Hp} (a : Le F G) (b : Le G J) : Le F J := fun x u h => b x u (a x u h)
def Pre (a b : List Addr) : Prop := ∃ r, b = a ++ r
theorem Pre.refl (a : List Addr) : Pre a a := ⟨[], by simp⟩
theorem Pre.trans {a b c : List Addr} : Pre a b → Pre b c → Pre a c
  | ⟨r, e⟩, ⟨q, f⟩ => ⟨r ++ q, by rw [f, e, List.append_assoc]⟩
theorem Pre.get {a b : List Addr} (h : Pre a b) {i : Nat} {p : Addr} (e : a[i]? = some p) : b[i]? = some p := by
  obtain ⟨r, rfl⟩ := h
  rw [List.getElem?_append_left (List.getElem?_eq_some_iff.mp e).1]; exact e
theorem Pre.mem {a b : List Addr} (h : Pre a b) {p : Addr} (e : p ∈ a) : p ∈ b := by
  obtain ⟨r, rfl⟩ := h
  exact List.mem_append_left _ e
theorem Rd.mono {F F' : Hp} (h : Le F F') {a : Addr} {u : HO} : Rd F a u → Rd F' a u
  | .inl e => .inl (h _ _ e)
  | .inr ⟨o, e⟩ => .inr ⟨o, h _ _ e⟩

theorem SqL.mono {K : PySem.W.Frag} {F F' : Hp} (h : Le F F') {a : Addr} {xs : List V} : SqL K F a xs → SqL K F' a xs
  | .inl e => .inl (Rd.mono h e)
  | .inr e => .inr e

section
variable {K : PySem.W.Frag} {io io' : List Addr} {F F' : Hp}
mutual
theorem Rep.mono (hF : Le F F') (hi : Pre io io') : ∀ (d : D) {v : V}, Rep K io F v d → Rep K io' F' v d
  | .non, _, h => by simp only [Rep] at h ⊢; exact h
  | .bl _, _, h => by simp only [Rep] at h ⊢; exact h
  | .int _, _, h => by simp only [Rep] at h ⊢; exact h
  | .str _, _, h => by simp only [Rep] at h ⊢; exact h
  | .ty _, _, h => by simp only [Rep] at h ⊢; exact h
  | .cls _, _, h => by simp only [Rep] at h ⊢; exact h
  | .lst ds, _, h => by
    simp only [Rep] at h ⊢
    obtain ⟨p, vs, e, r, l⟩ := h
    exact ⟨p, vs, e, FW.SqL.mono hF r, RepL.mono hF hi ds l⟩
  | .tup ds, _, h => by
    simp only [Rep] at h ⊢
    obtain ⟨p, vs, e, r, l⟩ := h
    exact ⟨p, vs, e, hF _ _ r, RepL.mono hF hi ds l⟩
  | .dic ks, _, h => by
    simp only [Rep] at h ⊢
    obtain ⟨p, vs, e, r, l⟩ := h
    exact ⟨p, vs, e, hF _ _ r, RepK.mono hF hi ks l⟩
  | .obj c fs, _, h => by
    simp only [Rep] at h ⊢
    obtain ⟨p, dx, vs, e, r, q, l⟩ := h
    exact ⟨p, dx, vs, e, hF _ _ r, hF _ _ q, RepF.mono hF hi fs l⟩
  | .exc c fs, _, h => by
    simp only [Rep] at h ⊢
    obtain ⟨p, d, e, r, l⟩ := h
    refine ⟨p, d, e, hF _ _ r, ?_⟩
    rcases l with l | ⟨n, dx, vs, e1, e2, l⟩
    · exact .inl l
    · exact .inr ⟨n, dx, vs, e1, hF _ _ e2, RepF.mono hF hi fs l⟩
  | .ref i, _, h => by
    simp only [Rep] at h ⊢
    obtain ⟨p, e, q⟩ := h
    exact ⟨p, hi.get e, q⟩
theorem RepL.mono (hF : Le F F') (hi : Pre io io') : ∀ (ds : List D) {vs : List V}, RepL K io F vs ds → RepL K io' F' vs ds
  | [], _, h => by simp only [RepL] at h ⊢; exact h
  | d :: ds, _, h => by
    simp only [RepL] at h ⊢
    obtain ⟨v, r, e, a, b⟩ := h
    exact ⟨v, r, e, Rep.mono hF hi d a, RepL.mono hF hi ds b⟩
theorem RepK.mono (hF : Le F F') (hi : Pre io io') : ∀ (ds : List (Key × D)) {vs : List (Key × V)}, RepK K io F vs ds → RepK K io' F' vs ds
  | [], _, h => by simp only [RepK] at h ⊢; exact h
  | (k, d) :: ds, _, h => by
    simp only [RepK] at h ⊢
    obtain ⟨v, r, e, a, b⟩ := h
    exact ⟨v, r, e, Rep.mono hF hi d a, RepK.mono hF hi ds b⟩
theorem RepF.mono (hF : Le F F') (hi : Pre io io') : ∀ (ds : List (String × D)) {vs : List (Str × V)}, RepF K io F vs ds → RepF K io' F' vs ds
  | [], _, h => by simp only [RepF] at h ⊢; exact h
  | (k, d) :: ds, _, h => by
    simp only [RepF] at h ⊢
    obtain ⟨v, r, e, a, b⟩ := h
    exact ⟨v, r, e, Rep.mono hF hi d a, RepF.mono hF hi ds b⟩
end

theorem RepL.length : ∀ {ds : List D} {vs : List V}, RepL K io F vs ds → vs.length = ds.length
  | [], _, h => by simp only [RepL] at h; subst h; rfl
  | d :: ds, _, h => by
    simp only [RepL] at h
    obtain ⟨v, r, rfl, a, b⟩ := h
    simp only [List.length_cons, RepL.length b]
theorem RepL.get : ∀ {ds : List D} {vs : List V} {i : Nat} {d : D}, RepL K io F vs ds → ds[i]? = some d → ∃ v, vs[i]? = some v ∧ Rep K io F v d
  | [], _, i, _, _, e => by simp at e
  | d :: ds, _, 0, _, h, e => by
    simp only [RepL] at h
    obtain ⟨v, r, rfl, a, b⟩ := h
    simp at e; subst e
    exact ⟨v, by simp, a⟩
  | d :: ds, _, i + 1, x, h, e => by
    simp only [RepL] at h
    obtain ⟨v, r, rfl, a, b⟩ := h
    obtain ⟨w, h1, h2⟩ := RepL.get (i := i) b (by simpa using e)
    exact ⟨w, by simpa using h1, h2⟩
theorem RepL.append : ∀ {ds es : List D} {vs us : List V}, RepL K io F vs ds → RepL K io F us es → RepL K io F (vs ++ us) (ds ++ es)
  | [], _, _, _, h, g => by simp only [RepL] at h; subst h; simpa using g
  | d :: ds, _, _, _, h, g => by
    simp only [RepL] at h
    obtain ⟨v, r, rfl, a, b⟩ := h
    simp only [List.cons_append, RepL]
    exact ⟨v, _, rfl, a, RepL.append b g⟩
theorem RepL.nil : RepL K io F [] [] := by simp only [RepL]
theorem RepL.cons {v : V} {d : D} {vs : List V} {ds : List D} (a : Rep K io F v d) (b : RepL K io F vs ds) : RepL K io F (v :: vs) (d :: ds) := by
  simp only [RepL]; exact ⟨v, vs, rfl, a, b⟩
theorem RepL.one {v : V} {d : D} (a : Rep K io F v d) : RepL K io F [v] [d] := .cons a .nil
theorem RepL.set : ∀ {ds : List D} {vs : List V} (i : Nat) {v : V} {d : D}, RepL K io F vs ds → Rep K io F v d → RepL K io F (vs.set i v) (ds.set i d)
  | [], _, i, _, _, h, _ => by simp only [RepL] at h; subst h; simpa using RepL.nil
  | x :: ds, _, 0, _, _, h, g => by
    simp only [RepL] at h
    obtain ⟨v, r, rfl, a, b⟩ := h
    exact .cons g b
  | x :: ds, _, i + 1, _, _, h, g => by
    simp only [RepL] at h
    obtain ⟨v, r, rfl, a, b⟩ := h
    exact .cons a (RepL.set i b g)
theorem RepL.take : ∀ {ds : List D} {vs : List V} (i : Nat), RepL K io F vs ds → RepL K io F (vs.take i) (ds.take i)
  | _, _, 0, _ => by simpa using RepL.nil
  | [], _, i + 1, h => by simp only [RepL] at h; subst h; simpa using RepL.nil
  | x :: ds, _, i + 1, h => by
    simp only [RepL] at h
    obtain ⟨v, r, rfl, a, b⟩ := h
    exact .cons a (RepL.take i b)
theorem RepL.drop : ∀ {ds : List D} {vs : List V} (i : Nat), RepL K io F vs ds → RepL K io F (vs.drop i) (ds.drop i)
  | _, _, 0, h => by simpa using h
  | [], _, i + 1, h => by simp only [RepL] at h; subst h; simpa using RepL.nil
  | x :: ds, _, i + 1, h => by
    simp only [RepL] at h
    obtain ⟨v, r, rfl, a, b⟩ := h
    exact RepL.drop i b
theorem RepL.ints : ∀ {ns : List Int} {vs : List V}, RepL K io F vs (ns.map D.int) → vs = ns.map V.int
  | [], _, h => by simp only [List.map_nil, RepL] at h; subst h; rfl
  | n :: ns, _, h => by
    simp only [List.map_cons, RepL, Rep] at h
    obtain ⟨v, r, rfl, rfl, b⟩ := h
    rw [RepL.ints b]; rfl
theorem RepL.of_ints : ∀ {ns : List Int}, RepL K io F (ns.map V.int) (ns.map D.int)
  | [] => by simp only [List.map_nil, RepL]
  | n :: ns => .cons (by simp only [Rep]) RepL.of_ints
theorem RepL.bls : ∀ {ns : List Bool} {vs : List V}, RepL K io F vs (ns.map D.bl) → vs = ns.map V.bl
  | [], _, h => by simp only [List.map_nil, RepL] at h; subst h; rfl
  | n :: ns, _, h => by
    simp only [List.map_cons, RepL, Rep] at h
    obtain ⟨v, r, rfl, rfl, b⟩ := h
    rw [RepL.bls b]; rfl
theorem RepL.strs : ∀ {ns : List Str} {vs : List V}, RepL K io F vs (ns.map D.str) → vs = ns.map V.str
  | [], _, h => by simp only [List.map_nil, RepL] at h; subst h; rfl
  | n :: ns, _, h => by
    simp only [List.map_cons, RepL, Rep] at h
    obtain ⟨v, r, rfl, rfl, b⟩ := h
    rw [RepL.strs b]; rfl
theorem RepL.of_strs : ∀ {ns : List Str}, RepL K io F (ns.map V.str) (ns.map D.str)
  | [] => by simp only [List.map_nil, RepL]
  | n :: ns => .cons (by simp only [Rep]) RepL.of_strs
end

/-! ### the state: F what never changes again, H all that is tracked, io the addresses of the store's cells -/
structure G where
  F : Hp
  H : Hp
  io : List Addr
  S : Sto

def CellRep (K : PySem.W.Frag) (g : G) (p : Addr) : Cell → Prop
  | .lst xs => ∃ vs, g.H p = some (.lst vs) ∧ RepL K g.io g.F vs xs
  | .dic ks => ∃ kvs, g.H p = some (.dK kvs) ∧ RepK K g.io g.F kvs ks
  | .obj c fs => ∃ dx fvs, g.H p = some (.ins (He.ga K (Str.ofString c)) dx fvs) ∧ g.H dx = some (.own p) ∧ RepF K g.io g.F fvs fs

structure Ok (K : PySem.W.Frag) (g : G) : Prop where
  le : Le g.F g.H
  len : g.io.length = g.S.length
  nd : g.io.Nodup
  noown : ∀ a x, g.H a = some (.own x) → a ∉ g.io
  iod : ∀ a, a ∈ g.io → g.H a ≠ none
  cell : ∀ (i : Nat) c, g.S[i]? = some (some c) → ∃ p, g.io[i]? = some p ∧ g.F p = none ∧ CellRep K g p c

/-- from E on: what was is there; what may have changed are the store's cells alone -/
structure Post (K : PySem.W.Frag) (E g : G) : Prop where
  ok : Ok K g
  leF : Le E.F g.F
  pre : Pre E.io g.io
  fr : ∀ a u, E.H a = some u → a ∉ E.io → g.H a = some u
  fz : ∀ a u, g.F a = some u → E.F a = some u ∨ E.H a = none ∨ a ∈ E.io
  io : ∀ a, a ∈ g.io → a ∈ E.io ∨ E.H a = none
  dom : ∀ a, E.H a ≠ none → g.H a ≠ none

section
variable {K : PySem.W.Frag} {E g g' g'' : G}
theorem Post.refl (h : Ok K g) : Post K g g := ⟨h, Le.refl _, Pre.refl _, fun _ _ e _ => e, fun _ _ e => .inl e, fun _ e => .inl e, fun _ e => e⟩
theorem Post.trans (a : Post K E g) (b : Post K g g') : Post K E g' where
  ok := b.ok
  leF := a.leF.trans b.leF
  pre := a.pre.trans b.pre
  fr := fun x u h n => b.fr x u (a.fr x u h n) fun m => by
    rcases a.io x m with z | z
    · exact n z
    · rw [z] at h; cases h
  fz := fun x u h => by
    rcases b.fz x u h with z | z | z
    · exact a.fz x u z
    · by_cases hE : E.H x = none
      · exact .inr (.inl hE)
      · exact absurd z (a.dom x hE)
    · rcases a.io x z with y | y
      · exact .inr (.inr y)
      · exact .inr (.inl y)
  io := fun x h => by
    rcases b.io x h with z | z
    · exact a.io x z
    · by_cases hE : E.H x = none
      · exact .inr hE
      · exact absurd z (a.dom x hE)
  dom := fun x h => b.dom x (a.dom x h)
theorem Post.rep (b : Post K g g') {v : V} {d : D} (h : Rep K g.io g.F v d) : Rep K g'.io g'.F v d := Rep.mono b.leF b.pre d h
theorem Post.repL (b : Post K g g') {v : List V} {d : List D} (h : RepL K g.io g.F v d) : RepL K g'.io g'.F v d := RepL.mono b.leF b.pre d h
theorem Post.free (b : Post K g g') {p : Addr} (h : g'.H p = none) : g.H p = none := by
  cases e : g.H p with
  | none => rfl
  | some u => exact absurd h (b.dom p (by rw [e]; simp))
end

/-! ### slots -/
inductive Slot where
  | none | val (d : D) | own (c : Cell)
def Slot.d : Slot → D
  | .none => .non
  | .val d => d
  | .own c => c.d

def slotRep (K : PySem.W.Frag) (g : G) (ov : Option V) : Slot → Prop
  | .none => True
  | .val d => ∃ v, ov = some v ∧ Rep K g.io g.F v d
  | .own c => ∃ p, ov = some (.ref p) ∧ g.F p = Option.none ∧ p ∉ g.io ∧ CellRep K g p c

structure RelS (K : PySem.W.Frag) (g : G) (σ : St) (ρ : List Slot) : Prop where
  ok : Ok K g
  len : σ.length = ρ.length
  slot : ∀ (i : Nat) s, ρ[i]? = some s → slotRep K g (σ[i]?.join) s
  dist : ∀ (i j : Nat) c c' p, ρ[i]? = some (.own c) → ρ[j]? = some (.own c') → σ[i]? = some (some (.ref p)) → σ[j]? = some (some (.ref p)) → i = j

/-- what stands at p is new since E -/
def NewAt (E g : G) (p : Addr) : Prop := E.H p = none ∧ ∀ C dx fs, g.H p = some (.ins C dx fs) → E.H dx = none
/-- in a def's body, from its entry E on -/
structure Rel (K : PySem.W.Frag) (E g : G) (σ : St) (ρ : List Slot) : Prop where
  s : RelS K g σ ρ
  p : Post K E g
  new : ∀ (i : Nat) c p, ρ[i]? = some (.own c) → σ[i]? = some (some (.ref p)) → NewAt E g p

section
variable {K : PySem.W.Frag} {E g g' : G} {σ : St} {ρ : List Slot}
theorem CellRep.post {p : Addr} {c : Cell} (b : Post K g g') (hp : p ∉ g.io) (ok : Ok K g) (h : CellRep K g p c) : CellRep K g' p c := by
  cases c with
  | lst xs =>
    obtain ⟨vs, e, r⟩ := h
    exact ⟨vs, b.fr _ _ e hp, b.repL r⟩
  | dic ks =>
    obtain ⟨vs, e, r⟩ := h
    exact ⟨vs, b.fr _ _ e hp, RepK.mono b.leF b.pre _ r⟩
  | obj c fs =>
    obtain ⟨dx, vs, e, q, r⟩ := h
    exact ⟨dx, vs, b.fr _ _ e hp, b.fr _ _ q (ok.noown _ _ q), RepF.mono b.leF b.pre _ r⟩
theorem CellRep.at_ {p : Addr} {c : Cell} (h : CellRep K g p c) : g.H p ≠ none := by
  cases c with
  | lst xs => obtain ⟨vs, e, r⟩ := h; rw [e]; simp
  | dic ks => obtain ⟨vs, e, r⟩ := h; rw [e]; simp
  | obj c fs => obtain ⟨dx, vs, e, q, r⟩ := h; rw [e]; simp
theorem Post.own {p : Addr} {c : Cell} (b : Post K g g') (ok : Ok K g) (hF : g.F p = none) (hp : p ∉ g.io) (h : CellRep K g p c) : g'.F p = none ∧ p ∉ g'.io ∧ CellRep K g' p c := by
  refine ⟨?_, fun m => ?_, h.post b hp ok⟩
  · cases e : g'.F p with
    | none => rfl
    | some u =>
      rcases b.fz p u e with z | z | z
      · rw [hF] at z; cases z
      · exact absurd z h.at_
      · exact absurd z hp
  · rcases b.io p m with z | z
    · exact hp z
    · exact h.at_ z
theorem RelS.post (h : RelS K g σ ρ) (b : Post K g g') : RelS K g' σ ρ where
  ok := b.ok
  len := h.len
  slot := fun i s e => by
    have q := h.slot i s e
    cases s with
    | none => trivial
    | val d => obtain ⟨v, e1, r⟩ := q; exact ⟨v, e1, b.rep r⟩
    | own c => obtain ⟨p, e1, e2, e3, r⟩ := q; exact ⟨p, e1, b.own h.ok e2 e3 r⟩
  dist := h.dist
theorem NewAt.post {p : Addr} {c : Cell} (n : NewAt E g p) (b : Post K g g') (hp : p ∉ g.io) (h : CellRep K g p c) : NewAt E g' p := by
  refine ⟨n.1, fun C dx fs e => ?_⟩
  cases q : g.H p with
  | none => exact absurd q h.at_
  | some u =>
    have z := b.fr p u q hp
    rw [e] at z; cases z
    exact n.2 C dx fs q
theorem Rel.post (h : Rel K E g σ ρ) (b : Post K g g') : Rel K E g' σ ρ := ⟨h.s.post b, h.p.trans b, fun i c p e1 e2 => by
  obtain ⟨q, f1, f2, f3, f4⟩ := h.s.slot i _ e1
  rw [e2] at f1; cases f1
  exact (h.new i c p e1 e2).post b f3 f4⟩
theorem Rel.ok (h : Rel K E g σ ρ) : Ok K g := h.s.ok

/-- a new object that never changes again -/
def G.frz (g : G) (p : Addr) (o : HO) : G := { g with F := upd g.F p o, H := upd g.H p o }
theorem le_upd {F : Hp} {p : Addr} {o : HO} (h : F p = none) : Le F (upd F p o) := fun a u e => by
  rw [upd_ne (ne_of_none e h)]; exact e
theorem Ok.free (ok : Ok K g) {p : Addr} (hp : g.H p = none) : g.F p = none := by
  cases e : g.F p with
  | none => rfl
  | some u => rw [ok.le _ _ e] at hp; cases hp
theorem Ok.nio (ok : Ok K g) {p : Addr} (hp : g.H p = none) {i : Nat} {c : Cell} (hc : g.S[i]? = some (some c)) : g.io[i]? ≠ some p := fun e => by
  obtain ⟨q, e1, _, r⟩ := ok.cell i c hc
  rw [e] at e1; cases e1
  exact r.at_ hp
end
end FW
end
section
set_option maxHeartbeats 2000000
/-! FW2: results, judgements at the level of plain data, the steps of the state. -/
namespace FW
open PySem L2

structure Exc where
  c : String
  fs : List (String × D)
inductive R (α : Type) where
  | ok (a : α) (S : Sto) | err (e : Exc) (S : Sto) | bad
def R.post {α : Type} (r : R α) (q : α → Sto → Prop) (x : Exc → Sto → Prop) : Prop :=
  match r with
  | .ok a S => q a S
  | .err e S => x e S
  | .bad => False
@[simp] def R.bind {α β : Type} (r : R α) (f : α → Sto → R β) : R β :=
  match r with
  | .ok a S => f a S
  | .err e S => .err e S
  | .bad => .bad
theorem post_bind {α β : Type} {r : R α} {f : α → Sto → R β} {q x} : (r.bind f).post q x = r.post (fun a S => (f a S).post q x) x := by cases r <;> rfl
theorem R.post.imp {α : Type} {r : R α} {q q' : α → Sto → Prop} {x x' : Exc → Sto → Prop} (h : r.post q x) (hq : ∀ a S, r = .ok a S → q a S → q' a S) (hx : ∀ e S, r = .err e S → x e S → x' e S) : r.post q' x' := by
  cases r with
  | ok a S => exact hq a S rfl h
  | err e S => exact hx e S rfl h
  | bad => exact h
abbrev M (α : Type) := List Slot → Sto → R α
def mMap {α β : Type} (f : α → β) (m : M α) : M β := fun ρ S => (m ρ S).bind fun a S' => .ok (f a) S'

def RepX (K : PySem.W.Frag) (g : G) (cls : Value) (dd : Option Addr) (e : Exc) : Prop :=
  cls = .ref (He.ga K (Str.ofString e.c)) ∧ ((e.fs = [] ∧ dd = none) ∨ (e.fs ≠ [] ∧ ∃ dx fvs, dd = some dx ∧ g.F dx = some (.xd fvs) ∧ RepF K g.io g.F fvs e.fs))

/-- a result, new since g if it is its own -/
def OutRep (K : PySem.W.Frag) (g g' : G) (v : V) : Slot → Prop
  | .none => False
  | .val d => Rep K g'.io g'.F v d
  | .own c => ∃ p, v = .ref p ∧ NewAt g g' p ∧ g'.F p = Option.none ∧ p ∉ g'.io ∧ CellRep K g' p c

/-! ### readings against plain data -/
def RV (K : PySem.W.Frag) (t : TE) (W : WX) (m : M D) : Prop := ∀ (g : G) (σ : St) (ρ : List Slot) (Q : VK), RelS K g σ ρ →
  (m ρ g.S).post (fun d S' => ∀ g' v, g'.S = S' → Post K g g' → Rep K g'.io g'.F v d → Q v g'.H) (fun e S' => ∀ g' c dd, g'.S = S' → Post K g g' → RepX K g' c dd e → W c dd σ g'.H) → t σ g.H Q
def RO (K : PySem.W.Frag) (t : TE) (W : WX) (m : M Slot) : Prop := ∀ (g : G) (σ : St) (ρ : List Slot) (Q : VK), RelS K g σ ρ →
  (m ρ g.S).post (fun s S' => ∀ g' v, g'.S = S' → Post K g g' → OutRep K g g' v s → Q v g'.H) (fun e S' => ∀ g' c dd, g'.S = S' → Post K g g' → RepX K g' c dd e → W c dd σ g'.H) → t σ g.H Q
def RT (K : PySem.W.Frag) (t : TT) (W : WX) (m : M Bool) : Prop := ∀ (g : G) (σ : St) (ρ : List Slot) (Q : Bool → Hp → Prop), RelS K g σ ρ →
  (m ρ g.S).post (fun b S' => ∀ g', g'.S = S' → Post K g g' → Q b g'.H) (fun e S' => ∀ g' c dd, g'.S = S' → Post K g g' → RepX K g' c dd e → W c dd σ g'.H) → t σ g.H Q
def RA (K : PySem.W.Frag) (t : TA) (W : WX) (m : M (List D)) : Prop := ∀ (g : G) (σ : St) (ρ : List Slot) (Q : List V → Hp → Prop), RelS K g σ ρ →
  (m ρ g.S).post (fun ds S' => ∀ g' vs, g'.S = S' → Post K g g' → RepL K g'.io g'.F vs ds → Q vs g'.H) (fun e S' => ∀ g' c dd, g'.S = S' → Post K g g' → RepX K g' c dd e → W c dd σ g'.H) → t σ g.H Q

structure DV (X : Cx) (e : Expr) (m : M D) : Prop where
  ex : ∀ W, Takes X W → ∃ t, PE X e t ∧ RV X.K t W m
structure DO (X : Cx) (e : Expr) (m : M Slot) : Prop where
  ex : ∀ W, Takes X W → ∃ t, PE X e t ∧ RO X.K t W m
structure DT (X : Cx) (e : Expr) (m : M Bool) : Prop where
  ex : ∀ W, Takes X W → ∃ t, PT X e t ∧ RT X.K t W m
structure DA (X : Cx) (es : List Expr) (m : M (List D)) : Prop where
  ex : ∀ W, Takes X W → ∃ t, PA X es t ∧ RA X.K t W m
  len : ∀ ρ S ds S', m ρ S = .ok ds S' → ds.length = es.length

section
variable {K : PySem.W.Frag} {E g g' g'' : G} {σ : St} {ρ : List Slot}
/-! ### steps of the state -/
theorem upd_some {H : Hp} {a b : Addr} {o u : HO} (h : upd H a o b = some u) : (b = a ∧ u = o) ∨ (b ≠ a ∧ H b = some u) := by
  by_cases e : b = a
  · subst e; rw [upd_same] at h; cases h; exact .inl ⟨rfl, rfl⟩
  · rw [upd_ne e] at h; exact .inr ⟨e, h⟩
theorem not_own_of {o : HO} (h : ∀ x, o ≠ .own x) {H : Hp} {p a x : Addr} (e : upd H p o a = some (.own x)) : H a = some (.own x) := by
  rcases upd_some e with ⟨_, q⟩ | ⟨_, q⟩
  · exact absurd q.symm (h x)
  · exact q
/-- a new thing that stays as it is -/
theorem Ok.frz (ok : Ok K g) {p : Addr} {o : HO} (hp : g.H p = none) (ho : ∀ x, o ≠ .own x) : Ok K (g.frz p o) where
  le := fun a u e => by
    rcases upd_some e with ⟨rfl, rfl⟩ | ⟨n, e⟩
    · exact upd_same
    · show upd g.H p o a = _
      rw [upd_ne n]; exact ok.le _ _ e
  len := ok.len
  nd := ok.nd
  noown := fun a x e => ok.noown a x (not_own_of ho e)
  iod := fun a h => by
    show upd g.H p o a ≠ none
    unfold upd
    split
    · simp
    · exact ok.iod a h
  cell := fun i c e => by
    obtain ⟨q, e1, e2, r⟩ := ok.cell i c e
    have n : q ≠ p := fun z => by subst z; exact r.at_ hp
    refine ⟨q, e1, ?_, ?_⟩
    · show upd g.F p o q = none
      rw [upd_ne n]; exact e2
    · have lF : Le g.F (upd g.F p o) := le_upd (ok.free hp)
      cases c with
      | lst xs =>
        obtain ⟨vs, a, b⟩ := r
        exact ⟨vs, (upd_ne n).trans a, RepL.mono lF (Pre.refl _) _ b⟩
      | dic xs =>
        obtain ⟨vs, a, b⟩ := r
        exact ⟨vs, (upd_ne n).trans a, RepK.mono lF (Pre.refl _) _ b⟩
      | obj c fs =>
        obtain ⟨dx, vs, a, a2, b⟩ := r
        exact ⟨dx, vs, (upd_ne n).trans a, (upd_ne (ne_of_none a2 hp)).trans a2, RepF.mono lF (Pre.refl _) _ b⟩
theorem Post.frz (ok : Ok K g) {p : Addr} {o : HO} (hp : g.H p = none) (ho : ∀ x, o ≠ .own x) : Post K g (g.frz p o) where
  ok := ok.frz hp ho
  leF := le_upd (ok.free hp)
  pre := Pre.refl _
  fr := fun a u e _ => (upd_ne (ne_of_none e hp)).trans e
  fz := fun a u e => by
    rcases upd_some e with ⟨rfl, rfl⟩ | ⟨n, e⟩
    · exact .inr (.inl hp)
    · exact .inl e
  io := fun a h => .inl h
  dom := fun a h => by
    show upd g.H p o a ≠ none
    unfold upd
    split
    · simp
    · exact h
/-- a new thing of one's own -/
def G.lay (g : G) (p : Addr) (o : HO) : G := { g with H := upd g.H p o }
theorem Post.lay (ok : Ok K g) {p : Addr} {o : HO} (hp : g.H p = none) (ho : ∀ x, o ≠ .own x) : Post K g (g.lay p o) where
  ok := {
    le := fun a u e => (upd_ne (ne_of_none (ok.le _ _ e) hp)).trans (ok.le _ _ e)
    len := ok.len
    nd := ok.nd
    noown := fun a x e => ok.noown a x (not_own_of ho e)
    iod := fun a h => by
      show upd g.H p o a ≠ none
      unfold upd
      split
      · simp
      · exact ok.iod a h
    cell := fun i c e => by
      obtain ⟨q, e1, e2, r⟩ := ok.cell i c e
      have n : q ≠ p := fun z => by subst z; exact r.at_ hp
      refine ⟨q, e1, e2, ?_⟩
      cases c with
      | lst xs =>
        obtain ⟨vs, a, b⟩ := r
        exact ⟨vs, (upd_ne n).trans a, b⟩
      | dic xs =>
        obtain ⟨vs, a, b⟩ := r
        exact ⟨vs, (upd_ne n).trans a, b⟩
      | obj c fs =>
        obtain ⟨dx, vs, a, a2, b⟩ := r
        exact ⟨dx, vs, (upd_ne n).trans a, (upd_ne (ne_of_none a2 hp)).trans a2, b⟩ }
  leF := Le.refl _
  pre := Pre.refl _
  fr := fun a u e _ => (upd_ne (ne_of_none e hp)).trans e
  fz := fun a u e => .inl e
  io := fun a h => .inl h
  dom := fun a h => by
    show upd g.H p o a ≠ none
    unfold upd
    split
    · simp
    · exact h
theorem Ok.nio' (ok : Ok K g) {p : Addr} (hp : g.H p = none) : p ∉ g.io := fun h => ok.iod p h hp
/-- one's own thing is given up: it stays as it is from now on -/
theorem OutRep.frz {v : V} {s : Slot} (b : Post K g g') (h : OutRep K g g' v s) : ∃ g'', Post K g g'' ∧ g''.H = g'.H ∧ g''.S = g'.S ∧ Rep K g''.io g''.F v s.d ∧ g''.io = g'.io ∧ Le g'.F g''.F ∧ ∀ a u, g''.F a = some u → g'.F a = some u ∨ v = .ref a ∨ ∃ x, u = .own x := by
  cases s with
  | none => exact h.elim
  | val d => exact ⟨g', b, rfl, rfl, h, rfl, Le.refl _, fun a u e => .inl e⟩
  | own c =>
    obtain ⟨p, rfl, ⟨n1, n2⟩, hF, hio, r⟩ := h
    -- a general lemma: F grows by what is new and stands in H
    have grow : ∀ F' : Hp, Le g'.F F' → Le F' g'.H → (∀ a u, F' a = some u → g'.F a = some u ∨ (g.H a = Option.none ∧ a ∉ g'.io)) → Post K g { g' with F := F' } := fun F' l1 l2 l3 => {
      ok := {
        le := l2, len := b.ok.len, nd := b.ok.nd, noown := b.ok.noown, iod := b.ok.iod
        cell := fun i c e => by
          obtain ⟨q, e1, e2, r⟩ := b.ok.cell i c e
          refine ⟨q, e1, ?_, ?_⟩
          · show F' q = Option.none
            cases z : F' q with
            | none => rfl
            | some u =>
              rcases l3 q u z with y | y
              · rw [e2] at y; cases y
              · exact absurd (List.mem_of_getElem? e1) y.2
          · cases c with
            | lst xs =>
              obtain ⟨vs, a, b⟩ := r
              exact ⟨vs, a, RepL.mono l1 (Pre.refl _) _ b⟩
            | dic xs =>
              obtain ⟨vs, a, b⟩ := r
              exact ⟨vs, a, RepK.mono l1 (Pre.refl _) _ b⟩
            | obj c fs =>
              obtain ⟨dx, vs, a, a2, b⟩ := r
              exact ⟨dx, vs, a, a2, RepF.mono l1 (Pre.refl _) _ b⟩ }
      leF := b.leF.trans l1, pre := b.pre, fr := b.fr
      fz := fun a u e => by
        rcases l3 a u e with y | y
        · exact b.fz a u y
        · exact .inr (.inl y.1)
      io := b.io, dom := b.dom }
    have one : ∀ o : HO, g'.H p = some o → Post K g { g' with F := upd g'.F p o } := fun o e => grow _ (le_upd hF) (fun a u z => by
      rcases upd_some z with ⟨rfl, rfl⟩ | ⟨n, z⟩
      · exact e
      · exact b.ok.le _ _ z) fun a u z => by
      rcases upd_some z with ⟨rfl, rfl⟩ | ⟨n, z⟩
      · exact .inr ⟨n1, hio⟩
      · exact .inl z
    cases c with
    | lst xs =>
      obtain ⟨vs, a, r⟩ := r
      refine ⟨_, one _ a, rfl, rfl, ?_, rfl, le_upd hF, fun x u z => ?_⟩
      · simp only [Slot.d, Cell.d, Rep]
        exact ⟨p, vs, rfl, .inl (.inl upd_same), RepL.mono (le_upd hF) (Pre.refl _) _ r⟩
      · rcases upd_some z with ⟨rfl, _⟩ | ⟨_, z⟩
        · exact .inr (.inl rfl)
        · exact .inl z
    | dic xs =>
      obtain ⟨vs, a, r⟩ := r
      refine ⟨_, one _ a, rfl, rfl, ?_, rfl, le_upd hF, fun x u z => ?_⟩
      · simp only [Slot.d, Cell.d, Rep]
        exact ⟨p, vs, rfl, upd_same, RepK.mono (le_upd hF) (Pre.refl _) _ r⟩
      · rcases upd_some z with ⟨rfl, _⟩ | ⟨_, z⟩
        · exact .inr (.inl rfl)
        · exact .inl z
    | obj c fs =>
      obtain ⟨dx, vs, a, a2, r⟩ := r
      have hdx : g'.F dx = Option.none ∨ g'.F dx = some (.own p) := by
        cases z : g'.F dx with
        | none => exact .inl rfl
        | some u =>
          have y := b.ok.le _ _ z
          rw [a2] at y; cases y
          exact .inr rfl
      have l1 : Le g'.F (upd g'.F dx (.own p)) := fun x u e => by
        by_cases q : x = dx
        · subst q
          rcases hdx with z | z
          · rw [z] at e; cases e
          · rw [z] at e; cases e; exact upd_same
        · rw [upd_ne q]; exact e
      have npd : p ≠ dx := fun q => by subst q; rw [a] at a2; cases a2
      have hF2 : upd g'.F dx (.own p) p = Option.none := by rw [upd_ne npd]; exact hF
      refine ⟨_, grow (upd (upd g'.F dx (.own p)) p (.ins (He.ga K (Str.ofString c)) dx vs)) (l1.trans (le_upd hF2)) (fun x u e => ?_) (fun x u e => ?_), rfl, rfl, ?_, rfl, l1.trans (le_upd hF2), fun x u e => ?_⟩
      · rcases upd_some e with ⟨rfl, rfl⟩ | ⟨n, e⟩
        · exact a
        · rcases upd_some e with ⟨rfl, rfl⟩ | ⟨n, e⟩
          · exact a2
          · exact b.ok.le _ _ e
      · rcases upd_some e with ⟨rfl, rfl⟩ | ⟨n, e⟩
        · exact .inr ⟨n1, hio⟩
        · rcases upd_some e with ⟨rfl, rfl⟩ | ⟨n, e⟩
          · exact .inr ⟨n2 _ _ _ a, b.ok.noown _ _ a2⟩
          · exact .inl e
      · simp only [Slot.d, Cell.d, Rep]
        exact ⟨p, dx, vs, rfl, upd_same, (upd_ne npd.symm).trans upd_same, RepF.mono (l1.trans (le_upd hF2)) (Pre.refl _) _ r⟩
      · rcases upd_some e with ⟨rfl, _⟩ | ⟨_, e⟩
        · exact .inr (.inl rfl)
        · rcases upd_some e with ⟨_, rfl⟩ | ⟨_, e⟩
          · exact .inr (.inr ⟨_, rfl⟩)
          · exact .inl e
end
end FW
end
section
set_option maxHeartbeats 2000000
/-! FW3: expressions. -/
namespace FW
open PySem PySem.Spec PyProof.Rows L2

theorem ofString_inj {a b : String} : Str.ofString a = Str.ofString b ↔ a = b := by
  constructor
  · intro h
    have e : ∀ s : String, (Str.ofString s).cps.toList = s.toList.map Char.toNat := fun s => by
      show (cpsOfBytes 0 0 s.toByteArray.data.toList).toArray.toList = _
      rw [List.toList_toArray, cpsOfBytes_string]
    have h2 : a.toList.map Char.toNat = b.toList.map Char.toNat := by rw [← e, ← e, h]
    have inj : ∀ c d : Char, c.toNat = d.toNat → c = d := fun c d q => by
      apply Char.ext
      exact UInt32.toNat_inj.mp q
    have h3 : a.toList = b.toList := by
      have : ∀ l m : List Char, l.map Char.toNat = m.map Char.toNat → l = m := by
        intro l
        induction l with
        | nil => intro m q; cases m with
          | nil => rfl
          | cons _ _ => simp at q
        | cons x l ih => intro m q; cases m with
          | nil => simp at q
          | cons y m =>
            simp only [List.map_cons, List.cons.injEq] at q
            rw [inj _ _ q.1, ih _ q.2]
      exact this _ _ h2
    exact String.toList_inj.mp h3
  · intro h; rw [h]

section
variable {K : PySem.W.Frag} {E g g' g'' : G} {σ : L2.St} {ρ : List Slot} {W : WX}
theorem OutRep.back {v : V} {s : Slot} (a : Post K g g') (h : OutRep K g' g'' v s) : OutRep K g g'' v s := by
  cases s with
  | none => exact h
  | val d => exact h
  | own c =>
    obtain ⟨p, e, ⟨n1, n2⟩, f⟩ := h
    exact ⟨p, e, ⟨a.free n1, fun C dx fs q => a.free (n2 C dx fs q)⟩, f⟩
/-- the usual: an error goes on out -/
theorem err_on {x : Exc → Sto → Prop} {e : Exc} {S : Sto} {X : G → Value → Option Addr → Prop} (p : Post K g g') (h : ∀ g'' c dd, g''.S = S → Post K g g'' → RepX K g'' c dd e → X g'' c dd) :
    ∀ g'' c dd, g''.S = S → Post K g' g'' → RepX K g'' c dd e → X g'' c dd := fun g'' c dd es p2 r => h g'' c dd es (p.trans p2) r
end

/-! ### bare words -/
section
variable {X : Cx} {e a b c : Expr} {ma mb mc : M D} {pos : Pos}
theorem dv_of {m : M Slot} (h : DO X e m) : DV X e (mMap Slot.d m) := ⟨fun W tk => by
  obtain ⟨t, pe, ro⟩ := h.ex W tk
  refine ⟨t, pe, fun g σ ρ Q rel q => ro g σ ρ Q rel ?_⟩
  unfold mMap at q
  rw [post_bind] at q
  refine q.imp (fun s S _ q g' v es p o => ?_) fun e S _ q => q
  obtain ⟨g'', p2, eH, eS, r, _⟩ := OutRep.frz p o
  have z := q g'' v (eS.trans es) p2 r
  rw [eH] at z; exact z⟩
theorem do_val {m : M D} (h : DV X e m) : DO X e (mMap Slot.val m) := ⟨fun W tk => by
  obtain ⟨t, pe, ro⟩ := h.ex W tk
  refine ⟨t, pe, fun g σ ρ Q rel q => ro g σ ρ Q rel ?_⟩
  unfold mMap at q
  rw [post_bind] at q
  exact q.imp (fun s S _ q g' v es p o => q g' v es p o) fun e S _ q => q⟩

def eVar (i : Nat) : M D := fun ρ S => match ρ[i]? with
  | some (.val d) => .ok d S
  | _ => .bad
def eC {α : Type} (d : α) : M α := fun _ S => .ok d S
theorem dv_pe {t : TE} {m : M D} (pe : PE X e t) (h : ∀ W, RV X.K t W m) : DV X e m := ⟨fun W _ => ⟨t, pe, h W⟩⟩
theorem dv_var {i : Nat} (pe : PE X e (tVar i)) : DV X e (eVar i) := dv_pe pe fun W g σ ρ Q rel h => by
  unfold eVar at h
  cases q : ρ[i]? with
  | none => rw [q] at h; exact h.elim
  | some s =>
    rw [q] at h
    cases s with
    | none => exact h.elim
    | own c => exact h.elim
    | val d =>
      obtain ⟨v, e1, r⟩ := rel.slot i _ q
      have e2 : σ[i]? = some (some v) := by
        cases z : σ[i]? with
        | none => rw [z] at e1; cases e1
        | some o => rw [z] at e1; rw [show o = some v from e1]
      exact ⟨v, e2, h g v rfl (Post.refl rel.ok) r⟩
theorem dv_c {v : V} {d : D} (pe : PE X e (tC v)) (r : ∀ io F, Rep X.K io F v d) : DV X e (eC d) := dv_pe pe fun W g σ ρ Q rel h => h g v rfl (Post.refl rel.ok) (r _ _)
theorem dv_int {i j} : DV X (.Constant (.int i) j pos) (eC (.int i)) := dv_c pe_int fun _ _ => by simp only [Rep]
theorem dv_bl {i j} : DV X (.Constant (.bool i) j pos) (eC (.bl i)) := dv_c pe_bl fun _ _ => by simp only [Rep]
theorem dv_non {j} : DV X (.Constant .none j pos) (eC .non) := dv_c pe_non fun _ _ => by simp only [Rep]
theorem dv_str {x j} : DV X (.Constant (.str x) j pos) (eC (.str x)) := dv_c pe_str fun _ _ => by simp only [Rep]
/-- a module's number, text -/
theorem dv_gint {x : Str} {i : Int} (hg : Gl X x) (hm : ∃ t, X.mg x = some (.int i t)) (hd : (x == ("__debug__" : Str)) = false := by decide) : DV X (.Name x pos) (eC (.int i)) := by
  obtain ⟨t, hm⟩ := hm
  exact dv_c (v := .int i) (pe_glob hg hm ⟨_, rfl⟩ hd) fun _ _ => by simp only [Rep]
theorem dv_gstr {x z : Str} (hg : Gl X x) (hm : ∃ t, X.mg x = some (.str z t)) (hd : (x == ("__debug__" : Str)) = false := by decide) : DV X (.Name x pos) (eC (.str z)) := by
  obtain ⟨t, hm⟩ := hm
  exact dv_c (v := .str z) (pe_glob hg hm ⟨_, rfl⟩ hd) fun _ _ => by simp only [Rep]

/-! ### operations of two values -/
def ROp (K : PySem.W.Frag) (r : R2) (f : Sto → D → D → Option Slot) : Prop := ∀ (g : G) (x y : V) (dx dy : D) (s : Slot) (Q : VK), Ok K g → Rep K g.io g.F x dx → Rep K g.io g.F y dy → f g.S dx dy = some s →
  (∀ g' v, g'.S = g.S → Post K g g' → OutRep K g g' v s → Q v g'.H) → r x y g.H Q
def lift2 (f : Sto → D → D → Option Slot) (S : Sto) (x y : D) : R Slot := match f S x y with
  | some s => .ok s S
  | none => .bad
def mBin (f : Sto → D → D → Option Slot) (a b : M D) : M Slot := fun ρ S => (a ρ S).bind fun x S1 => (b ρ S1).bind fun y S2 => lift2 f S2 x y
theorem ro_op {r : R2} {f : Sto → D → D → Option Slot} {ta tb : TE} {W : WX} (hr : ROp X.K r f) (ra : RV X.K ta W ma) (rb : RV X.K tb W mb) : RO X.K (tOp r ta tb) W (mBin f ma mb) := fun g σ ρ Q rel h => by
  unfold mBin at h
  rw [post_bind] at h
  refine ra g σ ρ _ rel (h.imp (fun dx S1 e1 h1 g1 x es p1 r1 => ?_) fun e S1 _ h1 => h1)
  subst es
  rw [post_bind] at h1
  refine rb g1 σ ρ _ (rel.post p1) (h1.imp (fun dy S2 e2 h2 g2 y es2 p2 r2 => ?_) fun e S2 _ h2 => err_on (x := fun _ _ => True) p1 h2)
  subst es2
  unfold lift2 at h2
  cases q : f g2.S dx dy with
  | none => rw [q] at h2; exact h2.elim
  | some s =>
    rw [q] at h2
    exact hr g2 x y dx dy s _ p2.ok (p2.rep r1) r2 q fun g3 v es p3 o => h2 g3 v es ((p1.trans p2).trans p3) (o.back (p1.trans p2))
theorem do_bin {op : Operator} {r : R2} {f : Sto → D → D → Option Slot} (ho : OpR X (binaryOp op) r) (hr : ROp X.K r f) (ha : DV X a ma) (hb : DV X b mb) : DO X (.BinOp a op b pos) (mBin f ma mb) := ⟨fun W tk => by
  obtain ⟨ta, pa, ra⟩ := ha.ex W tk
  obtain ⟨tb, pb, rb⟩ := hb.ex W tk
  exact ⟨_, pe_op ho pa pb, ro_op hr ra rb⟩⟩
theorem do_ix {r : R2} {f : Sto → D → D → Option Slot} (ho : IxR X r) (hr : ROp X.K r f) (hs : PlainIx b) (ha : DV X a ma) (hb : DV X b mb) : DO X (.Subscript a b pos) (mBin f ma mb) := ⟨fun W tk => by
  obtain ⟨ta, pa, ra⟩ := ha.ex W tk
  obtain ⟨tb, pb, rb⟩ := hb.ex W tk
  exact ⟨_, pe_ix ho pa pb hs, ro_op hr ra rb⟩⟩

/-- a thing as it stands: a cell of the store is looked up -/
def lookD (S : Sto) : D → D
  | .ref i => match S[i]? with
    | some (some c) => c.d
    | _ => .ref i
  | d => d
section
variable {K : PySem.W.Frag} {g : G} {v : V} {d : D}
theorem look_lst {ds : List D} (ok : Ok K g) (r : Rep K g.io g.F v d) (e : lookD g.S d = .lst ds) : ∃ p vs, v = .ref p ∧ SqL K g.H p vs ∧ RepL K g.io g.F vs ds := by
  cases d with
  | lst xs =>
    simp only [lookD, D.lst.injEq] at e; subst e
    simp only [Rep] at r
    obtain ⟨p, vs, e1, e2, e3⟩ := r
    exact ⟨p, vs, e1, FW.SqL.mono ok.le e2, e3⟩
  | ref i =>
    simp only [lookD] at e
    simp only [Rep] at r
    obtain ⟨p, e1, e2⟩ := r
    cases q : g.S[i]? with
    | none => rw [q] at e; cases e
    | some o =>
      rw [q] at e
      cases o with
      | none => cases e
      | some c =>
        obtain ⟨p', f1, f2, f3⟩ := ok.cell i c q
        rw [e1] at f1; cases f1
        cases c with
        | lst xs =>
          simp only [Cell.d, D.lst.injEq] at e; subst e
          obtain ⟨vs, a, b⟩ := f3
          exact ⟨p, vs, e2, .inl (.inl a), b⟩
        | dic xs => cases e
        | obj c fs => cases e
  | _ => simp [lookD] at e
theorem look_tup {ds : List D} (ok : Ok K g) (r : Rep K g.io g.F v d) (e : lookD g.S d = .tup ds) : ∃ p vs, v = .ref p ∧ g.F p = some (.tup vs) ∧ RepL K g.io g.F vs ds := by
  cases d with
  | tup xs =>
    simp only [lookD, D.tup.injEq] at e; subst e
    simp only [Rep] at r
    exact r
  | ref i =>
    simp only [lookD] at e
    split at e
    · rename_i c q
      cases c <;> cases e
    · cases e
  | _ => simp [lookD] at e
theorem look_dic {ds : List (Key × D)} (ok : Ok K g) (r : Rep K g.io g.F v d) (e : lookD g.S d = .dic ds) : ∃ p vs, v = .ref p ∧ g.H p = some (.dK vs) ∧ RepK K g.io g.F vs ds := by
  cases d with
  | dic xs =>
    simp only [lookD, D.dic.injEq] at e; subst e
    simp only [Rep] at r
    obtain ⟨p, vs, e1, e2, e3⟩ := r
    exact ⟨p, vs, e1, ok.le _ _ e2, e3⟩
  | ref i =>
    simp only [lookD] at e
    simp only [Rep] at r
    obtain ⟨p, e1, e2⟩ := r
    cases q : g.S[i]? with
    | none => rw [q] at e; cases e
    | some o =>
      rw [q] at e
      cases o with
      | none => cases e
      | some c =>
        obtain ⟨p', f1, f2, f3⟩ := ok.cell i c q
        rw [e1] at f1; cases f1
        cases c with
        | dic xs =>
          simp only [Cell.d, D.dic.injEq] at e; subst e
          obtain ⟨vs, a, b⟩ := f3
          exact ⟨p, vs, e2, a, b⟩
        | lst xs => cases e
        | obj c fs => cases e
  | _ => simp [lookD] at e
/-- a new list of one's own -/
theorem out_lst {vs : List V} {ds : List D} {p : Addr} (ok : Ok K g) (hp : g.H p = none) (r : RepL K g.io g.F vs ds) : Post K g (g.lay p (.lst vs)) ∧ OutRep K g (g.lay p (.lst vs)) (.ref p) (.own (.lst ds)) :=
  ⟨Post.lay ok hp (fun _ z => by cases z), p, rfl, ⟨hp, fun C dx fs z => by rw [show (g.lay p (.lst vs)).H p = some (.lst vs) from upd_same] at z; cases z⟩, ok.free hp, ok.nio' hp, vs, upd_same, r⟩
theorem out_dic {vs : List (Key × V)} {ds : List (Key × D)} {p : Addr} (ok : Ok K g) (hp : g.H p = none) (r : RepK K g.io g.F vs ds) : Post K g (g.lay p (.dK vs)) ∧ OutRep K g (g.lay p (.dK vs)) (.ref p) (.own (.dic ds)) :=
  ⟨Post.lay ok hp (fun _ z => by cases z), p, rfl, ⟨hp, fun C dx fs z => by rw [show (g.lay p (.dK vs)).H p = some (.dK vs) from upd_same] at z; cases z⟩, ok.free hp, ok.nio' hp, vs, upd_same, r⟩
theorem out_tup {vs : List V} {ds : List D} {p : Addr} (ok : Ok K g) (hp : g.H p = none) (r : RepL K g.io g.F vs ds) : Post K g (g.frz p (.tup vs)) ∧ Rep K (g.frz p (.tup vs)).io (g.frz p (.tup vs)).F (.ref p) (.tup ds) := by
  have q := Post.frz ok hp (o := .tup vs) (fun _ z => by cases z)
  refine ⟨q, ?_⟩
  simp only [Rep]
  exact ⟨p, vs, rfl, upd_same, q.repL r⟩
end
theorem lim_ok {n : Nat} (h : n ≤ 1000000) : n ≤ sizeLine := Nat.le_trans h (by rw [sizeLine_eq]; decide)

/-- list + list, whatever stands there -/
def rCatR (K : PySem.W.Frag) : R2 := fun x y H Q => ∃ l b xs zs, x = .ref l ∧ y = .ref b ∧ SqL K H l xs ∧ SqL K H b zs ∧ xs.length + zs.length ≤ sizeLine ∧ ∀ p, H p = none → Q (.ref p) (upd H p (.lst (xs ++ zs)))
theorem op_catR : OpR X (binaryOp .Add) (rCatR X.K) := fun pins s σ H x y v u Q I rx ry ⟨l, b, xs, zs, ex, ey, front, back, fits, then_⟩ => by
  subst ex ey
  obtain rfl : v = .ref l := rx
  obtain rfl : u = .ref b := ry
  obtain ⟨its, ri, ⟨⟨cls, dd, data, sl⟩, n, at1, c1, d1, s1⟩, _⟩ := I.list front
  obtain ⟨its2, ri2, ⟨⟨cls2, dd2, data2, sl2⟩, n2, at2, c2, d2, s2⟩, _⟩ := I.list back
  have n1 := ri.length
  have n2' := ri2.length
  simp only at c1 d1 s1 c2 d2 s2
  subst c1 d1 s1 c2 d2 s2
  have made := I.lnew (t' := s.toks) (ri.append ri2) (by rw [List.length_append]; omega)
  refine concat_meets ⟨_, at1, rfl⟩ ⟨_, at2, rfl⟩ noFill_list_add seq_list_add PySem.F.slot_list_add PySem.F.entry_list_add (PySem.F.args_list_add_2 _ _)
    (list_addW l b its.toArray its2.toArray n n2 none none sl sl2 (by simp only [List.size_toArray]; omega)) ⟨at1, at2, ?_⟩
  rw [List.append_toArray]
  exact ⟨V.ref s.heap.objs.size, _, made, rfl, then_ _ I.fresh⟩

def opAdd (S : Sto) (x y : D) : Option Slot := match lookD S x, lookD S y with
  | .int i, .int j => some (.val (.int (i + j)))
  | .str a, .str b => if a.length + b.length ≤ 1000000 then some (.val (.str (a ++ b))) else none
  | .lst a, .lst b => if a.length + b.length ≤ 1000000 then some (.own (.lst (a ++ b))) else none
  | .tup a, .tup b => if a.length + b.length ≤ 1000000 ∧ a.length ≠ 0 ∧ b.length ≠ 0 then some (.val (.tup (a ++ b))) else none
  | _, _ => none
abbrev rStrAdd : R2 := fun x y H Q => ∃ i j, x = .str i ∧ y = .str j ∧ i.length + j.length ≤ sizeLine ∧ Q (.str (i ++ j)) H
abbrev rAddAll (K : PySem.W.Frag) : R2 := fun x y H Q => (rI0 (fun i j => .int (i + j))) x y H Q ∨ rStrAdd x y H Q ∨ rCatR K x y H Q ∨ rCatT K x y H Q
theorem op_addAll : OpR X (binaryOp .Add) (rAddAll X.K) := op_add.or (op_add_str.or (op_catR.or op_catT))
theorem look_int {S : Sto} {d : D} {i : Int} (e : lookD S d = .int i) : d = .int i := by
  cases d with
  | ref j =>
    simp only [lookD] at e
    split at e
    · rename_i c q; cases c <;> cases e
    · cases e
  | _ => simpa [lookD] using e
theorem look_str {S : Sto} {d : D} {i : Str} (e : lookD S d = .str i) : d = .str i := by
  cases d with
  | ref j =>
    simp only [lookD] at e
    split at e
    · rename_i c q; cases c <;> cases e
    · cases e
  | _ => simpa [lookD] using e
theorem look_bl {S : Sto} {d : D} {i : Bool} (e : lookD S d = .bl i) : d = .bl i := by
  cases d with
  | ref j =>
    simp only [lookD] at e
    split at e
    · rename_i c q; cases c <;> cases e
    · cases e
  | _ => simpa [lookD] using e
theorem r_add : ROp X.K (rAddAll X.K) opAdd := by
  intro g x y dx dy s Q ok rx ry e h
  unfold opAdd at e
  split at e
  · rename_i i j e1 e2
    have := look_int e1; subst this
    have := look_int e2; subst this
    simp only [Rep] at rx ry
    cases e
    exact .inl ⟨i, j, rx, ry, h g _ rfl (Post.refl ok) (by simp only [OutRep, Rep])⟩
  · rename_i i j e1 e2
    have := look_str e1; subst this
    have := look_str e2; subst this
    simp only [Rep] at rx ry
    split at e
    · rename_i hz
      cases e
      exact .inr (.inl ⟨i, j, rx, ry, lim_ok hz, h g _ rfl (Post.refl ok) (by simp only [OutRep, Rep])⟩)
    · cases e
  · rename_i a b e1 e2
    obtain ⟨p, vs, rfl, hp, r1⟩ := look_lst ok rx e1
    obtain ⟨q, us, rfl, hq, r2⟩ := look_lst ok ry e2
    split at e
    · rename_i hz
      cases e
      refine .inr (.inr (.inl ⟨p, q, vs, us, rfl, rfl, hp, hq, by rw [r1.length, r2.length]; exact lim_ok hz, fun l hl => ?_⟩))
      obtain ⟨p1, o⟩ := out_lst ok hl (r1.append r2)
      exact h (G.lay g l _) _ rfl p1 o
    · cases e
  · rename_i a b e1 e2
    obtain ⟨p, vs, rfl, hp, r1⟩ := look_tup ok rx e1
    obtain ⟨q, us, rfl, hq, r2⟩ := look_tup ok ry e2
    split at e
    · rename_i hz
      cases e
      have l1 := r1.length
      have l2 := r2.length
      refine .inr (.inr (.inr ⟨p, q, vs, us, rfl, rfl, SqT.of (ok.le _ _ hp), SqT.of (ok.le _ _ hq), fun z => by subst z; exact hz.2.1 (by simpa using l1.symm), by rw [r1.length, r2.length]; exact lim_ok hz.1, ?_, ?_⟩))
      · intro z
        subst z
        exact absurd (by simpa using l2.symm) hz.2.2
      · intro _ l hl
        obtain ⟨p1, o⟩ := out_tup ok hl (r1.append r2)
        exact h (G.frz g l _) _ rfl p1 o
    · cases e
  · cases e
end
end FW
end
section
set_option maxHeartbeats 2000000
/-! FW4: further expressions. -/
namespace FW
open PySem PySem.Spec PyProof.Rows L2
section
variable {X : Cx} {e a b c : Expr} {ma mb mc : M D} {pos : Pos} {K : PySem.W.Frag}

/-! ### numbers -/
def opI2 (f : Int → Int → Option Int) (S : Sto) (x y : D) : Option Slot := match x, y with
  | .int i, .int j => (f i j).map fun k => .val (.int k)
  | _, _ => none
theorem r_i2 {C : Int → Int → Prop} {h : Int → Int → Int} {f : Int → Int → Option Int} (hf : ∀ i j k, f i j = some k → C i j ∧ h i j = k) : ROp K (rI C fun i j => .int (h i j)) (opI2 f) := by
  intro g x y dx dy s Q ok rx ry e q
  unfold opI2 at e
  split at e
  · rename_i i j
    simp only [Rep] at rx ry
    cases z : f i j with
    | none => rw [z] at e; cases e
    | some k =>
      rw [z] at e
      cases e
      obtain ⟨c, rfl⟩ := hf i j k z
      exact ⟨i, j, rx, ry, c, q g _ rfl (Post.refl ok) (by simp only [OutRep, Rep])⟩
  · cases e
def opSub : Sto → D → D → Option Slot := opI2 fun i j => some (i - j)
def big : Int := 2 ^ 600
def fMul (i j : Int) : Option Int := if -(2 ^ 600) < i ∧ i < 2 ^ 600 ∧ -(2 ^ 600) < j ∧ j < 2 ^ 600 then some (i * j) else none
def fDiv (i j : Int) : Option Int := if 0 < j ∧ j < 2 ^ 600 then some (i / j) else none
def fMod (i j : Int) : Option Int := if 0 < j then some (i % j) else none
def fPow (i j : Int) : Option Int := if 0 ≤ j ∧ j ≤ 100 ∧ 0 ≤ i ∧ i ≤ 1000 then some (i ^ j.toNat) else none
abbrev rSubI : R2 := rI0 fun i j => .int (i - j)
theorem rI0_of {g : Int → Int → V} {x y : V} {H : Hp} {Q : VK} (h : rI (fun _ _ => True) g x y H Q) : rI0 g x y H Q := by
  obtain ⟨i, j, a, b, _, q⟩ := h; exact ⟨i, j, a, b, q⟩
theorem r_sub : ROp K rSubI opSub := fun g x y dx dy s Q ok rx ry e q => rI0_of (r_i2 (K := K) (C := fun _ _ => True) (h := fun i j => i - j) (f := fun i j => some (i - j)) (fun i j k z => ⟨trivial, by simpa using z⟩) g x y dx dy s Q ok rx ry e q)
theorem nat_lt_of_int {i : Int} {n : Nat} (h1 : -(2 ^ n) < i) (h2 : i < 2 ^ n) : i.natAbs < 2 ^ n := by
  have e : ((2 ^ n : Nat) : Int) = 2 ^ n := by simp
  have e1 : -((2 ^ n : Nat) : Int) < i := by rw [e]; exact h1
  have e2 : i < ((2 ^ n : Nat) : Int) := by rw [e]; exact h2
  omega
theorem r_mul : ROp K (rI CMulW fun i j => .int (i * j)) (opI2 fMul) := r_i2 fun i j k z => by
  unfold fMul at z
  split at z
  · rename_i h
    obtain ⟨h1, h2, h3, h4⟩ := h
    exact ⟨wide_mul (nat_lt_of_int h1 h2) (nat_lt_of_int h3 h4) (by decide) (by decide) (by decide), by simpa using z⟩
  · cases z
theorem r_div : ROp K (rI CDivW fun i j => .int (i / j)) (opI2 fDiv) := r_i2 fun i j k z => by
  unfold fDiv at z
  split at z
  · rename_i h
    obtain ⟨h1, h2⟩ := h
    have h0 : -(2 ^ 600 : Int) < j := Int.lt_trans (by decide) h1
    exact ⟨wide_div h1 (nat_lt_of_int h0 h2) (by decide) (by decide), by simpa using z⟩
  · cases z
theorem r_mod : ROp K (rI (fun _ j => 0 < j) fun i j => .int (i % j)) (opI2 fMod) := r_i2 fun i j k z => by
  unfold fMod at z
  split at z
  · rename_i h
    exact ⟨h, by simpa using z⟩
  · cases z
theorem r_pow : ROp K (rI CPow fun i j => .int (i ^ j.toNat)) (opI2 fPow) := r_i2 fun i j k z => by
  unfold fPow at z
  split at z
  · rename_i h
    obtain ⟨h1, h2, h3, h4⟩ := h
    exact ⟨⟨h1, by omega, by omega⟩, by simpa using z⟩
  · cases z
def mUn (f : D → Option D) (a : M D) : M D := fun ρ S => (a ρ S).bind fun x S1 => match f x with
  | some d => .ok d S1
  | none => .bad
def fNeg : D → Option D
  | .int i => some (.int (-i))
  | _ => none
theorem dv_neg (ha : DV X a ma) : DV X (.UnaryOp .USub a pos) (mUn fNeg ma) := ⟨fun W tk => by
  obtain ⟨ta, pa, ra⟩ := ha.ex W tk
  refine ⟨_, pe_un un_neg pa, fun g σ ρ Q rel h => ?_⟩
  unfold mUn at h
  rw [post_bind] at h
  refine ra g σ ρ _ rel (h.imp (fun dx S1 e1 h1 g1 x es p1 r1 => ?_) fun e S1 _ h1 => h1)
  subst es
  cases dx <;> simp only [fNeg] at h1 <;> first | exact h1.elim | skip
  simp only [Rep] at r1
  exact ⟨_, r1, h1 g1 _ rfl p1 (by simp only [Rep])⟩⟩

/-! ### comparisons -/
def RCmp (K : PySem.W.Frag) (r : R2) (f : Sto → D → D → Option Bool) : Prop := ∀ (g : G) (x y : V) (dx dy : D) (b : Bool) (Q : VK), Ok K g → Rep K g.io g.F x dx → Rep K g.io g.F y dy → f g.S dx dy = some b → Q (.bl b) g.H → r x y g.H Q
def liftB (f : Sto → D → D → Option Bool) (S : Sto) (x y : D) : R Bool := match f S x y with
  | some s => .ok s S
  | none => .bad
def mCmp (f : Sto → D → D → Option Bool) (a b : M D) : M Bool := fun ρ S => (a ρ S).bind fun x S1 => (b ρ S1).bind fun y S2 => liftB f S2 x y
theorem ro_cmp {r : R2} {f : Sto → D → D → Option Bool} {ta tb : TE} {W : WX} (hr : RCmp X.K r f) (ra : RV X.K ta W ma) (rb : RV X.K tb W mb) (g : G) (σ : L2.St) (ρ : List Slot) (Q : VK) (rel : RelS X.K g σ ρ)
    (h : (mCmp f ma mb ρ g.S).post (fun d S' => ∀ g', g'.S = S' → Post X.K g g' → Q (.bl d) g'.H) (fun e S' => ∀ g' c dd, g'.S = S' → Post X.K g g' → RepX X.K g' c dd e → W c dd σ g'.H)) : tOp r ta tb σ g.H Q := by
  unfold mCmp at h
  rw [post_bind] at h
  refine ra g σ ρ _ rel (h.imp (fun dx S1 e1 h1 g1 x es p1 r1 => ?_) fun e S1 _ h1 => h1)
  subst es
  rw [post_bind] at h1
  refine rb g1 σ ρ _ (rel.post p1) (h1.imp (fun dy S2 e2 h2 g2 y es2 p2 r2 => ?_) fun e S2 _ h2 => err_on (x := fun _ _ => True) p1 h2)
  subst es2
  unfold liftB at h2
  cases q : f g2.S dx dy with
  | none => rw [q] at h2; exact h2.elim
  | some s =>
    rw [q] at h2
    exact hr g2 x y dx dy s _ p2.ok (p2.rep r1) r2 q (h2 g2 rfl (p1.trans p2))
theorem dt_cmp {op : CmpOp} {r : R2} {f : Sto → D → D → Option Bool} (ho : OpR X (compareOp op) r) (hr : RCmp X.K r f) (ha : DV X a ma) (hb : DV X b mb) (hm : behindInMarks op b = false) : DT X (.Compare a [op] [b] pos) (mCmp f ma mb) := ⟨fun W tk => by
  obtain ⟨ta, pa, ra⟩ := ha.ex W tk
  obtain ⟨tb, pb, rb⟩ := hb.ex W tk
  exact ⟨_, pt_cmpR ho pa pb hm, fun g σ ρ Q rel h => ro_cmp hr ra rb g σ ρ _ rel (h.imp (fun b S _ q g' es p => ⟨b, rfl, q g' es p⟩) fun e S _ q => q)⟩⟩
theorem dv_cmp {op : CmpOp} {r : R2} {f : Sto → D → D → Option Bool} (ho : OpR X (compareOp op) r) (hr : RCmp X.K r f) (ha : DV X a ma) (hb : DV X b mb) (hm : behindInMarks op b = false) : DV X (.Compare a [op] [b] pos) (mMap D.bl (mCmp f ma mb)) := ⟨fun W tk => by
  obtain ⟨ta, pa, ra⟩ := ha.ex W tk
  obtain ⟨tb, pb, rb⟩ := hb.ex W tk
  refine ⟨_, pe_cmpR ho pa pb hm, fun g σ ρ Q rel h => ro_cmp hr ra rb g σ ρ _ rel ?_⟩
  unfold mMap at h
  rw [post_bind] at h
  exact h.imp (fun b S _ q g' es p => q g' _ es p (by simp only [Rep])) fun e S _ q => q⟩
/-- a op1 b op2 c -/
def mChain (f f' : Sto → D → D → Option Bool) (a b c : M D) : M Bool := fun ρ S => (a ρ S).bind fun x S1 => (b ρ S1).bind fun y S2 => match f S2 x y with
  | some true => (c ρ S2).bind fun z S3 => liftB f' S3 y z
  | some false => .ok false S2
  | none => .bad
theorem ro_chain {r r' : R2} {f f' : Sto → D → D → Option Bool} {ta tb tc : TE} {W : WX} (hr : RCmp X.K r f) (hr' : RCmp X.K r' f') (ra : RV X.K ta W ma) (rb : RV X.K tb W mb) (rc : RV X.K tc W mc) (g : G) (σ : L2.St) (ρ : List Slot) (Q : VK) (rel : RelS X.K g σ ρ)
    (h : (mChain f f' ma mb mc ρ g.S).post (fun d S' => ∀ g', g'.S = S' → Post X.K g g' → Q (.bl d) g'.H) (fun e S' => ∀ g' c dd, g'.S = S' → Post X.K g g' → RepX X.K g' c dd e → W c dd σ g'.H)) : tChain r r' ta tb tc σ g.H Q := by
  unfold mChain at h
  rw [post_bind] at h
  refine ra g σ ρ _ rel (h.imp (fun dx S1 e1 h1 g1 x es p1 r1 => ?_) fun e S1 _ h1 => h1)
  subst es
  rw [post_bind] at h1
  refine rb g1 σ ρ _ (rel.post p1) (h1.imp (fun dy S2 e2 h2 g2 y es2 p2 r2 => ?_) fun e S2 _ h2 => err_on (x := fun _ _ => True) p1 h2)
  subst es2
  split at h2
  · rename_i q
    refine hr g2 x y dx dy true _ p2.ok (p2.rep r1) r2 q ⟨true, rfl, ?_⟩
    rw [if_pos rfl]
    rw [post_bind] at h2
    refine rc g2 σ ρ _ ((rel.post p1).post p2) (h2.imp (fun dz S3 e3 h3 g3 z es3 p3 r3 => ?_) fun e S2 _ h2 => err_on (x := fun _ _ => True) (p1.trans p2) h2)
    subst es3
    unfold liftB at h3
    cases q' : f' g3.S dy dz with
    | none => rw [q'] at h3; exact h3.elim
    | some s =>
      rw [q'] at h3
      exact hr' g3 y z dy dz s _ p3.ok (p3.rep r2) r3 q' (h3 g3 rfl ((p1.trans p2).trans p3))
  · rename_i q
    refine hr g2 x y dx dy false _ p2.ok (p2.rep r1) r2 q ⟨false, rfl, ?_⟩
    rw [if_neg Bool.false_ne_true]
    exact h2 g2 rfl (p1.trans p2)
  · exact h2.elim
theorem dt_chain {op op' : CmpOp} {r r' : R2} {f f' : Sto → D → D → Option Bool} (ho : OpR X (compareOp op) r) (ho' : OpR X (compareOp op') r') (hr : RCmp X.K r f) (hr' : RCmp X.K r' f') (ha : DV X a ma) (hb : DV X b mb) (hc : DV X c mc)
    (hm : lastMarks [op, op'] [b, c] = false) : DT X (.Compare a [op, op'] [b, c] pos) (mChain f f' ma mb mc) := ⟨fun W tk => by
  obtain ⟨ta, pa, ra⟩ := ha.ex W tk
  obtain ⟨tb, pb, rb⟩ := hb.ex W tk
  obtain ⟨tc, pc, rc⟩ := hc.ex W tk
  exact ⟨_, pt_chain ho ho' pa pb pc hm, fun g σ ρ Q rel h => ro_chain hr hr' ra rb rc g σ ρ _ rel (h.imp (fun b S _ q g' es p => ⟨b, rfl, q g' es p⟩) fun e S _ q => q)⟩⟩
theorem dv_chain {op op' : CmpOp} {r r' : R2} {f f' : Sto → D → D → Option Bool} (ho : OpR X (compareOp op) r) (ho' : OpR X (compareOp op') r') (hr : RCmp X.K r f) (hr' : RCmp X.K r' f') (ha : DV X a ma) (hb : DV X b mb) (hc : DV X c mc)
    (hm : lastMarks [op, op'] [b, c] = false) : DV X (.Compare a [op, op'] [b, c] pos) (mMap D.bl (mChain f f' ma mb mc)) := ⟨fun W tk => by
  obtain ⟨ta, pa, ra⟩ := ha.ex W tk
  obtain ⟨tb, pb, rb⟩ := hb.ex W tk
  obtain ⟨tc, pc, rc⟩ := hc.ex W tk
  refine ⟨_, pe_chain ho ho' pa pb pc hm, fun g σ ρ Q rel h => ro_chain hr hr' ra rb rc g σ ρ _ rel ?_⟩
  unfold mMap at h
  rw [post_bind] at h
  exact h.imp (fun b S _ q g' es p => q g' _ es p (by simp only [Rep])) fun e S _ q => q⟩
def cI (p : Int → Int → Bool) (S : Sto) (x y : D) : Option Bool := match x, y with
  | .int i, .int j => some (p i j)
  | _, _ => none
theorem r_cI {p : Int → Int → Bool} : RCmp K (rI0 fun i j => .bl (p i j)) (cI p) := by
  intro g x y dx dy s Q ok rx ry e q
  unfold cI at e
  split at e
  · rename_i i j
    simp only [Rep] at rx ry
    cases e
    exact ⟨i, j, rx, ry, q⟩
  · cases e
def cLt : Sto → D → D → Option Bool := cI fun i j => decide (i < j)
def cLe : Sto → D → D → Option Bool := cI fun i j => decide (i ≤ j)
def cGt : Sto → D → D → Option Bool := cI fun i j => decide (j < i)
def cGe : Sto → D → D → Option Bool := cI fun i j => decide (j ≤ i)
def cIsN (S : Sto) (x y : D) : Option Bool := match y with
  | .non => match x with
    | .non => some true
    | .ref _ => some false
    | .lst _ => some false
    | .tup _ => some false
    | .dic _ => some false
    | .obj _ _ => some false
    | .exc _ _ => some false
    | .cls _ => some false
    | _ => some false
  | _ => none
abbrev rIsN : R2 := fun x y H Q => y = .non ∧ Q (.bl (decide (x = .non))) H
abbrev rIsNN : R2 := fun x y H Q => y = .non ∧ Q (.bl (!decide (x = .non))) H
theorem isN_rep {g : G} {x : V} {d : D} (r : Rep K g.io g.F x d) : (match d with | .non => true | _ => false) = decide (x = .non) := by
  cases d <;> simp only [Rep] at r
  all_goals first
    | (subst r; simp)
    | (obtain ⟨p, vs, rfl, _⟩ := r; simp)
    | (obtain ⟨p, d, vs, rfl, _⟩ := r; simp)
    | (obtain ⟨p, e, rfl⟩ := r; simp)
theorem r_isN : RCmp K rIsN cIsN := by
  intro g x y dx dy s Q ok rx ry e q
  have z := isN_rep rx
  cases dy <;> simp only [cIsN] at e <;> first | cases e | skip
  simp only [Rep] at ry
  refine ⟨ry, ?_⟩
  rw [← z]
  cases dx <;> simp only [Option.some.injEq] at e <;> (subst e; exact q)
def cIsNN (S : Sto) (x y : D) : Option Bool := (cIsN S x y).map not
theorem r_isNN : RCmp K rIsNN cIsNN := by
  intro g x y dx dy s Q ok rx ry e q
  have z := isN_rep rx
  unfold cIsNN at e
  cases dy <;> simp only [cIsN, Option.map_none] at e <;> first | cases e | skip
  simp only [Rep] at ry
  refine ⟨ry, ?_⟩
  rw [← z]
  cases dx <;> simp only [Option.map_some, Option.some.injEq, Bool.not_true, Bool.not_false] at e <;> (subst e; exact q)
end
end FW
end
section
set_option maxHeartbeats 2000000
/-! FW5: tests, and, or, not, displays, subscripts, ==. -/
namespace FW
open PySem PySem.Spec PyProof.Rows L2
section
variable {X : Cx} {e a b c : Expr} {ma mb mc : M D} {pos : Pos} {K : PySem.W.Frag} {rest : List Expr}

/-! ### truth -/
def truD (S : Sto) (d : D) : Option Bool := match lookD S d with
  | .non => some false
  | .bl b => some b
  | .int i => some (i != 0)
  | .str s => if s.length ≤ 1000000 then some ((s.length : Int) != 0) else none
  | .lst xs => some !xs.isEmpty
  | .tup xs => some !xs.isEmpty
  | .dic xs => some !xs.isEmpty
  | _ => none
theorem look_non {S : Sto} {d : D} (e : lookD S d = .non) : d = .non := by
  cases d with
  | ref j =>
    simp only [lookD] at e
    split at e
    · rename_i c q; cases c <;> cases e
    · cases e
  | _ => simpa [lookD] using e
theorem RepL.isEmpty {io F} {vs : List V} {ds : List D} (r : RepL K io F vs ds) : vs.isEmpty = ds.isEmpty := by
  have := r.length
  cases vs <;> cases ds <;> simp at this <;> rfl
theorem RepK.length : ∀ {io F} {ds : List (Key × D)} {vs : List (Key × V)}, RepK K io F vs ds → vs.length = ds.length
  | _, _, [], _, h => by simp only [RepK] at h; subst h; rfl
  | _, _, (k, d) :: ds, _, h => by
    simp only [RepK] at h
    obtain ⟨v, r, rfl, a, b⟩ := h
    simp only [List.length_cons, RepK.length b]
theorem truD_ok {g : G} {v : V} {d : D} {k : Bool} (ok : Ok K g) (r : Rep K g.io g.F v d) (e : truD g.S d = some k) : TruV K v g.H k := by
  unfold truD at e
  split at e
  · rename_i q; have := look_non q; subst this; simp only [Rep] at r; subst r; cases e; rfl
  · rename_i q; have := look_bl q; subst this; simp only [Rep] at r; subst r; cases e; rfl
  · rename_i q; have := look_int q; subst this; simp only [Rep] at r; subst r; cases e; rfl
  · rename_i q; have := look_str q; subst this; simp only [Rep] at r; subst r
    split at e
    · rename_i h; cases e; exact ⟨lim_ok h, rfl⟩
    · cases e
  · rename_i xs q
    obtain ⟨p, vs, rfl, h, l⟩ := look_lst ok r q
    cases e
    exact .inl ⟨vs, h, by rw [l.isEmpty]⟩
  · rename_i xs q
    obtain ⟨p, vs, rfl, h, l⟩ := look_tup ok r q
    cases e
    exact .inr (.inl ⟨vs, SqT.of (ok.le _ _ h), by rw [l.isEmpty]⟩)
  · rename_i xs q
    obtain ⟨p, vs, rfl, h, l⟩ := look_dic ok r q
    cases e
    refine .inr (.inr ⟨vs, h, ?_⟩)
    have := l.length
    cases vs <;> cases xs <;> simp at this <;> rfl
  · cases e
def mTru (m : M D) : M Bool := fun ρ S => (m ρ S).bind fun d S1 => match truD S1 d with
  | some b => .ok b S1
  | none => .bad
theorem dt_tru (h : DV X e ma) (he : ∀ whole, isTrue e X.env whole = (do let v ← whole; standAt e.pos; holding [v] (truthy v)) := by intro _; rfl) : DT X e (mTru ma) := ⟨fun W tk => by
  obtain ⟨t, pe, ra⟩ := h.ex W tk
  refine ⟨_, pt_truth pe he, fun g σ ρ Q rel h => ?_⟩
  unfold mTru at h
  rw [post_bind] at h
  refine ra g σ ρ _ rel (h.imp (fun d S1 e1 h1 g1 x es p1 r1 => ?_) fun e S1 _ h1 => h1)
  subst es
  cases q : truD g1.S d with
  | none => rw [q] at h1; exact h1.elim
  | some k => rw [q] at h1; exact ⟨k, truD_ok p1.ok r1 q, h1 g1 rfl p1⟩⟩

/-! ### and, or, not -/
structure DW (X : Cx) (e : Expr) (m : M Bool) : Prop where
  ex : ∀ W, Takes X W → ∃ t, PW X e t ∧ RT X.K t W m
def mAnd (a b : M Bool) : M Bool := fun ρ S => (a ρ S).bind fun x S1 => bif x then b ρ S1 else .ok false S1
def mOr (a b : M Bool) : M Bool := fun ρ S => (a ρ S).bind fun x S1 => bif x then .ok true S1 else b ρ S1
def mNot (a : M Bool) : M Bool := mMap not a
theorem dw_and1 {m : M Bool} (h : DT X a m) : DW X (.BoolOp .And [a] pos) m := ⟨fun W tk => by
  obtain ⟨t, pe, ra⟩ := h.ex W tk; exact ⟨t, pw_and1 pe, ra⟩⟩
theorem dw_or1 {m : M Bool} (h : DT X a m) : DW X (.BoolOp .Or [a] pos) m := ⟨fun W tk => by
  obtain ⟨t, pe, ra⟩ := h.ex W tk; exact ⟨t, pw_or1 pe, ra⟩⟩
theorem dw_and {m n : M Bool} (h : DT X a m) (h2 : DW X (.BoolOp .And (b :: rest) pos) n) : DW X (.BoolOp .And (a :: b :: rest) pos) (mAnd m n) := ⟨fun W tk => by
  obtain ⟨t, pe, ra⟩ := h.ex W tk
  obtain ⟨u, pu, ru⟩ := h2.ex W tk
  refine ⟨_, pw_and pe pu, fun g σ ρ Q rel h => ?_⟩
  unfold mAnd at h
  rw [post_bind] at h
  refine ra g σ ρ _ rel (h.imp (fun d S1 e1 h1 g1 es p1 => ?_) fun e S1 _ h1 => h1)
  subst es
  cases d with
  | true =>
    rw [if_pos rfl]
    exact ru g1 σ ρ _ (rel.post p1) (R.post.imp h1 (fun d S _ q g' es p => q g' es (p1.trans p)) fun e S2 _ h2 => err_on (x := fun _ _ => True) p1 h2)
  | false =>
    rw [if_neg Bool.false_ne_true]
    exact h1 g1 rfl p1⟩
theorem dw_or {m n : M Bool} (h : DT X a m) (h2 : DW X (.BoolOp .Or (b :: rest) pos) n) : DW X (.BoolOp .Or (a :: b :: rest) pos) (mOr m n) := ⟨fun W tk => by
  obtain ⟨t, pe, ra⟩ := h.ex W tk
  obtain ⟨u, pu, ru⟩ := h2.ex W tk
  refine ⟨_, pw_or pe pu, fun g σ ρ Q rel h => ?_⟩
  unfold mOr at h
  rw [post_bind] at h
  refine ra g σ ρ _ rel (h.imp (fun d S1 e1 h1 g1 es p1 => ?_) fun e S1 _ h1 => h1)
  subst es
  cases d with
  | false =>
    rw [if_neg Bool.false_ne_true]
    exact ru g1 σ ρ _ (rel.post p1) (R.post.imp h1 (fun d S _ q g' es p => q g' es (p1.trans p)) fun e S2 _ h2 => err_on (x := fun _ _ => True) p1 h2)
  | true =>
    rw [if_pos rfl]
    exact h1 g1 rfl p1⟩
theorem dt_w {m : M Bool} (h : DW X e m) : DT X e m := ⟨fun W tk => by
  obtain ⟨t, pe, ra⟩ := h.ex W tk; exact ⟨t, pe.pt, ra⟩⟩
theorem dt_not {m : M Bool} (h : DT X a m) : DT X (.UnaryOp .Not a pos) (mNot m) := ⟨fun W tk => by
  obtain ⟨t, pe, ra⟩ := h.ex W tk
  refine ⟨_, pt_not pe, fun g σ ρ Q rel h => ?_⟩
  unfold mNot mMap at h
  rw [post_bind] at h
  exact ra g σ ρ _ rel (h.imp (fun d S1 e1 h1 g1 es p1 => h1 g1 es p1) fun e S1 _ h1 => h1)⟩
/-- as values: all but the last a truth -/
def mAndV (a b : M D) : M D := fun ρ S => (a ρ S).bind fun x S1 => match x with
  | .bl true => b ρ S1
  | .bl false => .ok (.bl false) S1
  | _ => .bad
def mOrV (a b : M D) : M D := fun ρ S => (a ρ S).bind fun x S1 => match x with
  | .bl false => b ρ S1
  | .bl true => .ok (.bl true) S1
  | _ => .bad
def mNotV (a : M D) : M D := mUn (fun x => match x with
  | .bl k => some (.bl (!k))
  | _ => none) a
theorem dv_one {op} (h : DV X a ma) : DV X (.BoolOp op [a] pos) ma := ⟨fun W tk => by
  obtain ⟨t, pe, ra⟩ := h.ex W tk; exact ⟨t, pe_one pe, ra⟩⟩
theorem dv_and (h : DV X a ma) (h2 : DV X (.BoolOp .And (b :: rest) pos) mb) : DV X (.BoolOp .And (a :: b :: rest) pos) (mAndV ma mb) := ⟨fun W tk => by
  obtain ⟨t, pe, ra⟩ := h.ex W tk
  obtain ⟨u, pu, ru⟩ := h2.ex W tk
  refine ⟨_, pe_and pe pu, fun g σ ρ Q rel h => ?_⟩
  unfold mAndV at h
  rw [post_bind] at h
  refine ra g σ ρ _ rel (h.imp (fun d S1 e1 h1 g1 x es p1 r1 => ?_) fun e S1 _ h1 => h1)
  subst es
  cases d with
  | bl k =>
    simp only [Rep] at r1
    refine ⟨k, r1, ?_⟩
    cases k with
    | true =>
      rw [if_pos rfl]
      exact ru g1 σ ρ _ (rel.post p1) (R.post.imp h1 (fun d S _ q g' v es p => q g' v es (p1.trans p)) fun e S2 _ h2 => err_on (x := fun _ _ => True) p1 h2)
    | false =>
      rw [if_neg Bool.false_ne_true]
      exact h1 g1 _ rfl p1 (by simp only [Rep])
  | _ => exact h1.elim⟩
theorem dv_or (h : DV X a ma) (h2 : DV X (.BoolOp .Or (b :: rest) pos) mb) : DV X (.BoolOp .Or (a :: b :: rest) pos) (mOrV ma mb) := ⟨fun W tk => by
  obtain ⟨t, pe, ra⟩ := h.ex W tk
  obtain ⟨u, pu, ru⟩ := h2.ex W tk
  refine ⟨_, pe_or pe pu, fun g σ ρ Q rel h => ?_⟩
  unfold mOrV at h
  rw [post_bind] at h
  refine ra g σ ρ _ rel (h.imp (fun d S1 e1 h1 g1 x es p1 r1 => ?_) fun e S1 _ h1 => h1)
  subst es
  cases d with
  | bl k =>
    simp only [Rep] at r1
    refine ⟨k, r1, ?_⟩
    cases k with
    | false =>
      rw [if_neg Bool.false_ne_true]
      exact ru g1 σ ρ _ (rel.post p1) (R.post.imp h1 (fun d S _ q g' v es p => q g' v es (p1.trans p)) fun e S2 _ h2 => err_on (x := fun _ _ => True) p1 h2)
    | true =>
      rw [if_pos rfl]
      exact h1 g1 _ rfl p1 (by simp only [Rep])
  | _ => exact h1.elim⟩
theorem dv_not (h : DV X a ma) : DV X (.UnaryOp .Not a pos) (mNotV ma) := ⟨fun W tk => by
  obtain ⟨t, pe, ra⟩ := h.ex W tk
  refine ⟨_, pe_not pe, fun g σ ρ Q rel h => ?_⟩
  unfold mNotV mUn at h
  rw [post_bind] at h
  refine ra g σ ρ _ rel (h.imp (fun d S1 e1 h1 g1 x es p1 r1 => ?_) fun e S1 _ h1 => h1)
  subst es
  cases d with
  | bl k =>
    simp only [Rep] at r1
    exact ⟨k, r1, h1 g1 _ rfl p1 (by simp only [Rep])⟩
  | _ => exact h1.elim⟩
/-- a if t else b -/
def mIf {α : Type} (t : M Bool) (a b : M α) : M α := fun ρ S => (t ρ S).bind fun x S1 => bif x then a ρ S1 else b ρ S1
theorem dv_if {mt : M Bool} (ht : DT X c mt) (ha : DV X a ma) (hb : DV X b mb) : DV X (.IfExp c a b pos) (mIf mt ma mb) := ⟨fun W tk => by
  obtain ⟨t, pt, rt⟩ := ht.ex W tk
  obtain ⟨ta, pa, ra⟩ := ha.ex W tk
  obtain ⟨tb, pb, rb⟩ := hb.ex W tk
  refine ⟨_, pe_ifExp pt pa pb, fun g σ ρ Q rel h => ?_⟩
  unfold mIf at h
  rw [post_bind] at h
  refine rt g σ ρ _ rel (h.imp (fun d S1 e1 h1 g1 es p1 => ?_) fun e S1 _ h1 => h1)
  subst es
  cases d with
  | true =>
    rw [if_pos rfl]
    exact ra g1 σ ρ _ (rel.post p1) (R.post.imp h1 (fun d S _ q g' v es p => q g' v es (p1.trans p)) fun e S2 _ h2 => err_on (x := fun _ _ => True) p1 h2)
  | false =>
    rw [if_neg Bool.false_ne_true]
    exact rb g1 σ ρ _ (rel.post p1) (R.post.imp h1 (fun d S _ q g' v es p => q g' v es (p1.trans p)) fun e S2 _ h2 => err_on (x := fun _ _ => True) p1 h2)⟩
theorem do_if {mt : M Bool} {ma mb : M Slot} (ht : DT X c mt) (ha : DO X a ma) (hb : DO X b mb) : DO X (.IfExp c a b pos) (mIf mt ma mb) := ⟨fun W tk => by
  obtain ⟨t, pt, rt⟩ := ht.ex W tk
  obtain ⟨ta, pa, ra⟩ := ha.ex W tk
  obtain ⟨tb, pb, rb⟩ := hb.ex W tk
  refine ⟨_, pe_ifExp pt pa pb, fun g σ ρ Q rel h => ?_⟩
  unfold mIf at h
  rw [post_bind] at h
  refine rt g σ ρ _ rel (h.imp (fun d S1 e1 h1 g1 es p1 => ?_) fun e S1 _ h1 => h1)
  subst es
  cases d with
  | true =>
    rw [if_pos rfl]
    exact ra g1 σ ρ _ (rel.post p1) (R.post.imp h1 (fun d S _ q g' v es p o => q g' v es (p1.trans p) (o.back p1)) fun e S2 _ h2 => err_on (x := fun _ _ => True) p1 h2)
  | false =>
    rw [if_neg Bool.false_ne_true]
    exact rb g1 σ ρ _ (rel.post p1) (R.post.imp h1 (fun d S _ q g' v es p o => q g' v es (p1.trans p) (o.back p1)) fun e S2 _ h2 => err_on (x := fun _ _ => True) p1 h2)⟩

/-! ### arguments, displays -/
def aNil : M (List D) := fun _ S => .ok [] S
def aCons (a : M D) (r : M (List D)) : M (List D) := fun ρ S => (a ρ S).bind fun x S1 => (r ρ S1).bind fun xs S2 => .ok (x :: xs) S2
theorem da_nil : DA X [] aNil := ⟨fun W _ => ⟨_, pa_nil, fun g σ ρ Q rel h => h g [] rfl (Post.refl rel.ok) RepL.nil⟩, fun ρ S ds S' e => by cases e; rfl⟩
theorem da_cons {es : List Expr} {mr : M (List D)} (ha : DV X e ma) (hr : DA X es mr) (hs : starEach (e :: es) X.env = (false, eval e X.env) :: starEach es X.env := by rfl) : DA X (e :: es) (aCons ma mr) := ⟨fun W tk => by
  obtain ⟨t, pe, ra⟩ := ha.ex W tk
  obtain ⟨u, pu, ru⟩ := hr.ex W tk
  refine ⟨_, pa_cons pe pu hs, fun g σ ρ Q rel h => ?_⟩
  unfold aCons at h
  rw [post_bind] at h
  refine ra g σ ρ _ rel (h.imp (fun d S1 e1 h1 g1 x es p1 r1 => ?_) fun e S1 _ h1 => h1)
  subst es
  rw [post_bind] at h1
  refine ru g1 σ ρ _ (rel.post p1) (h1.imp (fun ds S2 e2 h2 g2 vs es2 p2 r2 => ?_) fun e S2 _ h2 => err_on (x := fun _ _ => True) p1 h2)
  exact h2 g2 _ es2 (p1.trans p2) (.cons (p2.rep r1) r2), fun ρ S ds S' q => by
  unfold aCons at q
  cases z : ma ρ S with
  | ok d S1 =>
    rw [z] at q
    simp only [R.bind] at q
    cases y : mr ρ S1 with
    | ok ds S2 =>
      rw [y] at q
      cases q
      rw [List.length_cons, List.length_cons, hr.len _ _ _ _ y]
    | err e S2 => rw [y] at q; cases q
    | bad => rw [y] at q; cases q
  | err e S1 => rw [z] at q; cases q
  | bad => rw [z] at q; cases q⟩
theorem dv_tup {es : List Expr} {x1} {m : M (List D)} (h : DA X es m) (hl : es.length ≤ 1000 := by decide) : DV X (.Tuple es x1 pos) (mMap D.tup m) := ⟨fun W tk => by
  obtain ⟨t, pe, ra⟩ := h.ex W tk
  refine ⟨_, pe_tup pe, fun g σ ρ Q rel q => ?_⟩
  unfold mMap at q
  rw [post_bind] at q
  refine ra g σ ρ _ rel (q.imp (fun ds S1 e1 h1 g1 vs es p1 r1 => ?_) fun e S1 _ h1 => h1)
  refine ⟨?_, fun p hp => ?_⟩
  · rw [r1.length, h.len _ _ _ _ e1]
    exact lim_ok (by omega)
  · obtain ⟨p2, r2⟩ := out_tup p1.ok hp r1
    exact h1 (G.frz g1 p _) _ es (p1.trans p2) r2⟩
def oLst (m : M (List D)) : M Slot := mMap (fun ds => .own (.lst ds)) m
theorem do_lst {es : List Expr} {m : M (List D)} (h : DA X es m) (hl : es.length ≤ 1000 := by decide) : DO X (.List es pos) (oLst m) := ⟨fun W tk => by
  obtain ⟨t, pe, ra⟩ := h.ex W tk
  refine ⟨_, pe_lst pe, fun g σ ρ Q rel q => ?_⟩
  unfold oLst mMap at q
  rw [post_bind] at q
  refine ra g σ ρ _ rel (q.imp (fun ds S1 e1 h1 g1 vs es p1 r1 => ?_) fun e S1 _ h1 => h1)
  refine ⟨?_, fun p hp => ?_⟩
  · rw [r1.length, h.len _ _ _ _ e1]
    exact lim_ok (by omega)
  · obtain ⟨p2, r2⟩ := out_lst p1.ok hp r1
    exact h1 (G.lay g1 p _) _ es (p1.trans p2) (r2.back p1)⟩
/-- {} -/
theorem do_dic0 : DO X (.Dict [] [] pos) (eC (.own (.dic []))) := ⟨fun W tk => ⟨_, pe_dnewK, fun g σ ρ Q rel q p hp => by
  obtain ⟨p2, r2⟩ := out_dic (vs := []) (ds := []) rel.ok hp (by simp only [RepK])
  exact q (G.lay g p _) _ rfl p2 r2⟩⟩

/-! ### subscripts -/
def atD (xs : List D) (i : Int) : Option D := if 0 ≤ i then xs[i.toNat]? else if -(xs.length : Int) ≤ i then xs[(i + xs.length).toNat]? else none
theorem RepL.atI {g : G} {vs : List V} {ds : List D} {i : Int} {d : D} (r : RepL K g.io g.F vs ds) (h : atD ds i = some d) : ∃ v, L2.atI vs i = some v ∧ Rep K g.io g.F v d := by
  have l := r.length
  unfold atD at h
  unfold L2.atI L2.ixN
  split at h
  · rename_i h0
    obtain ⟨v, e, q⟩ := r.get h
    have lt := (List.getElem?_eq_some_iff.mp e).1
    rw [if_pos h0, if_pos (by omega)]
    exact ⟨v, e, q⟩
  · rename_i h0
    split at h
    · rename_i h1
      obtain ⟨v, e, q⟩ := r.get h
      rw [if_neg h0, l, if_pos h1]
      exact ⟨v, e, q⟩
    · cases h
def opIx (S : Sto) (x i : D) : Option Slot := match lookD S x, i with
  | .lst xs, .int i => (atD xs i).map .val
  | .tup xs, .int i => (atD xs i).map .val
  | .str z, .int i => if z.length ≤ 1000000 then (L2.atI z.cps.toList i).map fun c => .val (.str ⟨#[c]⟩) else none
  | _, _ => none
theorem r_ix : ROp K (rIx K) opIx := by
  intro g x y dx dy s Q ok rx ry e h
  unfold opIx at e
  split at e
  · rename_i xs i e1
    obtain ⟨p, vs, rfl, hp, r1⟩ := look_lst ok rx e1
    simp only [Rep] at ry
    cases q : atD xs i with
    | none => rw [q] at e; cases e
    | some d =>
      rw [q] at e; cases e
      obtain ⟨v, f1, f2⟩ := r1.atI q
      exact .inl ⟨p, vs, i, v, rfl, ry, hp, f1, h g v rfl (Post.refl ok) f2⟩
  · rename_i xs i e1
    obtain ⟨p, vs, rfl, hp, r1⟩ := look_tup ok rx e1
    simp only [Rep] at ry
    cases q : atD xs i with
    | none => rw [q] at e; cases e
    | some d =>
      rw [q] at e; cases e
      obtain ⟨v, f1, f2⟩ := r1.atI q
      exact .inr (.inl ⟨p, vs, i, v, rfl, ry, SqT.of (ok.le _ _ hp), f1, h g v rfl (Post.refl ok) f2⟩)
  · rename_i z i e1
    have := look_str e1; subst this
    simp only [Rep] at rx ry
    split at e
    · rename_i hz
      cases q : L2.atI z.cps.toList i with
      | none => rw [q] at e; cases e
      | some c =>
        rw [q] at e; cases e
        exact .inr (.inr ⟨z, i, c, rx, ry, lim_ok hz, q, h g _ rfl (Post.refl ok) (by simp only [OutRep, Rep])⟩)
    · cases e
  · cases e

/-! ### ==, != -/
mutual
def eqD : D → D → Bool
  | .non, .non => true
  | .bl a, .bl b => a == b
  | .bl a, .int j => (if a then 1 else 0) == j
  | .int i, .bl b => i == (if b then 1 else 0)
  | .int i, .int j => decide (i = j)
  | .str x, .str y => decide (x = y)
  | .lst xs, .lst ys => eqDL xs ys
  | .tup xs, .tup ys => eqDL xs ys
  | _, _ => false
def eqDL : List D → List D → Bool
  | [], [] => true
  | x :: xs, y :: ys => eqD x y && eqDL xs ys
  | _, _ => false
end
mutual
def toPy : D → PyData
  | .non => .none
  | .bl b => .bool b
  | .int i => .int i
  | .str s => .str s
  | .lst xs => .list (toPyL xs)
  | .tup xs => .tuple (toPyL xs)
  | _ => .none
def toPyL : List D → List PyData
  | [] => []
  | x :: xs => toPy x :: toPyL xs
end
mutual
/-- data of a depth -/
def okD : Nat → D → Bool
  | _, .non => true
  | _, .bl _ => true
  | _, .int _ => true
  | _, .str s => PyData.strOk s
  | n + 1, .lst xs => okDL n xs
  | n + 1, .tup xs => okDL n xs
  | _, _ => false
def okDL : Nat → List D → Bool
  | _, [] => true
  | n, x :: xs => okD n x && okDL n xs
end
mutual
theorem toPy_eq : ∀ (n m : Nat) (x y : D), okD n x = true → okD m y = true → PyData.eqv (toPy x) (toPy y) = eqD x y
  | n, m, .lst xs, y, hx, hy => by
    cases y <;> first
      | (simp only [toPy, eqD, PyData.eqv]; done)
      | (cases m <;> simp [okD] at hy; done)
      | skip
    rename_i ys
    cases n <;> simp [okD] at hx
    cases m <;> simp [okD] at hy
    simp only [toPy, eqD, PyData.eqv]
    exact toPyL_eq _ _ xs ys hx hy
  | n, m, .tup xs, y, hx, hy => by
    cases y <;> first
      | (simp only [toPy, eqD, PyData.eqv]; done)
      | (cases m <;> simp [okD] at hy; done)
      | skip
    rename_i ys
    cases n <;> simp [okD] at hx
    cases m <;> simp [okD] at hy
    simp only [toPy, eqD, PyData.eqv]
    exact toPyL_eq _ _ xs ys hx hy
  | n, m, .non, y, hx, hy => by cases y <;> first | (simp only [toPy, eqD, PyData.eqv]; done) | (cases m <;> simp [okD] at hy; done)
  | n, m, .bl _, y, hx, hy => by cases y <;> first | (simp only [toPy, eqD, PyData.eqv]; done) | (cases m <;> simp [okD] at hy; done)
  | n, m, .int _, y, hx, hy => by cases y <;> first | (simp only [toPy, eqD, PyData.eqv, Bool.beq_eq_decide_eq]; done) | (cases m <;> simp [okD] at hy; done)
  | n, m, .str _, y, hx, hy => by cases y <;> first | (simp only [toPy, eqD, PyData.eqv, Bool.beq_eq_decide_eq]; done) | (cases m <;> simp [okD] at hy; done)
  | n, m, .ty _, _, hx, _ => by cases n <;> simp [okD] at hx
  | n, m, .cls _, _, hx, _ => by cases n <;> simp [okD] at hx
  | n, m, .dic _, _, hx, _ => by cases n <;> simp [okD] at hx
  | n, m, .obj _ _, _, hx, _ => by cases n <;> simp [okD] at hx
  | n, m, .exc _ _, _, hx, _ => by cases n <;> simp [okD] at hx
  | n, m, .ref _, _, hx, _ => by cases n <;> simp [okD] at hx
theorem toPyL_eq : ∀ (n m : Nat) (xs ys : List D), okDL n xs = true → okDL m ys = true → PyData.eqvAll (toPyL xs) (toPyL ys) = eqDL xs ys
  | _, _, [], [], _, _ => by simp only [toPyL, eqDL, PyData.eqvAll]
  | _, _, [], _ :: _, _, _ => by simp only [toPyL, eqDL, PyData.eqvAll]
  | _, _, _ :: _, [], _, _ => by simp only [toPyL, eqDL, PyData.eqvAll]
  | n, m, x :: xs, y :: ys, hx, hy => by
    simp only [okDL, Bool.and_eq_true] at hx hy
    simp only [toPyL, eqDL, PyData.eqvAll]
    rw [toPy_eq n m x y hx.1 hy.1, toPyL_eq n m xs ys hx.2 hy.2]
end
mutual
theorem toPy_dp {g : G} (le : Le g.F g.H) : ∀ (n : Nat) (d : D) (v : V), okD n d = true → Rep K g.io g.F v d → Dp K g.H v (toPy d)
  | n, .non, v, _, r => by simp only [Rep] at r; subst r; exact .non
  | n, .bl _, v, _, r => by simp only [Rep] at r; subst r; exact .bl _
  | n, .int _, v, _, r => by simp only [Rep] at r; subst r; exact .int _
  | n, .str _, v, _, r => by simp only [Rep] at r; subst r; exact .str _
  | 0, .lst _, v, h, _ => by simp [okD] at h
  | 0, .tup _, v, h, _ => by simp [okD] at h
  | n + 1, .lst xs, v, h, r => by
    simp only [Rep] at r
    obtain ⟨p, vs, rfl, hp, l⟩ := r
    simp only [okD] at h
    exact .lst (FW.SqL.mono le hp) (toPyL_dp le n xs vs h l)
  | n + 1, .tup xs, v, h, r => by
    simp only [Rep] at r
    obtain ⟨p, vs, rfl, hp, l⟩ := r
    simp only [okD] at h
    exact .tup (SqT.of (le _ _ hp)) (toPyL_dp le n xs vs h l)
  | n, .ty _, _, hx, _ => by cases n <;> simp [okD] at hx
  | n, .cls _, _, hx, _ => by cases n <;> simp [okD] at hx
  | n, .dic _, _, hx, _ => by cases n <;> simp [okD] at hx
  | n, .obj _ _, _, hx, _ => by cases n <;> simp [okD] at hx
  | n, .exc _ _, _, hx, _ => by cases n <;> simp [okD] at hx
  | n, .ref _, _, hx, _ => by cases n <;> simp [okD] at hx
theorem toPyL_dp {g : G} (le : Le g.F g.H) : ∀ (n : Nat) (ds : List D) (vs : List V), okDL n ds = true → RepL K g.io g.F vs ds → DpAll K g.H vs (toPyL ds)
  | _, [], vs, _, r => by simp only [RepL] at r; subst r; exact .nil
  | n, d :: ds, vs, h, r => by
    simp only [okDL, Bool.and_eq_true] at h
    simp only [RepL] at r
    obtain ⟨v, q, rfl, a, b⟩ := r
    exact .cons (toPy_dp le n d v h.1 a) (toPyL_dp le n ds q h.2 b)
end
mutual
theorem toPy_shape : ∀ (n : Nat) (d : D), okD n d = true → (toPy d).canLay0 = true ∧ (toPy d).depth ≤ n + 1
  | n, .non, _ => ⟨by simp only [toPy, PyData.canLay0], by simp only [toPy, PyData.depth]; omega⟩
  | n, .bl _, _ => ⟨by simp only [toPy, PyData.canLay0], by simp only [toPy, PyData.depth]; omega⟩
  | n, .int _, _ => ⟨by simp only [toPy, PyData.canLay0], by simp only [toPy, PyData.depth]; omega⟩
  | n, .str _, h => ⟨by cases n <;> simpa only [toPy, PyData.canLay0, okD] using h, by simp only [toPy, PyData.depth]; omega⟩
  | 0, .lst _, h => by simp [okD] at h
  | 0, .tup _, h => by simp [okD] at h
  | n + 1, .lst xs, h => by
    simp only [okD] at h
    obtain ⟨a, b⟩ := toPyL_shape n xs h
    exact ⟨by simp only [toPy, PyData.canLay0]; exact a, by simp only [toPy, PyData.depth]; omega⟩
  | n + 1, .tup xs, h => by
    simp only [okD] at h
    obtain ⟨a, b⟩ := toPyL_shape n xs h
    exact ⟨by simp only [toPy, PyData.canLay0]; exact a, by simp only [toPy, PyData.depth]; omega⟩
  | n, .ty _, hx => by cases n <;> simp [okD] at hx
  | n, .cls _, hx => by cases n <;> simp [okD] at hx
  | n, .dic _, hx => by cases n <;> simp [okD] at hx
  | n, .obj _ _, hx => by cases n <;> simp [okD] at hx
  | n, .exc _ _, hx => by cases n <;> simp [okD] at hx
  | n, .ref _, hx => by cases n <;> simp [okD] at hx
theorem toPyL_shape : ∀ (n : Nat) (ds : List D), okDL n ds = true → PyData.canLayAll0 (toPyL ds) = true ∧ PyData.depthAll (toPyL ds) ≤ n + 1
  | _, [], _ => ⟨by simp only [toPyL, PyData.canLayAll0], by simp only [toPyL, PyData.depthAll]; omega⟩
  | n, d :: ds, h => by
    simp only [okDL, Bool.and_eq_true] at h
    obtain ⟨a, b⟩ := toPy_shape n d h.1
    obtain ⟨c, e⟩ := toPyL_shape n ds h.2
    exact ⟨by simp only [toPyL, PyData.canLayAll0, a, c]; rfl, by simp only [toPyL, PyData.depthAll]; omega⟩
end
def scalD : D → Bool
  | .non => true | .bl _ => true | .int _ => true | .str _ => true
  | _ => false
def cEq (S : Sto) (x y : D) : Option Bool := match x, y with
  | .int i, .int j => some (decide (i = j))
  | .str i, .str j => some (decide (i = j))
  | .bl i, .bl j => some (i == j)
  | x, y => if okD 20 x && okD 20 y then some (eqD x y) else none
def cNe (S : Sto) (x y : D) : Option Bool := (cEq S x y).map not
theorem shaped_of {n : Nat} {d : D} (h : okD n d = true) (hn : n ≤ 40) : SeqAt.shaped (toPy d) = true := by
  obtain ⟨a, b⟩ := toPy_shape n d h
  unfold SeqAt.shaped
  rw [a, decide_eq_true (by omega)]; rfl
abbrev rEqAll (K : PySem.W.Frag) : R2 := fun x y H Q => rEq x y H Q ∨ rEqD K x y H Q
abbrev rNeAll (K : PySem.W.Frag) : R2 := fun x y H Q => rNe x y H Q ∨ rNeD K x y H Q
theorem op_eqAll (hu : X.A.units + 64 < cLine) : OpR X (compareOp .Eq) (rEqAll X.K) := op_eq.or (op_eqD hu)
theorem op_neAll (hu : X.A.units + 64 < cLine) : OpR X (compareOp .NotEq) (rNeAll X.K) := op_ne.or (op_neD hu)
theorem r_eq : RCmp K (rEqAll K) cEq := by
  intro g x y dx dy s Q ok rx ry e q
  unfold cEq at e
  split at e
  · rename_i i j
    simp only [Rep] at rx ry; subst rx ry; cases e
    refine .inl ⟨rfl, ?_⟩
    rw [show decide (V.int i = V.int j) = decide (i = j) by simp]; exact q
  · rename_i i j
    simp only [Rep] at rx ry; subst rx ry; cases e
    refine .inl ⟨rfl, ?_⟩
    rw [show decide (V.str i = V.str j) = decide (i = j) by simp]; exact q
  · rename_i i j
    simp only [Rep] at rx ry; subst rx ry; cases e
    refine .inl ⟨rfl, ?_⟩
    rw [dec_bl]; exact q
  · split at e
    · rename_i h
      simp only [Bool.and_eq_true] at h
      cases e
      refine .inr ⟨_, _, toPy_dp ok.le 20 dx x h.1 rx, toPy_dp ok.le 20 dy y h.2 ry, shaped_of h.1 (by omega), shaped_of h.2 (by omega), ?_⟩
      rw [toPy_eq 20 20 dx dy h.1 h.2]; exact q
    · cases e
theorem r_ne : RCmp K (rNeAll K) cNe := by
  intro g x y dx dy s Q ok rx ry e q
  unfold cNe cEq at e
  split at e
  · rename_i i j
    simp only [Rep] at rx ry; subst rx ry; cases e
    refine .inl ⟨rfl, ?_⟩
    rw [show decide (V.int i = V.int j) = decide (i = j) by simp]; exact q
  · rename_i i j
    simp only [Rep] at rx ry; subst rx ry; cases e
    refine .inl ⟨rfl, ?_⟩
    rw [show decide (V.str i = V.str j) = decide (i = j) by simp]; exact q
  · rename_i i j
    simp only [Rep] at rx ry; subst rx ry; cases e
    refine .inl ⟨rfl, ?_⟩
    rw [dec_bl]; exact q
  · split at e
    · rename_i h
      simp only [Bool.and_eq_true] at h
      cases e
      refine .inr ⟨_, _, toPy_dp ok.le 20 dx x h.1 rx, toPy_dp ok.le 20 dy y h.2 ry, shaped_of h.1 (by omega), shaped_of h.2 (by omega), ?_⟩
      rw [toPy_eq 20 20 dx dy h.1 h.2]; exact q
    · cases e
end
end FW
end
section
set_option maxHeartbeats 2000000
/-! FW6: built-in calls, isinstance, what is walked. -/
namespace FW
open PySem PySem.Spec PyProof.Rows L2
section
variable {X : Cx} {e a b c : Expr} {ma mb mc : M D} {pos : Pos} {K : PySem.W.Frag} {rest es : List Expr}

/-! ### calls by values -/
def RCall (K : PySem.W.Frag) (r : List V → Hp → VK → Prop) (f : Sto → List D → Option Slot) : Prop := ∀ (g : G) (vs : List V) (ds : List D) (s : Slot) (Q : VK), Ok K g → RepL K g.io g.F vs ds → f g.S ds = some s →
  (∀ g' v, g'.S = g.S → Post K g g' → OutRep K g g' v s → Q v g'.H) → r vs g.H Q
def mCall (f : Sto → List D → Option Slot) (m : M (List D)) : M Slot := fun ρ S => (m ρ S).bind fun ds S1 => match f S1 ds with
  | some s => .ok s S1
  | none => .bad
theorem ro_call {r : List V → Hp → VK → Prop} {f : Sto → List D → Option Slot} {t : TA} {W : WX} {m : M (List D)} (hr : RCall X.K r f) (ra : RA X.K t W m) : RO X.K (tCB r t) W (mCall f m) := fun g σ ρ Q rel h => by
  unfold mCall at h
  rw [post_bind] at h
  refine ra g σ ρ _ rel (h.imp (fun ds S1 e1 h1 g1 vs es p1 r1 => ?_) fun e S1 _ h1 => h1)
  subst es
  cases q : f g1.S ds with
  | none => rw [q] at h1; exact h1.elim
  | some s =>
    rw [q] at h1
    exact hr g1 vs ds s _ p1.ok r1 q fun g2 v es p2 o => h1 g2 v es (p1.trans p2) (o.back p1)
theorem do_callB {id : String} {x : Str} {p : Pos} {r : List V → Hp → VK → Prop} {f : Sto → List D → Option Slot} {m : M (List D)} (hc : CallR X (.builtin id) r) (hr : RCall X.K r f) (hg : Gl X x) (hm : X.mg x = none) (hv : bootBuiltins x = some (.builtin id)) (ha : DA X (e :: es) m) (hn : x ≠ "__name__" := by decide) (hdb : (x == ("__debug__" : Str)) = false := by decide)
    (he : starEach (e :: es) X.env = (false, eval e X.env) :: starEach es X.env := by rfl) (hpl : (backTo pos (starEach es X.env)).any (·.1) = false := by rfl) : DO X (.Call (.Name x p) (e :: es) [] pos) (mCall f m) := ⟨fun W tk => by
  obtain ⟨t, pe, ra⟩ := ha.ex W tk
  exact ⟨_, pe_callB hc hg hm hv pe hn hdb he hpl, ro_call hr ra⟩⟩
theorem do_callTy {T : String} {x : Str} {p : Pos} {r : List V → Hp → VK → Prop} {f : Sto → List D → Option Slot} {m : M (List D)} (hc : CallR X (.type T) r) (hr : RCall X.K r f) (hg : Gl X x) (hm : X.mg x = none) (hv : bootBuiltins x = some (.type T)) (ha : DA X (e :: es) m) (hn : x ≠ "__name__" := by decide) (hdb : (x == ("__debug__" : Str)) = false := by decide)
    (he : starEach (e :: es) X.env = (false, eval e X.env) :: starEach es X.env := by rfl) (hpl : (backTo pos (starEach es X.env)).any (·.1) = false := by rfl) : DO X (.Call (.Name x p) (e :: es) [] pos) (mCall f m) := ⟨fun W tk => by
  obtain ⟨t, pe, ra⟩ := ha.ex W tk
  exact ⟨_, pe_callTy hc hg hm hv pe hn hdb he hpl, ro_call hr ra⟩⟩
theorem repL1 {g : G} {vs : List V} {d : D} (r : RepL K g.io g.F vs [d]) : ∃ v, vs = [v] ∧ Rep K g.io g.F v d := by
  simp only [RepL] at r
  obtain ⟨v, q, rfl, a, rfl⟩ := r
  exact ⟨v, rfl, a⟩
theorem repL2 {g : G} {vs : List V} {d e : D} (r : RepL K g.io g.F vs [d, e]) : ∃ v u, vs = [v, u] ∧ Rep K g.io g.F v d ∧ Rep K g.io g.F u e := by
  simp only [RepL] at r
  obtain ⟨v, q, rfl, a, u, q2, rfl, b, rfl⟩ := r
  exact ⟨v, u, rfl, a, b⟩
theorem repL3 {g : G} {vs : List V} {d e f : D} (r : RepL K g.io g.F vs [d, e, f]) : ∃ v u w, vs = [v, u, w] ∧ Rep K g.io g.F v d ∧ Rep K g.io g.F u e ∧ Rep K g.io g.F w f := by
  simp only [RepL] at r
  obtain ⟨v, q, rfl, a, u, q2, rfl, b, w, q3, rfl, c, rfl⟩ := r
  exact ⟨v, u, w, rfl, a, b, c⟩

/-! ### len -/
def fLen (S : Sto) : List D → Option Slot
  | [d] => match lookD S d with
    | .str z => if z.length ≤ 1000000 then some (.val (.int z.length)) else none
    | .lst xs => some (.val (.int xs.length))
    | .tup xs => some (.val (.int xs.length))
    | _ => none
  | _ => none
abbrev rLenV (K : PySem.W.Frag) : List V → Hp → VK → Prop := fun xs H Q => ∃ x n, xs = [x] ∧ LenV K x H n ∧ Q (.int n) H
theorem r_len : RCall K (rLenV K) fLen := by
  intro g vs ds s Q ok r e h
  unfold fLen at e
  split at e
  · rename_i d
    obtain ⟨v, rfl, r0⟩ := repL1 r
    split at e
    · rename_i z q
      have := look_str q; subst this
      simp only [Rep] at r0; subst r0
      split at e
      · rename_i hz
        cases e
        exact ⟨_, _, rfl, ⟨lim_ok hz, rfl⟩, h g _ rfl (Post.refl ok) (by simp only [OutRep, Rep])⟩
      · cases e
    · rename_i xs q
      obtain ⟨p, vs, rfl, hp, l⟩ := look_lst ok r0 q
      cases e
      exact ⟨_, xs.length, rfl, .inl ⟨vs, hp, l.length.symm⟩, h g _ rfl (Post.refl ok) (by simp only [OutRep, Rep])⟩
    · rename_i xs q
      obtain ⟨p, vs, rfl, hp, l⟩ := look_tup ok r0 q
      cases e
      exact ⟨_, xs.length, rfl, .inr ⟨vs, SqT.of (ok.le _ _ hp), l.length.symm⟩, h g _ rfl (Post.refl ok) (by simp only [OutRep, Rep])⟩
    · cases e
  · cases e

/-! ### min, max of two, of three; abs; sum -/
def fMax (S : Sto) : List D → Option Slot
  | [.int i, .int j] => some (.val (.int (max i j)))
  | [.int i, .int j, .int k] => some (.val (.int (max (max i j) k)))
  | _ => none
def fMin (S : Sto) : List D → Option Slot
  | [.int i, .int j] => some (.val (.int (min i j)))
  | [.int i, .int j, .int k] => some (.val (.int (min (min i j) k)))
  | _ => none
abbrev rMax2 : List V → Hp → VK → Prop := fun xs H Q => ∃ i j, xs = [.int i, .int j] ∧ Q (.int (if j > i then j else i)) H
abbrev rMin2 : List V → Hp → VK → Prop := fun xs H Q => ∃ i j, xs = [.int i, .int j] ∧ Q (.int (if j < i then j else i)) H
def rMax3 : List V → Hp → VK → Prop := fun xs H Q => ∃ i j k, xs = [.int i, .int j, .int k] ∧ Q (.int (max (max i j) k)) H
def rMin3 : List V → Hp → VK → Prop := fun xs H Q => ∃ i j k, xs = [.int i, .int j, .int k] ∧ Q (.int (min (min i j) k)) H
theorem vals3 {x y z : V} {us : List Value} (r : Vals [x, y, z] us) : ∃ u w' w3, us = [u, w', w3] ∧ RelV x u ∧ RelV y w' ∧ RelV z w3 := by
  cases r with
  | cons r1 r2 =>
    obtain ⟨u, w', rfl, a, b⟩ := vals2 r2
    exact ⟨_, u, w', rfl, r1, a, b⟩
theorem call_max3 (hc : X.calm = true) : CallR X (.builtin "max") rMax3 := by
  intro pins s σ H xs us Q I r h
  obtain ⟨i, j, k, rfl, q⟩ := h
  obtain ⟨u, w', w3, rfl, ⟨t, rfl⟩, ⟨t', rfl⟩, ⟨t3, rfl⟩⟩ := vals3 r
  refine max_three_ints (I.ok.hd hc) fun h' tk kp => ⟨_, H, I.kept kp, ?_, q⟩
  show ∃ t, _ = Value.int _ t
  by_cases h1 : j > i
  · rw [if_pos h1]
    by_cases h2 : k > j
    · rw [if_pos h2, show max (max i j) k = k by omega]; exact ⟨_, rfl⟩
    · rw [if_neg h2, show max (max i j) k = j by omega]; exact ⟨_, rfl⟩
  · rw [if_neg h1]
    by_cases h2 : k > i
    · rw [if_pos h2, show max (max i j) k = k by omega]; exact ⟨_, rfl⟩
    · rw [if_neg h2, show max (max i j) k = i by omega]; exact ⟨_, rfl⟩
theorem call_min3 (hc : X.calm = true) : CallR X (.builtin "min") rMin3 := by
  intro pins s σ H xs us Q I r h
  obtain ⟨i, j, k, rfl, q⟩ := h
  obtain ⟨u, w', w3, rfl, ⟨t, rfl⟩, ⟨t', rfl⟩, ⟨t3, rfl⟩⟩ := vals3 r
  refine min_three_ints (I.ok.hd hc) fun h' tk kp => ⟨_, H, I.kept kp, ?_, q⟩
  show ∃ t, _ = Value.int _ t
  by_cases h1 : j < i
  · rw [if_pos h1]
    by_cases h2 : k < j
    · rw [if_pos h2, show min (min i j) k = k by omega]; exact ⟨_, rfl⟩
    · rw [if_neg h2, show min (min i j) k = j by omega]; exact ⟨_, rfl⟩
  · rw [if_neg h1]
    by_cases h2 : k < i
    · rw [if_pos h2, show min (min i j) k = k by omega]; exact ⟨_, rfl⟩
    · rw [if_neg h2, show min (min i j) k = i by omega]; exact ⟨_, rfl⟩
theorem call_max (hc : X.calm = true) : CallR X (.builtin "max") (fun xs H Q => rMax2 xs H Q ∨ rMax3 xs H Q) := (call_max2 hc).or (call_max3 hc)
theorem call_min (hc : X.calm = true) : CallR X (.builtin "min") (fun xs H Q => rMin2 xs H Q ∨ rMin3 xs H Q) := (call_min2 hc).or (call_min3 hc)
theorem r_max : RCall K (fun xs H Q => rMax2 xs H Q ∨ rMax3 xs H Q) fMax := by
  intro g vs ds s Q ok r e h
  unfold fMax at e
  split at e
  · rename_i i j
    obtain ⟨v, u, rfl, r1, r2⟩ := repL2 r
    simp only [Rep] at r1 r2; subst r1 r2; cases e
    refine .inl ⟨i, j, rfl, ?_⟩
    have z := h g (.int (max i j)) rfl (Post.refl ok) (by simp only [OutRep, Rep])
    rw [show (if j > i then j else i) = max i j by split <;> omega]; exact z
  · rename_i i j k
    obtain ⟨v, u, w, rfl, r1, r2, r3⟩ := repL3 r
    simp only [Rep] at r1 r2 r3; subst r1 r2 r3; cases e
    exact .inr ⟨i, j, k, rfl, h g _ rfl (Post.refl ok) (by simp only [OutRep, Rep])⟩
  · cases e
theorem r_min : RCall K (fun xs H Q => rMin2 xs H Q ∨ rMin3 xs H Q) fMin := by
  intro g vs ds s Q ok r e h
  unfold fMin at e
  split at e
  · rename_i i j
    obtain ⟨v, u, rfl, r1, r2⟩ := repL2 r
    simp only [Rep] at r1 r2; subst r1 r2; cases e
    refine .inl ⟨i, j, rfl, ?_⟩
    have z := h g (.int (min i j)) rfl (Post.refl ok) (by simp only [OutRep, Rep])
    rw [show (if j < i then j else i) = min i j by split <;> omega]; exact z
  · rename_i i j k
    obtain ⟨v, u, w, rfl, r1, r2, r3⟩ := repL3 r
    simp only [Rep] at r1 r2 r3; subst r1 r2 r3; cases e
    exact .inr ⟨i, j, k, rfl, h g _ rfl (Post.refl ok) (by simp only [OutRep, Rep])⟩
  · cases e
def fAbs (S : Sto) : List D → Option Slot
  | [.int i] => some (.val (.int (if i < 0 then -i else i)))
  | _ => none
theorem r_abs : RCall K (fun xs H Q => ∃ i, xs = [.int i] ∧ Q (.int (if i < 0 then -i else i)) H) fAbs := by
  intro g vs ds s Q ok r e h
  unfold fAbs at e
  split at e
  · rename_i i
    obtain ⟨v, rfl, r1⟩ := repL1 r
    simp only [Rep] at r1; subst r1; cases e
    exact ⟨i, rfl, h g _ rfl (Post.refl ok) (by simp only [OutRep, Rep])⟩
  · cases e
def intsD : List D → Option (List Int)
  | [] => some []
  | .int i :: ds => (intsD ds).map (i :: ·)
  | _ :: _ => none
theorem intsD_eq : ∀ {ds : List D} {ns : List Int}, intsD ds = some ns → ds = ns.map D.int
  | [], _, h => by cases h; rfl
  | .int i :: ds, ns, h => by
    simp only [intsD] at h
    cases q : intsD ds with
    | none => rw [q] at h; cases h
    | some ms => rw [q] at h; cases h; rw [intsD_eq q]; rfl
  | .non :: _, _, h => by cases h
  | .bl _ :: _, _, h => by cases h
  | .str _ :: _, _, h => by cases h
  | .ty _ :: _, _, h => by cases h
  | .cls _ :: _, _, h => by cases h
  | .lst _ :: _, _, h => by cases h
  | .tup _ :: _, _, h => by cases h
  | .dic _ :: _, _, h => by cases h
  | .obj _ _ :: _, _, h => by cases h
  | .exc _ _ :: _, _, h => by cases h
  | .ref _ :: _, _, h => by cases h
theorem intsD_map : ∀ ns : List Int, intsD (ns.map D.int) = some ns
  | [] => rfl
  | n :: ns => by simp only [List.map_cons, intsD, intsD_map ns, Option.map_some]
def fSum (S : Sto) : List D → Option Slot
  | [d] => match lookD S d with
    | .lst xs => (intsD xs).map fun ns => .val (.int ns.sum)
    | _ => none
  | _ => none
theorem r_sum : RCall K (rSum K) fSum := by
  intro g vs ds s Q ok r e h
  unfold fSum at e
  split at e
  · rename_i d
    obtain ⟨v, rfl, r0⟩ := repL1 r
    split at e
    · rename_i xs q
      obtain ⟨p, us, rfl, hp, l⟩ := look_lst ok r0 q
      cases z : intsD xs with
      | none => rw [z] at e; cases e
      | some ns =>
        rw [z] at e; cases e
        rw [intsD_eq z] at l
        have := l.ints; subst this
        exact ⟨p, ns, rfl, hp, h g _ rfl (Post.refl ok) (by simp only [OutRep, Rep])⟩
    · cases e
  · cases e

/-! ### isinstance -/
/-- what isinstance asks of a class of instances -/
structure InsC (K : PySem.W.Frag) (C : Addr) : Prop where
  cl : Cls K C
  asks : PySem.W.findIn K (.ref C) "__class__" = some (some (.builtin "object.__class__")) ∧ PySem.W.specialIn K (.builtin "object.__class__") "__get__" = some (some (.builtin "getset_descriptor.__get__")) ∧ PySem.W.takesIn K (.builtin "object.__class__") = some true ∧ PySem.W.mroIn K C (.type "object") = some true
/-- what the written part tells of its classes; own: all own classes, ec, ic: those of exceptions, of instances; bt: the built-in classes that are asked for -/
structure KitOk (K : PySem.W.Frag) (mro : String → List String) (own ec ic bt : List String) : Prop where
  exc : ∀ c ∈ ec, ExcC K (He.ga K (Str.ofString c))
  ins : ∀ c ∈ ic, InsC K (He.ga K (Str.ofString c))
  kitO : ∀ c ∈ ec ++ ic, ∀ t ∈ own, PySem.W.kitOne K (.ref (He.ga K (Str.ofString c))) (.ref (He.ga K (Str.ofString t))) = some ((mro c).contains t)
  kitB : ∀ c ∈ ec ++ ic, ∀ t ∈ bt, PySem.W.kitOne K (.ref (He.ga K (Str.ofString c))) (.type t) = some ((mro c).contains t)
  kitT : ∀ b ∈ ["NoneType", "bool", "int", "str", "list", "tuple", "dict"], ∀ t ∈ own, PySem.W.kitOne K (.type b) (.ref (He.ga K (Str.ofString t))) = some false
structure CT where
  mro : String → List String
  own : List String
  ec : List String
  ic : List String
  bt : List String
def tyN : D → Option String
  | .non => some "NoneType" | .bl _ => some "bool" | .int _ => some "int" | .str _ => some "str"
  | .lst _ => some "list" | .tup _ => some "tuple" | .dic _ => some "dict"
  | _ => none
def isi1 (T : CT) (x : D) (t : D) : Option Bool := match t with
  | .ty b => match x with
    | .exc c [] => if T.ec.contains c && T.bt.contains b then some ((T.mro c).contains b) else none
    | .obj c _ => if T.ic.contains c && T.bt.contains b then some ((T.mro c).contains b) else none
    | x => match tyN x with
      | some y => if ["NoneType", "bool", "int", "str", "list", "tuple", "dict"].contains b then some (b == y || (y == "bool" && b == "int")) else none
      | none => none
  | .cls k => match x with
    | .exc c [] => if T.ec.contains c && T.own.contains k then some ((T.mro c).contains k) else none
    | .obj c _ => if T.ic.contains c && T.own.contains k then some ((T.mro c).contains k) else none
    | x => match tyN x with
      | some y => if T.own.contains k then some false else none
      | none => none
  | _ => none
def isiL (T : CT) (x : D) : List D → Option Bool
  | [] => some false
  | t :: ts => match isi1 T x t, isiL T x ts with
    | some a, some b => some (a || b)
    | _, _ => none
def fIsi (T : CT) (S : Sto) : List D → Option Slot
  | [x, .tup (t :: ts)] => (isiL T (lookD S x) (t :: ts)).map fun b => .val (.bl b)
  | [x, t] => (isi1 T (lookD S x) t).map fun b => .val (.bl b)
  | _ => none
inductive TyE (K : PySem.W.Frag) (H : Hp) : V → Value → Prop where
  | base {x : V} {t : Value} (h : TyX K H x t) : TyE K H x t
  | exc {a C : Addr} (e : H a = some (exho a (.ref C) none)) (c : ExcC K C) : TyE K H (.ref a) (.ref C)
  | kl {a : Addr} {xs : List V} (e : SqL K H a xs) : TyE K H (.ref a) (.type "list")
theorem kit_ofE {pins : List (Addr × Obj)} {σ : L2.St} {H : Hp} {s : Shared} {x : V} {u t : Value} (I : Inv X pins σ H s) (rx : RelV x u) (ty : TyE X.K H x t) : ∃ P : Heap → Prop, PySem.W.KitX X.K u t P ∧ P s.heap ∧ u ≠ .builtin "__main__.__loader__#opaque" := by
  cases ty with
  | base h => exact kit_of I rx h
  | @kl a xs listed =>
    obtain rfl : u = .ref a := rx
    obtain ⟨_, _, ⟨ob, _, stands, kind, _⟩, _⟩ := I.list listed
    exact ⟨_, PySem.W.kitx_list, ⟨ob, stands, kind⟩, nofun⟩
  | @exc a C tracked c =>
    obtain rfl : u = .ref a := rx
    obtain ⟨⟨⟨oc, od, oda, osl⟩, stands, ⟨k1, k2⟩, vs, k3⟩, _⟩ : ObjOk X.prog X.w H s.heap a (exho a (.ref C) none) := I.hok a _ tracked
    obtain rfl : oc = .ref C := k1
    obtain rfl : od = none := k2
    obtain rfl : oda = .fields vs := k3
    exact ⟨_, PySem.W.handS_kitx_exc c.hg c.hk c.hs c.hd c.ha c.hn c.ht c.hm, ⟨stands, rfl, rfl, trivial⟩, nofun⟩
def rIsiE (K : PySem.W.Frag) : List V → Hp → VK → Prop := fun xs H Q => ∃ (x c : V) (t u : Value) (b : Bool), xs = [x, c] ∧ ClsV c u ∧ TyE K H x t ∧ PySem.W.kitOne K t u = some b ∧ Q (.bl b) H
def rIsiET (K : PySem.W.Frag) : List V → Hp → VK → Prop := fun xs H Q => ∃ (x : V) (tp : Addr) (cs : List V) (t : Value) (us : List Value) (b : Bool), xs = [x, .ref tp] ∧ H tp = some (.tup cs) ∧ Paired ClsV cs us ∧ TyE K H x t ∧ PySem.W.kitAny K t us = some b ∧ Q (.bl b) H
theorem call_isiE : CallR X (.builtin "isinstance") (rIsiE X.K) := fun pins s σ H xs us Q I args ⟨x, c, t, cls, b, two, isCls, ty, says, then_⟩ => by
  subst two
  obtain ⟨_, _, rfl, rx, rc⟩ := vals2 args
  obtain rfl := isCls.eq rc
  obtain ⟨_, kind, here, named⟩ := kit_ofE I rx ty
  exact PySem.W.kia_one kind I.kIn here says named fun tk => ⟨V.bl b, H, I.tok tk, rfl, then_⟩
theorem call_isiET : CallR X (.builtin "isinstance") (rIsiET X.K) := fun pins s σ H xs us Q I args ⟨x, tp, cs, t, clss, b, two, stands, areCls, ty, says, then_⟩ => by
  subst two
  obtain ⟨_, _, rfl, rx, rc⟩ := vals2 args
  obtain rfl : _ = Value.ref tp := rc
  obtain ⟨_, its, rits, ⟨oc, od, dt, sl⟩, at_, isTup, n, items⟩ : ObjOk X.prog X.w H s.heap tp (.tup cs) := I.hok tp _ stands
  obtain rfl := ClsV.all areCls rits
  obtain rfl : oc = _ := isTup
  obtain rfl : dt = _ := items
  obtain ⟨_, kind, here, named⟩ := kit_ofE I rx ty
  exact PySem.W.kia_tup kind I.kIn here at_ says named fun tk => ⟨V.bl b, H, I.tok tk, rfl, then_⟩
theorem call_isiAll : CallR X (.builtin "isinstance") (fun xs H Q => rIsiE X.K xs H Q ∨ rIsiET X.K xs H Q) := call_isiE.or call_isiET

theorem kitY {K : PySem.W.Frag} : ∀ y ∈ ["NoneType", "bool", "int", "str", "list", "tuple", "dict"], ∀ b ∈ ["NoneType", "bool", "int", "str", "list", "tuple", "dict"], PySem.W.kitOne K (.type y) (.type b) = some (b == y || (y == "bool" && b == "int")) := by
  intro y hy b hb
  have h : (["NoneType", "bool", "int", "str", "list", "tuple", "dict"].all fun y => ["NoneType", "bool", "int", "str", "list", "tuple", "dict"].all fun b => decide (kitB y b = some (b == y || (y == "bool" && b == "int")))) = true := by decide +kernel
  exact kit_ty (of_decide_eq_true (List.all_eq_true.mp (List.all_eq_true.mp h y hy) b hb))
theorem tyN_mem {d : D} {y : String} (h : tyN d = some y) : y ∈ ["NoneType", "bool", "int", "str", "list", "tuple", "dict"] := by
  cases d <;> simp only [tyN, Option.some.injEq] at h <;> first | (subst h; decide) | cases h
theorem tyN_ok {g : G} {S : Sto} {v : V} {d : D} {y : String} (ok : Ok K g) (r : Rep K g.io g.F v d) (h : tyN (lookD g.S d) = some y) : TyE K g.H v (.type y) := by
  cases q : lookD g.S d <;> rw [q] at h <;> simp only [tyN, Option.some.injEq] at h <;> first | (subst h) | cases h
  · have := look_non q; subst this; simp only [Rep] at r; subst r; exact .base (.base .non)
  · have := look_bl q; subst this; simp only [Rep] at r; subst r; exact .base (.base (.bl _))
  · have := look_int q; subst this; simp only [Rep] at r; subst r; exact .base (.base (.int _))
  · have := look_str q; subst this; simp only [Rep] at r; subst r; exact .base (.base (.str _))
  · obtain ⟨p, vs, rfl, hp, l⟩ := look_lst ok r q
    exact .kl hp
  · obtain ⟨p, vs, rfl, hp, l⟩ := look_tup ok r q
    exact .base (.base (.tup (ok.le _ _ hp)))
  · obtain ⟨p, vs, rfl, hp, l⟩ := look_dic ok r q
    exact .base (.base (.dK hp))
theorem look_exc {g : G} {v : V} {d : D} {c : String} (ok : Ok K g) (r : Rep K g.io g.F v d) (e : lookD g.S d = .exc c []) : ∃ a, v = .ref a ∧ g.H a = some (exho a (.ref (He.ga K (Str.ofString c))) none) := by
  cases d with
  | exc c' fs =>
    simp only [lookD, D.exc.injEq] at e
    obtain ⟨rfl, rfl⟩ := e
    simp only [Rep] at r
    obtain ⟨p, d, rfl, h, ⟨_, rfl⟩ | ⟨n, _⟩⟩ := r
    · exact ⟨p, rfl, ok.le _ _ h⟩
    · exact absurd rfl n
  | ref i =>
    simp only [lookD] at e
    split at e
    · rename_i c q; cases c <;> cases e
    · cases e
  | _ => simp [lookD] at e
theorem look_obj {g : G} {v : V} {d : D} {c : String} {fs : List (String × D)} (ok : Ok K g) (r : Rep K g.io g.F v d) (e : lookD g.S d = .obj c fs) : ∃ a dx fvs, v = .ref a ∧ g.H a = some (.ins (He.ga K (Str.ofString c)) dx fvs) ∧ g.H dx = some (.own a) ∧ RepF K g.io g.F fvs fs := by
  cases d with
  | obj c' fs' =>
    simp only [lookD, D.obj.injEq] at e
    obtain ⟨rfl, rfl⟩ := e
    simp only [Rep] at r
    obtain ⟨p, dx, fvs, rfl, h, h2, l⟩ := r
    exact ⟨p, dx, fvs, rfl, ok.le _ _ h, ok.le _ _ h2, l⟩
  | ref i =>
    simp only [lookD] at e
    simp only [Rep] at r
    obtain ⟨p, e1, e2⟩ := r
    cases q : g.S[i]? with
    | none => rw [q] at e; cases e
    | some o =>
      rw [q] at e
      cases o with
      | none => cases e
      | some k =>
        obtain ⟨p', f1, f2, f3⟩ := ok.cell i k q
        rw [e1] at f1; cases f1
        cases k with
        | obj c fs =>
          simp only [Cell.d, D.obj.injEq] at e
          obtain ⟨rfl, rfl⟩ := e
          obtain ⟨dx, vs, a, a2, b⟩ := f3
          exact ⟨p, dx, vs, e2, a, a2, b⟩
        | lst xs => cases e
        | dic ks => cases e
  | _ => simp [lookD] at e
variable {T : CT}
abbrev CT.ok (T : CT) (K : PySem.W.Frag) : Prop := KitOk K T.mro T.own T.ec T.ic T.bt
theorem memS {l : List String} {x : String} (h : l.contains x = true) : x ∈ l := by simpa using h
/-- the class of a thing, what isinstance answers of each class -/
theorem isi_ty (hT : T.ok K) {g : G} {v : V} {d : D} {t0 : D} {b0 : Bool} (ok : Ok K g) (r : Rep K g.io g.F v d) (h0 : isi1 T (lookD g.S d) t0 = some b0) :
    ∃ ty, TyE K g.H v ty ∧ ∀ t b, isi1 T (lookD g.S d) t = some b → ∃ cv, (∀ io F x, Rep K io F x t → ClsV x cv) ∧ PySem.W.kitOne K ty cv = some b := by
  cases hx : lookD g.S d with
  | exc c fs =>
    cases fs with
    | cons _ _ => rw [hx] at h0; cases t0 <;> simp [isi1, tyN] at h0
    | nil =>
      obtain ⟨a, rfl, e⟩ := look_exc ok r hx
      have hc : c ∈ T.ec := by
        rw [hx] at h0
        cases t0 <;> simp only [isi1] at h0 <;> first | cases h0 | skip
        all_goals
          split at h0
          · rename_i z; rw [Bool.and_eq_true] at z; exact memS z.1
          · cases h0
      refine ⟨_, .exc e (hT.exc c hc), fun t b h => ?_⟩
      cases t <;> simp only [isi1] at h <;> first | cases h | skip
      · rename_i k
        split at h
        · rename_i z; rw [Bool.and_eq_true] at z; cases h
          exact ⟨.type k, fun io F x q => by simp only [Rep] at q; subst q; exact .ty k, hT.kitB c (List.mem_append_left _ hc) k (memS z.2)⟩
        · cases h
      · rename_i k
        split at h
        · rename_i z; rw [Bool.and_eq_true] at z; cases h
          exact ⟨.ref _, fun io F x q => by simp only [Rep] at q; subst q; exact .own _, hT.kitO c (List.mem_append_left _ hc) k (memS z.2)⟩
        · cases h
  | obj c fs =>
    obtain ⟨a, dx, fvs, rfl, e, e2, l⟩ := look_obj ok r hx
    have hc : c ∈ T.ic := by
      rw [hx] at h0
      cases t0 <;> simp only [isi1] at h0 <;> first | cases h0 | skip
      all_goals
        split at h0
        · rename_i z; rw [Bool.and_eq_true] at z; exact memS z.1
        · cases h0
    have I := hT.ins c hc
    refine ⟨_, .base (.base (.ins e I.cl I.asks.1 I.asks.2.1 I.asks.2.2.1 I.asks.2.2.2)), fun t b h => ?_⟩
    cases t <;> simp only [isi1] at h <;> first | cases h | skip
    · rename_i k
      split at h
      · rename_i z; rw [Bool.and_eq_true] at z; cases h
        exact ⟨.type k, fun io F x q => by simp only [Rep] at q; subst q; exact .ty k, hT.kitB c (List.mem_append_right _ hc) k (memS z.2)⟩
      · cases h
    · rename_i k
      split at h
      · rename_i z; rw [Bool.and_eq_true] at z; cases h
        exact ⟨.ref _, fun io F x q => by simp only [Rep] at q; subst q; exact .own _, hT.kitO c (List.mem_append_right _ hc) k (memS z.2)⟩
      · cases h
  | _ =>
    all_goals
      first
        | (rw [hx] at h0; cases t0 <;> simp [isi1, tyN] at h0; done)
        | (refine ⟨_, tyN_ok (S := g.S) ok r (by rw [hx]; rfl), fun t b h => ?_⟩
           cases t <;> simp only [isi1, tyN] at h <;> first | cases h | skip
           · rename_i k
             split at h
             · rename_i z; cases h
               exact ⟨.type k, fun io F x q => by simp only [Rep] at q; subst q; exact .ty k, kitY _ (by decide) k (memS z)⟩
             · cases h
           · rename_i k
             split at h
             · rename_i z; cases h
               exact ⟨.ref _, fun io F x q => by simp only [Rep] at q; subst q; exact .own _, hT.kitT _ (by decide) k (memS z)⟩
             · cases h)
theorem isiL_ok {ty : Value} {x : D} {io : List Addr} {F : Hp} (HK : ∀ t b, isi1 T x t = some b → ∃ cv, (∀ io F y, Rep K io F y t → ClsV y cv) ∧ PySem.W.kitOne K ty cv = some b) :
    ∀ (ts : List D) (vs : List V) (b : Bool), RepL K io F vs ts → isiL T x ts = some b → ∃ us, Paired ClsV vs us ∧ PySem.W.kitAny K ty us = some b
  | [], vs, b, r, h => by
    simp only [RepL] at r; subst r; cases h
    exact ⟨[], .nil, rfl⟩
  | t :: ts, vs, b, r, h => by
    simp only [RepL] at r
    obtain ⟨v, q, rfl, r1, r2⟩ := r
    simp only [isiL] at h
    cases h1 : isi1 T x t with
    | none => rw [h1] at h; cases h
    | some a =>
      cases h2 : isiL T x ts with
      | none => rw [h1, h2] at h; cases h
      | some b' =>
        rw [h1, h2] at h; cases h
        obtain ⟨cv, k1, k2⟩ := HK t a h1
        obtain ⟨us, k3, k4⟩ := isiL_ok HK ts q b' r2 h2
        exact ⟨cv :: us, .cons (k1 _ _ _ r1) k3, kitAny_cons k2 (fun z => by subst z; simpa using k4) fun z => by subst z; rfl⟩
theorem r_isi (hT : T.ok K) : RCall K (fun xs H Q => rIsiE K xs H Q ∨ rIsiET K xs H Q) (fIsi T) := by
  intro g vs ds s Q ok r e h
  unfold fIsi at e
  split at e
  · rename_i x t ts
    obtain ⟨v, u, rfl, r1, r2⟩ := repL2 r
    cases z : isiL T (lookD g.S x) (t :: ts) with
    | none => rw [z] at e; cases e
    | some b =>
      rw [z] at e; cases e
      simp only [Rep] at r2
      obtain ⟨p, us, rfl, hp, l⟩ := r2
      obtain ⟨b1, hb1⟩ : ∃ b1, isi1 T (lookD g.S x) t = some b1 := by
        simp only [isiL] at z
        cases q : isi1 T (lookD g.S x) t with
        | none => rw [q] at z; cases z
        | some b1 => exact ⟨b1, rfl⟩
      obtain ⟨ty, h1, h2⟩ := isi_ty hT ok r1 hb1
      obtain ⟨ws, k1, k2⟩ := isiL_ok h2 (t :: ts) us b l z
      exact .inr ⟨_, p, us, ty, ws, b, rfl, ok.le _ _ hp, k1, h1, k2, h g _ rfl (Post.refl ok) (by simp only [OutRep, Rep])⟩
  · rename_i x t hn
    obtain ⟨v, u, rfl, r1, r2⟩ := repL2 r
    cases z : isi1 T (lookD g.S x) t with
    | none => rw [z] at e; cases e
    | some b =>
      rw [z] at e; cases e
      obtain ⟨ty, h1, h2⟩ := isi_ty hT ok r1 z
      obtain ⟨cv, k1, k2⟩ := h2 t b z
      exact .inl ⟨_, u, ty, cv, b, rfl, k1 _ _ _ r2, h1, k2, h g _ rfl (Post.refl ok) (by simp only [OutRep, Rep])⟩
  · cases e
/-- classes as values -/
theorem dv_ty {x : Str} {n : String} (hg : Gl X x) (hm : X.mg x = none) (hv : bootBuiltins x = some (.type n)) (hn : x ≠ "__name__" := by decide) (hd : (x == ("__debug__" : Str)) = false := by decide) : DV X (.Name x pos) (eC (.ty n)) :=
  dv_c (v := .ty n) (pe_bltn hg hm hv rfl hn hd) fun _ _ => by simp only [Rep]
theorem dv_cls {x : Str} {c : String} (hg : Gl X x) (hm : X.mg x = some (.ref (He.ga X.K (Str.ofString c)))) (hd : (x == ("__debug__" : Str)) = false := by decide) : DV X (.Name x pos) (eC (.cls c)) :=
  dv_c (v := .ref (He.ga X.K (Str.ofString c))) (pe_glob hg hm rfl hd) fun _ _ => by simp only [Rep]
end
end FW
end
section
set_option maxHeartbeats 2000000
/-! FW7: the one reading of a plain function; what is walked; comprehensions. -/
namespace FW
open PySem PySem.Spec PyProof.Rows L2
/-! ### the reading that a plain function is -/
def tV (K : PySem.W.Frag) (W : WX) (m : M D) : TE := fun σ H Q => ∃ (g : G) (ρ : List Slot), g.H = H ∧ RelS K g σ ρ ∧
  (m ρ g.S).post (fun d S' => ∀ g' v, g'.S = S' → Post K g g' → Rep K g'.io g'.F v d → Q v g'.H) (fun e S' => ∀ g' c dd, g'.S = S' → Post K g g' → RepX K g' c dd e → W c dd σ g'.H)
def tT (K : PySem.W.Frag) (W : WX) (m : M Bool) : TT := fun σ H Q => ∃ (g : G) (ρ : List Slot), g.H = H ∧ RelS K g σ ρ ∧
  (m ρ g.S).post (fun d S' => ∀ g', g'.S = S' → Post K g g' → Q d g'.H) (fun e S' => ∀ g' c dd, g'.S = S' → Post K g g' → RepX K g' c dd e → W c dd σ g'.H)
section
variable {X : Cx} {e : Expr} {W : WX}
theorem DV.pe {m : M D} (h : DV X e m) (tk : Takes X W) : PE X e (tV X.K W m) := ⟨fun pins s σ H Q I q => by
  obtain ⟨t, pe, rv⟩ := h.ex W tk
  obtain ⟨g, ρ, rfl, rel, q⟩ := q
  exact pe.run pins s σ g.H Q I (rv g σ ρ Q rel q)⟩
theorem DT.pt {m : M Bool} (h : DT X e m) (tk : Takes X W) : PT X e (tT X.K W m) := ⟨fun pins s σ H Q I q => by
  obtain ⟨t, pe, rv⟩ := h.ex W tk
  obtain ⟨g, ρ, rfl, rel, q⟩ := q
  exact pe.run pins s σ g.H Q I (rv g σ ρ Q rel q)⟩
end

/-! ### what is walked -/
structure Iter (K : PySem.W.Frag) (g0 : G) (J : It) (ds : List D) : Prop where
  go : ∀ g, Ok K g → Le g0.F g.F → Pre g0.io g.io → ∀ i, i < ds.length → J.go i g.H
  yld : ∀ g, Ok K g → Le g0.F g.F → Pre g0.io g.io → ∀ i x H', i < ds.length → J.yld i g.H x H' → ∃ g', g'.H = H' ∧ g'.S = g.S ∧ Post K g g' ∧ ∃ d, ds[i]? = some d ∧ Rep K g'.io g'.F x d
  stop : ∀ g, Ok K g → Le g0.F g.F → Pre g0.io g.io → ∀ i, ds.length ≤ i → J.stop i g.H
def RI (K : PySem.W.Frag) (wi : TI) (W : WX) (m : M (List D)) : Prop := ∀ (g : G) (σ : L2.St) (ρ : List Slot) (R : It → Hp → Prop), RelS K g σ ρ →
  (m ρ g.S).post (fun ds S' => ∀ g' J, g'.S = S' → Post K g g' → Iter K g' J ds → R J g'.H) (fun e S' => ∀ g' c dd, g'.S = S' → Post K g g' → RepX K g' c dd e → W c dd σ g'.H) → wi σ g.H R
structure DI (X : Cx) (tg e : Expr) (m : M (List D)) : Prop where
  ex : ∀ W, Takes X W → ∃ wi, PI X tg e wi ∧ RI X.K wi W m

section
variable {X : Cx} {tg l : Expr} {K : PySem.W.Frag} {g : G}
theorem iter_list {a : Addr} {vs : List V} {ds : List D} (h : SqL K g.F a vs) (r : RepL K g.io g.F vs ds) : Iter K g (Itl K a) ds := by
  have sq : ∀ g', Ok K g' → Le g.F g'.F → SqL K g'.H a vs := fun g' ok le => FW.SqL.mono ok.le (FW.SqL.mono le h)
  have len := r.length
  refine ⟨fun g' ok le pr i hi => ?_, fun g' ok le pr i x H' hi y => ?_, fun g' ok le pr i hi => ⟨vs, sq g' ok le, by omega⟩⟩
  · exact ⟨vs, vs[i], sq g' ok le, by simp [show i < vs.length by omega]⟩
  · obtain ⟨rfl, y⟩ := y
    have e := y vs (sq g' ok le)
    obtain ⟨d, hd⟩ : ∃ d, ds[i]? = some d := ⟨ds[i], by simp [hi]⟩
    obtain ⟨v, e2, q⟩ := r.get hd
    rw [e] at e2; cases e2
    exact ⟨g', rfl, rfl, Post.refl ok, d, hd, Rep.mono le pr d q⟩
theorem iter_tup {a : Addr} {vs : List V} {ds : List D} (h : g.F a = some (.tup vs)) (r : RepL K g.io g.F vs ds) : Iter K g (Itt K a) ds := by
  have sq : ∀ g', Ok K g' → Le g.F g'.F → SqT K g'.H a vs := fun g' ok le => SqT.of (ok.le _ _ (le _ _ h))
  have len := r.length
  refine ⟨fun g' ok le pr i hi => ?_, fun g' ok le pr i x H' hi y => ?_, fun g' ok le pr i hi => ⟨vs, sq g' ok le, by omega⟩⟩
  · exact ⟨vs, vs[i], sq g' ok le, by simp [show i < vs.length by omega]⟩
  · obtain ⟨rfl, y⟩ := y
    have e := y vs (sq g' ok le)
    obtain ⟨d, hd⟩ : ∃ d, ds[i]? = some d := ⟨ds[i], by simp [hi]⟩
    obtain ⟨v, e2, q⟩ := r.get hd
    rw [e] at e2; cases e2
    exact ⟨g', rfl, rfl, Post.refl ok, d, hd, Rep.mono le pr d q⟩
def enumD : Nat → List D → List D
  | _, [] => []
  | i, d :: ds => .tup [.int i, d] :: enumD (i + 1) ds
theorem enumD_length : ∀ (i : Nat) (ds : List D), (enumD i ds).length = ds.length
  | _, [] => rfl
  | i, d :: ds => by simp only [enumD, List.length_cons, enumD_length (i + 1) ds]
theorem enumD_get : ∀ (k i : Nat) (ds : List D) (d : D), ds[i]? = some d → (enumD k ds)[i]? = some (.tup [.int ((k + i : Nat) : Int), d])
  | _, _, [], _, h => by simp at h
  | k, 0, x :: ds, d, h => by simp at h; subst h; simp [enumD]
  | k, i + 1, x :: ds, d, h => by
    have := enumD_get (k + 1) i ds d (by simpa using h)
    simp only [enumD, List.getElem?_cons_succ, this]
    rw [show k + 1 + i = k + (i + 1) by omega]
theorem iter_enum {a : Addr} {vs : List V} {ds : List D} (h : SqL K g.F a vs) (r : RepL K g.io g.F vs ds) : Iter K g (Ite K a) (enumD 0 ds) := by
  have sq : ∀ g', Ok K g' → Le g.F g'.F → SqL K g'.H a vs := fun g' ok le => FW.SqL.mono ok.le (FW.SqL.mono le h)
  have len := r.length
  have len2 := enumD_length 0 ds
  refine ⟨fun g' ok le pr i hi => ?_, fun g' ok le pr i x H' hi y => ?_, fun g' ok le pr i hi => ⟨vs, sq g' ok le, by omega⟩⟩
  · exact ⟨vs, vs[i], sq g' ok le, by simp [show i < vs.length by omega]⟩
  · obtain ⟨p, z, rfl, hp, rfl, y⟩ := y
    have e := y vs (sq g' ok le)
    have hi' : i < ds.length := by omega
    obtain ⟨d, hd⟩ : ∃ d, ds[i]? = some d := ⟨ds[i], by simp [hi']⟩
    obtain ⟨v, e2, q⟩ := r.get hd
    rw [e] at e2; cases e2
    obtain ⟨p1, r1⟩ := out_tup (ds := [.int (i : Nat), d]) ok hp (RepL.cons (v := .int (i : Nat)) (by simp only [Rep]) (.one (Rep.mono le pr d q)))
    exact ⟨g'.frz p _, rfl, rfl, p1, _, by simpa using enumD_get 0 i ds d hd, r1⟩
def zipD : List D → List D → List D
  | x :: xs, y :: ys => .tup [x, y] :: zipD xs ys
  | _, _ => []
theorem zipD_length : ∀ (xs ys : List D), (zipD xs ys).length = min xs.length ys.length
  | [], _ => by simp [zipD]
  | _ :: _, [] => by simp [zipD]
  | x :: xs, y :: ys => by simp only [zipD, List.length_cons, zipD_length xs ys]; omega
theorem zipD_get : ∀ (i : Nat) (xs ys : List D) (x y : D), xs[i]? = some x → ys[i]? = some y → (zipD xs ys)[i]? = some (.tup [x, y])
  | _, [], _, _, _, h, _ => by simp at h
  | _, _ :: _, [], _, _, _, h => by simp at h
  | 0, a :: xs, b :: ys, x, y, h, h2 => by simp at h h2; subst h h2; simp [zipD]
  | i + 1, a :: xs, b :: ys, x, y, h, h2 => by
    have := zipD_get i xs ys x y (by simpa using h) (by simpa using h2)
    simp only [zipD, List.getElem?_cons_succ, this]
theorem iter_zip {a b : Addr} {vs us : List V} {ds es : List D} (h : SqL K g.F a vs) (r : RepL K g.io g.F vs ds) (h2 : SqL K g.F b us) (r2 : RepL K g.io g.F us es) : Iter K g (Itz K a b) (zipD ds es) := by
  have sq : ∀ g', Ok K g' → Le g.F g'.F → SqL K g'.H a vs := fun g' ok le => FW.SqL.mono ok.le (FW.SqL.mono le h)
  have sq2 : ∀ g', Ok K g' → Le g.F g'.F → SqL K g'.H b us := fun g' ok le => FW.SqL.mono ok.le (FW.SqL.mono le h2)
  have len := r.length
  have len2 := r2.length
  have lz := zipD_length ds es
  refine ⟨fun g' ok le pr i hi => ?_, fun g' ok le pr i x H' hi y => ?_, fun g' ok le pr i hi => ⟨vs, us, sq g' ok le, sq2 g' ok le, by omega⟩⟩
  · exact ⟨vs, us, vs[i]'(by omega), us[i]'(by omega), sq g' ok le, sq2 g' ok le, by simp, by simp⟩
  · obtain ⟨p, z, z2, rfl, hp, rfl, y, y2⟩ := y
    have e := y vs (sq g' ok le)
    have e' := y2 us (sq2 g' ok le)
    obtain ⟨d, hd⟩ : ∃ d, ds[i]? = some d := ⟨ds[i]'(by omega), by simp⟩
    obtain ⟨d2, hd2⟩ : ∃ d, es[i]? = some d := ⟨es[i]'(by omega), by simp⟩
    obtain ⟨v, e2, q⟩ := r.get hd
    obtain ⟨v2, e3, q2⟩ := r2.get hd2
    rw [e] at e2; cases e2
    rw [e'] at e3; cases e3
    obtain ⟨p1, r1⟩ := out_tup (ds := [d, d2]) ok hp (.cons (Rep.mono le pr d q) (.one (Rep.mono le pr d2 q2)))
    exact ⟨g'.frz p _, rfl, rfl, p1, _, zipD_get i ds es d d2 hd hd2, r1⟩
def rangeD (lo : Int) (n : Nat) : List D := (List.range n).map fun (i : Nat) => D.int (lo + (i : Int))
theorem iter_range {lo : Int} {n : Nat} : Iter K g (Itr lo n) (rangeD lo n) := by
  have l : (rangeD lo n).length = n := by simp [rangeD]
  refine ⟨fun g' ok le pr i hi => by rw [l] at hi; exact hi, fun g' ok le pr i x H' hi y => ?_, fun g' ok le pr i hi => by rw [l] at hi; exact hi⟩
  obtain ⟨rfl, rfl⟩ := y
  rw [l] at hi
  exact ⟨g', rfl, rfl, Post.refl ok, .int (lo + i), by simp [rangeD, hi], by simp only [Rep]⟩

/-- a sequence, a list or a tuple -/
def iSeq (K : PySem.W.Frag) (tl : TE) : TI := fun σ H R => iList K tl σ H R ∨ iTup K tl σ H R
theorem pi_seq {tl : TE} (hl : PE X l tl) : PI X tg l (iSeq X.K tl) := ⟨fun pins s σ H R I h => h.elim ((pi_list hl).run pins s σ H R I) ((pi_tup hl).run pins s σ H R I)⟩
def mThen {α β : Type} (f : α → Option β) (m : M α) : M β := fun ρ S => (m ρ S).bind fun a S1 => match f a with
  | some b => .ok b S1
  | none => .bad
def fSeq : D → Option (List D)
  | .lst ds => some ds
  | .tup ds => some ds
  | _ => none
def mSeq (m : M D) : M (List D) := mThen fSeq m
theorem di_seq {m : M D} (h : DV X l m) : DI X tg l (mSeq m) := ⟨fun W tk => by
  obtain ⟨t, pe, rv⟩ := h.ex W tk
  refine ⟨_, pi_seq pe, fun g σ ρ R rel q => ?_⟩
  unfold mSeq mThen at q
  rw [post_bind] at q
  by_cases tup : ∃ ds S1, m ρ g.S = .ok (.tup ds) S1
  · refine .inr (rv g σ ρ _ rel (q.imp (fun d S1 e1 h1 g1 x es p1 r1 => ?_) fun e S1 _ h1 => h1))
    obtain ⟨ds, S2, e2⟩ := tup
    rw [e2] at e1; cases e1
    simp only [Rep] at r1
    obtain ⟨p, vs, rfl, hp, l⟩ := r1
    exact ⟨p, rfl, ⟨vs, SqT.of (p1.ok.le _ _ hp)⟩, h1 g1 _ es p1 (iter_tup hp l)⟩
  · refine .inl (rv g σ ρ _ rel (q.imp (fun d S1 e1 h1 g1 x es p1 r1 => ?_) fun e S1 _ h1 => h1))
    cases d with
    | lst ds =>
      simp only [Rep] at r1
      obtain ⟨p, vs, rfl, hp, l⟩ := r1
      exact ⟨p, rfl, ⟨vs, FW.SqL.mono p1.ok.le hp⟩, h1 g1 _ es p1 (iter_list hp l)⟩
    | tup ds => exact absurd ⟨ds, S1, e1⟩ tup
    | _ => exact h1.elim⟩
/-- range(n), range(a, b) -/
def fRange : List D → Option (List D)
  | [.int j] => if j ≤ 1000000 ∧ -1000000000000 ≤ j then some (rangeD 0 j.toNat) else none
  | [.int i, .int j] => if -1000000000000 ≤ i ∧ i ≤ 1000000000000 ∧ -1000000000000 ≤ j ∧ j ≤ i + 1000000 then some (rangeD i (j - i).toNat) else none
  | _ => none
def mRange (m : M (List D)) : M (List D) := mThen fRange m
theorem di_range1 {a : Expr} {m : M (List D)} {p pos : Pos} (hg : Gl X "range") (hm : X.mg "range" = none) (ha : DA X [a] m) (hs : starEach [a] X.env = [(false, eval a X.env)] := by rfl) : DI X tg (.Call (.Name "range" p) [a] [] pos) (mRange m) := ⟨fun W tk => by
  obtain ⟨t, pe, rv⟩ := ha.ex W tk
  refine ⟨_, pi_range1 hg hm pe hs, fun g σ ρ R rel q => ?_⟩
  unfold mRange mThen at q
  rw [post_bind] at q
  refine rv g σ ρ _ rel (q.imp (fun ds S1 e1 h1 g1 vs es p1 r1 => ?_) fun e S1 _ h1 => h1)
  have ln := ha.len _ _ _ _ e1
  unfold fRange at h1
  split at h1
  · rename_i ds' q
    split at q
    · rename_i j
      split at q
      · rename_i hj
        cases q
        obtain ⟨v, rfl, r⟩ := repL1 r1
        simp only [Rep] at r; subst r
        exact ⟨j, rfl, by omega, by omega, h1 g1 _ es p1 iter_range⟩
      · cases q
    · simp at ln
    · cases q
  · exact h1.elim⟩
theorem di_range2 {a b : Expr} {m : M (List D)} {p pos : Pos} (hg : Gl X "range") (hm : X.mg "range" = none) (ha : DA X [a, b] m) (hs : starEach [a, b] X.env = [(false, eval a X.env), (false, eval b X.env)] := by rfl) (hs2 : starEach [b] X.env = [(false, eval b X.env)] := by rfl) :
    DI X tg (.Call (.Name "range" p) [a, b] [] pos) (mRange m) := ⟨fun W tk => by
  obtain ⟨t, pe, rv⟩ := ha.ex W tk
  refine ⟨_, pi_range2 hg hm pe hs hs2, fun g σ ρ R rel q => ?_⟩
  unfold mRange mThen at q
  rw [post_bind] at q
  refine rv g σ ρ _ rel (q.imp (fun ds S1 e1 h1 g1 vs es p1 r1 => ?_) fun e S1 _ h1 => h1)
  have ln := ha.len _ _ _ _ e1
  unfold fRange at h1
  split at h1
  · rename_i ds' q
    split at q
    · simp at ln
    · rename_i i j
      split at q
      · rename_i hj
        cases q
        obtain ⟨v, u, rfl, r, r2⟩ := repL2 r1
        simp only [Rep] at r r2; subst r r2
        exact ⟨i, j, rfl, ⟨by omega, by omega, by omega, by omega⟩, h1 g1 _ es p1 iter_range⟩
      · cases q
    · cases q
  · exact h1.elim⟩
/-- enumerate(xs) -/
def fEnum : List D → Option (List D)
  | [.lst ds] => some (enumD 0 ds)
  | _ => none
theorem di_enum {e : Expr} {m : M (List D)} {p pos tpos : Pos} {elts : List Expr} {kk : Nat} (hg : Gl X "enumerate") (hm : X.mg "enumerate" = none) (ha : DA X [e] m) (hs : starEach [e] X.env = [(false, eval e X.env)] := by rfl) :
    DI X (.Tuple elts kk tpos) (.Call (.Name "enumerate" p) [e] [] pos) (mThen fEnum m) := ⟨fun W tk => by
  obtain ⟨t, pe, rv⟩ := ha.ex W tk
  refine ⟨_, pi_enum hg hm pe hs, fun g σ ρ R rel q => ?_⟩
  unfold mThen at q
  rw [post_bind] at q
  refine rv g σ ρ _ rel (q.imp (fun ds S1 e1 h1 g1 vs es p1 r1 => ?_) fun e S1 _ h1 => h1)
  split at h1
  · rename_i ds' q
    unfold fEnum at q
    split at q
    · rename_i ds
      cases q
      obtain ⟨v, rfl, r⟩ := repL1 r1
      simp only [Rep] at r
      obtain ⟨p, us, rfl, hp, l⟩ := r
      exact ⟨p, us, rfl, FW.SqL.mono p1.ok.le hp, h1 g1 _ es p1 (iter_enum hp l)⟩
    · cases q
  · exact h1.elim⟩
/-- zip(xs, ys) -/
def fZip : List D → Option (List D)
  | [.lst ds, .lst es] => some (zipD ds es)
  | _ => none
theorem di_zip {e e2 : Expr} {m : M (List D)} {p pos tpos : Pos} {elts : List Expr} {kk : Nat} (hg : Gl X "zip") (hm : X.mg "zip" = none) (ha : DA X [e, e2] m)
    (hs : starEach [e, e2] X.env = (false, eval e X.env) :: starEach [e2] X.env := by rfl) (hpl : (backTo pos (starEach [e2] X.env)).any (·.1) = false := by rfl) :
    DI X (.Tuple elts kk tpos) (.Call (.Name "zip" p) [e, e2] [] pos) (mThen fZip m) := ⟨fun W tk => by
  obtain ⟨t, pe, rv⟩ := ha.ex W tk
  refine ⟨_, pi_zip hg hm pe hs hpl, fun g σ ρ R rel q => ?_⟩
  unfold mThen at q
  rw [post_bind] at q
  refine rv g σ ρ _ rel (q.imp (fun ds S1 e1 h1 g1 vs es p1 r1 => ?_) fun e S1 _ h1 => h1)
  split at h1
  · rename_i ds' q
    unfold fZip at q
    split at q
    · rename_i ds es'
      cases q
      obtain ⟨v, u, rfl, r, r2⟩ := repL2 r1
      simp only [Rep] at r r2
      obtain ⟨p, us, rfl, hp, l⟩ := r
      obtain ⟨p', us', rfl, hp', l'⟩ := r2
      exact ⟨p, p', us, us', rfl, FW.SqL.mono p1.ok.le hp, FW.SqL.mono p1.ok.le hp', h1 g1 _ es p1 (iter_zip hp l hp' l')⟩
    · cases q
  · exact h1.elim⟩
/-- reversed(range(a, b)) -/
theorem iter_rangeC {lo : Int} {n : Nat} : Iter K g (Itc (lo + (n : Int) - 1) (-1) n) (rangeD lo n).reverse := by
  have l : (rangeD lo n).reverse.length = n := by simp [rangeD]
  refine ⟨fun g' ok le pr i hi => by rw [l] at hi; exact hi, fun g' ok le pr i x H' hi y => ?_, fun g' ok le pr i hi => by rw [l] at hi; exact hi⟩
  obtain ⟨rfl, rfl⟩ := y
  rw [l] at hi
  refine ⟨g', rfl, rfl, Post.refl ok, .int (lo + (n : Int) - 1 + (i : Int) * -1), ?_, by simp only [Rep]⟩
  rw [List.getElem?_reverse (by simpa [rangeD] using hi)]
  have e : (rangeD lo n).length - 1 - i = n - 1 - i := by simp [rangeD]
  rw [e]
  simp only [rangeD, List.getElem?_map]
  rw [List.getElem?_range (by omega)]
  simp only [Option.map_some, Option.some.injEq, D.int.injEq]
  omega
def fRevRange : D → Option (List D)
  | .int j => if j ≤ 1000000 ∧ -1000000000000 ≤ j then some (rangeD 0 j.toNat).reverse else none
  | _ => none
theorem di_revrange {a : Expr} {m : M D} {p pos p2 pos2 : Pos} (hg : Gl X "reversed") (hm : X.mg "reversed" = none) (hg2 : Gl X "range") (hm2 : X.mg "range" = none) (ha : DV X a m)
    (hs : starEach [(.Call (.Name "range" p2) [a] [] pos2)] X.env = (false, eval (.Call (.Name "range" p2) [a] [] pos2) X.env) :: starEach [] X.env := by rfl) (na : starEach [a] X.env = (false, eval a X.env) :: starEach [] X.env := by rfl) :
    DI X tg (.Call (.Name "reversed" p) [(.Call (.Name "range" p2) [a] [] pos2)] [] pos) (mThen fRevRange m) := ⟨fun W tk => by
  obtain ⟨t, pe, rv⟩ := ha.ex W tk
  refine ⟨_, pi_revR hg hm (prg_1 hg2 hm2 pe na) hs, fun g σ ρ R rel q => ?_⟩
  unfold mThen at q
  rw [post_bind] at q
  refine rv g σ ρ _ rel (q.imp (fun d S1 e1 h1 g1 x es p1 r1 => ?_) fun e S1 _ h1 => h1)
  split at h1
  · rename_i ds' q
    unfold fRevRange at q
    split at q
    · rename_i j
      split at q
      · rename_i hj
        cases q
        simp only [Rep] at r1; subst r1
        refine ⟨j, rfl, by decide, by decide, by omega, by omega, h1 g1 _ es p1 ?_⟩
        have := iter_rangeC (K := X.K) (g := g1) (lo := 0) (n := j.toNat)
        simpa using this
      · cases q
    · cases q
  · exact h1.elim⟩

/-! ### targets -/
structure RG (K : PySem.W.Frag) (t : TG) (ix : List Nat) (m : D → List Slot → Option (List Slot)) : Prop where
  run : ∀ (g : G) (σ : L2.St) (ρ : List Slot) (v : V) (d : D) (ρ' : List Slot) (Q : L2.St → Hp → Prop), RelS K g σ ρ → Rep K g.io g.F v d → m d ρ = some ρ' →
    (∀ σ', RelS K g σ' ρ' → (∀ j, j ∉ ix → σ'[j]? = σ[j]? ∧ ρ'[j]? = ρ[j]?) → (∀ j c, j ∈ ix → ρ'[j]? ≠ some (.own c)) → Q σ' g.H) → t v σ g.H Q
  len : ∀ d ρ ρ', m d ρ = some ρ' → ρ'.length = ρ.length
theorem RelS.set {σ : L2.St} {ρ : List Slot} {v : V} {d : D} (h : RelS K g σ ρ) (i : Nat) (r : Rep K g.io g.F v d) : RelS K g (σ.set i (some v)) (ρ.set i (.val d)) where
  ok := h.ok
  len := by simp [h.len]
  slot := fun j s e => by
    by_cases q : i = j
    · subst q
      have hl : i < ρ.length := by
        have := (List.getElem?_eq_some_iff.mp e).1
        simpa using this
      rw [List.getElem?_set_self hl] at e
      cases e
      rw [List.getElem?_set_self (by rw [h.len]; exact hl)]
      exact ⟨v, rfl, r⟩
    · rw [List.getElem?_set_ne q] at e
      rw [List.getElem?_set_ne q]
      exact h.slot j s e
  dist := fun j k c c' p e1 e2 e3 e4 => by
    have nj : i ≠ j := fun q => by
      subst q
      rw [List.getElem?_set_self (by have := (List.getElem?_eq_some_iff.mp e1).1; simpa using this)] at e1
      cases e1
    have nk : i ≠ k := fun q => by
      subst q
      rw [List.getElem?_set_self (by have := (List.getElem?_eq_some_iff.mp e2).1; simpa using this)] at e2
      cases e2
    rw [List.getElem?_set_ne nj] at e1 e3
    rw [List.getElem?_set_ne nk] at e2 e4
    exact h.dist j k c c' p e1 e2 e3 e4
def gN (i : Nat) (d : D) (ρ : List Slot) : Option (List Slot) := some (ρ.set i (.val d))
theorem rg_name (i : Nat) : RG K (gName i) [i] (gN i) := .mk (len := fun d ρ ρ' e => by cases e; simp) (run := fun g σ ρ v d ρ' Q rel r e q => by
  cases e
  refine q _ (rel.set i r) (fun j hj => ?_) fun j c hj e => ?_
  · have n : i ≠ j := fun z => hj (by simp [z])
    rw [List.getElem?_set_ne n, List.getElem?_set_ne n]; exact ⟨rfl, rfl⟩
  · have z : j = i := by simpa using hj
    subst z
    by_cases hl : j < ρ.length
    · rw [List.getElem?_set_self hl] at e; cases e
    · rw [List.getElem?_eq_none (by simpa using hl)] at e; cases e)
/-- several names -/
def gSets : List Nat → List D → List Slot → List Slot
  | i :: is, d :: ds, ρ => gSets is ds (ρ.set i (.val d))
  | _, _, ρ => ρ
theorem gSets_length : ∀ (is : List Nat) (ds : List D) (ρ : List Slot), (gSets is ds ρ).length = ρ.length
  | [], ds, _ => by cases ds <;> rfl
  | _ :: _, [], _ => rfl
  | i :: is, d :: ds, ρ => by simp only [gSets]; rw [gSets_length is ds]; simp
def gTups : List Nat → TGs
  | [] => gNil
  | i :: is => gCons (gName i) (gTups is)
theorem rg_sets : ∀ (is : List Nat) (vs : List V) (ds : List D) (g : G) (σ : L2.St) (ρ : List Slot) (Q : L2.St → Hp → Prop), RelS K g σ ρ → RepL K g.io g.F vs ds → ds.length = is.length →
    (∀ σ', RelS K g σ' (gSets is ds ρ) → (∀ j, j ∉ is → σ'[j]? = σ[j]? ∧ (gSets is ds ρ)[j]? = ρ[j]?) → (∀ j c, j ∈ is → (gSets is ds ρ)[j]? ≠ some (.own c)) → Q σ' g.H) → gTups is vs σ g.H Q
  | [], vs, ds, g, σ, ρ, Q, rel, r, hl, q => by
    cases ds with
    | nil =>
      simp only [RepL] at r; subst r
      exact ⟨rfl, q σ rel (fun j _ => ⟨rfl, rfl⟩) fun j c h => by simp at h⟩
    | cons _ _ => simp at hl
  | i :: is, vs, ds, g, σ, ρ, Q, rel, r, hl, q => by
    cases ds with
    | nil => simp at hl
    | cons d ds =>
      simp only [RepL] at r
      obtain ⟨v, us, rfl, r1, r2⟩ := r
      refine ⟨v, us, rfl, ?_⟩
      refine rg_sets is us ds g _ (ρ.set i (.val d)) Q (rel.set i r1) r2 (by simpa using hl) fun σ' rel' h1 h2 => q σ' rel' (fun j hj => ?_) fun j c hj => ?_
      · have n : i ≠ j := fun z => hj (by simp [z])
        obtain ⟨a, b⟩ := h1 j (fun z => hj (by simp [z]))
        rw [List.getElem?_set_ne n] at a b
        exact ⟨a, b⟩
      · by_cases z : j ∈ is
        · exact h2 j c z
        · have e : j = i := by simpa [z] using hj
          subst e
          obtain ⟨a, b⟩ := h1 j z
          intro y
          have y2 : (ρ.set j (.val d))[j]? = some (.own c) := b.symm.trans y
          by_cases hl : j < ρ.length
          · rw [List.getElem?_set_self hl] at y2; cases y2
          · rw [List.getElem?_eq_none (by simpa using hl)] at y2; cases y2
def gT (is : List Nat) (d : D) (ρ : List Slot) : Option (List Slot) := match d with
  | .tup ds => if ds.length = is.length then some (gSets is ds ρ) else none
  | _ => none
theorem gT_len {is : List Nat} {d : D} {ρ ρ' : List Slot} (e : gT is d ρ = some ρ') : ρ'.length = ρ.length := by
  unfold gT at e
  split at e
  · split at e
    · cases e; exact gSets_length _ _ _
    · cases e
  · cases e
theorem rg_tup (is : List Nat) : RG K (gTup K is.length (gTups is)) is (gT is) := .mk (len := fun d ρ ρ' e => gT_len e) (run := fun g σ ρ v d ρ' Q rel r e q => by
  unfold gT at e
  split at e
  · rename_i ds
    split at e
    · rename_i hl
      cases e
      simp only [Rep] at r
      obtain ⟨p, vs, rfl, hp, l⟩ := r
      exact ⟨p, vs, rfl, SqT.of (rel.ok.le _ _ hp), by rw [l.length, hl], rg_sets is vs ds g σ ρ Q rel l hl q⟩
    · cases e
  · cases e)
/-! ### [e for target in xs if ..] -/
def wipeD (ρ : List Slot) : List Nat → List Slot
  | [] => ρ
  | v :: vs => (wipeD ρ vs).set v .none
def lcLoop (gm : D → List Slot → Option (List Slot)) (ρ : List Slot) (mt : M Bool) (me : M D) : List D → List D → Sto → R (List D)
  | [], acc, S => .ok acc S
  | d :: ds, acc, S => match gm d ρ with
    | none => .bad
    | some ρ1 => (mt ρ1 S).bind fun b S1 => bif b then (me ρ1 S1).bind fun x S2 => lcLoop gm ρ mt me ds (acc ++ [x]) S2 else lcLoop gm ρ mt me ds acc S1
/-- an error within is not served -/
def noErr {α : Type} (r : R α) : R α := match r with
  | .err _ _ => .bad
  | r => r
def mLc (mi : M (List D)) (gm : D → List Slot → Option (List Slot)) (ix : List Nat) (mt : M Bool) (me : M D) : M Slot := fun ρ S => (mi ρ S).bind fun ds S1 =>
  if ds.length ≤ 1000000 then (noErr (lcLoop gm (wipeD ρ ix) mt me ds [] S1)).bind fun acc S2 => .ok (.own (.lst acc)) S2 else .bad
theorem wipe_get (σ : L2.St) : ∀ (vs : List Nat) (j : Nat), (wipe σ vs)[j]? = if j ∈ vs then (σ[j]?).map (fun _ => none) else σ[j]?
  | [], j => by simp [wipe]
  | v :: vs, j => by
    unfold wipe
    by_cases h : v = j
    · subst h
      rw [if_pos (by simp)]
      by_cases hl : v < σ.length
      · rw [List.getElem?_set_self (by rw [wipe_length]; exact hl)]
        simp [hl]
      · rw [List.getElem?_eq_none (by rw [List.length_set, wipe_length]; omega), List.getElem?_eq_none (by omega)]; rfl
    · rw [List.getElem?_set_ne h, wipe_get σ vs j]
      by_cases q : j ∈ vs
      · rw [if_pos q, if_pos (by simp [q])]
      · rw [if_neg q, if_neg (by simp [q]; exact fun z => h z.symm)]
theorem wipeD_length (ρ : List Slot) : ∀ vs : List Nat, (wipeD ρ vs).length = ρ.length
  | [] => rfl
  | v :: vs => by unfold wipeD; rw [List.length_set, wipeD_length ρ vs]
theorem wipeD_get (ρ : List Slot) : ∀ (vs : List Nat) (j : Nat), (wipeD ρ vs)[j]? = if j ∈ vs then (ρ[j]?).map (fun _ => Slot.none) else ρ[j]?
  | [], j => by simp [wipeD]
  | v :: vs, j => by
    unfold wipeD
    by_cases h : v = j
    · subst h
      rw [if_pos (by simp)]
      by_cases hl : v < ρ.length
      · rw [List.getElem?_set_self (by rw [wipeD_length]; exact hl)]
        simp [hl]
      · rw [List.getElem?_eq_none (by rw [List.length_set, wipeD_length]; omega), List.getElem?_eq_none (by omega)]; rfl
    · rw [List.getElem?_set_ne h, wipeD_get ρ vs j]
      by_cases q : j ∈ vs
      · rw [if_pos q, if_pos (by simp [q])]
      · rw [if_neg q, if_neg (by simp [q]; exact fun z => h z.symm)]
theorem RelS.wipe {σ : L2.St} {ρ : List Slot} (h : RelS K g σ ρ) (vs : List Nat) : RelS K g (wipe σ vs) (wipeD ρ vs) where
  ok := h.ok
  len := by rw [wipe_length, wipeD_length, h.len]
  slot := fun j s e => by
    rw [wipeD_get] at e
    rw [wipe_get]
    split at e
    · rename_i q
      cases z : ρ[j]? with
      | none => rw [z] at e; cases e
      | some s' => rw [z] at e; cases e; trivial
    · rename_i q
      rw [if_neg q]; exact h.slot j s e
  dist := fun j k c c' p e1 e2 e3 e4 => by
    rw [wipeD_get] at e1 e2
    rw [wipe_get] at e3 e4
    split at e1
    · cases z : ρ[j]? with
      | none => rw [z] at e1; cases e1
      | some s' => rw [z] at e1; cases e1
    · rename_i q
      rw [if_neg q] at e3
      split at e2
      · cases z : ρ[k]? with
        | none => rw [z] at e2; cases e2
        | some s' => rw [z] at e2; cases e2
      · rename_i q2
        rw [if_neg q2] at e4
        exact h.dist j k c c' p e1 e2 e3 e4
theorem wipe_same {σ σ' : L2.St} {vs : List Nat} (hl : σ'.length = σ.length) (h : ∀ j, j ∉ vs → σ'[j]? = (L2.wipe σ vs)[j]?) : L2.wipe σ' vs = L2.wipe σ vs := by
  apply List.ext_getElem?
  intro j
  rw [wipe_get, wipe_get]
  by_cases q : j ∈ vs
  · rw [if_pos q, if_pos q]
    by_cases hj : j < σ.length
    · simp [hj, hl]
    · rw [List.getElem?_eq_none (by omega), List.getElem?_eq_none (by omega)]
  · rw [if_neg q, if_neg q, h j q, wipe_get, if_neg q]
structure DTs (X : Cx) (ifs : List Expr) (m : M Bool) : Prop where
  ex : ∀ W, Takes X W → PTs X ifs (tT X.K W m)
theorem dts_nil : DTs X [] (eC true) := ⟨fun W tk => ⟨fun pins s σ H Q I q => by
  obtain ⟨g, ρ, rfl, rel, q⟩ := q
  exact pts_nil.run pins s σ g.H Q I (q g rfl (Post.refl rel.ok))⟩⟩
theorem dts_one {c : Expr} {m : M Bool} (h : DT X c m) : DTs X [c] m := ⟨fun W tk => pts_one (h.pt tk)⟩

/-- what is new since E, and one's own, changes -/
theorem Post.mut {E g : G} {p : Addr} {u o : HO} (b : Post K E g) (hE : E.H p = none) (hH : g.H p = some u) (hu : ∀ x, u ≠ .own x) (hF : g.F p = none) (hio : p ∉ g.io) (ho : ∀ x, o ≠ .own x) : Post K E { g with H := upd g.H p o } where
  ok := {
    le := fun a w e => (upd_ne (fun z => by subst z; rw [hF] at e; cases e)).trans (b.ok.le _ _ e)
    len := b.ok.len
    nd := b.ok.nd
    noown := fun a x e => b.ok.noown a x (not_own_of ho e)
    iod := fun a h => by
      show upd g.H p o a ≠ none
      unfold upd
      split
      · simp
      · exact b.ok.iod a h
    cell := fun i c e => by
      obtain ⟨q, e1, e2, r⟩ := b.ok.cell i c e
      have n : q ≠ p := fun z => by subst z; exact hio (List.mem_of_getElem? e1)
      refine ⟨q, e1, e2, ?_⟩
      cases c with
      | lst xs =>
        obtain ⟨vs, a, b⟩ := r
        exact ⟨vs, (upd_ne n).trans a, b⟩
      | dic xs =>
        obtain ⟨vs, a, b⟩ := r
        exact ⟨vs, (upd_ne n).trans a, b⟩
      | obj c fs =>
        obtain ⟨dx, vs, a, a2, b⟩ := r
        refine ⟨dx, vs, (upd_ne n).trans a, (upd_ne (fun z => ?_)).trans a2, b⟩
        subst z
        rw [hH] at a2
        exact hu _ (Option.some.inj a2) }
  leF := b.leF
  pre := b.pre
  fr := fun a w e n => (upd_ne (fun z => by subst z; rw [hE] at e; cases e)).trans (b.fr a w e n)
  fz := b.fz
  io := b.io
  dom := fun a h => by
    show upd g.H p o a ≠ none
    unfold upd
    split
    · simp
    · exact b.dom a h
/-- the new list at p beside a state of which it is no part -/
theorem lc_turns {J : It} {gt : TG} {ix : List Nat} {gm : D → List Slot → Option (List Slot)} {mt : M Bool} {me : M D} {σ : L2.St} {ρ : List Slot} {g0 : G} {ds : List D} {p : Addr} {Q : VK} {W : WX}
    (rg : RG K gt ix gm) (rel0 : RelS K g0 σ ρ) (it : Iter K g0 J ds) (hlen : ds.length ≤ 1000000) (hp : g0.H p = none)
    (fin : ∀ (g : G) acc, Post K g0 g → OutRep K g0 g (.ref p) (.own (.lst acc)) → (noErr (lcLoop gm (wipeD ρ ix) mt me ds [] g0.S)) = .ok acc g.S → Q (.ref p) g.H)
    (ok : noErr (lcLoop gm (wipeD ρ ix) mt me ds [] g0.S) ≠ .bad) :
    ∃ W0 : Nat → Nat → Hp → Prop, (∃ m, W0 0 m (upd g0.H p (.lst []))) ∧ ∀ i m H, W0 i m H →
      (J.stop i H ∧ Q (.ref p) H) ∨ (J.go i H ∧ ∃ Nx : Hp → Prop, (∀ H', Nx H' → ∃ m', m' < m ∧ W0 (i + 1) m' H') ∧ ∀ x H', J.yld i H x H' → gt x (L2.wipe σ ix) H' fun σ2 H2 => L2.wipe σ2 ix = L2.wipe σ ix ∧ tT K (fun _ _ _ _ => False) mt σ2 H2 fun b H3 =>
        if b = true then tV K (fun _ _ _ _ => False) me σ2 H3 fun y H4 => ∃ acc, H4 p = some (.lst acc) ∧ acc.length < sizeLine ∧ Nx (upd H4 p (.lst (acc ++ [y]))) else Nx H3) := by
  -- at turn i: a state g with the list of acc beside it
  refine ⟨fun i m H => m = ds.length - i ∧ i ≤ ds.length ∧ ∃ (g : G) (vs : List V) (acc : List D), g.H = H ∧ Post K g0 g ∧ g.H p = some (.lst vs) ∧ g.F p = none ∧ p ∉ g.io ∧ RepL K g.io g.F vs acc ∧ acc.length ≤ i ∧
      lcLoop gm (wipeD ρ ix) mt me ds [] g0.S = lcLoop gm (wipeD ρ ix) mt me (ds.drop i) acc g.S, ⟨_, by rw [Nat.sub_zero], Nat.zero_le _, g0.lay p (.lst []), [], [], rfl, Post.lay rel0.ok hp (fun _ z => by cases z), upd_same, rel0.ok.free hp, rel0.ok.nio' hp, RepL.nil, Nat.le_refl _, by simp [G.lay]⟩, ?_⟩
  rintro i m H ⟨rfl, hi, g, vs, acc, rfl, p0, hH, hF, hio, rl, ha, e⟩
  by_cases hlt : i < ds.length
  · refine .inr ⟨it.go g p0.ok p0.leF p0.pre i hlt, fun H' => i + 1 ≤ ds.length ∧ ∃ (g : G) (vs : List V) (acc : List D), g.H = H' ∧ Post K g0 g ∧ g.H p = some (.lst vs) ∧ g.F p = none ∧ p ∉ g.io ∧ RepL K g.io g.F vs acc ∧ acc.length ≤ i + 1 ∧
      lcLoop gm (wipeD ρ ix) mt me ds [] g0.S = lcLoop gm (wipeD ρ ix) mt me (ds.drop (i + 1)) acc g.S, fun H' h => ⟨ds.length - (i + 1), by omega, rfl, h⟩, fun x H' y => ?_⟩
    obtain ⟨g1, rfl, eS1, p1, d, hd, rd⟩ := it.yld g p0.ok p0.leF p0.pre i x H' hlt y
    have cellAt : ∀ g', Post K g g' → g'.H p = some (.lst vs) ∧ g'.F p = none ∧ p ∉ g'.io ∧ RepL K g'.io g'.F vs acc := fun g' q => by
      obtain ⟨a, b, c⟩ := q.own p0.ok hF hio (c := .lst acc) ⟨vs, hH, rl⟩
      obtain ⟨vs', h1, h2⟩ := c
      have := q.fr p _ hH hio
      exact ⟨this, a, b, q.repL rl⟩
    have step : ds.drop i = d :: ds.drop (i + 1) := by
      rw [List.drop_eq_getElem_cons hlt]
      have : ds[i] = d := by rw [List.getElem?_eq_getElem hlt] at hd; exact Option.some.inj hd
      rw [this]
    rw [step] at e
    simp only [lcLoop] at e
    have rel1 : RelS K g1 (L2.wipe σ ix) (wipeD ρ ix) := (((rel0.wipe ix).post p0).post p1)
    cases q : gm d (wipeD ρ ix) with
    | none => rw [q] at e; rw [e] at ok; exact absurd rfl ok
    | some ρ1 =>
      rw [q] at e
      simp only at e
      refine rg.run g1 _ _ x d ρ1 _ rel1 rd q fun σ2 rel2 h2 _ => ⟨?_, g1, ρ1, rfl, rel2, ?_⟩
      · exact wipe_same (by rw [rel2.len, rg.len _ _ _ q, wipeD_length, rel0.len]) fun j hj => (h2 j hj).1
      · rw [eS1]
        cases q2 : mt ρ1 g.S with
        | bad => rw [q2] at e; rw [e] at ok; exact absurd rfl ok
        | err e2 S2 => rw [q2] at e; rw [e] at ok; exact absurd rfl ok
        | ok b S2 =>
          rw [q2] at e
          simp only [R.bind] at e
          intro g2 eS2 p2
          subst eS2
          cases b with
          | false =>
            rw [if_neg Bool.false_ne_true]
            obtain ⟨a1, a2, a3, a4⟩ := cellAt g2 (p1.trans p2)
            exact ⟨hlt, g2, vs, acc, rfl, (p0.trans p1).trans p2, a1, a2, a3, a4, by omega, e⟩
          | true =>
            rw [if_pos rfl]
            refine ⟨g2, ρ1, rfl, rel2.post p2, ?_⟩
            simp only [cond_true] at e
            cases q3 : me ρ1 g2.S with
            | bad => rw [q3] at e; rw [e] at ok; exact absurd rfl ok
            | err e2 S2 => rw [q3] at e; rw [e] at ok; exact absurd rfl ok
            | ok d2 S3 =>
              rw [q3] at e
              simp only [R.bind] at e
              intro g3 y3 eS3 p3 r3
              subst eS3
              obtain ⟨a1, a2, a3, a4⟩ := cellAt g3 ((p1.trans p2).trans p3)
              refine ⟨vs, a1, ?_, hlt, { g3 with H := upd g3.H p (.lst (vs ++ [y3])) }, vs ++ [y3], acc ++ [d2], rfl, ?_, upd_same, a2, a3, a4.append (.one r3), by simp; omega, e⟩
              · rw [a4.length, sizeLine_eq]; omega
              · exact ((p0.trans p1).trans (p2.trans p3)).mut hp a1 (fun _ z => by cases z) a2 a3 (fun _ z => by cases z)
  · have z : i = ds.length := by omega
    subst z
    refine .inl ⟨it.stop g p0.ok p0.leF p0.pre _ (Nat.le_refl _), ?_⟩
    rw [List.drop_length] at e
    simp only [lcLoop] at e
    refine fin g acc p0 ⟨p, rfl, ⟨hp, fun C dx fs z => by rw [hH] at z; cases z⟩, hF, hio, vs, hH, rl⟩ (by rw [e]; rfl)

theorem ro_lc {wi : TI} {gt : TG} {ix : List Nat} {gm : D → List Slot → Option (List Slot)} {mi : M (List D)} {mt : M Bool} {me : M D} {W : WX} (ri : RI K wi W mi) (rg : RG K gt ix gm) :
    RO K (tLc wi gt (tT K (fun _ _ _ _ => False) mt) (tV K (fun _ _ _ _ => False) me) ix) W (mLc mi gm ix mt me) := fun g σ ρ Q rel h => by
  unfold mLc at h
  rw [post_bind] at h
  refine ri g σ ρ _ rel (h.imp (fun ds S1 e1 h1 g1 J es p1 it => ?_) fun e S1 _ h1 => h1)
  subst es
  split at h1
  · rename_i hlen
    rw [post_bind] at h1
    intro p hp
    refine lc_turns (W := W) rg (rel.post p1) it hlen hp (fun g2 acc p2 o e => ?_) (fun e => by rw [e] at h1; exact h1)
    rw [e] at h1
    exact h1 g2 _ rfl (p1.trans p2) (o.back p1)
  · exact h1.elim
theorem do_lc {elt tg iter : Expr} {ifs : List Expr} {scope : Scope} {own : List (Str × Nat)} {pos : Pos} {gt : TG} {gm : D → List Slot → Option (List Slot)} {mi : M (List D)} {mt : M Bool} {me : M D} (hc : X.calm = true) (hN : X.N.Nodup) (hi : DI X tg iter mi) (ok : BlkOk X.N X.env.scope scope own)
    (rg : RG X.K gt (own.map (·.2)) gm) (hg : ∀ (s : Shared) (H : Hp) (C : Addr) (cl : List (Str × Addr)) (fp : List Addr), PG (X.blk s H scope (compEnvC scope cl C X.env) fp) tg gt)
    (ht : ∀ (s : Shared) (H : Hp) (C : Addr) (cl : List (Str × Addr)) (fp : List Addr), DTs (X.blk s H scope (compEnvC scope cl C X.env) fp) ifs mt)
    (he : ∀ (s : Shared) (H : Hp) (C : Addr) (cl : List (Str × Addr)) (fp : List Addr), DV (X.blk s H scope (compEnvC scope cl C X.env) fp) elt me) (hs : ∀ x, foldedSetIterable iter X.env x = pure x := by intro _; rfl) :
    DO X (.ListComp elt [⟨tg, iter, ifs, 0⟩] scope pos) (mLc mi gm (own.map (·.2)) mt me) := ⟨fun W tk => by
  obtain ⟨wi, pi, ri⟩ := hi.ex W tk
  exact ⟨_, pe_lc hc hN pi ok hg (fun s H C cl fp => (ht s H C cl fp).ex _ takes0) (fun s H C cl fp => (he s H C cl fp).pe takes0) hs, ro_lc ri rg⟩⟩
end
end FW
end
section
set_option maxHeartbeats 2000000
/-! FW8: statements. -/
namespace FW
open PySem PySem.Spec PyProof.Rows L2

inductive RS where
  | nx (ρ : List Slot) (S : Sto) | bk (ρ : List Slot) (S : Sto) | ct (ρ : List Slot) (S : Sto)
  | rt (s : Slot) (S : Sto) | ex (e : Exc) (ρ : List Slot) (S : Sto) | bad
abbrev MS := List Slot → Sto → RS
def RS.ends (K : PySem.W.Frag) (E : G) (W : WX) (D : Ends) : RS → Prop
  | .nx ρ S => ∀ g σ, g.S = S → Rel K E g σ ρ → D.nx σ g.H
  | .bk ρ S => ∀ g σ, g.S = S → Rel K E g σ ρ → D.bk σ g.H
  | .ct ρ S => ∀ g σ, g.S = S → Rel K E g σ ρ → D.ct σ g.H
  | .rt s S => ∀ g v, g.S = S → Post K E g → OutRep K E g v s → D.rt v g.H
  | .ex e ρ S => ∀ g σ c dd, g.S = S → Rel K E g σ ρ → RepX K g c dd e → W c dd σ g.H
  | .bad => False
def RSt (K : PySem.W.Frag) (t : TS) (W : WX) (m : MS) : Prop := ∀ (E g : G) (σ : L2.St) (ρ : List Slot) (Dn : Ends), Rel K E g σ ρ → (m ρ g.S).ends K E W Dn → t Dn σ g.H
structure DS (X : Cx) (st : Stmt) (m : MS) : Prop where
  ex : ∀ W, Takes X W → ∃ t, PS X st t ∧ RSt X.K t W m
structure DSs (X : Cx) (st : List Stmt) (m : MS) : Prop where
  ex : ∀ W, Takes X W → ∃ t, PSs X st t ∧ RSt X.K t W m
/-- the one reading -/
def tS (K : PySem.W.Frag) (W : WX) (m : MS) : TS := fun Dn σ H => ∃ (E g : G) (ρ : List Slot), g.H = H ∧ Rel K E g σ ρ ∧ (m ρ g.S).ends K E W Dn
theorem DSs.ps {X : Cx} {st : List Stmt} {W : WX} {m : MS} (h : DSs X st m) (tk : Takes X W) : PSs X st (tS X.K W m) := ⟨fun pins s σ H Dn I q => by
  obtain ⟨t, pe, rv⟩ := h.ex W tk
  obtain ⟨E, g, ρ, rfl, rel, q⟩ := q
  exact pe.run pins s σ g.H Dn I (rv E g σ ρ Dn rel q)⟩

/-- an expression's result, then a statement's -/
def rBind {α : Type} (r : R α) (ρ : List Slot) (f : α → Sto → RS) : RS := match r with
  | .ok a S => f a S
  | .err e S => .ex e ρ S
  | .bad => .bad
theorem ends_bind {α : Type} {K : PySem.W.Frag} {E g : G} {W : WX} {Dn : Ends} {σ : L2.St} {ρ : List Slot} {r : R α} {f : α → Sto → RS} (rel : Rel K E g σ ρ) (h : (rBind r ρ f).ends K E W Dn) :
    r.post (fun a S => (f a S).ends K E W Dn) (fun e S => ∀ g' c dd, g'.S = S → Post K g g' → RepX K g' c dd e → W c dd σ g'.H) := by
  cases r with
  | ok a S => exact h
  | err e S => exact fun g' c dd es p r => h g' σ c dd es (rel.post p) r
  | bad => exact h

section
variable {X : Cx} {st : Stmt} {rest sts : List Stmt} {e : Expr} {pos : Pos} {K : PySem.W.Frag} {E g g' : G} {σ : L2.St} {ρ : List Slot}
def sNext : MS := fun ρ S => .nx ρ S
def sSeq (a b : MS) : MS := fun ρ S => match a ρ S with
  | .nx ρ' S' => b ρ' S'
  | r => r
theorem dss_nil : DSs X [] sNext := ⟨fun W tk => ⟨_, pss_nil, fun E g σ ρ Dn rel h => h g σ rfl rel⟩⟩
theorem dss_cons {a b : MS} (h1 : DS X st a) (h2 : DSs X rest b) : DSs X (st :: rest) (sSeq a b) := ⟨fun W tk => by
  obtain ⟨t, pe, ra⟩ := h1.ex W tk
  obtain ⟨u, pu, rb⟩ := h2.ex W tk
  refine ⟨_, pss_cons pe pu, fun E g σ ρ Dn rel h => ra E g σ ρ _ rel ?_⟩
  unfold sSeq at h
  cases q : a ρ g.S with
  | nx ρ' S' => rw [q] at h; exact fun g' σ' es rel' => rb E g' σ' ρ' Dn rel' (by subst es; exact h)
  | bk ρ' S' => rw [q] at h; exact h
  | ct ρ' S' => rw [q] at h; exact h
  | rt s S' => rw [q] at h; exact h
  | ex e ρ' S' => rw [q] at h; exact h
  | bad => rw [q] at h; exact h⟩
theorem dss_one {a : MS} (h1 : DS X st a) : DSs X [st] a := ⟨fun W tk => by
  obtain ⟨t, pe, ra⟩ := h1.ex W tk
  exact ⟨_, pss_one pe, ra⟩⟩
theorem ds_pass : DS X (.Pass pos) sNext := ⟨fun W tk => ⟨_, ps_pass, fun E g σ ρ Dn rel h => h g σ rfl rel⟩⟩
def sBreak : MS := fun ρ S => .bk ρ S
def sCont : MS := fun ρ S => .ct ρ S
theorem ds_break : DS X (.Break pos) sBreak := ⟨fun W tk => ⟨_, ps_break, fun E g σ ρ Dn rel h => h g σ rfl rel⟩⟩
theorem ds_cont : DS X (.Continue pos) sCont := ⟨fun W tk => ⟨_, ps_continue, fun E g σ ρ Dn rel h => h g σ rfl rel⟩⟩

/-! ### x = e -/
theorem Post.new_of {p : Addr} (b : Post K E g) (h : NewAt g g' p) : NewAt E g' p := ⟨b.free h.1, fun C dx fs q => b.free (h.2 C dx fs q)⟩
theorem Rel.setS {v : V} {s : Slot} (h : Rel K E g σ ρ) (b : Post K g g') (i : Nat) (o : OutRep K g g' v s) : Rel K E g' (σ.set i (some v)) (ρ.set i s) where
  s := {
    ok := b.ok
    len := by simp [h.s.len]
    slot := fun j s' e => by
      by_cases q : i = j
      · subst q
        have hl : i < ρ.length := by have := (List.getElem?_eq_some_iff.mp e).1; simpa using this
        rw [List.getElem?_set_self hl] at e
        cases e
        rw [List.getElem?_set_self (by rw [h.s.len]; exact hl)]
        cases s with
        | none => exact o.elim
        | val d => exact ⟨v, rfl, o⟩
        | own c => obtain ⟨p, rfl, n, f1, f2, f3⟩ := o; exact ⟨p, rfl, f1, f2, f3⟩
      · rw [List.getElem?_set_ne q] at e
        rw [List.getElem?_set_ne q]
        exact (h.s.post b).slot j s' e
    dist := fun j k c c' p e1 e2 e3 e4 => by
      have old : ∀ j' c'', i ≠ j' → ρ[j']? = some (.own c'') → σ[j']? = some (some (.ref p)) → g.H p ≠ none := fun j' c'' n a1 a2 => by
        obtain ⟨q, f1, f2, f3, f4⟩ := h.s.slot j' _ a1
        rw [a2] at f1; cases f1
        exact f4.at_
      have mine : ∀ j', i = j' → ∀ c'', (ρ.set i s)[j']? = some (.own c'') → (σ.set i (some v))[j']? = some (some (.ref p)) → g.H p = none := fun j' q c'' a1 a2 => by
        subst q
        have hl : i < ρ.length := by have := (List.getElem?_eq_some_iff.mp a1).1; simpa using this
        rw [List.getElem?_set_self hl] at a1
        rw [List.getElem?_set_self (by rw [h.s.len]; exact hl)] at a2
        cases a1; cases a2
        obtain ⟨p', z, n, _⟩ := o
        cases z; exact n.1
      by_cases q1 : i = j
      · by_cases q2 : i = k
        · rw [← q1, ← q2]
        · have z := mine j q1 c e1 e3
          rw [List.getElem?_set_ne q2] at e2 e4
          exact absurd z (old k c' q2 e2 e4)
      · by_cases q2 : i = k
        · have z := mine k q2 c' e2 e4
          rw [List.getElem?_set_ne q1] at e1 e3
          exact absurd z (old j c q1 e1 e3)
        · rw [List.getElem?_set_ne q1] at e1 e3
          rw [List.getElem?_set_ne q2] at e2 e4
          exact h.s.dist j k c c' p e1 e2 e3 e4 }
  p := h.p.trans b
  new := fun j c p e1 e2 => by
    by_cases q : i = j
    · subst q
      have hl : i < ρ.length := by have := (List.getElem?_eq_some_iff.mp e1).1; simpa using this
      rw [List.getElem?_set_self hl] at e1
      rw [List.getElem?_set_self (by rw [h.s.len]; exact hl)] at e2
      cases e1; cases e2
      obtain ⟨p', z, n, _⟩ := o
      cases z
      exact h.p.new_of n
    · rw [List.getElem?_set_ne q] at e1 e2
      exact (h.post b).new j c p e1 e2
def sSet (i : Nat) (m : M Slot) : MS := fun ρ S => rBind (m ρ S) ρ fun s S' => .nx (ρ.set i s) S'
theorem rs_set {te : TE} {W : WX} {m : M Slot} (i : Nat) (ro : RO K te W m) : RSt K (tAsg te (gName i)) W (sSet i m) := fun E g σ ρ Dn rel h => by
  refine ro g σ ρ _ rel.s ((ends_bind rel h).imp (fun s S _ q g' v es p o => ?_) fun e S _ q => q)
  exact q g' _ es (rel.setS p i o)
theorem ds_set {i : Nat} {x : Str} {pos' : Pos} {m : M Slot} (hN : X.N.Nodup) (hi : X.N[i]? = some x) (hx : Loc X.env.scope x) (h : DO X e m) (hs : swapsWith e (some (.Name x pos')) pos.line X.env = pure false := by rfl) (hf : X.fn x = true ∨ X.env.scope.names.lookup x = some .local := by first | exact .inl rfl | exact .inr rfl | assumption) :
    DS X (.Assign [.Name x pos'] e pos) (sSet i m) := ⟨fun W tk => by
  obtain ⟨t, pe, ro⟩ := h.ex W tk
  exact ⟨_, ps_set hN hi hx pe hs hf, rs_set i ro⟩⟩
theorem ds_setLc {i : Nat} {y : Str} {py : Pos} {elt tg iter : Expr} {ifs : List Expr} {scope : Scope} {own : List (Str × Nat)} {pos spos : Pos} {gt : TG} {gm : D → List Slot → Option (List Slot)} {mi : M (List D)} {mt : M Bool} {me : M D} (hc : X.calm = true) (hN : X.N.Nodup)
    (hy : X.N[i]? = some y) (hyl : X.env.scope.names.lookup y = some .local) (hsw : swapsWith (.ListComp elt [⟨tg, iter, ifs, 0⟩] scope pos) (some (.Name y py)) spos.line X.env = pure true) (hi : DI X tg iter mi) (ok : BlkOk X.N X.env.scope scope own)
    (rg : RG X.K gt (own.map (·.2)) gm) (hg : ∀ (s : Shared) (H : Hp) (C : Addr) (cl : List (Str × Addr)) (fp : List Addr), PG (X.blk s H scope (compEnvC scope cl C X.env) fp) tg gt)
    (ht : ∀ (s : Shared) (H : Hp) (C : Addr) (cl : List (Str × Addr)) (fp : List Addr), DTs (X.blk s H scope (compEnvC scope cl C X.env) fp) ifs mt)
    (he : ∀ (s : Shared) (H : Hp) (C : Addr) (cl : List (Str × Addr)) (fp : List Addr), DV (X.blk s H scope (compEnvC scope cl C X.env) fp) elt me) (hs : ∀ x, foldedSetIterable iter X.env x = pure x := by intro _; rfl) :
    DS X (.Assign [.Name y py] (.ListComp elt [⟨tg, iter, ifs, 0⟩] scope pos) spos) (sSet i (mLc mi gm (own.map (·.2)) mt me)) := ⟨fun W tk => by
  obtain ⟨wi, pi, ri⟩ := hi.ex W tk
  exact ⟨_, ps_setLc hc hN hy hyl hsw pi ok hg (fun s H C cl fp => (ht s H C cl fp).ex _ takes0) (fun s H C cl fp => (he s H C cl fp).pe takes0) hs, rs_set i (ro_lc ri rg)⟩⟩
/-- a, b = e, f -/
def sPar (i j : Nat) (m : M (List D)) : MS := fun ρ S => rBind (m ρ S) ρ fun ds S' => match ds with
  | [d, d'] => .nx ((ρ.set i (.val d)).set j (.val d')) S'
  | _ => .bad
theorem ds_par {i j : Nat} {x y : Str} {a b : Expr} {m : M (List D)} {px py pt : Pos} {kt k2 pt2} (hc : X.calm = true) (hN : X.N.Nodup) (hi : X.N[i]? = some x) (hj : X.N[j]? = some y) (hij : i ≠ j)
    (hx : X.env.scope.names.lookup x = some .local) (hy : X.env.scope.names.lookup y = some .local) (ha : DA X [a, b] m)
    (hw : swappedStores [.Tuple [.Name x px, .Name y py] kt pt] (.Tuple [a, b] k2 pt2) X.env = pure (some [x, y]))
    (hs : swapsWithSole [.Tuple [.Name x px, .Name y py] kt pt] (.Tuple [a, b] k2 pt2) pos.line X.env = pure false := by rfl) :
    DS X (.Assign [.Tuple [.Name x px, .Name y py] kt pt] (.Tuple [a, b] k2 pt2) pos) (sPar i j m) := ⟨fun W tk => by
  obtain ⟨t, pe, ra⟩ := ha.ex W tk
  refine ⟨_, ps_par hc hN hi hj hij hx hy pe hw hs, fun E g σ ρ Dn rel h => ?_⟩
  refine ra g σ ρ _ rel.s ((ends_bind rel h).imp (fun ds S _ q g' vs es p r => ?_) fun e S _ q => q)
  split at q
  · rename_i d d' _
    obtain ⟨v, u, rfl, r1, r2⟩ := repL2 r
    refine ⟨v, u, rfl, q g' _ es ?_⟩
    have z1 := rel.setS p i (show OutRep X.K g g' v (.val d) from r1)
    exact z1.setS (Post.refl p.ok) j (show OutRep X.K g' g' u (.val d') from r2)
  · exact q.elim⟩
/-- a, b, .. = e, by its items -/
structure RgS (K : PySem.W.Frag) (t : TG) (m : D → List Slot → Option (List Slot)) : Prop where
  run : ∀ (E g : G) (σ : L2.St) (ρ : List Slot) (v : V) (d : D) (ρ' : List Slot) (Q : L2.St → Hp → Prop), Rel K E g σ ρ → Rep K g.io g.F v d → m d ρ = some ρ' → (∀ σ', Rel K E g σ' ρ' → Q σ' g.H) → t v σ g.H Q
theorem RG.rel {t : TG} {ix : List Nat} {m : D → List Slot → Option (List Slot)} (h : RG K t ix m) : RgS K t m := ⟨fun E g σ ρ v d ρ' Q rel r e q => by
  refine h.run g σ ρ v d ρ' _ rel.s r e fun σ' rel' h1 h2 => q σ' ⟨rel', rel.p, fun j c p e1 e2 => ?_⟩
  by_cases z : j ∈ ix
  · exact absurd e1 (h2 j c z)
  · obtain ⟨a, b⟩ := h1 j z
    rw [a] at e2; rw [b] at e1
    exact rel.new j c p e1 e2⟩
def sTgt (gm : D → List Slot → Option (List Slot)) (m : M D) : MS := fun ρ S => rBind (m ρ S) ρ fun d S' => match gm d ρ with
  | some ρ' => .nx ρ' S'
  | none => .bad
theorem ds_tgt {tg : Expr} {gt : TG} {gm : D → List Slot → Option (List Slot)} {m : M D} (h : DV X e m) (hg : PG X tg gt) (rg : RgS X.K gt gm) (hs : swapsWithSole [tg] e pos.line X.env = pure false := by rfl) (hw : swappedStores [tg] e X.env = pure none := by rfl)
    (h1 : (assignEach [tg] X.env).map (·.2) = [assign tg X.env] := by rfl) : DS X (.Assign [tg] e pos) (sTgt gm m) := ⟨fun W tk => by
  obtain ⟨t, pe, ro⟩ := h.ex W tk
  refine ⟨_, ps_asg pe hg hs hw h1, fun E g σ ρ Dn rel h => ?_⟩
  refine ro g σ ρ _ rel.s ((ends_bind rel h).imp (fun d S _ q g' v es p r => ?_) fun e S _ q => q)
  cases z : gm d ρ with
  | none => rw [z] at q; exact q.elim
  | some ρ' =>
    rw [z] at q
    exact rg.run E g' σ ρ v d ρ' _ (rel.post p) r z fun σ' rel' => q g' σ' es rel'⟩
/-- x op= e -/
def sAug (i : Nat) (f : D → D → Option D) (m : M D) : MS := fun ρ S => match ρ[i]? with
  | some (.val x) => rBind (m ρ S) ρ fun d S' => match f x d with
    | some z => .nx (ρ.set i (.val z)) S'
    | none => .bad
  | _ => .bad
def RIp (K : PySem.W.Frag) (t : TIp) (f : D → D → Option D) : Prop := ∀ (g : G) (x y : V) (dx dy d : D) (Q : VK), Ok K g → Rep K g.io g.F x dx → Rep K g.io g.F y dy → f dx dy = some d → (∀ v, Rep K g.io g.F v d → Q v g.H) → t x y g.H Q
theorem ds_aug {i : Nat} {x : Str} {op : Operator} {ti : TIp} {pos' : Pos} {f : D → D → Option D} {m : M D} (hN : X.N.Nodup) (hi : X.N[i]? = some x) (hx : Loc X.env.scope x) (he : DV X e m) (ho : PIp X op ti) (hf : RIp X.K ti f) (hfn : X.fn x = true ∨ X.env.scope.names.lookup x = some .local := by first | exact .inl rfl | exact .inr rfl | assumption) :
    DS X (.AugAssign (.Name x pos') op e pos) (sAug i f m) := ⟨fun W tk => by
  obtain ⟨t, pe, ra⟩ := he.ex W tk
  refine ⟨_, ps_aug hN hi hx pe ho hfn, fun E g σ ρ Dn rel h => ?_⟩
  unfold sAug at h
  split at h
  · rename_i d0 q0
    obtain ⟨v0, e1, r0⟩ := rel.s.slot i _ q0
    have e2 : σ[i]? = some (some v0) := by
      cases z : σ[i]? with
      | none => rw [z] at e1; cases e1
      | some o => rw [z] at e1; rw [show o = some v0 from e1]
    refine ⟨v0, e2, ?_⟩
    refine ra g σ ρ _ rel.s ((ends_bind rel h).imp (fun d S _ q g' v es p r => ?_) fun e S _ q => q)
    cases z : f d0 d with
    | none => rw [z] at q; exact q.elim
    | some d' =>
      rw [z] at q
      exact hf g' v0 v d0 d d' _ p.ok (p.rep r0) r z fun v' r' => q g' _ es (rel.setS p i (show OutRep X.K g g' v' (.val d') from r'))
  · exact h.elim⟩
def fAddI : D → D → Option D
  | .int i, .int j => some (.int (i + j))
  | _, _ => none
def fSubI : D → D → Option D
  | .int i, .int j => some (.int (i - j))
  | _, _ => none
theorem ri_add : RIp K (ipI fun i j => i + j) fAddI := by
  intro g x y dx dy d Q ok rx ry e h
  unfold fAddI at e
  split at e
  · simp only [Rep] at rx ry; cases e
    exact ⟨_, _, rx, ry, h _ (by simp only [Rep])⟩
  · cases e
theorem ri_sub : RIp K (ipI fun i j => i - j) fSubI := by
  intro g x y dx dy d Q ok rx ry e h
  unfold fSubI at e
  split at e
  · simp only [Rep] at rx ry; cases e
    exact ⟨_, _, rx, ry, h _ (by simp only [Rep])⟩
  · cases e

/-! ### one's own list changes -/
theorem Rel.mut {i : Nat} {p : Addr} {c c' : Cell} {u o : HO} (h : Rel K E g σ ρ) (e1 : ρ[i]? = some (.own c)) (e2 : σ[i]? = some (some (.ref p))) (hH : g.H p = some u) (hu : ∀ x, u ≠ .own x) (ho : ∀ x, o ≠ .own x) (hins : ∀ C dx fs, o = .ins C dx fs → ∃ fs', u = .ins C dx fs')
    (hc : CellRep K { g with H := upd g.H p o } p c') : Rel K E { g with H := upd g.H p o } σ (ρ.set i (.own c')) := by
  obtain ⟨p', f1, f2, f3, f4⟩ := h.s.slot i _ e1
  rw [e2] at f1; cases f1
  have n := h.new i c p e1 e2
  have hl : i < ρ.length := (List.getElem?_eq_some_iff.mp e1).1
  have P := h.p.mut n.1 hH hu f2 f3 ho
  refine ⟨⟨P.ok, by simp [h.s.len], fun j s e => ?_, fun j k c1 c2 q a1 a2 a3 a4 => ?_⟩, P, fun j c1 q a1 a2 => ?_⟩
  · by_cases z : i = j
    · subst z
      rw [List.getElem?_set_self hl] at e; cases e
      rw [e2]
      exact ⟨p, rfl, f2, f3, hc⟩
    · rw [List.getElem?_set_ne z] at e
      have y := h.s.slot j s e
      cases s with
      | none => trivial
      | val d => exact y
      | own c1 =>
        obtain ⟨q, b1, b2, b3, b4⟩ := y
        have b0 : σ[j]? = some (some (.ref q)) := by
          cases w : σ[j]? with
          | none => rw [w] at b1; cases b1
          | some o => rw [w] at b1; rw [show o = some (.ref q) from b1]
        have nq : q ≠ p := fun w => by subst w; exact z (h.s.dist i j c c1 q e1 e e2 b0)
        refine ⟨q, b1, b2, b3, ?_⟩
        cases c1 with
        | lst xs => obtain ⟨vs, a, b⟩ := b4; exact ⟨vs, (upd_ne nq).trans a, b⟩
        | dic xs => obtain ⟨vs, a, b⟩ := b4; exact ⟨vs, (upd_ne nq).trans a, b⟩
        | obj c fs =>
          obtain ⟨dx, vs, a, a2, b⟩ := b4
          exact ⟨dx, vs, (upd_ne nq).trans a, (upd_ne (fun w => by subst w; rw [hH] at a2; exact hu _ (Option.some.inj a2))).trans a2, b⟩
  · have back : ∀ j c1, (ρ.set i (Slot.own c'))[j]? = some (Slot.own c1) → ∃ c2, ρ[j]? = some (Slot.own c2) := fun j c1 w => by
      by_cases z : i = j
      · subst z; exact ⟨c, e1⟩
      · rw [List.getElem?_set_ne z] at w; exact ⟨c1, w⟩
    obtain ⟨d1, w1⟩ := back j c1 a1
    obtain ⟨d2, w2⟩ := back k c2 a2
    exact h.s.dist j k d1 d2 q w1 w2 a3 a4
  · by_cases z : i = j
    · subst z
      rw [e2] at a2; cases a2
      refine ⟨n.1, fun C dx fs w => ?_⟩
      have w' : some o = some (HO.ins C dx fs) := upd_same.symm.trans w
      obtain ⟨fs', y⟩ := hins C dx fs (Option.some.inj w')
      exact n.2 C dx fs' (by rw [hH, y])
    · rw [List.getElem?_set_ne z] at a1
      have m := h.new j c1 q a1 a2
      have nq : q ≠ p := fun w => by subst w; exact z (h.s.dist i j c c1 q e1 a1 e2 a2)
      exact ⟨m.1, fun C dx fs w => m.2 C dx fs ((upd_ne nq).symm.trans w)⟩
/-- x.append(e), x one's own list -/
def sApp (i : Nat) (m : M D) : MS := fun ρ S => match ρ[i]? with
  | some (.own (.lst xs)) => rBind (m ρ S) ρ fun d S' => if xs.length < 1000000 then .nx (ρ.set i (.own (.lst (xs ++ [d])))) S' else .bad
  | _ => .bad
theorem sig_of {i : Nat} {v : V} (e1 : (σ[i]?).join = some v) : σ[i]? = some (some v) := by
  cases z : σ[i]? with
  | none => rw [z] at e1; cases e1
  | some o => rw [z] at e1; rw [show o = some v from e1]
theorem ds_app {i : Nat} {o : Expr} {m : M D} {apos cpos : Pos} (po : PE X o (tVar i)) (h : DV X e m) (hs : starEach (e :: []) X.env = (false, eval e X.env) :: starEach [] X.env := by rfl)
    (pb : ∀ {ta : TA}, PA X [e] ta → PE X (.Call (.Attribute o "append" apos) [e] [] cpos) (tBM X.K "list" rAppend (tVar i) ta)) (hw : swapsWith (.Call (.Attribute o "append" apos) [e] [] cpos) none pos.line X.env = pure false := by rfl) : DS X (.Expr (.Call (.Attribute o "append" apos) [e] [] cpos) pos) (sApp i m) := ⟨fun W tk => by
  obtain ⟨t, pe, ra⟩ := (da_cons h da_nil hs).ex W tk
  refine ⟨_, ps_expr (pb pe) hw, fun E g σ ρ Dn rel h => ?_⟩
  unfold sApp at h
  split at h
  · rename_i xs q0
    obtain ⟨p, e1, f2, f3, vs, f4, f5⟩ := rel.s.slot i _ q0
    have e2 := sig_of e1
    refine ⟨_, e2, .inl ⟨rfl, _, SqL.of f4⟩, ?_⟩
    refine ra g σ ρ _ rel.s ?_
    unfold aCons
    rw [post_bind]
    refine (ends_bind rel h).imp (fun d S _ q => ?_) fun e S _ q => q
    show R.post (R.ok [d] S) _ _
    intro g' us es p1 r
    obtain ⟨v, rfl, r0⟩ := repL1 r
    have rel' := rel.post p1
    obtain ⟨p', b1, b2, b3, vs', b4, b5⟩ := rel'.s.slot i _ q0
    rw [e1] at b1; cases b1
    split at q
    · rename_i hlen
      have l := b5.length
      refine ⟨p, vs', v, rfl, rfl, b4, by rw [l, sizeLine_eq]; omega, ?_⟩
      refine q { g' with H := upd g'.H p (.lst (vs' ++ [v])) } σ es (rel'.mut q0 e2 b4 (fun _ z => by cases z) (fun _ z => by cases z) (fun C dx fs z => by cases z) ⟨_, upd_same, b5.append (.one r0)⟩)
    · exact q.elim
  · exact h.elim⟩

/-! ### if, return -/
def sIf (t : M Bool) (a b : MS) : MS := fun ρ S => rBind (t ρ S) ρ fun x S1 => bif x then a ρ S1 else b ρ S1
theorem ds_if {c : Expr} {as bs : List Stmt} {mt : M Bool} {a b : MS} (hc : DT X c mt) (ha : DSs X as a) (hb : DSs X bs b) : DS X (.If c as bs pos) (sIf mt a b) := ⟨fun W tk => by
  obtain ⟨t, pt, rt⟩ := hc.ex W tk
  obtain ⟨ta, pa, ra⟩ := ha.ex W tk
  obtain ⟨tb, pb, rb⟩ := hb.ex W tk
  refine ⟨_, ps_if pt pa pb, fun E g σ ρ Dn rel h => ?_⟩
  refine rt g σ ρ _ rel.s ((ends_bind rel h).imp (fun x S _ q g' es p => ?_) fun e S _ q => q)
  subst es
  cases x with
  | true => rw [if_pos rfl]; exact ra E g' σ ρ Dn (rel.post p) q
  | false => rw [if_neg Bool.false_ne_true]; exact rb E g' σ ρ Dn (rel.post p) q⟩
def sRet (m : M Slot) : MS := fun ρ S => rBind (m ρ S) ρ fun s S' => .rt s S'
theorem ds_ret {m : M Slot} (h : DO X e m) : DS X (.Return (some e) pos) (sRet m) := ⟨fun W tk => by
  obtain ⟨t, pe, ro⟩ := h.ex W tk
  refine ⟨_, ps_ret pe, fun E g σ ρ Dn rel h => ?_⟩
  exact ro g σ ρ _ rel.s ((ends_bind rel h).imp (fun s S _ q g' v es p o => q g' v es (rel.p.trans p) (o.back rel.p)) fun e S _ q => q)⟩
def sRetN : MS := fun ρ S => .rt (.val .non) S
theorem ds_retN : DS X (.Return none pos) sRetN := ⟨fun W tk => ⟨_, ps_retN, fun E g σ ρ Dn rel h => h g .non rfl rel.p (by simp only [OutRep, Rep])⟩⟩
/-- return x: what x holds is handed on -/
def sRetV (i : Nat) : MS := fun ρ S => match ρ[i]? with
  | some .none => .bad
  | some s => .rt s S
  | none => .bad
theorem ds_retV {i : Nat} (pe : PE X e (tVar i)) : DS X (.Return (some e) pos) (sRetV i) := ⟨fun W tk => ⟨_, ps_ret pe, fun E g σ ρ Dn rel h => by
  unfold sRetV at h
  cases q : ρ[i]? with
  | none => rw [q] at h; exact h.elim
  | some s =>
    rw [q] at h
    have sl := rel.s.slot i _ q
    cases s with
    | none => exact h.elim
    | val d =>
      obtain ⟨v, e1, r⟩ := sl
      exact ⟨v, sig_of e1, h g v rfl rel.p r⟩
    | own c =>
      obtain ⟨p, e1, f2, f3, f4⟩ := sl
      exact ⟨_, sig_of e1, h g _ rfl rel.p ⟨p, rfl, rel.new i c p q (sig_of e1), f2, f3, f4⟩⟩⟩⟩
/-- from here on what x holds stays as it is -/
def sFrz (i : Nat) (m : MS) : MS := fun ρ S => match ρ[i]? with
  | some (.own c) => m (ρ.set i (.val c.d)) S
  | _ => m ρ S
theorem Rel.frz {i : Nat} {c : Cell} (h : Rel K E g σ ρ) (e1 : ρ[i]? = some (.own c)) : ∃ g', g'.H = g.H ∧ g'.S = g.S ∧ Rel K E g' σ (ρ.set i (.val c.d)) := by
  obtain ⟨p, f1, f2, f3, f4⟩ := h.s.slot i _ e1
  have e2 := sig_of f1
  have n := h.new i c p e1 e2
  obtain ⟨g', P, eH, eS, r, eio, lF, only⟩ := OutRep.frz h.p (s := .own c) ⟨p, rfl, n, f2, f3, f4⟩
  have pre : Pre g.io g'.io := by rw [eio]; exact Pre.refl _
  have hl : i < ρ.length := (List.getElem?_eq_some_iff.mp e1).1
  have cell : ∀ q c1, q ≠ p → g.F q = none → q ∉ g.io → CellRep K g q c1 → g'.F q = none ∧ q ∉ g'.io ∧ CellRep K g' q c1 := fun q c1 nq b2 b3 b4 => by
    refine ⟨?_, by rw [eio]; exact b3, ?_⟩
    · cases z : g'.F q with
      | none => rfl
      | some u =>
        rcases only q u z with y | y | ⟨x, rfl⟩
        · rw [b2] at y; cases y
        · cases y; exact absurd rfl nq
        · have y := P.ok.le _ _ z
          rw [eH] at y
          cases c1 with
          | lst xs => obtain ⟨vs, a, _⟩ := b4; rw [a] at y; cases y
          | dic xs => obtain ⟨vs, a, _⟩ := b4; rw [a] at y; cases y
          | obj c fs => obtain ⟨dx, vs, a, _⟩ := b4; rw [a] at y; cases y
    · cases c1 with
      | lst xs => obtain ⟨vs, a, b⟩ := b4; exact ⟨vs, by rw [eH]; exact a, RepL.mono lF pre _ b⟩
      | dic xs => obtain ⟨vs, a, b⟩ := b4; exact ⟨vs, by rw [eH]; exact a, RepK.mono lF pre _ b⟩
      | obj c fs => obtain ⟨dx, vs, a, a2, b⟩ := b4; exact ⟨dx, vs, by rw [eH]; exact a, by rw [eH]; exact a2, RepF.mono lF pre _ b⟩
  have back : ∀ j c1, (ρ.set i (Slot.val c.d))[j]? = some (Slot.own c1) → i ≠ j ∧ ρ[j]? = some (Slot.own c1) := fun j c1 w => by
    by_cases z : i = j
    · subst z; rw [List.getElem?_set_self hl] at w; cases w
    · rw [List.getElem?_set_ne z] at w; exact ⟨z, w⟩
  refine ⟨g', eH, eS, ⟨⟨P.ok, by simp [h.s.len], fun j s e => ?_, fun j k c1 c2 q a1 a2 a3 a4 => ?_⟩, P, fun j c1 q a1 a2 => ?_⟩⟩
  · by_cases z : i = j
    · subst z
      rw [List.getElem?_set_self hl] at e; cases e
      rw [e2]
      exact ⟨_, rfl, r⟩
    · rw [List.getElem?_set_ne z] at e
      have y := h.s.slot j s e
      cases s with
      | none => trivial
      | val d => obtain ⟨v, b1, b2⟩ := y; exact ⟨v, b1, Rep.mono lF pre d b2⟩
      | own c1 =>
        obtain ⟨q, b1, b2, b3, b4⟩ := y
        have nq : q ≠ p := fun w => by subst w; exact z (h.s.dist i j c c1 q e1 e e2 (sig_of b1))
        exact ⟨q, b1, cell q c1 nq b2 b3 b4⟩
  · obtain ⟨_, w1⟩ := back j c1 a1
    obtain ⟨_, w2⟩ := back k c2 a2
    exact h.s.dist j k c1 c2 q w1 w2 a3 a4
  · obtain ⟨_, w1⟩ := back j c1 a1
    obtain ⟨m1, m2⟩ := h.new j c1 q w1 a2
    exact ⟨m1, fun C dx fs w => m2 C dx fs (by rw [eH] at w; exact w)⟩
theorem rs_frz {t : TS} {W : WX} {m : MS} (i : Nat) (h : RSt K t W m) : RSt K t W (sFrz i m) := fun E g σ ρ Dn rel q => by
  unfold sFrz at q
  split at q
  · rename_i c e
    obtain ⟨g', eH, eS, rel'⟩ := rel.frz e
    have z := h E g' σ _ Dn rel' (by rw [eS]; exact q)
    rw [eH] at z; exact z
  · exact h E g σ ρ Dn rel q
theorem ds_frz {m : MS} (i : Nat) (h : DS X st m) : DS X st (sFrz i m) := ⟨fun W tk => by
  obtain ⟨t, pe, ra⟩ := h.ex W tk; exact ⟨t, pe, rs_frz i ra⟩⟩
theorem dss_frz {m : MS} (i : Nat) (h : DSs X sts m) : DSs X sts (sFrz i m) := ⟨fun W tk => by
  obtain ⟨t, pe, ra⟩ := h.ex W tk; exact ⟨t, pe, rs_frz i ra⟩⟩
end
end FW
end
section
set_option maxHeartbeats 2000000
/-! FW9: while, for, raise, try, a def, a call. -/
namespace FW
open PySem PySem.Spec PyProof.Rows L2
section
variable {X : Cx} {st : Stmt} {rest sts : List Stmt} {e : Expr} {pos : Pos} {K : PySem.W.Frag} {E g g' : G} {σ : L2.St} {ρ : List Slot}

/-! ### while -/
def sWhileN (t : M Bool) (b : MS) : Nat → MS
  | 0 => fun _ _ => .bad
  | n + 1 => fun ρ S => rBind (t ρ S) ρ fun x S1 => bif x then (match b ρ S1 with
    | .nx ρ' S' => sWhileN t b n ρ' S'
    | .ct ρ' S' => sWhileN t b n ρ' S'
    | .bk ρ' S' => .nx ρ' S'
    | r => r) else .nx ρ S1
theorem sWhileN_mono {t : M Bool} {b : MS} : ∀ {n m : Nat} {ρ : List Slot} {S : Sto}, n ≤ m → sWhileN t b n ρ S ≠ .bad → sWhileN t b m ρ S = sWhileN t b n ρ S
  | 0, _, _, _, _, h => absurd rfl h
  | n + 1, 0, _, _, l, _ => absurd l (Nat.not_succ_le_zero n)
  | n + 1, m + 1, ρ, S, l, h => by
    simp only [sWhileN] at h ⊢
    cases q : t ρ S with
    | ok x S1 =>
      rw [q] at h
      cases x with
      | false => rfl
      | true =>
        simp only [rBind, cond_true] at h ⊢
        cases z : b ρ S1 with
        | nx ρ' S' => rw [z] at h; exact sWhileN_mono (Nat.le_of_succ_le_succ l) h
        | ct ρ' S' => rw [z] at h; exact sWhileN_mono (Nat.le_of_succ_le_succ l) h
        | _ => rfl
    | err e S1 => rfl
    | bad => rfl
open Classical in
noncomputable def sWhile (t : M Bool) (b : MS) : MS := fun ρ S => if h : ∃ n, sWhileN t b n ρ S ≠ .bad then sWhileN t b (choose h) ρ S else .bad
theorem sWhile_of {t : M Bool} {b : MS} {n : Nat} {ρ : List Slot} {S : Sto} (h : sWhileN t b n ρ S ≠ .bad) : sWhile t b ρ S = sWhileN t b n ρ S := by
  have hx : ∃ n, sWhileN t b n ρ S ≠ .bad := ⟨n, h⟩
  unfold sWhile
  rw [dif_pos hx]
  have h2 := Classical.choose_spec hx
  rcases Nat.le_total n (Classical.choose hx) with l | l
  · exact sWhileN_mono l h
  · exact (sWhileN_mono l h2).symm
theorem sWhile_ex {t : M Bool} {b : MS} {ρ : List Slot} {S : Sto} (h : sWhile t b ρ S ≠ .bad) : ∃ n, sWhile t b ρ S = sWhileN t b n ρ S := by
  unfold sWhile at h ⊢
  split
  · exact ⟨_, rfl⟩
  · rename_i q; rw [dif_neg q] at h; exact absurd rfl h
theorem sWhile_eq {t : M Bool} {b : MS} {ρ : List Slot} {S : Sto} : sWhile t b ρ S = rBind (t ρ S) ρ fun x S1 => bif x then (match b ρ S1 with
    | .nx ρ' S' => sWhile t b ρ' S'
    | .ct ρ' S' => sWhile t b ρ' S'
    | .bk ρ' S' => .nx ρ' S'
    | r => r) else .nx ρ S1 := by
  have up : ∀ {ρ' : List Slot} {S' : Sto} (n : Nat), sWhileN t b n ρ' S' = .bad ∨ sWhileN t b n ρ' S' = sWhile t b ρ' S' := fun {ρ' S'} n => by
    by_cases h : sWhileN t b n ρ' S' = .bad
    · exact .inl h
    · exact .inr (sWhile_of h).symm
  cases q : t ρ S with
  | err e S1 =>
    have z : sWhileN t b 1 ρ S = .ex e ρ S1 := by simp only [sWhileN, q, rBind]
    rw [sWhile_of (n := 1) (by rw [z]; exact fun h => nomatch h), z]; rfl
  | bad =>
    by_cases h : sWhile t b ρ S = .bad
    · exact h
    · obtain ⟨n, e⟩ := sWhile_ex h
      rw [e]
      cases n with
      | zero => rfl
      | succ n => simp only [sWhileN, q, rBind]
  | ok x S1 =>
    cases x with
    | false =>
      have z : sWhileN t b 1 ρ S = .nx ρ S1 := by simp only [sWhileN, q, rBind, cond_false]
      rw [sWhile_of (n := 1) (by rw [z]; exact fun h => nomatch h), z]; rfl
    | true =>
      simp only [rBind, cond_true]
      have one : ∀ n, sWhileN t b (n + 1) ρ S = (match b ρ S1 with
        | .nx ρ' S' => sWhileN t b n ρ' S'
        | .ct ρ' S' => sWhileN t b n ρ' S'
        | .bk ρ' S' => .nx ρ' S'
        | r => r) := fun n => by simp only [sWhileN, q, rBind, cond_true]
      have loop : ∀ (ρ' : List Slot) (S' : Sto), (∀ n, sWhileN t b (n + 1) ρ S = sWhileN t b n ρ' S') → sWhile t b ρ S = sWhile t b ρ' S' := fun ρ' S' one => by
        by_cases h : sWhile t b ρ' S' = .bad
        · by_cases h2 : sWhile t b ρ S = .bad
          · rw [h, h2]
          · obtain ⟨n, e⟩ := sWhile_ex h2
            cases n with
            | zero => rw [e] at h2; exact absurd rfl h2
            | succ n =>
              rw [e, one n] at h2
              rw [sWhile_of h2] at h
              exact absurd h h2
        · obtain ⟨n, e⟩ := sWhile_ex h
          rw [e] at h ⊢
          rw [← one n] at h ⊢
          exact sWhile_of h
      cases z : b ρ S1 with
      | nx ρ' S' => exact loop ρ' S' fun n => by rw [one n, z]
      | ct ρ' S' => exact loop ρ' S' fun n => by rw [one n, z]
      | bk ρ' S' =>
        have y : sWhileN t b 1 ρ S = .nx ρ' S' := by rw [one 0, z]
        rw [sWhile_of (n := 1) (by rw [y]; exact fun h => nomatch h), y]
      | rt v S' =>
        have y : sWhileN t b 1 ρ S = .rt v S' := by rw [one 0, z]
        rw [sWhile_of (n := 1) (by rw [y]; exact fun h => nomatch h), y]
      | ex e ρ' S' =>
        have y : sWhileN t b 1 ρ S = .ex e ρ' S' := by rw [one 0, z]
        rw [sWhile_of (n := 1) (by rw [y]; exact fun h => nomatch h), y]
      | bad =>
        by_cases h : sWhile t b ρ S = .bad
        · exact h
        · obtain ⟨n, e⟩ := sWhile_ex h
          rw [e]
          cases n with
          | zero => rfl
          | succ n => rw [one n, z]
theorem ds_while {c : Expr} {body : List Stmt} {mt : M Bool} {mb : MS} (hp : PassesOwn (model X.prog X.w) X.A X.env X.xe) (hc : DT X c mt) (hb : DSs X body mb) : DS X (.While c body [] pos) (sWhile mt mb) := ⟨fun W tk => by
  obtain ⟨t, pt, rt⟩ := hc.ex W tk
  obtain ⟨tb, pb, rb⟩ := hb.ex W tk
  refine ⟨_, ps_while hp pt pb, fun E g σ ρ Dn rel h => ?_⟩
  have nb : sWhile mt mb ρ g.S ≠ .bad := fun z => by rw [z] at h; exact h
  obtain ⟨n, e⟩ := sWhile_ex nb
  rw [e] at h
  refine ⟨fun m σ' H' => ∃ g' ρ', g'.H = H' ∧ Rel X.K E g' σ' ρ' ∧ (sWhileN mt mb m ρ' g'.S).ends X.K E W Dn, ⟨n, g, ρ, rfl, rel, h⟩, ?_⟩
  rintro m σ1 H1 ⟨g1, ρ1, rfl, rel1, h1⟩
  cases m with
  | zero => exact h1.elim
  | succ m =>
    simp only [sWhileN] at h1
    refine rt g1 σ1 ρ1 _ rel1.s ((ends_bind rel1 h1).imp (fun x S _ q g2 es p => ?_) fun e S _ q => q)
    have rel2 := rel1.post p
    cases x with
    | false =>
      rw [if_neg Bool.false_ne_true]
      exact q g2 σ1 es rel2
    | true =>
      rw [if_pos rfl]
      simp only [cond_true] at q
      refine ⟨fun σ' H' => ∃ g' ρ', g'.H = H' ∧ Rel X.K E g' σ' ρ' ∧ (sWhileN mt mb m ρ' g'.S).ends X.K E W Dn, fun σ' H' ⟨g', ρ', a, b, c⟩ => ⟨m, Nat.lt_succ_self m, g', ρ', a, b, c⟩, ?_⟩
      refine rb E g2 σ1 ρ1 _ rel2 ?_
      rw [es]
      cases z : mb ρ1 S with
      | nx ρ' S' => rw [z] at q; exact fun g3 σ3 es3 rel3 => ⟨g3, ρ', rfl, rel3, by rw [es3]; exact q⟩
      | ct ρ' S' => rw [z] at q; exact fun g3 σ3 es3 rel3 => ⟨g3, ρ', rfl, rel3, by rw [es3]; exact q⟩
      | bk ρ' S' => rw [z] at q; exact q
      | rt v S' => rw [z] at q; exact q
      | ex e ρ' S' => rw [z] at q; exact q
      | bad => rw [z] at q; exact q⟩

/-! ### for -/
/-- the entry E, with what had come to stand by g -/
def G.mid (E g : G) : G := { F := g.F, H := E.H, io := g.io, S := g.S }
theorem Post.of_mid {g1 : G} (p1 : Post K E g1) (p : Post K (E.mid g1) g) : Post K E g where
  ok := p.ok
  leF := p1.leF.trans p.leF
  pre := p1.pre.trans p.pre
  fr := fun a u e n => p.fr a u e fun m => by
    rcases p1.io a m with z | z
    · exact n z
    · rw [z] at e; cases e
  fz := fun a u e => by
    rcases p.fz a u e with z | z | z
    · exact p1.fz a u z
    · exact .inr (.inl z)
    · rcases p1.io a z with y | y
      · exact .inr (.inr y)
      · exact .inr (.inl y)
  io := fun a m => by
    rcases p.io a m with z | z
    · exact p1.io a z
    · exact .inr z
  dom := p.dom
theorem Post.mid {g1 : G} (p1 : Post K E g1) (p : Post K g1 g) : Post K (E.mid g1) g where
  ok := p.ok
  leF := p.leF
  pre := p.pre
  fr := fun a u e n => (p1.trans p).fr a u e fun m => n (p1.pre.mem m)
  fz := fun a u e => by
    rcases (p1.trans p).fz a u e with z | z | z
    · exact .inl (p1.leF _ _ z)
    · exact .inr (.inl z)
    · exact .inr (.inr (p1.pre.mem z))
  io := fun a m => by
    rcases (p1.trans p).io a m with z | z
    · exact .inl (p1.pre.mem z)
    · exact .inr z
  dom := (p1.trans p).dom
theorem Rel.of_mid {g1 : G} (p1 : Post K E g1) (h : Rel K (E.mid g1) g σ ρ) : Rel K E g σ ρ := ⟨h.s, p1.of_mid h.p, h.new⟩
theorem Rel.mid (h : Rel K E g σ ρ) : Rel K (E.mid g) g σ ρ := ⟨h.s, h.p.mid (Post.refl h.s.ok), h.new⟩
theorem RS.ends.mid {W : WX} {Dn : Ends} {r : RS} {g1 : G} (p1 : Post K E g1) (h : r.ends K E W Dn) : r.ends K (E.mid g1) W Dn := by
  cases r with
  | nx ρ S => exact fun g σ es rel => h g σ es (rel.of_mid p1)
  | bk ρ S => exact fun g σ es rel => h g σ es (rel.of_mid p1)
  | ct ρ S => exact fun g σ es rel => h g σ es (rel.of_mid p1)
  | rt s S => exact fun g v es p o => h g v es (p1.of_mid p) (by cases s <;> exact o)
  | ex e ρ S => exact fun g σ c dd es rel x => h g σ c dd es (rel.of_mid p1) x
  | bad => exact h
def sForL (gm : D → List Slot → Option (List Slot)) (b : MS) : List D → MS
  | [] => sNext
  | x :: xs => fun ρ S => match gm x ρ with
    | none => .bad
    | some ρ1 => match b ρ1 S with
      | .nx ρ' S' => sForL gm b xs ρ' S'
      | .ct ρ' S' => sForL gm b xs ρ' S'
      | .bk ρ' S' => .nx ρ' S'
      | r => r
def sFor (mi : M (List D)) (gm : D → List Slot → Option (List Slot)) (b : MS) : MS := fun ρ S => rBind (mi ρ S) ρ fun xs S1 => sForL gm b xs ρ S1
theorem ds_for {tg iter : Expr} {body : List Stmt} {gt : TG} {gm : D → List Slot → Option (List Slot)} {mi : M (List D)} {mb : MS} (hp : PassesOwn (model X.prog X.w) X.A X.env X.xe) (hc : X.calm = true) (hi : DI X tg iter mi) (hg : PG X tg gt) (rg : RgS X.K gt gm) (hb : DSs X body mb)
    (hs : ∀ x, foldedSetIterable iter X.env x = pure x := by intro _; rfl) : DS X (.For tg iter body [] pos) (sFor mi gm mb) := ⟨fun W tk => by
  obtain ⟨wi, pi, ri⟩ := hi.ex W tk
  obtain ⟨tb, pb, rb⟩ := hb.ex W tk
  refine ⟨_, ps_for hp hc pi hg pb hs, fun E g σ ρ Dn rel h => ?_⟩
  refine ri g σ ρ _ rel.s ((ends_bind rel h).imp (fun xs S _ q g1 J es p it => ?_) fun e S _ q => q)
  have rel1 := (rel.post p).mid
  have q := RS.ends.mid (rel.post p).p q
  obtain ⟨E1, eE⟩ : ∃ E1, E1 = E.mid g1 := ⟨_, rfl⟩
  have eF : E1.F = g1.F := by rw [eE]; rfl
  have eio : E1.io = g1.io := by rw [eE]; rfl
  rw [← eE] at rel1 q
  refine ⟨fun i m σ' H' => ∃ g' ρ', g'.H = H' ∧ Rel X.K E1 g' σ' ρ' ∧ m = xs.length - i ∧ (sForL gm mb (xs.drop i) ρ' g'.S).ends X.K E1 W Dn,
    ⟨xs.length, g1, ρ, rfl, rel1, rfl, by rw [es]; exact q⟩, ?_⟩
  rintro i m σ1 H1 ⟨g2, ρ1, rfl, rel2, rfl, h1⟩
  have le : Le g1.F g2.F := eF ▸ rel2.p.leF
  have pr : Pre g1.io g2.io := eio ▸ rel2.p.pre
  by_cases hi : i < xs.length
  · right
    refine ⟨it.go g2 rel2.ok le pr i hi, fun σ' H' => ∃ g' ρ', g'.H = H' ∧ Rel X.K E1 g' σ' ρ' ∧ (sForL gm mb (xs.drop (i + 1)) ρ' g'.S).ends X.K E1 W Dn,
      fun σ' H' ⟨g', ρ', a, b, e⟩ => ⟨xs.length - (i + 1), by omega, g', ρ', a, b, rfl, e⟩, fun x H' y => ?_⟩
    obtain ⟨g3, rfl, eS, p3, d, hd, r3⟩ := it.yld g2 rel2.ok le pr i x H' hi y
    have ed : xs[i] = d := by rw [List.getElem?_eq_getElem hi] at hd; exact Option.some.inj hd
    rw [List.drop_eq_getElem_cons hi, ed] at h1
    simp only [sForL] at h1
    cases z : gm d ρ1 with
    | none => rw [z] at h1; exact h1.elim
    | some ρ2 =>
      rw [z] at h1
      simp only at h1
      have rel3 := rel2.post p3
      refine rg.run E1 g3 σ1 ρ1 x d ρ2 _ rel3 r3 z fun σ4 rel4 => ?_
      refine rb E1 g3 σ4 ρ2 _ rel4 ?_
      rw [eS]
      cases y : mb ρ2 g2.S with
      | nx ρ' S' => rw [y] at h1; exact fun g5 σ5 es5 rel5 => ⟨g5, ρ', rfl, rel5, by rw [es5]; exact h1⟩
      | ct ρ' S' => rw [y] at h1; exact fun g5 σ5 es5 rel5 => ⟨g5, ρ', rfl, rel5, by rw [es5]; exact h1⟩
      | bk ρ' S' => rw [y] at h1; exact h1
      | rt v S' => rw [y] at h1; exact h1
      | ex e ρ' S' => rw [y] at h1; exact h1
      | bad => rw [y] at h1; exact h1
  · left
    rw [List.drop_eq_nil_of_le (by omega)] at h1
    exact ⟨it.stop g2 rel2.ok le pr i (by omega), h1 g2 σ1 rfl rel2⟩⟩
end
end FW
end
section
set_option maxHeartbeats 2000000
/-! FW10: raise; try .. except C as e: x = e, the exception tracked from then on. -/
namespace FW
open PySem PySem.Spec PyProof.Rows L2
section
variable {X : Cx} {st : Stmt} {rest sts : List Stmt} {e : Expr} {pos : Pos} {K : PySem.W.Frag} {E g g' : G} {σ : L2.St} {ρ : List Slot}
/-! ### raise -/
def sRaise (c : String) : MS := fun ρ S => .ex ⟨c, []⟩ ρ S
theorem ds_raise {c : String} {x m : Str} {j : Nat} {p p2 pos' : Pos} (hc : X.calm = true) (hx : (He.Fa.exc (Str.ofString c)).ok X.K = true) (gC : X.mg x = some (.ref (He.ga X.K (Str.ofString c)))) (hg : Gl X x) (hdb : (x == ("__debug__" : Str)) = false := by decide) :
    DS X (.Raise (some (.Call (.Name x p) [.Constant (.str m) j p2] [] pos')) none pos) (sRaise c) := ⟨fun W tk => by
  obtain ⟨h1, h2, h3, h4⟩ := He.exc_ok hx
  exact ⟨_, ps_raise hc tk (pmk_own PySem.F.excBase_ValueError h1 gC h2 (raises_own h3 h4) hg hdb), fun E g σ ρ Dn rel h => h g σ _ none rfl rel ⟨rfl, .inl ⟨rfl, rfl⟩⟩⟩⟩

/-! ### an object is tracked -/
theorem inv_track {pins : List (Addr × Obj)} {H : Hp} {s : Shared} {a : Addr} {o : HO} (I : Inv X pins σ H s) (na : H a = none) (n0 : X.s_0.heap.get? a = none) (nL : a ≠ X.env.locals) (np : ∀ p ∈ X.pn ++ pins, p.1 ≠ a)
    (nc : ∀ x c, X.env.cells.lookup x = some c → c ≠ a) (new : ObjOk X.prog X.w (upd H a o) s.heap a o) : Inv X pins σ (upd H a o) s := by
  refine ⟨I.ok, I.os, I.bare, ⟨I.base.keep, I.base.slot, fun b u e n hx => ?_, I.base.there, fun b xs e => ?_, fun b u w e => ?_, fun b ps e => ?_⟩, I.loc, I.cell, ?_, fun x c e => ?_, fun p hp => ?_, fun b ob e => ?_, I.len⟩
  · have : b ≠ a := fun z => by subst z; rw [n0] at e; cases e
    rw [upd_ne this]; exact I.base.free b u e n hx
  · have z := I.base.tups b xs e
    rw [upd_ne (ne_of_none z na)]; exact z
  · have z := I.base.frzs b u w e
    rw [upd_ne (ne_of_none z na)]; exact z
  · obtain ⟨more, z⟩ := I.base.tbls b ps e
    exact ⟨more, by rw [upd_ne (ne_of_none z na)]; exact z⟩
  · rw [upd_ne nL.symm]; exact I.free
  · rw [upd_ne (nc x c e)]; exact I.freeC x c e
  · obtain ⟨h1, h2, h3, h4, h5⟩ := I.pin p hp
    exact ⟨h1, by rw [upd_ne (np p hp)]; exact h2, h3, h4, h5⟩
  · by_cases hb : b = a
    · subst hb; rw [upd_same] at e; cases e; exact new
    · rw [upd_ne hb] at e
      exact (I.hok b ob e).stay (fun c u _ q => q) (fun c q => by rw [upd_ne (ne_of_none q na)]; exact q) fun c xs q => by rw [upd_ne (ne_of_none q na)]; exact q
theorem pin_more {pins : List (Addr × Obj)} {H : Hp} {s : Shared} {a : Addr} {oe : Obj} {vs : Array Value} (I : Inv X pins σ H s) (ha : s.heap.get? a = some oe) (hd : oe.data = .fields vs) (na : H a = none) (nL : a ≠ X.env.locals) (nF : a ∉ X.fs) :
    Inv X (pins ++ [(a, oe)]) σ H s := I.pins_of fun p hp => by
  rcases List.mem_append.mp hp with z | z
  · exact I.pin p (List.mem_append_right _ z)
  · have e : p = (a, oe) := by simpa using z
    subst e
    exact ⟨ha, na, nL, nF, fun v z => by rw [show (a, oe).2.data = .fields vs from hd] at z; cases z⟩

/-! ### try: .., except c as n: y = n -/
def wAsT (K : PySem.W.Frag) (c : Value) (i j : Nat) (Wout : WX) (D : Ends) : WX := fun cls d σ H =>
  ∃ b, PySem.W.exmOne K cls c = some b ∧ (b = true → ∀ a, H a = none → i < σ.length → D.nx (((σ.set i (some (.ref a))).set j (some (.ref a))).set i none) (upd H a (exho a cls d))) ∧ (b = false → Wout cls d σ H)
/-- an exception of this frame's try body, landed: where it stands, that it is new, that no pin is its -/
structure Caught (X : Cx) (pins : List (Addr × Obj)) (σ : L2.St) (H : Hp) (a : Addr) (cls : Value) (d : Option Addr) (B : Heap) (s : Shared) : Prop where
  inv : Inv X pins σ H s
  fly : HandSPX.FlyingZ B (X.env :: X.outer) a (Zc cls d) s.heap
  na : H a = none
  old : X.s_0.heap.get? a = none
  pin : ∀ p ∈ X.pn ++ pins, p.1 ≠ a
section
variable {pins : List (Addr × Obj)} {H : Hp} {a : Addr} {cls : Value} {d : Option Addr} {B : Heap} {s : Shared}
theorem fly_frames {l : List Env} {h : Heap} (f : HandSPX.FlyingZ B l a (Zc cls d) h) : a ∉ frs l := by
  obtain ⟨oe, vs, there, _, fields⟩ := f.there
  intro m
  obtain ⟨_, other, at_, nofields⟩ := f.2.2.1.mem m
  rw [there] at at_
  cases at_
  exact nofields vs fields
theorem Caught.locals (c : Caught X pins σ H a cls d B s) (hf : X.env.frame = some X.env.locals) : a ≠ X.env.locals ∧ a ∉ X.fs := by
  have no := fly_frames c.fly
  unfold frs at no
  rw [List.filterMap_cons, hf] at no
  exact ⟨fun z => no (z ▸ List.mem_cons_self), fun m => no (List.mem_cons_of_mem _ m)⟩
/-- the same exception over a heap that differs in slots and flights alone -/
theorem Caught.to {sI : Shared} (J : Inv X pins σ H sI) (hs : X.stack = X.env :: X.outer) (hex : X.ex = []) (nb : ∀ b o, sI.heap.get? b = some o → b ∉ frs X.stack → B.get? b = some o) (up : sI.heap.UpToSlots s.heap) (eo : s.os = sI.os) (bare : AllBare s.gens) (na : H a = none)
    (fly : HandSPX.FlyingZ B (X.env :: X.outer) a (Zc cls d) s.heap) : Caught X pins σ H a cls d B s := by
  have gone : sI.heap.get? a = none := by
    cases q : sI.heap.get? a with
    | none => rfl
    | some o => exact absurd (nb a o q (hs ▸ fly_frames fly)) (by rw [fly.2.1]; exact fun z => nomatch z)
  refine ⟨J.landed nb fly.1 up eo bare, fly, na, ?_, fun p hp z => ?_⟩
  · cases q : X.s_0.heap.get? a with
    | none => rfl
    | some o =>
      have still := J.base.there a o q (by rw [hex]; exact List.not_mem_nil)
      rw [gone] at still
      exact still.elim fun _ w => nomatch w
  · have w := (J.pin p hp).1
    rw [z, gone] at w
    cases w
/-- the clause's class is asked -/
theorem Caught.ask {x : Str} {c : Value} {np : Pos} {b : Bool} {Q : Bool → Shared → Prop} {E' : Value → Shared → Prop} (k : Caught X pins σ H a cls d B s) (hf : X.env.frame = some X.env.locals) (hc : Names X x c) (hb : PySem.W.exmOne X.K cls c = some b) (q : Q b s) :
    wpAny (model X.prog X.w) (X.A.mark (some (.ref a))) (eval (.Name x np) X.env) (fun v s1 => wpAny (model X.prog X.w) (X.A.mark (some (.ref a))) (excMatches (.ref a) v) Q E' s1) E' s := by
  obtain ⟨oe, vs, there, z, fields⟩ := k.fly.there
  obtain ⟨n1, n2⟩ := k.locals hf
  have inside := k.inv.suite there fields k.na n1 n2
  have says := PySem.W.exm_one (M := model X.prog X.w) k.inv.kIn (fun _ _ _ _ keep w => wpAny_typeOf_ref (keep _ _ there) (z.1.symm ▸ w)) hb
  have go := says.here (A := X.A.mark (some (.ref a))) (E := E') q
  rcases hc with ⟨hg, dbg, g | ⟨g, v, nm⟩⟩
  · exact ld_glob inside hg g go dbg
  · exact ld_blt inside hg g v go nm dbg
/-- no clause is left: it goes on -/
theorem Caught.on {Wout : WX} {Q : Flow → Shared → Prop} {sI : Shared} (k : Caught X pins σ H a cls d B s) (hs : X.stack = X.env :: X.outer) (hf : X.env.frame = some X.env.locals) (tk : Takes X Wout) (J : Inv X pins σ H sI) (nb : ∀ b o, sI.heap.get? b = some o → b ∉ frs X.stack → B.get? b = some o)
    (up : sI.heap.UpToSlots s.heap) (eo : s.os = sI.os) (bare : AllBare s.gens) (w : Wout cls d σ H) : wpAny (model X.prog X.w) X.A (handleBy (.ref a) X.env []) Q X.xe s := by
  have away : wpAny (model X.prog X.w) X.A (setFlight (.ref a) X.env.frame) (fun _ s4 => wpAny (model X.prog X.w) X.A (throw (.ref a) : Sem Flow) Q X.xe s4) X.xe s := by
    rw [hf]
    exact HandSPX.setFlight_upZ k.fly fun h4 held up4 => wpAny_throw (tk _ _ ⟨a, B, sI, pins, σ, H, cls, d, rfl, J, nb, up.trans up4, .inr (.inr (hs.symm ▸ held)), k.na, eo, bare, w⟩)
  refine wpAny_handleBy_nil ?_
  obtain ⟨_, _, _, oe, vs, Tr, _, _, there, _, fields, trace, _⟩ := k.fly
  unfold PySem.passOn
  refine wpAny_bind (wpAny_field there fields trace ?_)
  have some_trace : ¬ (Value.ref Tr == Value.none) = true := by simp
  rw [if_neg some_trace]
  first
    | exact wpAny_bind (wpAny_pure (wpAny_bind away))
    | exact wpAny_bind away
end
theorem ps_try_asT {x n y : Str} {c : Value} {i j : Nat} {body : List Stmt} {np py pn2 spos pos' : Pos} {tb : WX → TS} {Wout : WX} (hs : X.stack = X.env :: X.outer) (hf : X.env.frame = some X.env.locals) (hex : X.ex = []) (hN : X.N.Nodup) (hi : X.N[i]? = some n) (hln : X.env.kindOf n = some .local)
    (hc : Names X x c) (tk : Takes X Wout) (body_ok : ∀ (W : WX) (pn : List (Addr × Obj)) (xe : Value → Shared → Prop), Takes (X.tr pn xe) W → PassesOwn (model X.prog X.w) X.A X.env xe → PSs (X.tr pn xe) body (tb W))
    (suite_ok : ∀ (a : Addr) (pn : List (Addr × Obj)), PSs (X.suite a pn) [.Assign [.Name y py] (.Name n pn2) spos] (tAsg (tVar i) (gName j))) :
    PS X (.Try body [.ExceptHandler (some (.Name x np)) (some n) [.Assign [.Name y py] (.Name n pn2) spos] pos'] [] [] pos) (fun D σ H => tb (wAsT X.K c i j Wout D) D σ H) := ⟨fun pins s σ H D I h => by
  have fr : X.A.frames = some (X.env :: X.outer) := I.ok.frames.trans (congrArg some hs)
  refine wpAny_Try_except (wpAny_mono ((body_ok (wAsT X.K c i j Wout D) (X.pn ++ pins) _ (fun u s' air => ?_) PassesOwn.looking).run [] s σ H D (I.toTry _) h) (fun f s1 hsp => ?_) fun _ _ z => z)
  · obtain ⟨a, B, sI, _, σ', H', cls, d, rfl, J', nb, up, sky, na, eo, bare, b, hb, yes, no⟩ := air
    have J := J'.ofTry I.ok
    refine Sky.land Zc.steady fr hf (hs ▸ sky) fun h3 fly3 up3 => ?_
    have k3 : Caught X pins σ' H' a cls d B { s' with heap := h3 } := Caught.to J hs hex nb (up.trans up3) eo bare na fly3
    refine wpAny_handleBy_cons (codeAny_handlers_test (k3.ask hf hc hb ?_)) (fun z => nomatch z)
    cases b with
    | false => exact k3.on hs hf tk J nb (up.trans up3) eo bare (no rfl)
    | true =>
      refine codeAny_handlers_suite_as (HandSPX.lands_againZ fly3 fun h4 fly4 up4 => ?_)
      have k4 : Caught X pins σ' H' a cls d B { s' with heap := h4 } := Caught.to J hs hex nb ((up.trans up3).trans up4) eo bare na fly4
      obtain ⟨oe, vs, there, z, fields⟩ := fly4.there
      obtain ⟨n1, n2⟩ := k4.locals hf
      have room : i < σ'.length := by rw [J.len]; exact (List.getElem?_eq_some_iff.mp hi).1
      refine store_ok (X := X.suite a ((a, oe) :: (X.pn ++ pins))) (v := .ref a) (k4.inv.suite there fields na n1 n2) hN hi (.inl hln) rfl (fun s5 S5 => ?_) (.inr hln)
      let E : Ends := { nx := fun σ6 H6 => σ6 = (σ'.set i (some (.ref a))).set j (some (.ref a)) ∧ H6 = H', rt := fun _ _ => False, bk := fun _ _ => False, ct := fun _ _ => False }
      refine wpAny_mono ((suite_ok a ((a, oe) :: (X.pn ++ pins))).run [] s5 _ H' E S5 ⟨.ref a, by rw [List.getElem?_set_self room], rfl, rfl⟩) (fun f s6 out => ?_) fun _ _ z => z.elim
      cases f with
      | brk => exact out.elim fun _ w => w.elim fun _ w => w.2.elim
      | cont => exact out.elim fun _ w => w.elim fun _ w => w.2.elim
      | ret u => exact out.elim fun _ w => w.elim fun _ w => w.elim fun _ w => w.2.2.elim
      | next =>
        obtain ⟨σ6, H6, S6, rfl, rfl⟩ := out
        have p6 := S6.pin (a, oe) (List.mem_append_left _ List.mem_cons_self)
        refine gone_ok (pin_more (S6.unsuite I.ok) p6.1 fields p6.2.1 n1 n2) hN hi hln fun s7 J7 => ?_
        have p7 := J7.pin (a, oe) (List.mem_append_right _ (List.mem_append_right _ List.mem_cons_self))
        have J8 : Inv X pins _ H6 s7 := J7.pins_of fun p hp => J7.pin p (List.mem_append_right _ (List.mem_append_left _ hp))
        refine ⟨_, _, inv_track (a := a) (o := exho a cls d) J8 p7.2.1 k4.old n1 k4.pin (fun x1 c1 e1 z1 => ?_) ⟨⟨oe, p7.1, z, vs, fields⟩, ⟨oe, p7.1⟩, fun _ _ ⟨o1, w1, w2⟩ w3 => ⟨o1, w3 _ w1, w2⟩⟩, yes rfl a na room⟩
        obtain ⟨_, o1, at1, cell1⟩ := J8.cell x1 c1 e1
        rw [z1, p7.1] at at1
        cases at1
        rw [fields] at cell1
        cases cell1
  · cases f with
    | next =>
      obtain ⟨σ1, H1, K1, w⟩ := hsp
      exact wpAny_execs_nil ⟨σ1, H1, K1.ofTry I.ok, w⟩
    | brk => exact hsp.elim fun σ1 w => w.elim fun H1 w => ⟨σ1, H1, w.1.ofTry I.ok, w.2⟩
    | cont => exact hsp.elim fun σ1 w => w.elim fun H1 w => ⟨σ1, H1, w.1.ofTry I.ok, w.2⟩
    | ret u =>
      obtain ⟨v1, σ1, H1, K1, w1, w2⟩ := hsp
      exact ⟨v1, σ1, H1, K1.ofTry I.ok, w1, w2⟩⟩
/-- what the module's classes of exceptions answer to a clause -/
structure ExmOk (T : CT) (K : PySem.W.Frag) : Prop where
  exm : ∀ c ∈ T.ec, ∀ t ∈ T.ec, PySem.W.exmOne K (.ref (He.ga K (Str.ofString c))) (.ref (He.ga K (Str.ofString t))) = some ((T.mro c).contains t)
def exmD (T : CT) (c t : String) : Option Bool := if T.ec.contains c && T.ec.contains t then some ((T.mro c).contains t) else none
theorem exmD_ok {T : CT} (h : ExmOk T K) {c t : String} {b : Bool} (e : exmD T c t = some b) : PySem.W.exmOne K (.ref (He.ga K (Str.ofString c))) (.ref (He.ga K (Str.ofString t))) = some b := by
  unfold exmD at e
  split at e
  · rename_i q
    obtain ⟨q1, q2⟩ := Bool.and_eq_true_iff.mp q
    rw [← e]
    exact h.exm c (memS q1) t (memS q2)
  · cases e
def sTryAs (T : CT) (t : String) (i j : Nat) (m : MS) : MS := fun ρ S => match m ρ S with
  | .ex e ρ' S' => match exmD T e.c t with
    | some true => .nx ((ρ'.set i .none).set j (.val (.exc e.c e.fs))) S'
    | some false => .ex e ρ' S'
    | none => .bad
  | r => r
theorem Rel.none (h : Rel K E g σ ρ) (i : Nat) (o : Option V) : Rel K E g (σ.set i o) (ρ.set i .none) where
  s := {
    ok := h.s.ok
    len := by simp [h.s.len]
    slot := fun k s e => by
      by_cases z : i = k
      · subst z
        have hl : i < ρ.length := by have := (List.getElem?_eq_some_iff.mp e).1; simpa using this
        rw [List.getElem?_set_self hl] at e; cases e
        trivial
      · rw [List.getElem?_set_ne z] at e ⊢
        exact h.s.slot k s e
    dist := fun k l c c' p e1 e2 e3 e4 => by
      have ne : ∀ k c, (ρ.set i Slot.none)[k]? = some (Slot.own c) → i ≠ k := fun k c e z => by
        subst z
        have hl : i < ρ.length := by have := (List.getElem?_eq_some_iff.mp e).1; simpa using this
        rw [List.getElem?_set_self hl] at e; cases e
      have n1 := ne k c e1
      have n2 := ne l c' e2
      rw [List.getElem?_set_ne n1] at e1 e3
      rw [List.getElem?_set_ne n2] at e2 e4
      exact h.s.dist k l c c' p e1 e2 e3 e4 }
  p := h.p
  new := fun k c p e1 e2 => by
    by_cases z : i = k
    · subst z
      have hl : i < ρ.length := by have := (List.getElem?_eq_some_iff.mp e1).1; simpa using this
      rw [List.getElem?_set_self hl] at e1; cases e1
    · rw [List.getElem?_set_ne z] at e1 e2
      exact h.new k c p e1 e2
theorem ds_try_as {T : CT} {t : String} {x n y : Str} {i j : Nat} {body : List Stmt} {np py pn2 spos pos' : Pos} {m : MS} (hT : ExmOk T X.K) (hs : X.stack = X.env :: X.outer) (hf : X.env.frame = some X.env.locals) (hex : X.ex = []) (hN : X.N.Nodup) (hi : X.N[i]? = some n) (hln : X.env.kindOf n = some .local)
    (hj : X.N[j]? = some y) (hly : X.env.kindOf y = some .local) (hij : i ≠ j) (hc : Names X x (.ref (He.ga X.K (Str.ofString t))))
    (hb : ∀ (pn : List (Addr × Obj)) (xe : Value → Shared → Prop), PassesOwn (model X.prog X.w) X.A X.env xe → DSs (X.tr pn xe) body m)
    (hw : swapsWith (.Name n pn2) (some (.Name y py)) spos.line X.env = pure false := by rfl) (hd : (n == ("__debug__" : Str)) = false := by decide) (hcd : (n == ("__classdict__" : Str)) = false := by decide) :
    DS X (.Try body [.ExceptHandler (some (.Name x np)) (some n) [.Assign [.Name y py] (.Name n pn2) spos] pos'] [] [] pos) (sTryAs T t i j m) := ⟨fun W tk => by
  refine ⟨_, ps_try_asT (j := j) hs hf hex hN hi hln hc tk (tb := fun W' => tS X.K W' m) (fun W' pn xe tk' po => (hb pn xe po).ps tk') (fun a pn => ?_), fun E g σ ρ Dn rel h => ?_⟩
  · exact pss_one (ps_set (X := X.suite a pn) hN hj (.inl hly) (pe_var (X := X.suite a pn) hi (.inl hln) hd hcd) hw (.inr hly))
  · refine ⟨E, g, ρ, rfl, rel, ?_⟩
    unfold sTryAs at h
    cases q : m ρ g.S with
    | nx ρ' S' => rw [q] at h; exact h
    | bk ρ' S' => rw [q] at h; exact h
    | ct ρ' S' => rw [q] at h; exact h
    | rt s S' => rw [q] at h; exact h
    | bad => rw [q] at h; exact h
    | ex e ρ' S' =>
      rw [q] at h
      simp only at h
      intro g2 σ2 c dd es rel2 rx
      cases z : exmD T e.c t with
      | none => rw [z] at h; exact h.elim
      | some b =>
        rw [z] at h
        have he := exmD_ok hT z
        rw [← rx.1] at he
        refine ⟨b, he, fun eb a na hl => ?_, fun eb => ?_⟩
        · subst eb
          have P := Post.frz (K := X.K) rel2.ok (o := exho a c dd) na (fun x z => by cases z)
          have rel3 := rel2.post P
          have r : Rep X.K (g2.frz a (exho a c dd)).io (g2.frz a (exho a c dd)).F (.ref a) (.exc e.c e.fs) := by
            simp only [Rep]
            refine ⟨a, dd, rfl, ?_, ?_⟩
            · rw [← rx.1]; exact upd_same
            · rcases rx.2 with z | ⟨n, dx, fvs, e1, e2, r⟩
              · exact .inl z
              · exact .inr ⟨n, dx, fvs, e1, P.leF _ _ e2, RepF.mono P.leF P.pre _ r⟩
          have e1 : ((σ2.set i (some (.ref a))).set j (some (.ref a))).set i none = (σ2.set i none).set j (some (.ref a)) := by
            rw [List.set_comm _ _ hij.symm, List.set_set]
          rw [e1]
          exact h (g2.frz a (exho a c dd)) _ (show (g2.frz a (exho a c dd)).S = _ from es) ((rel3.none i none).setS (Post.refl rel3.ok) j (show OutRep X.K _ _ (.ref a) (.val (.exc e.c e.fs)) from r))
        · subst eb
          exact h g2 σ2 c dd es rel2 rx⟩
end
end FW
end
section
set_option maxHeartbeats 2000000
/-! FW11: a def, a call, a look at what is one's own. -/
namespace FW
open PySem PySem.Spec PyProof.Rows L2
abbrev MF := List D → Sto → R Slot
def spD (K : PySem.W.Frag) (n : Nat) (mf : MF) : Sp := fun vs H Q E => ∃ (g : G) (ds : List D), g.H = H ∧ Ok K g ∧ RepL K g.io g.F vs ds ∧ ds.length = n ∧
  (mf ds g.S).post (fun s S' => ∀ g' v, g'.S = S' → Post K g g' → OutRep K g g' v s → Q v g'.H) (fun e S' => ∀ g' c dd, g'.S = S' → Post K g g' → RepX K g' c dd e → E c dd g'.H)
def startD (N : List Str) (ds : List D) : List Slot := ds.map Slot.val ++ List.replicate (N.length - ds.length) .none
def mDef (N : List Str) (m : MS) : MF := fun ds S => match m (startD N ds) S with
  | .nx _ S' => .ok (.val .non) S'
  | .rt s S' => .ok s S'
  | .ex e _ S' => .err e S'
  | _ => .bad
section
variable {K : PySem.W.Frag} {E g g' : G} {σ : L2.St} {ρ : List Slot}
theorem rel_start {N : List Str} {vs : List V} {ds : List D} (ok : Ok K g) (r : RepL K g.io g.F vs ds) : Rel K g g (L2.start N vs) (startD N ds) := by
  have len := r.length
  have noown : ∀ (i : Nat) (c : Cell), (startD N ds)[i]? ≠ some (Slot.own c) := fun i c e => by
    unfold startD at e
    by_cases h : i < (ds.map Slot.val).length
    · rw [List.getElem?_append_left h, List.getElem?_map] at e
      cases q : ds[i]? with
      | none => rw [q] at e; cases e
      | some d => rw [q] at e; cases e
    · rw [List.getElem?_append_right (by omega), List.getElem?_replicate] at e
      split at e
      · cases e
      · cases e
  refine ⟨⟨ok, by simp [L2.start, startD, len], fun i s e => ?_, fun i j c c' p e1 => absurd e1 (noown i c)⟩, Post.refl ok, fun i c p e1 => absurd e1 (noown i c)⟩
  unfold startD at e
  unfold L2.start
  by_cases h : i < ds.length
  · rw [List.getElem?_append_left (by simpa using h), List.getElem?_map] at e
    obtain ⟨d, hd⟩ : ∃ d, ds[i]? = some d := ⟨ds[i], by simp [h]⟩
    rw [hd] at e; cases e
    obtain ⟨v, e2, q⟩ := r.get hd
    refine ⟨v, ?_, q⟩
    rw [List.getElem?_append_left (by simpa [len] using h), List.getElem?_map, e2]; rfl
  · rw [List.getElem?_append_right (by simpa using Nat.le_of_not_lt h), List.getElem?_replicate] at e
    split at e
    · cases e; trivial
    · cases e
theorem fn_def {P : Program} {w : World} {mg : Str → Option Value} {base : Heap} {x qual : Str} {params : Arguments} {body : List Stmt} {scope : Scope} {dvs : List V} {kws : List (Str × V)} {f : Addr} {fd : FuncData} {N ps : List Str} {k : Nat} {m : MS}
    (F : FunD K x qual params body scope dvs kws f fd) (S : FnScope N ps scope) (hb : ∀ (cdv : Value) (A : Around) (outer : List Env) (s : Shared) (H : Hp) (E : XK), Room k (A.deeper (envOfC qual scope s.heap.objs.size f cdv)) →
      DSs (cxOf (L2.CX P w) P w K mg base N qual scope f cdv A outer s H E) body m) : FnOk P w K mg base (L2.CX P w) (k + 1) f fd ps (spD K ps.length (mDef N m)) := by
  refine F.ok S (fun vs H Q E ⟨g, ds, _, _, r, l, _⟩ => r.length.trans l) fun cdv A outer s H vs Q E hr ⟨g, ds, eH, ok, r, l, q⟩ => ?_
  subst eH
  refine ⟨_, (hb cdv A outer s g.H E hr).ps (takes_of rfl rfl rfl rfl), g, g, _, rfl, rel_start ok r, ?_⟩
  unfold mDef at q
  cases z : m (startD N ds) g.S with
  | nx ρ' S' => rw [z] at q; exact fun g' σ es rel => q g' _ es rel.p (by simp only [OutRep, Rep])
  | rt v S' => rw [z] at q; exact fun g' u es p o => q g' u es p o
  | ex e ρ' S' => rw [z] at q; exact fun g' σ c dd es rel x => q g' c dd es rel.p x
  | bk ρ' S' => rw [z] at q; exact q.elim
  | ct ρ' S' => rw [z] at q; exact q.elim
  | bad => rw [z] at q; exact q.elim

/-! ### a call -/
/-- the module's function x of n parameters, what it does -/
structure DFn (P : Program) (w : World) (K : PySem.W.Frag) (mg : Str → Option Value) (base : Heap) (k : Nat) (x : Str) (n : Nat) (mf : MF) : Prop where
  ex : ∃ (f : Addr) (fd : FuncData) (ps : List Str), FnOk P w K mg base (L2.CX P w) k f fd ps (spD K n mf) ∧ mg x = some (.ref f) ∧ PySem.W.keepIn K (.ref f) = true ∧ Binds K fd ps []
theorem DFn.mono {P : Program} {w : World} {mg : Str → Option Value} {base : Heap} {k k' : Nat} {x : Str} {n : Nat} {mf : MF} (h : DFn P w K mg base k x n mf) (l : k ≤ k') : DFn P w K mg base k' x n mf := by
  obtain ⟨f, fd, ps, a, b⟩ := h.ex
  exact ⟨f, fd, ps, a.mono l, b⟩
def mFn (mf : MF) (ma : M (List D)) : M Slot := fun ρ S => (ma ρ S).bind mf
theorem do_call {X : Cx} {k n : Nat} {x : Str} {p pos : Pos} {e : Expr} {es : List Expr} {mf : MF} {ma : M (List D)} (F : DFn X.prog X.w X.K X.mg X.base k x n mf) (hr : Room k X.A) (hg : Gl X x) (ha : DA X (e :: es) ma) (hn : (e :: es).length = n := by rfl)
    (hd : (x == ("__debug__" : Str)) = false := by decide) (he : starEach (e :: es) X.env = (false, eval e X.env) :: starEach es X.env := by rfl) (hpl : (backTo pos (starEach es X.env)).any (·.1) = false := by rfl) :
    DO X (.Call (.Name x p) (e :: es) [] pos) (mFn mf ma) := ⟨fun W tk => by
  obtain ⟨t, pe, ra⟩ := ha.ex W tk
  obtain ⟨f, fd, ps, F, hm, hk, hb⟩ := F.ex
  refine ⟨_, pe_callS F hr hg hm hk hb (fun σ => passAt tk σ) pe hd he hpl, fun g σ ρ Q rel h => ?_⟩
  unfold mFn at h
  rw [post_bind] at h
  refine ra g σ ρ _ rel (h.imp (fun ds S z q g1 vs e1 p1 r => ?_) fun e S _ q => q)
  refine ⟨g1, ds, rfl, p1.ok, r, (ha.len _ _ _ _ z).trans hn, ?_⟩
  rw [e1]
  exact q.imp (fun s S _ q g2 v e2 p2 o => q g2 v e2 (p1.trans p2) (OutRep.back p1 o)) fun e S _ q g2 c dd e2 p2 x => q g2 c dd e2 (p1.trans p2) x⟩

/-! ### what is one's own, looked at -/
def flat : D → Bool
  | .non | .bl _ | .int _ | .str _ | .ty _ | .cls _ => true
  | _ => false
mutual
def nor : D → Bool
  | .non => true | .bl _ => true | .int _ => true | .str _ => true | .ty _ => true | .cls _ => true
  | .lst ds => norL ds
  | .tup ds => norL ds
  | .dic ks => norK ks
  | .obj _ fs => norF fs
  | .exc _ fs => norF fs
  | .ref _ => false
def norL : List D → Bool
  | [] => true
  | d :: ds => nor d && norL ds
def norK : List (Key × D) → Bool
  | [] => true
  | (_, d) :: ds => nor d && norK ds
def norF : List (String × D) → Bool
  | [] => true
  | (_, d) :: ds => nor d && norF ds
end
theorem norL_ints : ∀ (ns : List Int), norL (ns.map D.int) = true
  | [] => by simp only [List.map_nil, norL]
  | n :: ns => by simp only [List.map_cons, norL, nor, norL_ints ns, Bool.and_self]
theorem norL_append : ∀ (a b : List D), norL (a ++ b) = (norL a && norL b)
  | [], b => by simp [norL]
  | x :: a, b => by simp [norL, norL_append a b, Bool.and_assoc]
section
variable {io io' : List Addr} {F F' : Hp}
mutual
theorem Rep.nor (hF : Le F F') : ∀ (d : D) {v : V}, FW.nor d = true → Rep K io F v d → Rep K io' F' v d
  | .non, _, _, h => by simp only [Rep] at h ⊢; exact h
  | .bl _, _, _, h => by simp only [Rep] at h ⊢; exact h
  | .int _, _, _, h => by simp only [Rep] at h ⊢; exact h
  | .str _, _, _, h => by simp only [Rep] at h ⊢; exact h
  | .ty _, _, _, h => by simp only [Rep] at h ⊢; exact h
  | .cls _, _, _, h => by simp only [Rep] at h ⊢; exact h
  | .lst ds, _, n, h => by
    simp only [Rep, FW.nor] at n h ⊢
    obtain ⟨p, vs, e, r, l⟩ := h
    exact ⟨p, vs, e, FW.SqL.mono hF r, RepL.nor hF ds n l⟩
  | .tup ds, _, n, h => by
    simp only [Rep, FW.nor] at n h ⊢
    obtain ⟨p, vs, e, r, l⟩ := h
    exact ⟨p, vs, e, hF _ _ r, RepL.nor hF ds n l⟩
  | .dic ks, _, n, h => by
    simp only [Rep, FW.nor] at n h ⊢
    obtain ⟨p, vs, e, r, l⟩ := h
    exact ⟨p, vs, e, hF _ _ r, RepK.nor hF ks n l⟩
  | .obj c fs, _, n, h => by
    simp only [Rep, FW.nor] at n h ⊢
    obtain ⟨p, dx, vs, e, r, q, l⟩ := h
    exact ⟨p, dx, vs, e, hF _ _ r, hF _ _ q, RepF.nor hF fs n l⟩
  | .exc c fs, _, n, h => by
    simp only [Rep, FW.nor] at n h ⊢
    obtain ⟨p, d, e, r, l⟩ := h
    refine ⟨p, d, e, hF _ _ r, ?_⟩
    rcases l with l | ⟨n', dx, vs, e1, e2, l⟩
    · exact .inl l
    · exact .inr ⟨n', dx, vs, e1, hF _ _ e2, RepF.nor hF fs n l⟩
  | .ref i, _, n, h => by simp [FW.nor] at n
theorem RepL.nor (hF : Le F F') : ∀ (ds : List D) {vs : List V}, norL ds = true → RepL K io F vs ds → RepL K io' F' vs ds
  | [], _, _, h => by simp only [RepL] at h ⊢; exact h
  | d :: ds, _, n, h => by
    simp only [RepL, norL, Bool.and_eq_true] at n h ⊢
    obtain ⟨v, r, e, a, b⟩ := h
    exact ⟨v, r, e, Rep.nor hF d n.1 a, RepL.nor hF ds n.2 b⟩
theorem RepK.nor (hF : Le F F') : ∀ (ds : List (Key × D)) {vs : List (Key × V)}, norK ds = true → RepK K io F vs ds → RepK K io' F' vs ds
  | [], _, _, h => by simp only [RepK] at h ⊢; exact h
  | (k, d) :: ds, _, n, h => by
    simp only [RepK, norK, Bool.and_eq_true] at n h ⊢
    obtain ⟨v, r, e, a, b⟩ := h
    exact ⟨v, r, e, Rep.nor hF d n.1 a, RepK.nor hF ds n.2 b⟩
theorem RepF.nor (hF : Le F F') : ∀ (ds : List (String × D)) {vs : List (Str × V)}, norF ds = true → RepF K io F vs ds → RepF K io' F' vs ds
  | [], _, _, h => by simp only [RepF] at h ⊢; exact h
  | (k, d) :: ds, _, n, h => by
    simp only [RepF, norF, Bool.and_eq_true] at n h ⊢
    obtain ⟨v, r, e, a, b⟩ := h
    exact ⟨v, r, e, Rep.nor hF d n.1 a, RepF.nor hF ds n.2 b⟩
end
end
/-! ### what stands in the store, put in -/
mutual
def sub (f : Nat → Option D) : D → Option D
  | .lst ds => match subL f ds with
    | some ds' => some (.lst ds')
    | none => none
  | .tup ds => match subL f ds with
    | some ds' => some (.tup ds')
    | none => none
  | .dic ks => match subK f ks with
    | some ks' => some (.dic ks')
    | none => none
  | .obj c fs => match subF f fs with
    | some fs' => some (.obj c fs')
    | none => none
  | .exc c fs => if norF fs then some (.exc c fs) else none
  | .ref i => f i
  | .non => some .non | .bl b => some (.bl b) | .int i => some (.int i) | .str s => some (.str s) | .ty n => some (.ty n) | .cls c => some (.cls c)
def subL (f : Nat → Option D) : List D → Option (List D)
  | [] => some []
  | d :: ds => match sub f d, subL f ds with
    | some d', some ds' => some (d' :: ds')
    | _, _ => none
def subK (f : Nat → Option D) : List (Key × D) → Option (List (Key × D))
  | [] => some []
  | (k, d) :: ds => match sub f d, subK f ds with
    | some d', some ds' => some ((k, d') :: ds')
    | _, _ => none
def subF (f : Nat → Option D) : List (String × D) → Option (List (String × D))
  | [] => some []
  | (k, d) :: ds => match sub f d, subF f ds with
    | some d', some ds' => some ((k, d') :: ds')
    | _, _ => none
end
section
variable {io : List Addr} {F H : Hp} {f : Nat → Option D}
mutual
theorem Rep.sub (hF : Le F H) (hf : ∀ i d' p, f i = some d' → io[i]? = some p → Rep K [] H (.ref p) d') : ∀ (d : D) {v : V} {d' : D}, FW.sub f d = some d' → Rep K io F v d → Rep K [] H v d'
  | .non, _, _, e, h => by simp only [FW.sub, Option.some.injEq] at e; subst e; simp only [Rep] at h ⊢; exact h
  | .bl _, _, _, e, h => by simp only [FW.sub, Option.some.injEq] at e; subst e; simp only [Rep] at h ⊢; exact h
  | .int _, _, _, e, h => by simp only [FW.sub, Option.some.injEq] at e; subst e; simp only [Rep] at h ⊢; exact h
  | .str _, _, _, e, h => by simp only [FW.sub, Option.some.injEq] at e; subst e; simp only [Rep] at h ⊢; exact h
  | .ty _, _, _, e, h => by simp only [FW.sub, Option.some.injEq] at e; subst e; simp only [Rep] at h ⊢; exact h
  | .cls _, _, _, e, h => by simp only [FW.sub, Option.some.injEq] at e; subst e; simp only [Rep] at h ⊢; exact h
  | .lst ds, _, _, e, h => by
    simp only [FW.sub] at e
    split at e
    · rename_i ds' q
      cases e
      simp only [Rep] at h ⊢
      obtain ⟨p, vs, e, r, l⟩ := h
      exact ⟨p, vs, e, FW.SqL.mono hF r, RepL.sub hF hf ds q l⟩
    · cases e
  | .tup ds, _, _, e, h => by
    simp only [FW.sub] at e
    split at e
    · rename_i ds' q
      cases e
      simp only [Rep] at h ⊢
      obtain ⟨p, vs, e, r, l⟩ := h
      exact ⟨p, vs, e, hF _ _ r, RepL.sub hF hf ds q l⟩
    · cases e
  | .dic ks, _, _, e, h => by
    simp only [FW.sub] at e
    split at e
    · rename_i ds' q
      cases e
      simp only [Rep] at h ⊢
      obtain ⟨p, vs, e, r, l⟩ := h
      exact ⟨p, vs, e, hF _ _ r, RepK.sub hF hf ks q l⟩
    · cases e
  | .obj c fs, _, _, e, h => by
    simp only [FW.sub] at e
    split at e
    · rename_i ds' q
      cases e
      simp only [Rep] at h ⊢
      obtain ⟨p, dx, vs, e, r, r2, l⟩ := h
      exact ⟨p, dx, vs, e, hF _ _ r, hF _ _ r2, RepF.sub hF hf fs q l⟩
    · cases e
  | .exc c fs, _, _, e, h => by
    simp only [FW.sub] at e
    split at e
    · rename_i q
      cases e
      exact Rep.nor hF (.exc c fs) (by simp only [FW.nor]; exact q) h
    · cases e
  | .ref i, _, _, e, h => by
    simp only [FW.sub] at e
    simp only [Rep] at h
    obtain ⟨p, e1, rfl⟩ := h
    exact hf i _ p e e1
theorem RepL.sub (hF : Le F H) (hf : ∀ i d' p, f i = some d' → io[i]? = some p → Rep K [] H (.ref p) d') : ∀ (ds : List D) {vs : List V} {ds' : List D}, subL f ds = some ds' → RepL K io F vs ds → RepL K [] H vs ds'
  | [], _, _, e, h => by simp only [subL, Option.some.injEq] at e; subst e; simp only [RepL] at h ⊢; exact h
  | d :: ds, _, _, e, h => by
    simp only [subL] at e
    split at e
    · rename_i q1 q2
      cases e
      simp only [RepL] at h ⊢
      obtain ⟨v, r, e, a, b⟩ := h
      exact ⟨v, r, e, Rep.sub hF hf d q1 a, RepL.sub hF hf ds q2 b⟩
    · cases e
theorem RepK.sub (hF : Le F H) (hf : ∀ i d' p, f i = some d' → io[i]? = some p → Rep K [] H (.ref p) d') : ∀ (ds : List (Key × D)) {vs : List (Key × V)} {ds' : List (Key × D)}, subK f ds = some ds' → RepK K io F vs ds → RepK K [] H vs ds'
  | [], _, _, e, h => by simp only [subK, Option.some.injEq] at e; subst e; simp only [RepK] at h ⊢; exact h
  | (k, d) :: ds, _, _, e, h => by
    simp only [subK] at e
    split at e
    · rename_i q1 q2
      cases e
      simp only [RepK] at h ⊢
      obtain ⟨v, r, e, a, b⟩ := h
      exact ⟨v, r, e, Rep.sub hF hf d q1 a, RepK.sub hF hf ds q2 b⟩
    · cases e
theorem RepF.sub (hF : Le F H) (hf : ∀ i d' p, f i = some d' → io[i]? = some p → Rep K [] H (.ref p) d') : ∀ (ds : List (String × D)) {vs : List (Str × V)} {ds' : List (String × D)}, subF f ds = some ds' → RepF K io F vs ds → RepF K [] H vs ds'
  | [], _, _, e, h => by simp only [subF, Option.some.injEq] at e; subst e; simp only [RepF] at h ⊢; exact h
  | (k, d) :: ds, _, _, e, h => by
    simp only [subF] at e
    split at e
    · rename_i q1 q2
      cases e
      simp only [RepF] at h ⊢
      obtain ⟨v, r, e, a, b⟩ := h
      exact ⟨v, r, e, Rep.sub hF hf d q1 a, RepF.sub hF hf ds q2 b⟩
    · cases e
end
end
def tabD (S : Sto) : Nat → Nat → Option D
  | 0, _ => none
  | n + 1, i => match S[i]? with
    | some (some c) => sub (tabD S n) c.d
    | _ => none
/-- a thing with what the store holds put in -/
def deref (S : Sto) (d : D) : Option D := if nor d then some d else sub (tabD S 6) d
theorem cell_sub {p : Addr} {c : Cell} {d' : D} {f : Nat → Option D} (le : Le g.F g.H) (hf : ∀ i d' p, f i = some d' → g.io[i]? = some p → Rep K [] g.H (.ref p) d') (e : sub f c.d = some d') (r : CellRep K g p c) : Rep K [] g.H (.ref p) d' := by
  cases c with
  | lst xs =>
    obtain ⟨vs, a, b⟩ := r
    simp only [Cell.d, sub] at e
    split at e
    · rename_i q
      cases e
      simp only [Rep]
      exact ⟨p, vs, rfl, .inl (.inl a), RepL.sub le hf _ q b⟩
    · cases e
  | dic xs =>
    obtain ⟨vs, a, b⟩ := r
    simp only [Cell.d, sub] at e
    split at e
    · rename_i q
      cases e
      simp only [Rep]
      exact ⟨p, vs, rfl, a, RepK.sub le hf _ q b⟩
    · cases e
  | obj c fs =>
    obtain ⟨dx, vs, a, a2, b⟩ := r
    simp only [Cell.d, sub] at e
    split at e
    · rename_i q
      cases e
      simp only [Rep]
      exact ⟨p, dx, vs, rfl, a, a2, RepF.sub le hf _ q b⟩
    · cases e
theorem tab_ok (ok : Ok K g) : ∀ (n i : Nat) (d' : D) (p : Addr), tabD g.S n i = some d' → g.io[i]? = some p → Rep K [] g.H (.ref p) d'
  | 0, _, _, _, e, _ => by cases e
  | n + 1, i, d', p, e, q => by
    simp only [tabD] at e
    split at e
    · rename_i c hc
      obtain ⟨p', e1, _, r⟩ := ok.cell i c hc
      rw [q] at e1; cases e1
      exact cell_sub ok.le (tab_ok ok n) e r
    · cases e
theorem deref_ok (ok : Ok K g) {v : V} {d d' : D} (e : deref g.S d = some d') (r : Rep K g.io g.F v d) : Rep K [] g.H v d' := by
  unfold deref at e
  split at e
  · rename_i n
    cases e
    exact Rep.nor ok.le d n r
  · exact Rep.sub ok.le (tab_ok ok 6) d e r
theorem deref_cell (ok : Ok K g) {p : Addr} {c : Cell} {d' : D} (e : deref g.S c.d = some d') (r : CellRep K g p c) : Rep K [] g.H (.ref p) d' := by
  unfold deref at e
  split at e
  · rename_i n
    cases e
    cases c with
    | lst xs =>
      obtain ⟨vs, a, b⟩ := r
      simp only [Cell.d, nor, Rep] at n ⊢
      exact ⟨p, vs, rfl, .inl (.inl a), RepL.nor ok.le _ n b⟩
    | dic xs =>
      obtain ⟨vs, a, b⟩ := r
      simp only [Cell.d, nor, Rep] at n ⊢
      exact ⟨p, vs, rfl, a, RepK.nor ok.le _ n b⟩
    | obj c fs =>
      obtain ⟨dx, vs, a, a2, b⟩ := r
      simp only [Cell.d, nor, Rep] at n ⊢
      exact ⟨p, dx, vs, rfl, a, a2, RepF.nor ok.le _ n b⟩
  · exact cell_sub ok.le (tab_ok ok 6) e r
/-- a slot as it is looked at -/
def Slot.vw (S : Sto) : Slot → Slot
  | .none => .none
  | .val d => match deref S d with
    | some d' => .val d'
    | Option.none => .none
  | .own c => match deref S c.d with
    | some d' => .val d'
    | Option.none => .none
/-- all that stands is frozen, no cell may change -/
def G.vw (g : G) : G := { F := g.H, H := g.H, io := [], S := [] }
theorem ok_vw (ok : Ok K g) : Ok K g.vw := { le := Le.refl _, len := rfl, nd := List.nodup_nil, noown := fun _ _ _ h => (by cases h), iod := fun _ h => (by cases h), cell := fun i c e => by simp [G.vw] at e }
theorem rel_vw (h : RelS K g σ ρ) : RelS K g.vw σ (ρ.map (Slot.vw g.S)) where
  ok := ok_vw h.ok
  len := by simp [h.len]
  slot := fun i s e => by
    rw [List.getElem?_map] at e
    cases q : ρ[i]? with
    | none => rw [q] at e; cases e
    | some s0 =>
      rw [q] at e
      have e' : s0.vw g.S = s := Option.some.inj e
      subst e'
      have z := h.slot i s0 q
      cases s0 with
      | none => trivial
      | val d =>
        obtain ⟨v, e1, r⟩ := z
        cases y : deref g.S d with
        | none => simp only [Slot.vw, y]; trivial
        | some d' => simp only [Slot.vw, y]; exact ⟨v, e1, deref_ok h.ok y r⟩
      | own c =>
        obtain ⟨p, e1, e2, e3, r⟩ := z
        cases y : deref g.S c.d with
        | none => simp only [Slot.vw, y]; trivial
        | some d' => simp only [Slot.vw, y]; exact ⟨.ref p, e1, deref_cell h.ok y r⟩
  dist := fun i j c c' p e1 => by
    rw [List.getElem?_map] at e1
    cases q : ρ[i]? with
    | none => rw [q] at e1; cases e1
    | some s0 =>
      rw [q] at e1
      have e' : s0.vw g.S = .own c := Option.some.inj e1
      cases s0 with
      | none => cases e'
      | val d => cases y : deref g.S d <;> simp [Slot.vw, y] at e'
      | own c0 => cases y : deref g.S c0.d <;> simp [Slot.vw, y] at e'
/-- back from the look: nothing that stood has changed -/
def G.unvw (g g' : G) : G := { F := g.F, H := g'.H, io := g.io, S := g.S }
theorem post_unvw (ok : Ok K g) (p : Post K g.vw g') : Post K g (g.unvw g') := by
  have fr : ∀ a u, g.H a = some u → g'.H a = some u := fun a u e => p.fr a u e (by intro h; cases h)
  refine ⟨⟨fun a u e => fr a u (ok.le _ _ e), ok.len, ok.nd, fun a x e m => ?_, fun a m => p.dom a (ok.iod a m), fun i c e => ?_⟩, Le.refl _, Pre.refl _, fun a u e _ => fr a u e, fun a u e => .inl e, fun a m => .inl m, p.dom⟩
  · cases q : g.H a with
    | none => exact ok.iod a m q
    | some u =>
      have z := fr a u q
      have e' : g'.H a = some (.own x) := e
      rw [e'] at z; cases z
      exact ok.noown a x q m
  · obtain ⟨q, e1, e2, r⟩ := ok.cell i c e
    refine ⟨q, e1, e2, ?_⟩
    cases c with
    | lst xs => obtain ⟨vs, a, b⟩ := r; exact ⟨vs, fr _ _ a, b⟩
    | dic xs => obtain ⟨vs, a, b⟩ := r; exact ⟨vs, fr _ _ a, b⟩
    | obj c fs => obtain ⟨dx, vs, a, a2, b⟩ := r; exact ⟨dx, vs, fr _ _ a, fr _ _ a2, b⟩
theorem flat_rep {io io' : List Addr} {F F' : Hp} {v : V} {d : D} (h : flat d = true) (r : Rep K io F v d) : Rep K io' F' v d := by
  cases d <;> first | (simp only [Rep] at r ⊢; exact r) | (simp [flat] at h)
def mLook (m : M D) : M D := fun ρ S => match m (ρ.map (Slot.vw S)) [] with
  | .ok d _ => if flat d then .ok d S else .bad
  | _ => .bad
def mLookT (m : M Bool) : M Bool := fun ρ S => match m (ρ.map (Slot.vw S)) [] with
  | .ok d _ => .ok d S
  | _ => .bad
section
variable {X : Cx} {e : Expr}
theorem dv_look {m : M D} (h : DV X e m) : DV X e (mLook m) := ⟨fun W tk => by
  obtain ⟨t, pe, rv⟩ := h.ex W tk
  refine ⟨t, pe, fun g σ ρ Q rel q => ?_⟩
  refine rv g.vw σ (ρ.map (Slot.vw g.S)) Q (rel_vw rel) ?_
  unfold mLook at q
  show (m (ρ.map (Slot.vw g.S)) []).post _ _
  cases z : m (ρ.map (Slot.vw g.S)) [] with
  | ok d S' =>
    rw [z] at q
    simp only at q
    split at q
    · rename_i fl
      exact fun g' v es p r => q (g.unvw g') v rfl (post_unvw rel.ok p) (flat_rep fl r)
    · exact q.elim
  | err e S' => rw [z] at q; exact q.elim
  | bad => rw [z] at q; exact q.elim⟩
theorem dt_look {m : M Bool} (h : DT X e m) : DT X e (mLookT m) := ⟨fun W tk => by
  obtain ⟨t, pe, rv⟩ := h.ex W tk
  refine ⟨t, pe, fun g σ ρ Q rel q => ?_⟩
  refine rv g.vw σ (ρ.map (Slot.vw g.S)) Q (rel_vw rel) ?_
  unfold mLookT at q
  show (m (ρ.map (Slot.vw g.S)) []).post _ _
  cases z : m (ρ.map (Slot.vw g.S)) [] with
  | ok d S' =>
    rw [z] at q
    exact fun g' es p => q (g.unvw g') rfl (post_unvw rel.ok p)
  | err e S' => rw [z] at q; exact q.elim
  | bad => rw [z] at q; exact q.elim⟩
end
/-! ### what was one's own is handed out, still changeable -/
def sRef (i : Nat) (m : MS) : MS := fun ρ S => match ρ[i]? with
  | some (.own c) => m (ρ.set i (.val (.ref S.length))) (S ++ [some c])
  | _ => m ρ S
theorem Rel.toRef {i : Nat} {c : Cell} (h : Rel K E g σ ρ) (e1 : ρ[i]? = some (.own c)) : ∃ g', g'.H = g.H ∧ g'.S = g.S ++ [some c] ∧ Rel K E g' σ (ρ.set i (.val (.ref g.S.length))) := by
  obtain ⟨p, f1, f2, f3, f4⟩ := h.s.slot i _ e1
  have e2 := sig_of f1
  have n := h.new i c p e1 e2
  have ok := h.s.ok
  have hl : i < ρ.length := (List.getElem?_eq_some_iff.mp e1).1
  have pre : Pre g.io (g.io ++ [p]) := ⟨[p], rfl⟩
  have iop : (g.io ++ [p])[g.S.length]? = some p := by rw [← ok.len]; simp
  have mono : ∀ q c1, CellRep K g q c1 → CellRep K { g with io := g.io ++ [p], S := g.S ++ [some c] } q c1 := fun q c1 r => by
    cases c1 with
    | lst xs => obtain ⟨vs, a, b⟩ := r; exact ⟨vs, a, RepL.mono (Le.refl _) pre _ b⟩
    | dic xs => obtain ⟨vs, a, b⟩ := r; exact ⟨vs, a, RepK.mono (Le.refl _) pre _ b⟩
    | obj c fs => obtain ⟨dx, vs, a, a2, b⟩ := r; exact ⟨dx, vs, a, a2, RepF.mono (Le.refl _) pre _ b⟩
  have notown : ∀ x, g.H p ≠ some (.own x) := fun x z => by
    cases c with
    | lst xs => obtain ⟨vs, a, b⟩ := f4; rw [a] at z; cases z
    | dic xs => obtain ⟨vs, a, b⟩ := f4; rw [a] at z; cases z
    | obj c fs => obtain ⟨dx, vs, a, a2, b⟩ := f4; rw [a] at z; cases z
  have ok' : Ok K { g with io := g.io ++ [p], S := g.S ++ [some c] } := {
    le := ok.le
    len := by simp [ok.len]
    nd := by
      rw [List.nodup_append]
      refine ⟨ok.nd, by simp, fun a ha b hb => ?_⟩
      have : b = p := by simpa using hb
      subst this
      exact fun z => f3 (z ▸ ha)
    noown := fun a x e m => by
      rcases List.mem_append.mp m with z | z
      · exact ok.noown a x e z
      · have : a = p := by simpa using z
        subst this
        exact notown x e
    iod := fun a m => by
      rcases List.mem_append.mp m with z | z
      · exact ok.iod a z
      · have : a = p := by simpa using z
        subst this
        exact f4.at_
    cell := fun j c1 e => by
      by_cases q : j < g.S.length
      · rw [List.getElem?_append_left q] at e
        obtain ⟨q', w1, w2, w3⟩ := ok.cell j c1 e
        exact ⟨q', pre.get w1, w2, mono q' c1 w3⟩
      · rw [List.getElem?_append_right (by omega)] at e
        have : j = g.S.length := by
          by_cases z : j - g.S.length = 0
          · omega
          · rw [List.getElem?_eq_none (by simp; omega)] at e; cases e
        subst this
        simp at e; subst e
        exact ⟨p, iop, f2, mono p c f4⟩ }
  have back : ∀ j c1, (ρ.set i (Slot.val (.ref g.S.length)))[j]? = some (Slot.own c1) → i ≠ j ∧ ρ[j]? = some (Slot.own c1) := fun j c1 w => by
    by_cases z : i = j
    · subst z; rw [List.getElem?_set_self hl] at w; cases w
    · rw [List.getElem?_set_ne z] at w; exact ⟨z, w⟩
  refine ⟨{ g with io := g.io ++ [p], S := g.S ++ [some c] }, rfl, rfl, ⟨⟨ok', by simp [h.s.len], fun j s e => ?_, fun j k c1 c2 q a1 a2 a3 a4 => ?_⟩, ⟨ok', h.p.leF, h.p.pre.trans pre, h.p.fr, h.p.fz, fun a m => ?_, h.p.dom⟩, fun j c1 q a1 a2 => ?_⟩⟩
  · by_cases z : i = j
    · subst z
      rw [List.getElem?_set_self hl] at e; cases e
      rw [e2]
      exact ⟨_, rfl, by simp only [Rep]; exact ⟨p, iop, rfl⟩⟩
    · rw [List.getElem?_set_ne z] at e
      have y := h.s.slot j s e
      cases s with
      | none => trivial
      | val d => obtain ⟨v, b1, b2⟩ := y; exact ⟨v, b1, Rep.mono (Le.refl _) pre d b2⟩
      | own c1 =>
        obtain ⟨q, b1, b2, b3, b4⟩ := y
        have nq : q ≠ p := fun w => by subst w; exact z (h.s.dist i j c c1 q e1 e e2 (sig_of b1))
        refine ⟨q, b1, b2, fun m => ?_, mono q c1 b4⟩
        rcases List.mem_append.mp m with w | w
        · exact b3 w
        · exact nq (by simpa using w)
  · obtain ⟨_, w1⟩ := back j c1 a1
    obtain ⟨_, w2⟩ := back k c2 a2
    exact h.s.dist j k c1 c2 q w1 w2 a3 a4
  · rcases List.mem_append.mp m with z | z
    · exact h.p.io a z
    · have : a = p := by simpa using z
      subst this
      exact .inr n.1
  · obtain ⟨_, w1⟩ := back j c1 a1
    obtain ⟨m1, m2⟩ := h.new j c1 q w1 a2
    exact ⟨m1, fun C dx fs w => m2 C dx fs w⟩
section
variable {X : Cx} {st : Stmt} {sts : List Stmt} {e : Expr} {pos : Pos}
theorem rs_ref {t : TS} {W : WX} {m : MS} (i : Nat) (h : RSt K t W m) : RSt K t W (sRef i m) := fun E g σ ρ Dn rel q => by
  unfold sRef at q
  split at q
  · rename_i c e
    obtain ⟨g', eH, eS, rel'⟩ := rel.toRef e
    have z := h E g' σ _ Dn rel' (by rw [eS]; exact q)
    rw [eH] at z; exact z
  · exact h E g σ ρ Dn rel q
theorem ds_ref {m : MS} (i : Nat) (h : DS X st m) : DS X st (sRef i m) := ⟨fun W tk => by
  obtain ⟨t, pe, ra⟩ := h.ex W tk; exact ⟨t, pe, rs_ref i ra⟩⟩
theorem dss_ref {m : MS} (i : Nat) (h : DSs X sts m) : DSs X sts (sRef i m) := ⟨fun W tk => by
  obtain ⟨t, pe, ra⟩ := h.ex W tk; exact ⟨t, pe, rs_ref i ra⟩⟩
/-- a cell of the store changes -/
theorem Post.cellSet {n : Nat} {p : Addr} {c c' : Cell} {u o : HO} (ok : Ok K g) (hS : g.S[n]? = some (some c)) (hp : g.io[n]? = some p) (hH : g.H p = some u) (hu : ∀ x, u ≠ .own x) (ho : ∀ x, o ≠ .own x)
    (hc : CellRep K { g with H := upd g.H p o, S := g.S.set n (some c') } p c') : Post K g { g with H := upd g.H p o, S := g.S.set n (some c') } := by
  obtain ⟨p', e1, e2, e3⟩ := ok.cell n c hS
  rw [hp] at e1; cases e1
  have hn : n < g.S.length := (List.getElem?_eq_some_iff.mp hS).1
  have mem : p ∈ g.io := List.mem_of_getElem? hp
  refine ⟨⟨fun a u e => ?_, by simp [ok.len], ok.nd, fun a x e => ok.noown a x (not_own_of ho e), fun a m => ?_, fun i c1 e => ?_⟩, Le.refl _, Pre.refl _, fun a u e n => ?_, fun a u e => .inl e, fun a m => .inl m, fun a m => ?_⟩
  · have : a ≠ p := fun z => by subst z; rw [e2] at e; cases e
    exact (upd_ne this).trans (ok.le _ _ e)
  · show upd g.H p o a ≠ none
    unfold upd; split
    · simp
    · exact ok.iod a m
  · by_cases q : i = n
    · subst q
      rw [List.getElem?_set_self hn] at e
      cases e
      exact ⟨p, hp, e2, hc⟩
    · rw [List.getElem?_set_ne (Ne.symm q)] at e
      obtain ⟨r, w1, w2, w3⟩ := ok.cell i c1 e
      have nr : r ≠ p := fun z => by
        subst z
        obtain ⟨l1, x1⟩ := List.getElem?_eq_some_iff.mp w1
        obtain ⟨l2, x2⟩ := List.getElem?_eq_some_iff.mp hp
        exact q ((List.getElem_inj ok.nd).mp (x1.trans x2.symm))
      refine ⟨r, w1, w2, ?_⟩
      cases c1 with
      | lst xs => obtain ⟨vs, a, b⟩ := w3; exact ⟨vs, (upd_ne nr).trans a, b⟩
      | dic xs => obtain ⟨vs, a, b⟩ := w3; exact ⟨vs, (upd_ne nr).trans a, b⟩
      | obj c fs => obtain ⟨dx, vs, a, a2, b⟩ := w3; exact ⟨dx, vs, (upd_ne nr).trans a, (upd_ne (fun w => by subst w; rw [hH] at a2; exact hu _ (Option.some.inj a2))).trans a2, b⟩
  · have : a ≠ p := fun z => by subst z; exact n mem
    exact (upd_ne this).trans e
  · show upd g.H p o a ≠ none
    unfold upd; split
    · simp
    · exact m
/-- o.append(e), o a list of the store -/
def sAppR (mo m : M D) : MS := fun ρ S => rBind (mo ρ S) ρ fun o S1 => match o with
  | .ref n => (match S1[n]? with
    | some (some (.lst _)) => rBind (m ρ S1) ρ fun d S2 => (match S2[n]? with
      | some (some (.lst xs)) => if xs.length < 1000000 then .nx ρ (S2.set n (some (.lst (xs ++ [d])))) else .bad
      | _ => .bad)
    | _ => .bad)
  | _ => .bad
theorem ds_appR {o : Expr} {mo m : M D} {apos cpos : Pos} (po : DV X o mo) (h : DV X e m) (hs : starEach (e :: []) X.env = (false, eval e X.env) :: starEach [] X.env := by rfl)
    (pb : ∀ {to : TE} {ta : TA}, PE X o to → PA X [e] ta → PE X (.Call (.Attribute o "append" apos) [e] [] cpos) (tBM X.K "list" rAppend to ta)) (hw : swapsWith (.Call (.Attribute o "append" apos) [e] [] cpos) none pos.line X.env = pure false := by rfl) : DS X (.Expr (.Call (.Attribute o "append" apos) [e] [] cpos) pos) (sAppR mo m) := ⟨fun W tk => by
  obtain ⟨to, pto, rto⟩ := po.ex W tk
  obtain ⟨t, pe, ra⟩ := (da_cons h da_nil hs).ex W tk
  refine ⟨_, ps_expr (pb pto pe) hw, fun E g σ ρ Dn rel h => ?_⟩
  refine rto g σ ρ _ rel.s ((ends_bind rel h).imp (fun od S1 _ q g1 ov es1 p1 r1 => ?_) fun e S _ q => q)
  have rel1 := rel.post p1
  subst es1
  split at q
  · rename_i n _
    simp only [Rep] at r1
    obtain ⟨p, ip, rfl⟩ := r1
    split at q
    · rename_i xs0 hS1
      obtain ⟨p', ip', fp, vs0, hp0, r0⟩ := p1.ok.cell n _ hS1
      rw [ip] at ip'; cases ip'
      refine ⟨.inl ⟨rfl, _, SqL.of hp0⟩, ?_⟩
      refine ra g1 σ ρ _ rel1.s ?_
      unfold aCons
      rw [post_bind]
      refine (ends_bind rel1 q).imp (fun d S _ q => ?_) fun e S _ q => q
      show R.post (R.ok [d] S) _ _
      intro g2 us es p2 r
      obtain ⟨v, rfl, rv⟩ := repL1 r
      subst es
      have rel2 := rel1.post p2
      split at q
      · rename_i xs hS2
        split at q
        · rename_i hlen
          obtain ⟨p', ip', fp, vs, hp, r2⟩ := p2.ok.cell n _ hS2
          rw [p2.pre.get ip] at ip'; cases ip'
          have l := r2.length
          refine ⟨p, vs, v, rfl, rfl, hp, by rw [l, sizeLine_eq]; omega, ?_⟩
          have P := Post.cellSet (K := X.K) (c' := .lst (xs ++ [d])) (o := .lst (vs ++ [v])) p2.ok hS2 (p2.pre.get ip) hp (fun _ z => by cases z) (fun _ z => by cases z) ⟨_, upd_same, r2.append (.one rv)⟩
          exact q { g2 with H := upd g2.H p (.lst (vs ++ [v])), S := g2.S.set n (some (.lst (xs ++ [d]))) } σ rfl (rel2.post P)
        · exact q.elim
      · exact q.elim
    · exact q.elim
  · exact q.elim⟩
end
end
end FW
end
section
set_option maxHeartbeats 2000000
/-! FW12: small words for the printed texts. -/
namespace FW
open PySem PySem.Spec PyProof.Rows L2
section
variable {X : Cx} {e : Expr} {pos : Pos}
def sExpr (m : M D) : MS := fun ρ S => rBind (m ρ S) ρ fun _ S' => .nx ρ S'
theorem ds_expr {m : M D} (h : DV X e m) (hw : swapsWith e none pos.line X.env = pure false := by rfl) : DS X (.Expr e pos) (sExpr m) := ⟨fun W tk => by
  obtain ⟨t, pe, rv⟩ := h.ex W tk
  refine ⟨_, ps_expr pe hw, fun E g σ ρ Dn rel h => ?_⟩
  exact rv g σ ρ _ rel.s ((ends_bind rel h).imp (fun d S _ q g' v es p r => q g' σ es (rel.post p)) fun e S _ q => q)⟩
theorem nomark2 (b c : Expr) {op op' : CmpOp} (h : op' ≠ .In := by decide) (h2 : op' ≠ .NotIn := by decide) : lastMarks [op, op'] [b, c] = false := nomark c h h2
end
end FW
end
section
set_option maxHeartbeats 2000000
/-! FW13: the head's facts, one Bool more over the written part; the law's end. -/
namespace FW
open PySem PySem.Spec PyProof.Rows L2
/-! ### what the classes answer, as one Bool -/
def eqB (a b : Option Bool) : Bool := decide (a = b)
theorem eqB_ok {a b : Option Bool} (h : eqB a b = true) : a = b := of_decide_eq_true h
def clsB (K : PySem.W.Frag) (C : Addr) : Bool := PySem.W.plainGet K C Str.empty && (PySem.W.hasDictIn K C && (PySem.W.plainOver K C && He.eqO (PySem.W.findIn K (.ref C) "__setattr__") (some (some (.builtin "object.__setattr__")))))
theorem clsB_ok {K : PySem.W.Frag} {C : Addr} (c : clsB K C = true) : Cls K C := by
  obtain ⟨c1, c⟩ := He.ba c
  obtain ⟨c2, c⟩ := He.ba c
  obtain ⟨c3, c4⟩ := He.ba c
  exact ⟨c1, c2, c3, He.eqO_ok c4⟩
def insB (K : PySem.W.Frag) (C : Addr) : Bool := clsB K C && (He.eqO (PySem.W.findIn K (.ref C) "__class__") (some (some (.builtin "object.__class__"))) && (decide (PySem.W.specialIn K (.builtin "object.__class__") "__get__" = some (some (.builtin "getset_descriptor.__get__"))) && (eqB (PySem.W.takesIn K (.builtin "object.__class__")) (some true) && eqB (PySem.W.mroIn K C (.type "object")) (some true))))
theorem insB_ok {K : PySem.W.Frag} {C : Addr} (c : insB K C = true) : InsC K C := by
  obtain ⟨c1, c⟩ := He.ba c
  obtain ⟨c2, c⟩ := He.ba c
  obtain ⟨c3, c⟩ := He.ba c
  obtain ⟨c4, c5⟩ := He.ba c
  exact ⟨clsB_ok c1, He.eqO_ok c2, of_decide_eq_true c3, eqB_ok c4, eqB_ok c5⟩
def excB (K : PySem.W.Frag) (C : Addr) : Bool := He.eqO (PySem.W.findIn K (.ref C) "__getattribute__") (some (some (.builtin "BaseException.__getattribute__"))) && (He.eqO (PySem.W.findIn K (.ref C) "__getattr__") (some none) && (eqB (PySem.W.subIn K (.ref C) (.type "BaseException")) (some true) &&
  (PySem.W.hasDictIn K C && (He.eqO (PySem.W.findIn K (.ref C) "__class__") (some (some (.builtin "object.__class__"))) && (decide (PySem.W.specialIn K (.builtin "object.__class__") "__get__" = some (some (.builtin "getset_descriptor.__get__"))) && (eqB (PySem.W.takesIn K (.builtin "object.__class__")) (some true) && eqB (PySem.W.mroIn K C (.type "object")) (some true)))))))
theorem excB_ok {K : PySem.W.Frag} {C : Addr} (c : excB K C = true) : ExcC K C := by
  obtain ⟨c1, c⟩ := He.ba c
  obtain ⟨c2, c⟩ := He.ba c
  obtain ⟨c3, c⟩ := He.ba c
  obtain ⟨c4, c⟩ := He.ba c
  obtain ⟨c5, c⟩ := He.ba c
  obtain ⟨c6, c⟩ := He.ba c
  obtain ⟨c7, c8⟩ := He.ba c
  exact ⟨He.eqO_ok c1, He.eqO_ok c2, eqB_ok c3, c4, He.eqO_ok c5, of_decide_eq_true c6, eqB_ok c7, eqB_ok c8⟩
def gaS (K : PySem.W.Frag) (c : String) : Addr := He.ga K (Str.ofString c)
def kitB_ (T : CT) (K : PySem.W.Frag) : Bool := (T.ec.all fun c => excB K (gaS K c)) && ((T.ic.all fun c => insB K (gaS K c)) && (((T.ec ++ T.ic).all fun c => T.own.all fun t => eqB (PySem.W.kitOne K (.ref (gaS K c)) (.ref (gaS K t))) (some ((T.mro c).contains t))) &&
  (((T.ec ++ T.ic).all fun c => T.bt.all fun t => eqB (PySem.W.kitOne K (.ref (gaS K c)) (.type t)) (some ((T.mro c).contains t))) && ((["NoneType", "bool", "int", "str", "list", "tuple", "dict"].all fun b => T.own.all fun t => eqB (PySem.W.kitOne K (.type b) (.ref (gaS K t))) (some false)) &&
  (T.ec.all fun c => T.ec.all fun t => eqB (PySem.W.exmOne K (.ref (gaS K c)) (.ref (gaS K t))) (some ((T.mro c).contains t)))))))
theorem kitB_ok {T : CT} {K : PySem.W.Frag} (c : kitB_ T K = true) : T.ok K ∧ ExmOk T K := by
  obtain ⟨c1, c⟩ := He.ba c
  obtain ⟨c2, c⟩ := He.ba c
  obtain ⟨c3, c⟩ := He.ba c
  obtain ⟨c4, c⟩ := He.ba c
  obtain ⟨c5, c6⟩ := He.ba c
  have al := fun {α : Type} {l : List α} {p : α → Bool} (h : l.all p = true) => List.all_eq_true.mp h
  exact ⟨⟨fun x h => excB_ok (al c1 x h), fun x h => insB_ok (al c2 x h), fun x h t ht => eqB_ok (al (al c3 x h) t ht), fun x h t ht => eqB_ok (al (al c4 x h) t ht), fun x h t ht => eqB_ok (al (al c5 x h) t ht)⟩, ⟨fun x h t ht => eqB_ok (al (al c6 x h) t ht)⟩⟩

/-! ### the Hook -/
abbrev AlF : Type := Bool × He.AlD
def obsF (kb : PySem.W.Frag → Bool) (fa : List He.Fa) (fn : List He.DefD) (K : PySem.W.Frag) : AlF := (kb K, He.obsD fa fn K)
def obsFG (n : Nat) (kb : PySem.W.Frag → Bool) (fa : List He.Fa) (fn : List He.DefD) (g : Addr → Option Obj) : AlF := obsF kb fa fn (He.frG g (He.asD g n))
def hookF (n : Nat) (kb : PySem.W.Frag → Bool) (fa : List He.Fa) (fn : List He.DefD) : PySem.W.Hook where
  α := AlF
  obs := fun s => obsFG n kb fa fn s.heap.get?
  val := fun _ => (true, He.valD fn)
  says := fun _ h => ∃ K : PySem.W.Frag, K.In h ∧ kb K = true ∧ He.SaysD fa fn K
  of := fun _ _ e => ⟨_, He.frG_in, congrArg (fun z : AlF => z.1) e, congrArg (fun z : AlF => z.2) e⟩
  keeps := fun _ _ _ says more => says.elim fun K c => ⟨K, c.1.keeps more, c.2⟩
theorem obsFG_eq {n : Nat} {kb : PySem.W.Frag → Bool} {fa : List He.Fa} {fn : List He.DefD} {g : Addr → Option Obj} {s : Shared} (h : ∀ a, g a = s.heap.get? a) : obsFG n kb fa fn g = (hookF n kb fa fn).obs s := by
  obtain rfl : g = s.heap.get? := funext h
  rfl

/-! ### the end -/
theorem cx_none {P : Program} {w : World} {H : Hp} {s : Shared} {e : Value} {s' : Shared} (h : L2.CX P w [] H s (fun _ _ _ => False) e s') : False := by
  obtain ⟨a, B, H', cls, d, rfl, fl, hok, ub, na, os, ag, hE⟩ := h
  exact hE
/-- the same over whatever world -/
def CXW (P : Program) : CXT := fun outer H s E e s' => ∃ w, L2.CX P w outer H s E e s'
theorem FnOk.any {P : Program} {w : World} {K : PySem.W.Frag} {mg : Str → Option Value} {base : Heap} {k : Nat} {f : Addr} {fd : FuncData} {ps : List Str} {sp : Sp} (F : FnOk P w K mg base (L2.CX P w) k f fd ps sp) : FnOk P w K mg base (CXW P) k f fd ps sp where
  len := F.len
  run := fun A outer s H args us vs Q E room e0 bnd vals h => codeAny_mono (F.run A outer s H args us vs Q E room e0 bnd vals h) fun r s' out => match r, out with
    | .error _, out => ⟨w, out⟩
    | .ok (.ret _), out => out
theorem sp_law {K : PySem.W.Frag} {n : Nat} {mf : MF} (h : ∀ ns : List Int, ns.length ≤ n → ∃ S', mf [.lst (ns.map D.int)] [] = .ok (.val (.bl true)) S') (H : Hp) (a : Addr) (ns : List Int) (hl : ns.length ≤ n) (hO : Only H) (hS : SqL K H a (ns.map V.int)) :
    spD K 1 mf [.ref a] H (fun v _ => v = .bl true) fun _ _ _ => False := by
  obtain ⟨S', e⟩ := h ns hl
  refine ⟨⟨H, H, [], []⟩, [.lst (ns.map D.int)], rfl, { le := Le.refl _, len := rfl, nd := List.nodup_nil, noown := fun _ _ _ h => (by cases h), iod := fun _ h => (by cases h), cell := fun i c e => by simp at e }, .one ?_, rfl, ?_⟩
  · simp only [Rep]
    exact ⟨a, _, rfl, hS, RepL.of_ints⟩
  · show (mf [.lst (ns.map D.int)] []).post _ _
    rw [e]
    intro g' v _ _ o
    simpa only [OutRep, Rep] using o
end FW
end
section
set_option maxHeartbeats 2000000
/-! FW14: list(x). -/
namespace FW
open PySem PySem.Spec PyProof.Rows L2
section
variable {X : Cx} {K : PySem.W.Frag}
def rListS (K : PySem.W.Frag) : List V → Hp → VK → Prop := fun xs H Q => ∃ p ys, xs = [.ref p] ∧ (SqL K H p ys ∨ SqT K H p ys) ∧ ∀ l, H l = none → Q (.ref l) (upd H l (.lst ys))
def fList (S : Sto) : List D → Option Slot
  | [d] => match lookD S d with
    | .lst xs => some (.own (.lst xs))
    | .tup xs => some (.own (.lst xs))
    | _ => none
  | _ => none
theorem r_list : RCall K (rListS K) fList := by
  intro g vs ds s Q ok r e h
  unfold fList at e
  split at e
  · rename_i d
    obtain ⟨v, rfl, r0⟩ := repL1 r
    split at e
    · rename_i xs q
      obtain ⟨p, ys, rfl, hp, l⟩ := look_lst ok r0 q
      cases e
      refine ⟨p, ys, rfl, .inl hp, fun a ha => ?_⟩
      obtain ⟨p1, o⟩ := out_lst ok ha l
      exact h (g.lay a (.lst ys)) _ rfl p1 o
    · rename_i xs q
      obtain ⟨p, ys, rfl, hp, l⟩ := look_tup ok r0 q
      cases e
      refine ⟨p, ys, rfl, .inr (SqT.of (ok.le _ _ hp)), fun a ha => ?_⟩
      obtain ⟨p1, o⟩ := out_lst ok ha l
      exact h (g.lay a (.lst ys)) _ rfl p1 o
    · cases e
  · cases e
/-- list(x), x one's own list -/
def mCopy (i : Nat) : M Slot := fun ρ S => match ρ[i]? with
  | some (.own (.lst xs)) => .ok (.own (.lst xs)) S
  | _ => .bad
theorem do_copy {i : Nat} {e : Expr} {p pos : Pos} (pe : PE X e (tVar i)) (hg : Gl X "list") (hm : X.mg "list" = none) (hv : bootBuiltins "list" = some (.type "list")) (ha : starEach (e :: []) X.env = (false, eval e X.env) :: starEach [] X.env := by rfl) :
    DO X (.Call (.Name "list" p) [e] [] pos) (mCopy i) := ⟨fun W tk => by
  refine ⟨_, pe_callTy call_list_of hg hm hv (pa_cons pe pa_nil ha) (by decide) (by decide) ha rfl, fun g σ ρ Q rel h => ?_⟩
  unfold mCopy at h
  split at h
  · rename_i xs q
    obtain ⟨a, e1, f1, f2, vs, f3, f4⟩ := rel.slot i _ q
    refine ⟨_, sig_of e1, a, vs, rfl, .inl (SqL.of f3), fun l hl => ?_⟩
    obtain ⟨p1, o⟩ := out_lst rel.ok hl f4
    exact h (g.lay l (.lst vs)) _ rfl p1 o
  · exact h.elim⟩
end
end FW
end
section
set_option maxHeartbeats 4000000
/-! printed by gen.py: the defs of k03_moves_refused as plain functions. -/
namespace FW
open PySem PySem.Spec PyProof.Rows L2
def top (i : Nat) : Stmt := PySem.Challenge.pw_flywright_k03_moves_refused.main.body.getD i (.Pass ⟨0, 0, 0, 0⟩)
def T : CT := ⟨fun c => match c with | "StageError" => ["StageError", "ValueError", "Exception", "BaseException", "object"] | "BadNumber" => ["BadNumber", "StageError", "ValueError", "Exception", "BaseException", "object"] | "BadName" => ["BadName", "StageError", "ValueError", "Exception", "BaseException", "object"] | "BadStage" => ["BadStage", "StageError", "ValueError", "Exception", "BaseException", "object"] | "BadSheet" => ["BadSheet", "StageError", "ValueError", "Exception", "BaseException", "object"] | "TooLong" => ["TooLong", "StageError", "ValueError", "Exception", "BaseException", "object"] | "Busy" => ["Busy", "StageError", "ValueError", "Exception", "BaseException", "object"] | "TooNear" => ["TooNear", "StageError", "ValueError", "Exception", "BaseException", "object"] | "Stopped" => ["Stopped", "StageError", "ValueError", "Exception", "BaseException", "object"] | "NotStopped" => ["NotStopped", "StageError", "ValueError", "Exception", "BaseException", "object"] | "Moving" => ["Moving", "StageError", "ValueError", "Exception", "BaseException", "object"] | "NoCue" => ["NoCue", "StageError", "ValueError", "Exception", "BaseException", "object"] | "BadRow" => ["BadRow", "StageError", "ValueError", "Exception", "BaseException", "object"] | _ => [], ["StageError", "BadNumber", "BadName", "BadStage", "BadSheet", "TooLong", "Busy", "TooNear", "Stopped", "NotStopped", "Moving", "NoCue", "BadRow"], ["StageError", "BadNumber", "BadName", "BadStage", "BadSheet", "TooLong", "Stopped", "NotStopped", "Moving", "NoCue"], [], ["ValueError", "int", "bool", "list"]⟩
structure Ev (K : PySem.W.Frag) (mg : Str → Option Value) : Prop where
  ct : T.ok K
  xm : ExmOk T K
  f_ValueError : mg "ValueError" = none
  f_bool : mg "bool" = none
  f_enumerate : mg "enumerate" = none
  f_int : mg "int" = none
  f_isinstance : mg "isinstance" = none
  f_len : mg "len" = none
  f_list : mg "list" = none
  f_max : mg "max" = none
  f_min : mg "min" = none
  f_range : mg "range" = none
  f_reversed : mg "reversed" = none
  f_sum : mg "sum" = none
  i_MOST_DISTANCE : ∃ t, mg "MOST_DISTANCE" = some (.int (1000000000000) t)
  i_MOST_PACE : ∃ t, mg "MOST_PACE" = some (.int (1000000000) t)
  i_MOST_STEPS : ∃ t, mg "MOST_STEPS" = some (.int (200) t)
  c_BadName : mg "BadName" = some (.ref (He.ga K (Str.ofString "BadName")))
  c_BadNumber : mg "BadNumber" = some (.ref (He.ga K (Str.ofString "BadNumber")))
  c_BadRow : mg "BadRow" = some (.ref (He.ga K (Str.ofString "BadRow")))
  c_BadSheet : mg "BadSheet" = some (.ref (He.ga K (Str.ofString "BadSheet")))
  c_BadStage : mg "BadStage" = some (.ref (He.ga K (Str.ofString "BadStage")))
  c_Busy : mg "Busy" = some (.ref (He.ga K (Str.ofString "Busy")))
  c_Moving : mg "Moving" = some (.ref (He.ga K (Str.ofString "Moving")))
  c_NoCue : mg "NoCue" = some (.ref (He.ga K (Str.ofString "NoCue")))
  c_NotStopped : mg "NotStopped" = some (.ref (He.ga K (Str.ofString "NotStopped")))
  c_StageError : mg "StageError" = some (.ref (He.ga K (Str.ofString "StageError")))
  c_Stopped : mg "Stopped" = some (.ref (He.ga K (Str.ofString "Stopped")))
  c_TooLong : mg "TooLong" = some (.ref (He.ga K (Str.ofString "TooLong")))
  c_TooNear : mg "TooNear" = some (.ref (He.ga K (Str.ofString "TooNear")))
  x_BadNumber : (He.Fa.exc (Str.ofString "BadNumber")).ok K = true
  x_TooLong : (He.Fa.exc (Str.ofString "TooLong")).ok K = true
section
variable {P : Program} {w : World} {K : PySem.W.Frag} {mg : Str → Option Value} {base : Heap}
/-! is_whole -/
abbrev st_is_whole : Stmt := top 18
def N_is_whole : List Str := ["thing", "least", "most"]
theorem sc_is_whole : FnScope N_is_whole ["thing", "least", "most"] (defScope st_is_whole) := ⟨rfl, rfl, rfl, by decide +kernel, rfl, by decide +kernel, by decide +kernel⟩
noncomputable def b_is_whole : MS := (sSeq (sRet (mMap Slot.val (mAndV (mMap Slot.d (mCall (fIsi T) (aCons (eVar 0) (aCons (eC (.ty "int")) aNil)))) (mAndV (mNotV (mMap Slot.d (mCall (fIsi T) (aCons (eVar 0) (aCons (eC (.ty "bool")) aNil))))) (mMap D.bl (mChain cLe cLe (eVar 1) (eVar 0) (eVar 2))))))) sNext)
noncomputable def m_is_whole : MF := mDef N_is_whole b_is_whole
theorem d_is_whole (ev : Ev K mg) (f : Addr) (cdv : Value) (A : Around) (outer : List Env) (s : Shared) (H : Hp) (E : XK) (hr : Room 0 (A.deeper (envOfC "is_whole" (defScope st_is_whole) s.heap.objs.size f cdv))) :
    DSs (cxOf (L2.CX P w) P w K mg base N_is_whole "is_whole" (defScope st_is_whole) f cdv A outer s H E) (defBody st_is_whole) b_is_whole := by
  have hN := sc_is_whole.nd
  have hu := hr.units
  have hc : (cxOf (L2.CX P w) P w K mg base N_is_whole "is_whole" (defScope st_is_whole) f cdv A outer s H E).calm = true := rfl
  have po := passes_of (X := cxOf (L2.CX P w) P w K mg base N_is_whole "is_whole" (defScope st_is_whole) f cdv A outer s H E) rfl
  exact (dss_cons (ds_ret (do_val (dv_and (dv_of (do_callB call_isiAll (r_isi ev.ct) rfl ev.f_isinstance (by decide +kernel) (da_cons (dv_var (pv 0)) (da_cons (dv_ty rfl ev.f_int (by decide +kernel)) da_nil)))) (dv_and (dv_not (dv_of (do_callB call_isiAll (r_isi ev.ct) rfl ev.f_isinstance (by decide +kernel) (da_cons (dv_var (pv 0)) (da_cons (dv_ty rfl ev.f_bool (by decide +kernel)) da_nil))))) (dv_one (dv_chain op_le op_le (r_cI : RCmp _ _ cLe) (r_cI : RCmp _ _ cLe) (dv_var (pv 1)) (dv_var (pv 0)) (dv_var (pv 2)) (nomark2 _ _))))))) dss_nil)
theorem F_is_whole {f : Addr} {fd : FuncData} (ev : Ev K mg) (F : FunD K "is_whole" "is_whole" (defArgs st_is_whole) (defBody st_is_whole) (defScope st_is_whole) [] [] f fd) (g : mg "is_whole" = some (.ref f)) : DFn P w K mg base 1 "is_whole" 3 m_is_whole :=
  ⟨f, fd, ["thing", "least", "most"], fn_def F sc_is_whole (fun cdv A outer s H E hr => d_is_whole ev f cdv A outer s H E hr), g, F.kp, F.bindsN fun _ _ _ _ _ _ us hl => match us, hl with | [_, _, _], _ => rfl⟩
/-! need_whole -/
abbrev st_need_whole : Stmt := top 19
def N_need_whole : List Str := ["thing", "least", "most"]
theorem sc_need_whole : FnScope N_need_whole ["thing", "least", "most"] (defScope st_need_whole) := ⟨rfl, rfl, rfl, by decide +kernel, rfl, by decide +kernel, by decide +kernel⟩
noncomputable def b_need_whole : MS := (sSeq (sIf (mNot (mTru (mMap Slot.d (mFn m_is_whole (aCons (eVar 0) (aCons (eVar 1) (aCons (eVar 2) aNil))))))) (sSeq (sRaise "BadNumber") sNext) sNext) sNext)
noncomputable def m_need_whole : MF := mDef N_need_whole b_need_whole
theorem d_need_whole (ev : Ev K mg) (F_is_whole : DFn P w K mg base 1 "is_whole" 3 m_is_whole) (f : Addr) (cdv : Value) (A : Around) (outer : List Env) (s : Shared) (H : Hp) (E : XK) (hr : Room 1 (A.deeper (envOfC "need_whole" (defScope st_need_whole) s.heap.objs.size f cdv))) :
    DSs (cxOf (L2.CX P w) P w K mg base N_need_whole "need_whole" (defScope st_need_whole) f cdv A outer s H E) (defBody st_need_whole) b_need_whole := by
  have hN := sc_need_whole.nd
  have hu := hr.units
  have hc : (cxOf (L2.CX P w) P w K mg base N_need_whole "need_whole" (defScope st_need_whole) f cdv A outer s H E).calm = true := rfl
  have po := passes_of (X := cxOf (L2.CX P w) P w K mg base N_need_whole "need_whole" (defScope st_need_whole) f cdv A outer s H E) rfl
  exact (dss_cons (ds_if (dt_not (dt_tru (dv_of (do_call F_is_whole hr rfl (da_cons (dv_var (pv 0)) (da_cons (dv_var (pv 1)) (da_cons (dv_var (pv 2)) da_nil))))))) (dss_cons (ds_raise rfl ev.x_BadNumber ev.c_BadNumber rfl) dss_nil) dss_nil) dss_nil)
theorem F_need_whole {f : Addr} {fd : FuncData} (ev : Ev K mg) (F_is_whole : DFn P w K mg base 1 "is_whole" 3 m_is_whole) (F : FunD K "need_whole" "need_whole" (defArgs st_need_whole) (defBody st_need_whole) (defScope st_need_whole) [] [] f fd) (g : mg "need_whole" = some (.ref f)) : DFn P w K mg base 2 "need_whole" 3 m_need_whole :=
  ⟨f, fd, ["thing", "least", "most"], fn_def F sc_need_whole (fun cdv A outer s H E hr => d_need_whole ev F_is_whole f cdv A outer s H E hr), g, F.kp, F.bindsN fun _ _ _ _ _ _ us hl => match us, hl with | [_, _, _], _ => rfl⟩
/-! rising -/
abbrev st_rising : Stmt := top 20
def N_rising : List Str := ["many", "pace", "gain", "free"]
theorem sc_rising : FnScope N_rising ["many", "pace", "gain"] (defScope st_rising) := ⟨rfl, rfl, rfl, by decide +kernel, rfl, by decide +kernel, by decide +kernel⟩
noncomputable def b_rising : MS := (sSeq (sSet 3 (mMap Slot.val (mMap Slot.d (mCall fMin (aCons (eVar 0) (aCons (mMap Slot.d (mBin (opI2 fDiv) (eVar 1) (eVar 2))) aNil)))))) (sSeq (sRet (mBin opAdd (mMap Slot.d (mBin (opI2 fDiv) (mMap Slot.d (mBin (opI2 fMul) (mMap Slot.d (mBin (opI2 fMul) (eVar 2) (eVar 3))) (mMap Slot.d (mBin opAdd (eVar 3) (eC (.int (1))))))) (eC (.int (2))))) (mMap Slot.d (mBin (opI2 fMul) (mMap Slot.d (mBin opSub (eVar 0) (eVar 3))) (eVar 1))))) sNext))
noncomputable def m_rising : MF := mDef N_rising b_rising
theorem d_rising (ev : Ev K mg) (f : Addr) (cdv : Value) (A : Around) (outer : List Env) (s : Shared) (H : Hp) (E : XK) (hr : Room 0 (A.deeper (envOfC "rising" (defScope st_rising) s.heap.objs.size f cdv))) :
    DSs (cxOf (L2.CX P w) P w K mg base N_rising "rising" (defScope st_rising) f cdv A outer s H E) (defBody st_rising) b_rising := by
  have hN := sc_rising.nd
  have hu := hr.units
  have hc : (cxOf (L2.CX P w) P w K mg base N_rising "rising" (defScope st_rising) f cdv A outer s H E).calm = true := rfl
  have po := passes_of (X := cxOf (L2.CX P w) P w K mg base N_rising "rising" (defScope st_rising) f cdv A outer s H E) rfl
  exact (dss_cons (ds_set (i := 3) hN rfl (by first | exact .inl rfl | exact .inr rfl) (do_val (dv_of (do_callB (call_min hc) r_min rfl ev.f_min (by decide +kernel) (da_cons (dv_var (pv 0)) (da_cons (dv_of (do_bin op_fdivW r_div (dv_var (pv 1)) (dv_var (pv 2)))) da_nil)))))) (dss_cons (ds_ret (do_bin op_addAll r_add (dv_of (do_bin op_fdivW r_div (dv_of (do_bin op_mulW r_mul (dv_of (do_bin op_mulW r_mul (dv_var (pv 2)) (dv_var (pv 3)))) (dv_of (do_bin op_addAll r_add (dv_var (pv 3)) dv_int)))) dv_int)) (dv_of (do_bin op_mulW r_mul (dv_of (do_bin op_sub r_sub (dv_var (pv 0)) (dv_var (pv 3)))) (dv_var (pv 1)))))) dss_nil))
theorem F_rising {f : Addr} {fd : FuncData} (ev : Ev K mg) (F : FunD K "rising" "rising" (defArgs st_rising) (defBody st_rising) (defScope st_rising) [] [] f fd) (g : mg "rising" = some (.ref f)) : DFn P w K mg base 1 "rising" 3 m_rising :=
  ⟨f, fd, ["many", "pace", "gain"], fn_def F sc_rising (fun cdv A outer s H E hr => d_rising ev f cdv A outer s H E hr), g, F.kp, F.bindsN fun _ _ _ _ _ _ us hl => match us, hl with | [_, _, _], _ => rfl⟩
/-! reach_of -/
abbrev st_reach_of : Stmt := top 21
def N_reach_of : List Str := ["many", "pace", "gain", "half", "found"]
theorem sc_reach_of : FnScope N_reach_of ["many", "pace", "gain"] (defScope st_reach_of) := ⟨rfl, rfl, rfl, by decide +kernel, rfl, by decide +kernel, by decide +kernel⟩
noncomputable def b_reach_of : MS := (sSeq (sSet 3 (mMap Slot.val (mMap Slot.d (mBin (opI2 fDiv) (eVar 0) (eC (.int (2))))))) (sSeq (sSet 4 (mMap Slot.val (mMap Slot.d (mBin (opI2 fMul) (eC (.int (2))) (mMap Slot.d (mFn m_rising (aCons (eVar 3) (aCons (eVar 1) (aCons (eVar 2) aNil))))))))) (sSeq (sIf (mCmp cEq (mMap Slot.d (mBin (opI2 fMod) (eVar 0) (eC (.int (2))))) (eC (.int (1)))) (sSeq (sAug 4 fAddI (mMap Slot.d (mCall fMin (aCons (eVar 1) (aCons (mMap Slot.d (mBin (opI2 fMul) (eVar 2) (mMap Slot.d (mBin opAdd (eVar 3) (eC (.int (1))))))) aNil))))) sNext) sNext) (sSeq (sRetV 4) sNext))))
noncomputable def m_reach_of : MF := mDef N_reach_of b_reach_of
theorem d_reach_of (ev : Ev K mg) (F_rising : DFn P w K mg base 1 "rising" 3 m_rising) (f : Addr) (cdv : Value) (A : Around) (outer : List Env) (s : Shared) (H : Hp) (E : XK) (hr : Room 1 (A.deeper (envOfC "reach_of" (defScope st_reach_of) s.heap.objs.size f cdv))) :
    DSs (cxOf (L2.CX P w) P w K mg base N_reach_of "reach_of" (defScope st_reach_of) f cdv A outer s H E) (defBody st_reach_of) b_reach_of := by
  have hN := sc_reach_of.nd
  have hu := hr.units
  have hc : (cxOf (L2.CX P w) P w K mg base N_reach_of "reach_of" (defScope st_reach_of) f cdv A outer s H E).calm = true := rfl
  have po := passes_of (X := cxOf (L2.CX P w) P w K mg base N_reach_of "reach_of" (defScope st_reach_of) f cdv A outer s H E) rfl
  exact (dss_cons (ds_set (i := 3) hN rfl (by first | exact .inl rfl | exact .inr rfl) (do_val (dv_of (do_bin op_fdivW r_div (dv_var (pv 0)) dv_int)))) (dss_cons (ds_set (i := 4) hN rfl (by first | exact .inl rfl | exact .inr rfl) (do_val (dv_of (do_bin op_mulW r_mul dv_int (dv_of (do_call F_rising hr rfl (da_cons (dv_var (pv 3)) (da_cons (dv_var (pv 1)) (da_cons (dv_var (pv 2)) da_nil))))))))) (dss_cons (ds_if (dt_cmp (op_eqAll hu) (r_eq : RCmp _ _ cEq) (dv_of (do_bin op_mod r_mod (dv_var (pv 0)) dv_int)) dv_int (nomark _)) (dss_cons (ds_aug (i := 4) hN rfl (by first | exact .inl rfl | exact .inr rfl) (dv_of (do_callB (call_min hc) r_min rfl ev.f_min (by decide +kernel) (da_cons (dv_var (pv 1)) (da_cons (dv_of (do_bin op_mulW r_mul (dv_var (pv 2)) (dv_of (do_bin op_addAll r_add (dv_var (pv 3)) dv_int)))) da_nil)))) ip_add ri_add) dss_nil) dss_nil) (dss_cons (ds_retV (pv 4)) dss_nil))))
theorem F_reach_of {f : Addr} {fd : FuncData} (ev : Ev K mg) (F_rising : DFn P w K mg base 1 "rising" 3 m_rising) (F : FunD K "reach_of" "reach_of" (defArgs st_reach_of) (defBody st_reach_of) (defScope st_reach_of) [] [] f fd) (g : mg "reach_of" = some (.ref f)) : DFn P w K mg base 2 "reach_of" 3 m_reach_of :=
  ⟨f, fd, ["many", "pace", "gain"], fn_def F sc_reach_of (fun cdv A outer s H E hr => d_reach_of ev F_rising f cdv A outer s H E hr), g, F.kp, F.bindsN fun _ _ _ _ _ _ us hl => match us, hl with | [_, _, _], _ => rfl⟩
/-! falling -/
abbrev st_falling : Stmt := top 22
def N_falling : List Str := ["step", "many", "gain", "free"]
theorem sc_falling : FnScope N_falling ["step", "many", "gain"] (defScope st_falling) := ⟨rfl, rfl, rfl, by decide +kernel, rfl, by decide +kernel, by decide +kernel⟩
noncomputable def b_falling : MS := (sSeq (sSet 3 (mMap Slot.val (mMap Slot.d (mCall fMin (aCons (eVar 1) (aCons (mMap Slot.d (mBin (opI2 fDiv) (mMap Slot.d (mBin opSub (eVar 0) (eC (.int (1))))) (eVar 2))) aNil)))))) (sSeq (sRet (mBin opSub (mMap Slot.d (mBin opAdd (mMap Slot.d (mBin opSub (mMap Slot.d (mBin (opI2 fMul) (eVar 3) (eVar 0))) (mMap Slot.d (mBin (opI2 fDiv) (mMap Slot.d (mBin (opI2 fMul) (mMap Slot.d (mBin (opI2 fMul) (eVar 2) (eVar 3))) (mMap Slot.d (mBin opAdd (eVar 3) (eC (.int (1))))))) (eC (.int (2))))))) (eVar 1))) (eVar 3))) sNext))
noncomputable def m_falling : MF := mDef N_falling b_falling
theorem d_falling (ev : Ev K mg) (f : Addr) (cdv : Value) (A : Around) (outer : List Env) (s : Shared) (H : Hp) (E : XK) (hr : Room 0 (A.deeper (envOfC "falling" (defScope st_falling) s.heap.objs.size f cdv))) :
    DSs (cxOf (L2.CX P w) P w K mg base N_falling "falling" (defScope st_falling) f cdv A outer s H E) (defBody st_falling) b_falling := by
  have hN := sc_falling.nd
  have hu := hr.units
  have hc : (cxOf (L2.CX P w) P w K mg base N_falling "falling" (defScope st_falling) f cdv A outer s H E).calm = true := rfl
  have po := passes_of (X := cxOf (L2.CX P w) P w K mg base N_falling "falling" (defScope st_falling) f cdv A outer s H E) rfl
  exact (dss_cons (ds_set (i := 3) hN rfl (by first | exact .inl rfl | exact .inr rfl) (do_val (dv_of (do_callB (call_min hc) r_min rfl ev.f_min (by decide +kernel) (da_cons (dv_var (pv 1)) (da_cons (dv_of (do_bin op_fdivW r_div (dv_of (do_bin op_sub r_sub (dv_var (pv 0)) dv_int)) (dv_var (pv 2)))) da_nil)))))) (dss_cons (ds_ret (do_bin op_sub r_sub (dv_of (do_bin op_addAll r_add (dv_of (do_bin op_sub r_sub (dv_of (do_bin op_mulW r_mul (dv_var (pv 3)) (dv_var (pv 0)))) (dv_of (do_bin op_fdivW r_div (dv_of (do_bin op_mulW r_mul (dv_of (do_bin op_mulW r_mul (dv_var (pv 2)) (dv_var (pv 3)))) (dv_of (do_bin op_addAll r_add (dv_var (pv 3)) dv_int)))) dv_int)))) (dv_var (pv 1)))) (dv_var (pv 3)))) dss_nil))
theorem F_falling {f : Addr} {fd : FuncData} (ev : Ev K mg) (F : FunD K "falling" "falling" (defArgs st_falling) (defBody st_falling) (defScope st_falling) [] [] f fd) (g : mg "falling" = some (.ref f)) : DFn P w K mg base 1 "falling" 3 m_falling :=
  ⟨f, fd, ["step", "many", "gain"], fn_def F sc_falling (fun cdv A outer s H E hr => d_falling ev f cdv A outer s H E hr), g, F.kp, F.bindsN fun _ _ _ _ _ _ us hl => match us, hl with | [_, _, _], _ => rfl⟩
/-! greatest_step -/
abbrev st_greatest_step : Stmt := top 23
def N_greatest_step : List Str := ["left", "many", "least", "most", "gain", "middle"]
theorem sc_greatest_step : FnScope N_greatest_step ["left", "many", "least", "most", "gain"] (defScope st_greatest_step) := ⟨rfl, rfl, rfl, by decide +kernel, rfl, by decide +kernel, by decide +kernel⟩
noncomputable def b_greatest_step : MS := (sSeq (sWhile (mCmp cLt (eVar 2) (eVar 3)) (sSeq (sSet 5 (mMap Slot.val (mMap Slot.d (mBin (opI2 fDiv) (mMap Slot.d (mBin opAdd (mMap Slot.d (mBin opAdd (eVar 2) (eVar 3))) (eC (.int (1))))) (eC (.int (2))))))) (sSeq (sIf (mCmp cLe (mMap Slot.d (mBin opAdd (eVar 5) (mMap Slot.d (mFn m_falling (aCons (eVar 5) (aCons (eVar 1) (aCons (eVar 4) aNil))))))) (eVar 0)) (sSeq (sSet 2 (mMap Slot.val (eVar 5))) sNext) (sSeq (sSet 3 (mMap Slot.val (mMap Slot.d (mBin opSub (eVar 5) (eC (.int (1))))))) sNext)) sNext))) (sSeq (sRetV 2) sNext))
noncomputable def m_greatest_step : MF := mDef N_greatest_step b_greatest_step
theorem d_greatest_step (ev : Ev K mg) (F_falling : DFn P w K mg base 1 "falling" 3 m_falling) (f : Addr) (cdv : Value) (A : Around) (outer : List Env) (s : Shared) (H : Hp) (E : XK) (hr : Room 1 (A.deeper (envOfC "greatest_step" (defScope st_greatest_step) s.heap.objs.size f cdv))) :
    DSs (cxOf (L2.CX P w) P w K mg base N_greatest_step "greatest_step" (defScope st_greatest_step) f cdv A outer s H E) (defBody st_greatest_step) b_greatest_step := by
  have hN := sc_greatest_step.nd
  have hu := hr.units
  have hc : (cxOf (L2.CX P w) P w K mg base N_greatest_step "greatest_step" (defScope st_greatest_step) f cdv A outer s H E).calm = true := rfl
  have po := passes_of (X := cxOf (L2.CX P w) P w K mg base N_greatest_step "greatest_step" (defScope st_greatest_step) f cdv A outer s H E) rfl
  exact (dss_cons (ds_while po (dt_cmp op_lt (r_cI : RCmp _ _ cLt) (dv_var (pv 2)) (dv_var (pv 3)) (nomark _)) (dss_cons (ds_set (i := 5) hN rfl (by first | exact .inl rfl | exact .inr rfl) (do_val (dv_of (do_bin op_fdivW r_div (dv_of (do_bin op_addAll r_add (dv_of (do_bin op_addAll r_add (dv_var (pv 2)) (dv_var (pv 3)))) dv_int)) dv_int)))) (dss_cons (ds_if (dt_cmp op_le (r_cI : RCmp _ _ cLe) (dv_of (do_bin op_addAll r_add (dv_var (pv 5)) (dv_of (do_call F_falling hr rfl (da_cons (dv_var (pv 5)) (da_cons (dv_var (pv 1)) (da_cons (dv_var (pv 4)) da_nil))))))) (dv_var (pv 0)) (nomark _)) (dss_cons (ds_set (i := 2) hN rfl (by first | exact .inl rfl | exact .inr rfl) (do_val (dv_var (pv 5)))) dss_nil) (dss_cons (ds_set (i := 3) hN rfl (by first | exact .inl rfl | exact .inr rfl) (do_val (dv_of (do_bin op_sub r_sub (dv_var (pv 5)) dv_int)))) dss_nil)) dss_nil))) (dss_cons (ds_retV (pv 2)) dss_nil))
theorem F_greatest_step {f : Addr} {fd : FuncData} (ev : Ev K mg) (F_falling : DFn P w K mg base 1 "falling" 3 m_falling) (F : FunD K "greatest_step" "greatest_step" (defArgs st_greatest_step) (defBody st_greatest_step) (defScope st_greatest_step) [] [] f fd) (g : mg "greatest_step" = some (.ref f)) : DFn P w K mg base 2 "greatest_step" 5 m_greatest_step :=
  ⟨f, fd, ["left", "many", "least", "most", "gain"], fn_def F sc_greatest_step (fun cdv A outer s H E hr => d_greatest_step ev F_falling f cdv A outer s H E hr), g, F.kp, F.bindsN fun _ _ _ _ _ _ us hl => match us, hl with | [_, _, _, _, _], _ => rfl⟩
/-! many_for -/
abbrev st_many_for : Stmt := top 24
def N_many_for : List Str := ["distance", "pace", "gain", "found"]
theorem sc_many_for : FnScope N_many_for ["distance", "pace", "gain"] (defScope st_many_for) := ⟨rfl, rfl, rfl, by decide +kernel, rfl, by decide +kernel, by decide +kernel⟩
noncomputable def b_many_for : MS := (sSeq (sSet 3 (mMap Slot.val (eC (.int (0))))) (sSeq (sWhile (mCmp cLt (mMap Slot.d (mFn m_reach_of (aCons (eVar 3) (aCons (eVar 1) (aCons (eVar 2) aNil))))) (eVar 0)) (sSeq (sAug 3 fAddI (eC (.int (1)))) (sSeq (sIf (mCmp cGt (eVar 3) (eC (.int (200)))) (sSeq (sRaise "TooLong") sNext) sNext) sNext))) (sSeq (sRetV 3) sNext)))
noncomputable def m_many_for : MF := mDef N_many_for b_many_for
theorem d_many_for (ev : Ev K mg) (F_reach_of : DFn P w K mg base 2 "reach_of" 3 m_reach_of) (f : Addr) (cdv : Value) (A : Around) (outer : List Env) (s : Shared) (H : Hp) (E : XK) (hr : Room 2 (A.deeper (envOfC "many_for" (defScope st_many_for) s.heap.objs.size f cdv))) :
    DSs (cxOf (L2.CX P w) P w K mg base N_many_for "many_for" (defScope st_many_for) f cdv A outer s H E) (defBody st_many_for) b_many_for := by
  have hN := sc_many_for.nd
  have hu := hr.units
  have hc : (cxOf (L2.CX P w) P w K mg base N_many_for "many_for" (defScope st_many_for) f cdv A outer s H E).calm = true := rfl
  have po := passes_of (X := cxOf (L2.CX P w) P w K mg base N_many_for "many_for" (defScope st_many_for) f cdv A outer s H E) rfl
  exact (dss_cons (ds_set (i := 3) hN rfl (by first | exact .inl rfl | exact .inr rfl) (do_val dv_int)) (dss_cons (ds_while po (dt_cmp op_lt (r_cI : RCmp _ _ cLt) (dv_of (do_call F_reach_of hr rfl (da_cons (dv_var (pv 3)) (da_cons (dv_var (pv 1)) (da_cons (dv_var (pv 2)) da_nil))))) (dv_var (pv 0)) (nomark _)) (dss_cons (ds_aug (i := 3) hN rfl (by first | exact .inl rfl | exact .inr rfl) dv_int ip_add ri_add) (dss_cons (ds_if (dt_cmp op_gt (r_cI : RCmp _ _ cGt) (dv_var (pv 3)) (dv_gint rfl ev.i_MOST_STEPS) (nomark _)) (dss_cons (ds_raise rfl ev.x_TooLong ev.c_TooLong rfl) dss_nil) dss_nil) dss_nil))) (dss_cons (ds_retV (pv 3)) dss_nil)))
theorem F_many_for {f : Addr} {fd : FuncData} (ev : Ev K mg) (F_reach_of : DFn P w K mg base 2 "reach_of" 3 m_reach_of) (F : FunD K "many_for" "many_for" (defArgs st_many_for) (defBody st_many_for) (defScope st_many_for) [] [] f fd) (g : mg "many_for" = some (.ref f)) : DFn P w K mg base 3 "many_for" 3 m_many_for :=
  ⟨f, fd, ["distance", "pace", "gain"], fn_def F sc_many_for (fun cdv A outer s H E hr => d_many_for ev F_reach_of f cdv A outer s H E hr), g, F.kp, F.bindsN fun _ _ _ _ _ _ us hl => match us, hl with | [_, _, _], _ => rfl⟩
/-! steps_of -/
abbrev st_steps_of : Stmt := top 25
def N_steps_of : List Str := ["distance", "pace", "gain", "many", "found", "left", "last", "behind", "most"]
theorem sc_steps_of : FnScope N_steps_of ["distance", "pace", "gain"] (defScope st_steps_of) := ⟨rfl, rfl, rfl, by decide +kernel, rfl, by decide +kernel, by decide +kernel⟩
noncomputable def b_steps_of_0 : MS := (sExpr (mMap Slot.d (mFn m_need_whole (aCons (eVar 0) (aCons (eC (.int (0))) (aCons (eC (.int (1000000000000))) aNil))))))
noncomputable def b_steps_of_1 : MS := (sExpr (mMap Slot.d (mFn m_need_whole (aCons (eVar 1) (aCons (eC (.int (1))) (aCons (eC (.int (1000000000))) aNil))))))
noncomputable def b_steps_of_2 : MS := (sExpr (mMap Slot.d (mFn m_need_whole (aCons (eVar 2) (aCons (eC (.int (1))) (aCons (eC (.int (1000000000))) aNil))))))
noncomputable def b_steps_of_3 : MS := (sSet 3 (mMap Slot.val (mMap Slot.d (mFn m_many_for (aCons (eVar 0) (aCons (eVar 1) (aCons (eVar 2) aNil)))))))
noncomputable def b_steps_of_4 : MS := (sSet 4 (oLst aNil))
noncomputable def b_steps_of_5 : MS := (sSet 5 (mMap Slot.val (eVar 0)))
noncomputable def b_steps_of_6 : MS := (sSet 6 (mMap Slot.val (eC (.int (0)))))
noncomputable def b_steps_of_7 : MS := (sFor (mThen fRevRange (eVar 3)) (gN 7) (sSeq (sSet 8 (mMap Slot.val (mMap Slot.d (mCall fMin (aCons (eVar 1) (aCons (mMap Slot.d (mBin opAdd (eVar 6) (eVar 2))) (aCons (mMap Slot.d (mBin (opI2 fMul) (eVar 2) (mMap Slot.d (mBin opAdd (eVar 7) (eC (.int (1))))))) aNil))))))) (sSeq (sSet 6 (mMap Slot.val (mMap Slot.d (mFn m_greatest_step (aCons (eVar 5) (aCons (eVar 7) (aCons (mMap Slot.d (mCall fMax (aCons (eC (.int (1))) (aCons (mMap Slot.d (mBin opSub (eVar 6) (eVar 2))) aNil)))) (aCons (eVar 8) (aCons (eVar 2) aNil))))))))) (sSeq (sApp 4 (eVar 6)) (sSeq (sAug 5 fSubI (eVar 6)) sNext)))))
noncomputable def b_steps_of_8 : MS := (sRetV 4)
noncomputable def b_steps_of : MS := (sSeq b_steps_of_0 (sSeq b_steps_of_1 (sSeq b_steps_of_2 (sSeq b_steps_of_3 (sSeq b_steps_of_4 (sSeq b_steps_of_5 (sSeq b_steps_of_6 (sSeq b_steps_of_7 (sSeq b_steps_of_8 sNext)))))))))
noncomputable def m_steps_of : MF := mDef N_steps_of b_steps_of
theorem d_steps_of (ev : Ev K mg) (F_need_whole : DFn P w K mg base 3 "need_whole" 3 m_need_whole) (F_many_for : DFn P w K mg base 3 "many_for" 3 m_many_for) (F_greatest_step : DFn P w K mg base 3 "greatest_step" 5 m_greatest_step) (f : Addr) (cdv : Value) (A : Around) (outer : List Env) (s : Shared) (H : Hp) (E : XK) (hr : Room 3 (A.deeper (envOfC "steps_of" (defScope st_steps_of) s.heap.objs.size f cdv))) :
    DSs (cxOf (L2.CX P w) P w K mg base N_steps_of "steps_of" (defScope st_steps_of) f cdv A outer s H E) (defBody st_steps_of) b_steps_of := by
  have hN := sc_steps_of.nd
  have hu := hr.units
  have hc : (cxOf (L2.CX P w) P w K mg base N_steps_of "steps_of" (defScope st_steps_of) f cdv A outer s H E).calm = true := rfl
  have po := passes_of (X := cxOf (L2.CX P w) P w K mg base N_steps_of "steps_of" (defScope st_steps_of) f cdv A outer s H E) rfl
  exact (dss_cons (ds_expr (dv_of (do_call F_need_whole hr rfl (da_cons (dv_var (pv 0)) (da_cons dv_int (da_cons (dv_gint rfl ev.i_MOST_DISTANCE) da_nil)))))) (dss_cons (ds_expr (dv_of (do_call F_need_whole hr rfl (da_cons (dv_var (pv 1)) (da_cons dv_int (da_cons (dv_gint rfl ev.i_MOST_PACE) da_nil)))))) (dss_cons (ds_expr (dv_of (do_call F_need_whole hr rfl (da_cons (dv_var (pv 2)) (da_cons dv_int (da_cons (dv_gint rfl ev.i_MOST_PACE) da_nil)))))) (dss_cons (ds_set (i := 3) hN rfl (by first | exact .inl rfl | exact .inr rfl) (do_val (dv_of (do_call F_many_for hr rfl (da_cons (dv_var (pv 0)) (da_cons (dv_var (pv 1)) (da_cons (dv_var (pv 2)) da_nil))))))) (dss_cons (ds_set (i := 4) hN rfl (by first | exact .inl rfl | exact .inr rfl) (do_lst da_nil)) (dss_cons (ds_set (i := 5) hN rfl (by first | exact .inl rfl | exact .inr rfl) (do_val (dv_var (pv 0)))) (dss_cons (ds_set (i := 6) hN rfl (by first | exact .inl rfl | exact .inr rfl) (do_val dv_int)) (dss_cons (ds_for po rfl (di_revrange rfl ev.f_reversed rfl ev.f_range (dv_var (pv 3))) (pg_name hN rfl (by first | exact .inl rfl | exact .inr rfl)) (RG.rel (rg_name 7)) (dss_cons (ds_set (i := 8) hN rfl (by first | exact .inl rfl | exact .inr rfl) (do_val (dv_of (do_callB (call_min hc) r_min rfl ev.f_min (by decide +kernel) (da_cons (dv_var (pv 1)) (da_cons (dv_of (do_bin op_addAll r_add (dv_var (pv 6)) (dv_var (pv 2)))) (da_cons (dv_of (do_bin op_mulW r_mul (dv_var (pv 2)) (dv_of (do_bin op_addAll r_add (dv_var (pv 7)) dv_int)))) da_nil))))))) (dss_cons (ds_set (i := 6) hN rfl (by first | exact .inl rfl | exact .inr rfl) (do_val (dv_of (do_call F_greatest_step hr rfl (da_cons (dv_var (pv 5)) (da_cons (dv_var (pv 7)) (da_cons (dv_of (do_callB (call_max hc) r_max rfl ev.f_max (by decide +kernel) (da_cons dv_int (da_cons (dv_of (do_bin op_sub r_sub (dv_var (pv 6)) (dv_var (pv 2)))) da_nil)))) (da_cons (dv_var (pv 8)) (da_cons (dv_var (pv 2)) da_nil))))))))) (dss_cons (ds_app (pv 4) (dv_var (pv 6)) rfl (fun pa => pe_bm PySem.F.plainAttrs_list PySem.F.slot_list_append PySem.F.type_list_append mt_append (pv 4) pa)) (dss_cons (ds_aug (i := 5) hN rfl (by first | exact .inl rfl | exact .inr rfl) (dv_var (pv 6)) ip_sub ri_sub) dss_nil))))) (dss_cons (ds_retV (pv 4)) dss_nil)))))))))
theorem F_steps_of {f : Addr} {fd : FuncData} (ev : Ev K mg) (F_need_whole : DFn P w K mg base 3 "need_whole" 3 m_need_whole) (F_many_for : DFn P w K mg base 3 "many_for" 3 m_many_for) (F_greatest_step : DFn P w K mg base 3 "greatest_step" 5 m_greatest_step) (F : FunD K "steps_of" "steps_of" (defArgs st_steps_of) (defBody st_steps_of) (defScope st_steps_of) [] [] f fd) (g : mg "steps_of" = some (.ref f)) : DFn P w K mg base 4 "steps_of" 3 m_steps_of :=
  ⟨f, fd, ["distance", "pace", "gain"], fn_def F sc_steps_of (fun cdv A outer s H E hr => d_steps_of ev F_need_whole F_many_for F_greatest_step f cdv A outer s H E hr), g, F.kp, F.bindsN fun _ _ _ _ _ _ us hl => match us, hl with | [_, _, _], _ => rfl⟩
/-! _law_wide -/
abbrev st__law_wide : Stmt := top 27
def N__law_wide : List Str := ["_law_cell", "_law_k"]
theorem sc__law_wide : FnScope N__law_wide ["_law_cell", "_law_k"] (defScope st__law_wide) := ⟨rfl, rfl, rfl, by decide +kernel, rfl, by decide +kernel, by decide +kernel⟩
noncomputable def b__law_wide : MS := (sSeq (sSet 0 (mMap Slot.val (mMap Slot.d (mBin (opI2 fMul) (mMap Slot.d (mBin opAdd (mMap Slot.d (mBin opAdd (mMap Slot.d (mBin opAdd (mMap Slot.d (mBin (opI2 fMod) (eVar 0) (mMap Slot.d (mBin (opI2 fPow) (eC (.int (10))) (eC (.int (60))))))) (mMap Slot.d (mBin (opI2 fMul) (mMap Slot.d (mBin (opI2 fMul) (eC (.int (104729))) (eVar 1))) (eVar 1))))) (mMap Slot.d (mBin (opI2 fMul) (eC (.int (7919))) (eVar 1))))) (eC (.int (3))))) (eC (.int (2862933555777941757))))))) (sSeq (sRet (mBin (opI2 fDiv) (mMap Slot.d (mBin (opI2 fMod) (mMap Slot.d (mBin (opI2 fMul) (eVar 0) (eVar 0))) (eC (.int (170141183460469231731687303715884105727))))) (mMap Slot.d (mBin (opI2 fPow) (eC (.int (2))) (eC (.int (30))))))) sNext))
noncomputable def m__law_wide : MF := mDef N__law_wide b__law_wide
theorem d__law_wide (ev : Ev K mg) (f : Addr) (cdv : Value) (A : Around) (outer : List Env) (s : Shared) (H : Hp) (E : XK) (hr : Room 0 (A.deeper (envOfC "_law_wide" (defScope st__law_wide) s.heap.objs.size f cdv))) :
    DSs (cxOf (L2.CX P w) P w K mg base N__law_wide "_law_wide" (defScope st__law_wide) f cdv A outer s H E) (defBody st__law_wide) b__law_wide := by
  have hN := sc__law_wide.nd
  have hu := hr.units
  have hc : (cxOf (L2.CX P w) P w K mg base N__law_wide "_law_wide" (defScope st__law_wide) f cdv A outer s H E).calm = true := rfl
  have po := passes_of (X := cxOf (L2.CX P w) P w K mg base N__law_wide "_law_wide" (defScope st__law_wide) f cdv A outer s H E) rfl
  exact (dss_cons (ds_set (i := 0) hN rfl (by first | exact .inl rfl | exact .inr rfl) (do_val (dv_of (do_bin op_mulW r_mul (dv_of (do_bin op_addAll r_add (dv_of (do_bin op_addAll r_add (dv_of (do_bin op_addAll r_add (dv_of (do_bin op_mod r_mod (dv_var (pv 0)) (dv_of (do_bin op_pow r_pow dv_int dv_int)))) (dv_of (do_bin op_mulW r_mul (dv_of (do_bin op_mulW r_mul dv_int (dv_var (pv 1)))) (dv_var (pv 1)))))) (dv_of (do_bin op_mulW r_mul dv_int (dv_var (pv 1)))))) dv_int)) dv_int)))) (dss_cons (ds_ret (do_bin op_fdivW r_div (dv_of (do_bin op_mod r_mod (dv_of (do_bin op_mulW r_mul (dv_var (pv 0)) (dv_var (pv 0)))) dv_int)) (dv_of (do_bin op_pow r_pow dv_int dv_int)))) dss_nil))
theorem F__law_wide {f : Addr} {fd : FuncData} (ev : Ev K mg) (F : FunD K "_law_wide" "_law_wide" (defArgs st__law_wide) (defBody st__law_wide) (defScope st__law_wide) [] [] f fd) (g : mg "_law_wide" = some (.ref f)) : DFn P w K mg base 1 "_law_wide" 2 m__law_wide :=
  ⟨f, fd, ["_law_cell", "_law_k"], fn_def F sc__law_wide (fun cdv A outer s H E hr => d__law_wide ev f cdv A outer s H E hr), g, F.kp, F.bindsN fun _ _ _ _ _ _ us hl => match us, hl with | [_, _], _ => rfl⟩
/-! _law_rate -/
abbrev st__law_rate : Stmt := top 28
def N__law_rate : List Str := ["_law_number", "_law_most"]
theorem sc__law_rate : FnScope N__law_rate ["_law_number"] (defScope st__law_rate) := ⟨rfl, rfl, rfl, by decide +kernel, rfl, by decide +kernel, by decide +kernel⟩
noncomputable def b__law_rate : MS := (sSeq (sSet 1 (mMap Slot.val (mMap Slot.d (mBin (opI2 fPow) (eC (.int (10))) (eC (.int (9))))))) (sSeq (sRet (mBin opIx (mMap Slot.d (oLst (aCons (mMap Slot.d (mBin opAdd (eC (.int (1))) (mMap Slot.d (mBin (opI2 fMod) (mMap Slot.d (mBin (opI2 fDiv) (eVar 0) (eC (.int (8))))) (eC (.int (9))))))) (aCons (mMap Slot.d (mBin opAdd (eC (.int (1))) (mMap Slot.d (mBin (opI2 fMod) (mMap Slot.d (mBin (opI2 fDiv) (eVar 0) (eC (.int (8))))) (eC (.int (1000))))))) (aCons (mMap Slot.d (mBin opAdd (eC (.int (1))) (mMap Slot.d (mBin (opI2 fMod) (mMap Slot.d (mBin (opI2 fDiv) (eVar 0) (eC (.int (8))))) (eVar 1))))) (aCons (eVar 1) (aCons (eC (.int (1))) (aCons (eC (.int (2))) (aCons (eC (.int (7))) (aCons (eC (.int (3))) aNil)))))))))) (mMap Slot.d (mBin (opI2 fMod) (eVar 0) (eC (.int (8))))))) sNext))
noncomputable def m__law_rate : MF := mDef N__law_rate b__law_rate
theorem d__law_rate (ev : Ev K mg) (f : Addr) (cdv : Value) (A : Around) (outer : List Env) (s : Shared) (H : Hp) (E : XK) (hr : Room 0 (A.deeper (envOfC "_law_rate" (defScope st__law_rate) s.heap.objs.size f cdv))) :
    DSs (cxOf (L2.CX P w) P w K mg base N__law_rate "_law_rate" (defScope st__law_rate) f cdv A outer s H E) (defBody st__law_rate) b__law_rate := by
  have hN := sc__law_rate.nd
  have hu := hr.units
  have hc : (cxOf (L2.CX P w) P w K mg base N__law_rate "_law_rate" (defScope st__law_rate) f cdv A outer s H E).calm = true := rfl
  have po := passes_of (X := cxOf (L2.CX P w) P w K mg base N__law_rate "_law_rate" (defScope st__law_rate) f cdv A outer s H E) rfl
  exact (dss_cons (ds_set (i := 1) hN rfl (by first | exact .inl rfl | exact .inr rfl) (do_val (dv_of (do_bin op_pow r_pow dv_int dv_int)))) (dss_cons (ds_ret (do_ix ix_seq r_ix (fun _ _ => rfl) (dv_of (do_lst (da_cons (dv_of (do_bin op_addAll r_add dv_int (dv_of (do_bin op_mod r_mod (dv_of (do_bin op_fdivW r_div (dv_var (pv 0)) dv_int)) dv_int)))) (da_cons (dv_of (do_bin op_addAll r_add dv_int (dv_of (do_bin op_mod r_mod (dv_of (do_bin op_fdivW r_div (dv_var (pv 0)) dv_int)) dv_int)))) (da_cons (dv_of (do_bin op_addAll r_add dv_int (dv_of (do_bin op_mod r_mod (dv_of (do_bin op_fdivW r_div (dv_var (pv 0)) dv_int)) (dv_var (pv 1)))))) (da_cons (dv_var (pv 1)) (da_cons dv_int (da_cons dv_int (da_cons dv_int (da_cons dv_int da_nil)))))))))) (dv_of (do_bin op_mod r_mod (dv_var (pv 0)) dv_int)))) dss_nil))
theorem F__law_rate {f : Addr} {fd : FuncData} (ev : Ev K mg) (F : FunD K "_law_rate" "_law_rate" (defArgs st__law_rate) (defBody st__law_rate) (defScope st__law_rate) [] [] f fd) (g : mg "_law_rate" = some (.ref f)) : DFn P w K mg base 1 "_law_rate" 1 m__law_rate :=
  ⟨f, fd, ["_law_number"], fn_def F sc__law_rate (fun cdv A outer s H E hr => d__law_rate ev f cdv A outer s H E hr), g, F.kp, F.bindsN fun _ _ _ _ _ _ us hl => match us, hl with | [_], _ => rfl⟩
/-! _law_reach -/
abbrev st__law_reach : Stmt := top 29
def N__law_reach : List Str := ["_law_many", "_law_pace", "_law_gain", "_law_k"]
theorem sc__law_reach : FnScope N__law_reach ["_law_many", "_law_pace", "_law_gain"] (defScope st__law_reach) := ⟨rfl, rfl, rfl, by decide +kernel, rfl, by decide +kernel, by decide +kernel⟩
noncomputable def b__law_reach : MS := (sSeq (sRet (mCall fSum (aCons (mMap Slot.d (mLc (mRange (aCons (eVar 0) aNil)) (gN 3) [3] (eC true) (mMap Slot.d (mCall fMin (aCons (eVar 1) (aCons (mMap Slot.d (mBin (opI2 fMul) (eVar 2) (mMap Slot.d (mBin opAdd (eVar 3) (eC (.int (1))))))) (aCons (mMap Slot.d (mBin (opI2 fMul) (eVar 2) (mMap Slot.d (mBin opSub (eVar 0) (eVar 3))))) aNil))))))) aNil))) sNext)
noncomputable def m__law_reach : MF := mDef N__law_reach b__law_reach
theorem d__law_reach (ev : Ev K mg) (f : Addr) (cdv : Value) (A : Around) (outer : List Env) (s : Shared) (H : Hp) (E : XK) (hr : Room 0 (A.deeper (envOfC "_law_reach" (defScope st__law_reach) s.heap.objs.size f cdv))) :
    DSs (cxOf (L2.CX P w) P w K mg base N__law_reach "_law_reach" (defScope st__law_reach) f cdv A outer s H E) (defBody st__law_reach) b__law_reach := by
  have hN := sc__law_reach.nd
  have hu := hr.units
  have hc : (cxOf (L2.CX P w) P w K mg base N__law_reach "_law_reach" (defScope st__law_reach) f cdv A outer s H E).calm = true := rfl
  have po := passes_of (X := cxOf (L2.CX P w) P w K mg base N__law_reach "_law_reach" (defScope st__law_reach) f cdv A outer s H E) rfl
  exact (dss_cons (ds_ret (do_callB (cr_sum hc) r_sum rfl ev.f_sum (by decide +kernel) (da_cons (dv_of (do_lc (own := [("_law_k", 3)]) rfl hN (di_range1 rfl ev.f_range (da_cons (dv_var (pv 0)) da_nil)) (by show BlkOk N__law_reach (defScope st__law_reach) _ _; exact ⟨rfl, by decide +kernel, by decide +kernel, by decide +kernel, by decide +kernel⟩) (rg_name 3) (fun _ _ _ _ _ => (pg_name hN rfl (by first | exact .inl rfl | exact .inr rfl))) (fun _ _ _ _ _ => dts_nil) (fun _ _ _ _ _ => (dv_of (do_callB (call_min hc) r_min rfl ev.f_min (by decide +kernel) (da_cons (dv_var (pv 1)) (da_cons (dv_of (do_bin op_mulW r_mul (dv_var (pv 2)) (dv_of (do_bin op_addAll r_add (dv_var (pv 3)) dv_int)))) (da_cons (dv_of (do_bin op_mulW r_mul (dv_var (pv 2)) (dv_of (do_bin op_sub r_sub (dv_var (pv 0)) (dv_var (pv 3)))))) da_nil)))))))) da_nil))) dss_nil)
theorem F__law_reach {f : Addr} {fd : FuncData} (ev : Ev K mg) (F : FunD K "_law_reach" "_law_reach" (defArgs st__law_reach) (defBody st__law_reach) (defScope st__law_reach) [] [] f fd) (g : mg "_law_reach" = some (.ref f)) : DFn P w K mg base 1 "_law_reach" 3 m__law_reach :=
  ⟨f, fd, ["_law_many", "_law_pace", "_law_gain"], fn_def F sc__law_reach (fun cdv A outer s H E hr => d__law_reach ev f cdv A outer s H E hr), g, F.kp, F.bindsN fun _ _ _ _ _ _ us hl => match us, hl with | [_, _, _], _ => rfl⟩
/-! _law_said -/
abbrev st__law_said : Stmt := top 30
def N__law_said : List Str := ["_law_distance", "_law_pace", "_law_gain", "_law_caught", "_law_found", "e", "_law_others", "_law_told"]
theorem sc__law_said : FnScope N__law_said ["_law_distance", "_law_pace", "_law_gain"] (defScope st__law_said) := ⟨rfl, rfl, rfl, by decide +kernel, rfl, by decide +kernel, by decide +kernel⟩
noncomputable def b__law_said_0 : MS := (sSet 3 (mMap Slot.val (eC .non)))
noncomputable def b__law_said_1 : MS := (sSet 4 (mMap Slot.val (eC .non)))
noncomputable def b__law_said_2 : MS := (sTryAs T "StageError" 5 3 (sSeq (sSet 4 (mMap Slot.val (mMap Slot.d (mFn m_steps_of (aCons (eVar 0) (aCons (eVar 1) (aCons (eVar 2) aNil))))))) sNext))
noncomputable def b__law_said_3 : MS := (sIf (mCmp cIsN (eVar 3) (eC .non)) (sSeq (sRet (mMap Slot.val (mIf (mAnd (mTru (mMap Slot.d (mCall (fIsi T) (aCons (eVar 4) (aCons (eC (.ty "list")) aNil))))) (mAnd (mCmp cLe (mMap Slot.d (mCall fLen (aCons (eVar 4) aNil))) (eC (.int (200)))) (mCmp cEq (mMap Slot.d (mCall fSum (aCons (eVar 4) aNil))) (eVar 0)))) (eC (.str (Str.ofString "told"))) (eC (.str (Str.ofString "another")))))) sNext) sNext)
noncomputable def b__law_said_4 : MS := (sSet 6 (mMap Slot.val (mMap Slot.d (mCall (fIsi T) (aCons (eVar 3) (aCons (mMap D.tup (aCons (eC (.cls "BadName")) (aCons (eC (.cls "BadRow")) (aCons (eC (.cls "BadSheet")) (aCons (eC (.cls "BadStage")) (aCons (eC (.cls "Busy")) (aCons (eC (.cls "Moving")) aNil))))))) aNil))))))
noncomputable def b__law_said_5 : MS := (sSet 6 (mMap Slot.val (mOrV (eVar 6) (mMap Slot.d (mCall (fIsi T) (aCons (eVar 3) (aCons (mMap D.tup (aCons (eC (.cls "NoCue")) (aCons (eC (.cls "NotStopped")) (aCons (eC (.cls "Stopped")) (aCons (eC (.cls "TooNear")) aNil))))) aNil)))))))
noncomputable def b__law_said_6 : MS := (sSet 7 (mMap Slot.val (mMap Slot.d (oLst (aCons (mMap Slot.d (mCall (fIsi T) (aCons (eVar 3) (aCons (eC (.cls "BadNumber")) aNil)))) (aCons (mMap Slot.d (mCall (fIsi T) (aCons (eVar 3) (aCons (eC (.cls "TooLong")) aNil)))) aNil))))))
noncomputable def b__law_said_7 : MS := (sIf (mOr (mTru (eVar 6)) (mOr (mNot (mTru (mMap Slot.d (mCall (fIsi T) (aCons (eVar 3) (aCons (eC (.ty "ValueError")) aNil)))))) (mCmp cEq (mMap Slot.d (mBin opIx (eVar 7) (eC (.int (0))))) (mMap Slot.d (mBin opIx (eVar 7) (eC (.int (1)))))))) (sSeq (sRet (mMap Slot.val (eC (.str (Str.ofString "other"))))) sNext) sNext)
noncomputable def b__law_said_8 : MS := (sRet (mMap Slot.val (mIf (mTru (mMap Slot.d (mBin opIx (eVar 7) (eC (.int (0)))))) (eC (.str (Str.ofString "number"))) (eC (.str (Str.ofString "long"))))))
noncomputable def b__law_said : MS := (sSeq b__law_said_0 (sSeq b__law_said_1 (sSeq b__law_said_2 (sSeq b__law_said_3 (sSeq b__law_said_4 (sSeq b__law_said_5 (sSeq b__law_said_6 (sSeq b__law_said_7 (sSeq b__law_said_8 sNext)))))))))
noncomputable def m__law_said : MF := mDef N__law_said b__law_said
theorem d__law_said (ev : Ev K mg) (F_steps_of : DFn P w K mg base 4 "steps_of" 3 m_steps_of) (f : Addr) (cdv : Value) (A : Around) (outer : List Env) (s : Shared) (H : Hp) (E : XK) (hr : Room 4 (A.deeper (envOfC "_law_said" (defScope st__law_said) s.heap.objs.size f cdv))) :
    DSs (cxOf (L2.CX P w) P w K mg base N__law_said "_law_said" (defScope st__law_said) f cdv A outer s H E) (defBody st__law_said) b__law_said := by
  have hN := sc__law_said.nd
  have hu := hr.units
  have hc : (cxOf (L2.CX P w) P w K mg base N__law_said "_law_said" (defScope st__law_said) f cdv A outer s H E).calm = true := rfl
  have po := passes_of (X := cxOf (L2.CX P w) P w K mg base N__law_said "_law_said" (defScope st__law_said) f cdv A outer s H E) rfl
  exact (dss_cons (ds_set (i := 3) hN rfl (by first | exact .inl rfl | exact .inr rfl) (do_val dv_non)) (dss_cons (ds_set (i := 4) hN rfl (by first | exact .inl rfl | exact .inr rfl) (do_val dv_non)) (dss_cons (ds_try_as (i := 5) (j := 3) ev.xm rfl rfl rfl hN rfl rfl rfl rfl (by decide) ⟨rfl, by decide, .inl ev.c_StageError⟩ (fun pn xe po => (dss_cons (ds_set (i := 4) hN rfl (by first | exact .inl rfl | exact .inr rfl) (do_val (dv_of (do_call F_steps_of hr rfl (da_cons (dv_var (pv 0)) (da_cons (dv_var (pv 1)) (da_cons (dv_var (pv 2)) da_nil))))))) dss_nil))) (dss_cons (ds_if (dt_cmp op_isN (r_isN : RCmp _ _ cIsN) (dv_var (pv 3)) dv_non (nomark _)) (dss_cons (ds_ret (do_val (dv_if (dt_w (dw_and (dt_tru (dv_of (do_callB call_isiAll (r_isi ev.ct) rfl ev.f_isinstance (by decide +kernel) (da_cons (dv_var (pv 4)) (da_cons (dv_ty rfl ev.f_list (by decide +kernel)) da_nil))))) (dw_and (dt_cmp op_le (r_cI : RCmp _ _ cLe) (dv_of (do_callB call_len r_len rfl ev.f_len (by decide +kernel) (da_cons (dv_var (pv 4)) da_nil))) dv_int (nomark _)) (dw_and1 (dt_cmp (op_eqAll hu) (r_eq : RCmp _ _ cEq) (dv_of (do_callB (cr_sum hc) r_sum rfl ev.f_sum (by decide +kernel) (da_cons (dv_var (pv 4)) da_nil))) (dv_var (pv 0)) (nomark _)))))) dv_str dv_str))) dss_nil) dss_nil) (dss_cons (ds_set (i := 6) hN rfl (by first | exact .inl rfl | exact .inr rfl) (do_val (dv_of (do_callB call_isiAll (r_isi ev.ct) rfl ev.f_isinstance (by decide +kernel) (da_cons (dv_var (pv 3)) (da_cons (dv_tup (da_cons (dv_cls rfl ev.c_BadName) (da_cons (dv_cls rfl ev.c_BadRow) (da_cons (dv_cls rfl ev.c_BadSheet) (da_cons (dv_cls rfl ev.c_BadStage) (da_cons (dv_cls rfl ev.c_Busy) (da_cons (dv_cls rfl ev.c_Moving) da_nil))))))) da_nil)))))) (dss_cons (ds_set (i := 6) hN rfl (by first | exact .inl rfl | exact .inr rfl) (do_val (dv_or (dv_var (pv 6)) (dv_one (dv_of (do_callB call_isiAll (r_isi ev.ct) rfl ev.f_isinstance (by decide +kernel) (da_cons (dv_var (pv 3)) (da_cons (dv_tup (da_cons (dv_cls rfl ev.c_NoCue) (da_cons (dv_cls rfl ev.c_NotStopped) (da_cons (dv_cls rfl ev.c_Stopped) (da_cons (dv_cls rfl ev.c_TooNear) da_nil))))) da_nil)))))))) (dss_cons (ds_set (i := 7) hN rfl (by first | exact .inl rfl | exact .inr rfl) (do_val (dv_of (do_lst (da_cons (dv_of (do_callB call_isiAll (r_isi ev.ct) rfl ev.f_isinstance (by decide +kernel) (da_cons (dv_var (pv 3)) (da_cons (dv_cls rfl ev.c_BadNumber) da_nil)))) (da_cons (dv_of (do_callB call_isiAll (r_isi ev.ct) rfl ev.f_isinstance (by decide +kernel) (da_cons (dv_var (pv 3)) (da_cons (dv_cls rfl ev.c_TooLong) da_nil)))) da_nil)))))) (dss_cons (ds_if (dt_w (dw_or (dt_tru (dv_var (pv 6))) (dw_or (dt_not (dt_tru (dv_of (do_callB call_isiAll (r_isi ev.ct) rfl ev.f_isinstance (by decide +kernel) (da_cons (dv_var (pv 3)) (da_cons (dv_ty rfl ev.f_ValueError (by decide +kernel)) da_nil)))))) (dw_or1 (dt_cmp (op_eqAll hu) (r_eq : RCmp _ _ cEq) (dv_of (do_ix ix_seq r_ix (fun _ _ => rfl) (dv_var (pv 7)) dv_int)) (dv_of (do_ix ix_seq r_ix (fun _ _ => rfl) (dv_var (pv 7)) dv_int)) (nomark _)))))) (dss_cons (ds_ret (do_val dv_str)) dss_nil) dss_nil) (dss_cons (ds_ret (do_val (dv_if (dt_tru (dv_of (do_ix ix_seq r_ix (fun _ _ => rfl) (dv_var (pv 7)) dv_int))) dv_str dv_str))) dss_nil)))))))))
theorem F__law_said {f : Addr} {fd : FuncData} (ev : Ev K mg) (F_steps_of : DFn P w K mg base 4 "steps_of" 3 m_steps_of) (F : FunD K "_law_said" "_law_said" (defArgs st__law_said) (defBody st__law_said) (defScope st__law_said) [] [] f fd) (g : mg "_law_said" = some (.ref f)) : DFn P w K mg base 5 "_law_said" 3 m__law_said :=
  ⟨f, fd, ["_law_distance", "_law_pace", "_law_gain"], fn_def F sc__law_said (fun cdv A outer s H E hr => d__law_said ev F_steps_of f cdv A outer s H E hr), g, F.kp, F.bindsN fun _ _ _ _ _ _ us hl => match us, hl with | [_, _, _], _ => rfl⟩
/-! _law_odd -/
abbrev st__law_odd : Stmt := top 31
def N__law_odd : List Str := ["_law_number", "_law_most", "_law_far", "_law_some"]
theorem sc__law_odd : FnScope N__law_odd ["_law_number", "_law_most"] (defScope st__law_odd) := ⟨rfl, rfl, rfl, by decide +kernel, rfl, by decide +kernel, by decide +kernel⟩
noncomputable def b__law_odd : MS := (sSeq (sSet 2 (mMap Slot.val (mMap Slot.d (mBin (opI2 fMod) (mMap Slot.d (mBin (opI2 fDiv) (eVar 0) (eC (.int (16))))) (mMap Slot.d (mBin (opI2 fPow) (eC (.int (10))) (eC (.int (12))))))))) (sSeq (sSet 3 (mMap Slot.val (mMap Slot.d (oLst (aCons (eC .non) (aCons (eC (.bl true)) (aCons (eC (.bl false)) (aCons (mUn fNeg (eC (.int (1)))) (aCons (mMap Slot.d (mBin opAdd (eVar 1) (eC (.int (1))))) (aCons (mMap Slot.d (mBin opAdd (mMap Slot.d (mBin opAdd (eVar 1) (eC (.int (1))))) (eVar 2))) (aCons (mMap Slot.d (mBin opSub (mUn fNeg (eC (.int (1)))) (eVar 2))) (aCons (eC (.str (Str.ofString "1"))) (aCons (mMap Slot.d (oLst (aCons (eC (.int (1))) aNil))) (aCons (mMap D.tup (aCons (eC (.int (1))) aNil)) (aCons (mMap Slot.d (eC (.own (.dic [])))) (aCons (mMap Slot.d (mBin opAdd (mMap Slot.d (mBin (opI2 fMul) (eVar 1) (mMap Slot.d (mBin (opI2 fPow) (eC (.int (10))) (eC (.int (20))))))) (eC (.int (1))))) aNil)))))))))))))))) (sSeq (sRet (mBin opIx (mMap Slot.d (mBin opAdd (eVar 3) (mMap Slot.d (oLst (aCons (eC (.str (Str.ofString ""))) (aCons (eC (.str (Str.ofString "one"))) (aCons (mMap Slot.d (oLst aNil)) (aCons (mMap D.tup aNil) aNil)))))))) (mMap Slot.d (mBin (opI2 fMod) (eVar 0) (eC (.int (16))))))) sNext)))
noncomputable def m__law_odd : MF := mDef N__law_odd b__law_odd
theorem d__law_odd (ev : Ev K mg) (f : Addr) (cdv : Value) (A : Around) (outer : List Env) (s : Shared) (H : Hp) (E : XK) (hr : Room 0 (A.deeper (envOfC "_law_odd" (defScope st__law_odd) s.heap.objs.size f cdv))) :
    DSs (cxOf (L2.CX P w) P w K mg base N__law_odd "_law_odd" (defScope st__law_odd) f cdv A outer s H E) (defBody st__law_odd) b__law_odd := by
  have hN := sc__law_odd.nd
  have hu := hr.units
  have hc : (cxOf (L2.CX P w) P w K mg base N__law_odd "_law_odd" (defScope st__law_odd) f cdv A outer s H E).calm = true := rfl
  have po := passes_of (X := cxOf (L2.CX P w) P w K mg base N__law_odd "_law_odd" (defScope st__law_odd) f cdv A outer s H E) rfl
  exact (dss_cons (ds_set (i := 2) hN rfl (by first | exact .inl rfl | exact .inr rfl) (do_val (dv_of (do_bin op_mod r_mod (dv_of (do_bin op_fdivW r_div (dv_var (pv 0)) dv_int)) (dv_of (do_bin op_pow r_pow dv_int dv_int)))))) (dss_cons (ds_set (i := 3) hN rfl (by first | exact .inl rfl | exact .inr rfl) (do_val (dv_of (do_lst (da_cons dv_non (da_cons dv_bl (da_cons dv_bl (da_cons (dv_neg dv_int) (da_cons (dv_of (do_bin op_addAll r_add (dv_var (pv 1)) dv_int)) (da_cons (dv_of (do_bin op_addAll r_add (dv_of (do_bin op_addAll r_add (dv_var (pv 1)) dv_int)) (dv_var (pv 2)))) (da_cons (dv_of (do_bin op_sub r_sub (dv_neg dv_int) (dv_var (pv 2)))) (da_cons dv_str (da_cons (dv_of (do_lst (da_cons dv_int da_nil))) (da_cons (dv_tup (da_cons dv_int da_nil)) (da_cons (dv_of do_dic0) (da_cons (dv_of (do_bin op_addAll r_add (dv_of (do_bin op_mulW r_mul (dv_var (pv 1)) (dv_of (do_bin op_pow r_pow dv_int dv_int)))) dv_int)) da_nil)))))))))))))))) (dss_cons (ds_ret (do_ix ix_seq r_ix (fun _ _ => rfl) (dv_of (do_bin op_addAll r_add (dv_var (pv 3)) (dv_of (do_lst (da_cons dv_str (da_cons dv_str (da_cons (dv_of (do_lst da_nil)) (da_cons (dv_tup da_nil) da_nil)))))))) (dv_of (do_bin op_mod r_mod (dv_var (pv 0)) dv_int)))) dss_nil)))
theorem F__law_odd {f : Addr} {fd : FuncData} (ev : Ev K mg) (F : FunD K "_law_odd" "_law_odd" (defArgs st__law_odd) (defBody st__law_odd) (defScope st__law_odd) [] [] f fd) (g : mg "_law_odd" = some (.ref f)) : DFn P w K mg base 1 "_law_odd" 2 m__law_odd :=
  ⟨f, fd, ["_law_number", "_law_most"], fn_def F sc__law_odd (fun cdv A outer s H E hr => d__law_odd ev f cdv A outer s H E hr), g, F.kp, F.bindsN fun _ _ _ _ _ _ us hl => match us, hl with | [_, _], _ => rfl⟩
/-! _law_right -/
abbrev st__law_right : Stmt := top 32
def N__law_right : List Str := ["_law_number", "_law_more", "_law_pace", "_law_gain", "_law_far", "_law_beyond", "_law_odd_here", "_law_none", "_law_some", "_law_row"]
theorem sc__law_right : FnScope N__law_right ["_law_number", "_law_more"] (defScope st__law_right) := ⟨rfl, rfl, rfl, by decide +kernel, rfl, by decide +kernel, by decide +kernel⟩
noncomputable def b__law_right_0 : MS := (sPar 2 3 (aCons (mMap Slot.d (mFn m__law_rate (aCons (eVar 0) aNil))) (aCons (mMap Slot.d (mFn m__law_rate (aCons (mMap Slot.d (mBin (opI2 fDiv) (eVar 0) (mMap Slot.d (mBin (opI2 fPow) (eC (.int (10))) (eC (.int (11))))))) aNil))) aNil)))
noncomputable def b__law_right_1 : MS := (sSet 4 (mMap Slot.val (mMap Slot.d (mFn m__law_reach (aCons (eC (.int (200))) (aCons (eVar 2) (aCons (eVar 3) aNil)))))))
noncomputable def b__law_right_2 : MS := (sSet 5 (mMap Slot.val (mMap Slot.d (mCall fMin (aCons (mMap Slot.d (mBin (opI2 fPow) (eC (.int (10))) (eC (.int (12))))) (aCons (mMap Slot.d (mBin opAdd (mMap Slot.d (mBin opAdd (eVar 4) (eC (.int (1))))) (mMap Slot.d (mBin opIx (mMap Slot.d (oLst (aCons (eC (.int (0))) (aCons (eC (.int (1))) (aCons (mMap Slot.d (mBin (opI2 fMod) (eVar 1) (mMap Slot.d (mBin (opI2 fPow) (eC (.int (10))) (eC (.int (6))))))) (aCons (mMap Slot.d (mBin (opI2 fMod) (eVar 1) (mMap Slot.d (mBin (opI2 fPow) (eC (.int (10))) (eC (.int (12))))))) aNil)))))) (mMap Slot.d (mBin (opI2 fMod) (mMap Slot.d (mBin (opI2 fDiv) (eVar 1) (eC (.int (7))))) (eC (.int (4))))))))) aNil))))))
noncomputable def b__law_right_3 : MS := (sIf (mCmp cNe (mMap Slot.d (mFn m__law_said (aCons (mMap Slot.d (mCall fMin (aCons (eVar 4) (aCons (mMap Slot.d (mBin (opI2 fPow) (eC (.int (10))) (eC (.int (12))))) aNil)))) (aCons (eVar 2) (aCons (eVar 3) aNil))))) (eC (.str (Str.ofString "told")))) (sSeq (sRet (mMap Slot.val (eC (.bl false)))) sNext) sNext)
noncomputable def b__law_right_4 : MS := (sIf (mAnd (mCmp cGt (eVar 5) (eVar 4)) (mCmp cNe (mMap Slot.d (mFn m__law_said (aCons (eVar 5) (aCons (eVar 2) (aCons (eVar 3) aNil))))) (eC (.str (Str.ofString "long"))))) (sSeq (sRet (mMap Slot.val (eC (.bl false)))) sNext) sNext)
noncomputable def b__law_right_5 : MS := (sPar 6 7 (aCons (mMap Slot.d (mFn m__law_odd (aCons (mMap Slot.d (mBin (opI2 fDiv) (eVar 1) (eC (.int (100))))) (aCons (mMap Slot.d (mBin (opI2 fPow) (eC (.int (10))) (eC (.int (9))))) aNil)))) (aCons (mMap Slot.d (mFn m__law_odd (aCons (mMap Slot.d (mBin (opI2 fDiv) (eVar 1) (eC (.int (100))))) (aCons (mMap Slot.d (mBin (opI2 fPow) (eC (.int (10))) (eC (.int (12))))) aNil)))) aNil)))
noncomputable def b__law_right_6 : MS := (sSet 8 (mMap Slot.val (mMap Slot.d (oLst (aCons (mMap D.tup (aCons (eVar 7) (aCons (eVar 2) (aCons (eVar 3) aNil)))) (aCons (mMap D.tup (aCons (eVar 5) (aCons (eVar 6) (aCons (eVar 3) aNil)))) (aCons (mMap D.tup (aCons (eVar 5) (aCons (eVar 2) (aCons (eVar 6) aNil)))) (aCons (mMap D.tup (aCons (eVar 7) (aCons (eVar 6) (aCons (eVar 6) aNil)))) (aCons (mMap D.tup (aCons (eC (.int (5))) (aCons (eC (.int (0))) (aCons (eVar 3) aNil)))) (aCons (mMap D.tup (aCons (eC (.int (5))) (aCons (eVar 2) (aCons (eC (.int (0))) aNil)))) aNil))))))))))
noncomputable def b__law_right_7 : MS := (sRet (mMap Slot.val (mMap D.bl (mCmp cEq (mMap Slot.d (mLc (mSeq (eVar 8)) (gN 9) [9] (mCmp cNe (mMap Slot.d (mFn m__law_said (aCons (mMap Slot.d (mBin opIx (eVar 9) (eC (.int (0))))) (aCons (mMap Slot.d (mBin opIx (eVar 9) (eC (.int (1))))) (aCons (mMap Slot.d (mBin opIx (eVar 9) (eC (.int (2))))) aNil))))) (eC (.str (Str.ofString "number")))) (eVar 9))) (mMap Slot.d (oLst aNil))))))
noncomputable def b__law_right : MS := (sSeq b__law_right_0 (sSeq b__law_right_1 (sSeq b__law_right_2 (sSeq b__law_right_3 (sSeq b__law_right_4 (sSeq b__law_right_5 (sSeq b__law_right_6 (sSeq b__law_right_7 sNext))))))))
noncomputable def m__law_right : MF := mDef N__law_right b__law_right
theorem d__law_right (ev : Ev K mg) (F__law_rate : DFn P w K mg base 5 "_law_rate" 1 m__law_rate) (F__law_reach : DFn P w K mg base 5 "_law_reach" 3 m__law_reach) (F__law_said : DFn P w K mg base 5 "_law_said" 3 m__law_said) (F__law_odd : DFn P w K mg base 5 "_law_odd" 2 m__law_odd) (f : Addr) (cdv : Value) (A : Around) (outer : List Env) (s : Shared) (H : Hp) (E : XK) (hr : Room 5 (A.deeper (envOfC "_law_right" (defScope st__law_right) s.heap.objs.size f cdv))) :
    DSs (cxOf (L2.CX P w) P w K mg base N__law_right "_law_right" (defScope st__law_right) f cdv A outer s H E) (defBody st__law_right) b__law_right := by
  have hN := sc__law_right.nd
  have hu := hr.units
  have hc : (cxOf (L2.CX P w) P w K mg base N__law_right "_law_right" (defScope st__law_right) f cdv A outer s H E).calm = true := rfl
  have po := passes_of (X := cxOf (L2.CX P w) P w K mg base N__law_right "_law_right" (defScope st__law_right) f cdv A outer s H E) rfl
  exact (dss_cons (ds_par (i := 2) (j := 3) rfl hN rfl rfl (by decide) rfl rfl (da_cons (dv_of (do_call F__law_rate hr rfl (da_cons (dv_var (pv 0)) da_nil))) (da_cons (dv_of (do_call F__law_rate hr rfl (da_cons (dv_of (do_bin op_fdivW r_div (dv_var (pv 0)) (dv_of (do_bin op_pow r_pow dv_int dv_int)))) da_nil))) da_nil)) rfl) (dss_cons (ds_set (i := 4) hN rfl (by first | exact .inl rfl | exact .inr rfl) (do_val (dv_of (do_call F__law_reach hr rfl (da_cons dv_int (da_cons (dv_var (pv 2)) (da_cons (dv_var (pv 3)) da_nil))))))) (dss_cons (ds_set (i := 5) hN rfl (by first | exact .inl rfl | exact .inr rfl) (do_val (dv_of (do_callB (call_min hc) r_min rfl ev.f_min (by decide +kernel) (da_cons (dv_of (do_bin op_pow r_pow dv_int dv_int)) (da_cons (dv_of (do_bin op_addAll r_add (dv_of (do_bin op_addAll r_add (dv_var (pv 4)) dv_int)) (dv_of (do_ix ix_seq r_ix (fun _ _ => rfl) (dv_of (do_lst (da_cons dv_int (da_cons dv_int (da_cons (dv_of (do_bin op_mod r_mod (dv_var (pv 1)) (dv_of (do_bin op_pow r_pow dv_int dv_int)))) (da_cons (dv_of (do_bin op_mod r_mod (dv_var (pv 1)) (dv_of (do_bin op_pow r_pow dv_int dv_int)))) da_nil)))))) (dv_of (do_bin op_mod r_mod (dv_of (do_bin op_fdivW r_div (dv_var (pv 1)) dv_int)) dv_int)))))) da_nil)))))) (dss_cons (ds_if (dt_cmp (op_neAll hu) (r_ne : RCmp _ _ cNe) (dv_of (do_call F__law_said hr rfl (da_cons (dv_of (do_callB (call_min hc) r_min rfl ev.f_min (by decide +kernel) (da_cons (dv_var (pv 4)) (da_cons (dv_of (do_bin op_pow r_pow dv_int dv_int)) da_nil)))) (da_cons (dv_var (pv 2)) (da_cons (dv_var (pv 3)) da_nil))))) dv_str (nomark _)) (dss_cons (ds_ret (do_val dv_bl)) dss_nil) dss_nil) (dss_cons (ds_if (dt_w (dw_and (dt_cmp op_gt (r_cI : RCmp _ _ cGt) (dv_var (pv 5)) (dv_var (pv 4)) (nomark _)) (dw_and1 (dt_cmp (op_neAll hu) (r_ne : RCmp _ _ cNe) (dv_of (do_call F__law_said hr rfl (da_cons (dv_var (pv 5)) (da_cons (dv_var (pv 2)) (da_cons (dv_var (pv 3)) da_nil))))) dv_str (nomark _))))) (dss_cons (ds_ret (do_val dv_bl)) dss_nil) dss_nil) (dss_cons (ds_par (i := 6) (j := 7) rfl hN rfl rfl (by decide) rfl rfl (da_cons (dv_of (do_call F__law_odd hr rfl (da_cons (dv_of (do_bin op_fdivW r_div (dv_var (pv 1)) dv_int)) (da_cons (dv_of (do_bin op_pow r_pow dv_int dv_int)) da_nil)))) (da_cons (dv_of (do_call F__law_odd hr rfl (da_cons (dv_of (do_bin op_fdivW r_div (dv_var (pv 1)) dv_int)) (da_cons (dv_of (do_bin op_pow r_pow dv_int dv_int)) da_nil)))) da_nil)) rfl) (dss_cons (ds_set (i := 8) hN rfl (by first | exact .inl rfl | exact .inr rfl) (do_val (dv_of (do_lst (da_cons (dv_tup (da_cons (dv_var (pv 7)) (da_cons (dv_var (pv 2)) (da_cons (dv_var (pv 3)) da_nil)))) (da_cons (dv_tup (da_cons (dv_var (pv 5)) (da_cons (dv_var (pv 6)) (da_cons (dv_var (pv 3)) da_nil)))) (da_cons (dv_tup (da_cons (dv_var (pv 5)) (da_cons (dv_var (pv 2)) (da_cons (dv_var (pv 6)) da_nil)))) (da_cons (dv_tup (da_cons (dv_var (pv 7)) (da_cons (dv_var (pv 6)) (da_cons (dv_var (pv 6)) da_nil)))) (da_cons (dv_tup (da_cons dv_int (da_cons dv_int (da_cons (dv_var (pv 3)) da_nil)))) (da_cons (dv_tup (da_cons dv_int (da_cons (dv_var (pv 2)) (da_cons dv_int da_nil)))) da_nil)))))))))) (dss_cons (ds_ret (do_val (dv_cmp (op_eqAll hu) (r_eq : RCmp _ _ cEq) (dv_of (do_lc (own := [("_law_row", 9)]) rfl hN (di_seq (dv_var (pv 8))) (by show BlkOk N__law_right (defScope st__law_right) _ _; exact ⟨rfl, by decide +kernel, by decide +kernel, by decide +kernel, by decide +kernel⟩) (rg_name 9) (fun _ _ _ _ _ => (pg_name hN rfl (by first | exact .inl rfl | exact .inr rfl))) (fun _ _ _ _ _ => (dts_one (dt_cmp (op_neAll hu) (r_ne : RCmp _ _ cNe) (dv_of (do_call F__law_said hr rfl (da_cons (dv_of (do_ix ix_seq r_ix (fun _ _ => rfl) (dv_var (pv 9)) dv_int)) (da_cons (dv_of (do_ix ix_seq r_ix (fun _ _ => rfl) (dv_var (pv 9)) dv_int)) (da_cons (dv_of (do_ix ix_seq r_ix (fun _ _ => rfl) (dv_var (pv 9)) dv_int)) da_nil))))) dv_str (nomark _)))) (fun _ _ _ _ _ => (dv_var (pv 9))))) (dv_of (do_lst da_nil)) (nomark _)))) dss_nil))))))))
theorem F__law_right {f : Addr} {fd : FuncData} (ev : Ev K mg) (F__law_rate : DFn P w K mg base 5 "_law_rate" 1 m__law_rate) (F__law_reach : DFn P w K mg base 5 "_law_reach" 3 m__law_reach) (F__law_said : DFn P w K mg base 5 "_law_said" 3 m__law_said) (F__law_odd : DFn P w K mg base 5 "_law_odd" 2 m__law_odd) (F : FunD K "_law_right" "_law_right" (defArgs st__law_right) (defBody st__law_right) (defScope st__law_right) [] [] f fd) (g : mg "_law_right" = some (.ref f)) : DFn P w K mg base 6 "_law_right" 2 m__law_right :=
  ⟨f, fd, ["_law_number", "_law_more"], fn_def F sc__law_right (fun cdv A outer s H E hr => d__law_right ev F__law_rate F__law_reach F__law_said F__law_odd f cdv A outer s H E hr), g, F.kp, F.bindsN fun _ _ _ _ _ _ us hl => match us, hl with | [_, _], _ => rfl⟩
/-! law -/
abbrev st_law : Stmt := top 33
def N_law : List Str := ["_law_script", "_law_k", "_law_cell"]
theorem sc_law : FnScope N_law ["_law_script"] (defScope st_law) := ⟨rfl, rfl, rfl, by decide +kernel, rfl, by decide +kernel, by decide +kernel⟩
noncomputable def b_law_0_body : MS := (sSeq (sIf (mNot (mTru (mMap Slot.d (mFn m__law_right (aCons (mMap Slot.d (mFn m__law_wide (aCons (eVar 2) (aCons (eVar 1) aNil)))) (aCons (mMap Slot.d (mFn m__law_wide (aCons (eVar 2) (aCons (mMap Slot.d (mBin opAdd (eVar 1) (eC (.int (1000))))) aNil)))) aNil)))))) (sSeq (sRet (mMap Slot.val (eC (.bl false)))) sNext) sNext) sNext)
noncomputable def b_law_0 : MS := (sFor (mThen fEnum (aCons (mMap Slot.d (mBin opAdd (eVar 0) (mMap Slot.d (oLst (aCons (eC (.int (0))) aNil))))) aNil)) (gT [1, 2]) b_law_0_body)
noncomputable def b_law_1 : MS := (sRet (mMap Slot.val (eC (.bl true))))
noncomputable def b_law : MS := (sSeq b_law_0 (sSeq b_law_1 sNext))
noncomputable def m_law : MF := mDef N_law b_law
theorem d_law (ev : Ev K mg) (F__law_right : DFn P w K mg base 6 "_law_right" 2 m__law_right) (F__law_wide : DFn P w K mg base 6 "_law_wide" 2 m__law_wide) (f : Addr) (cdv : Value) (A : Around) (outer : List Env) (s : Shared) (H : Hp) (E : XK) (hr : Room 6 (A.deeper (envOfC "law" (defScope st_law) s.heap.objs.size f cdv))) :
    DSs (cxOf (L2.CX P w) P w K mg base N_law "law" (defScope st_law) f cdv A outer s H E) (defBody st_law) b_law := by
  have hN := sc_law.nd
  have hu := hr.units
  have hc : (cxOf (L2.CX P w) P w K mg base N_law "law" (defScope st_law) f cdv A outer s H E).calm = true := rfl
  have po := passes_of (X := cxOf (L2.CX P w) P w K mg base N_law "law" (defScope st_law) f cdv A outer s H E) rfl
  exact (dss_cons (ds_for po rfl (di_enum rfl ev.f_enumerate (da_cons (dv_of (do_bin op_addAll r_add (dv_var (pv 0)) (dv_of (do_lst (da_cons dv_int da_nil))))) da_nil)) (pg_tup rfl (pgs_cons (pg_name hN rfl (by first | exact .inl rfl | exact .inr rfl)) (pgs_cons (pg_name hN rfl (by first | exact .inl rfl | exact .inr rfl)) pgs_nil))) (RG.rel (rg_tup [1, 2])) (dss_cons (ds_if (dt_not (dt_tru (dv_of (do_call F__law_right hr rfl (da_cons (dv_of (do_call F__law_wide hr rfl (da_cons (dv_var (pv 2)) (da_cons (dv_var (pv 1)) da_nil)))) (da_cons (dv_of (do_call F__law_wide hr rfl (da_cons (dv_var (pv 2)) (da_cons (dv_of (do_bin op_addAll r_add (dv_var (pv 1)) dv_int)) da_nil)))) da_nil)))))) (dss_cons (ds_ret (do_val dv_bl)) dss_nil) dss_nil) dss_nil)) (dss_cons (ds_ret (do_val dv_bl)) dss_nil))
theorem F_law {f : Addr} {fd : FuncData} (ev : Ev K mg) (F__law_right : DFn P w K mg base 6 "_law_right" 2 m__law_right) (F__law_wide : DFn P w K mg base 6 "_law_wide" 2 m__law_wide) (F : FunD K "law" "law" (defArgs st_law) (defBody st_law) (defScope st_law) [] [] f fd) (g : mg "law" = some (.ref f)) : DFn P w K mg base 7 "law" 1 m_law :=
  ⟨f, fd, ["_law_script"], fn_def F sc_law (fun cdv A outer s H E hr => d_law ev F__law_right F__law_wide f cdv A outer s H E hr), g, F.kp, F.bindsN fun _ _ _ _ _ _ us hl => match us, hl with | [_], _ => rfl⟩
end
def fnL : List He.DefD := [⟨("is_whole", none), "is_whole", "is_whole", defArgs st_is_whole, defBody st_is_whole, defScope st_is_whole, [], []⟩, ⟨("need_whole", none), "need_whole", "need_whole", defArgs st_need_whole, defBody st_need_whole, defScope st_need_whole, [], []⟩, ⟨("rising", none), "rising", "rising", defArgs st_rising, defBody st_rising, defScope st_rising, [], []⟩, ⟨("reach_of", none), "reach_of", "reach_of", defArgs st_reach_of, defBody st_reach_of, defScope st_reach_of, [], []⟩, ⟨("falling", none), "falling", "falling", defArgs st_falling, defBody st_falling, defScope st_falling, [], []⟩, ⟨("greatest_step", none), "greatest_step", "greatest_step", defArgs st_greatest_step, defBody st_greatest_step, defScope st_greatest_step, [], []⟩, ⟨("many_for", none), "many_for", "many_for", defArgs st_many_for, defBody st_many_for, defScope st_many_for, [], []⟩, ⟨("steps_of", none), "steps_of", "steps_of", defArgs st_steps_of, defBody st_steps_of, defScope st_steps_of, [], []⟩, ⟨("_law_wide", none), "_law_wide", "_law_wide", defArgs st__law_wide, defBody st__law_wide, defScope st__law_wide, [], []⟩, ⟨("_law_rate", none), "_law_rate", "_law_rate", defArgs st__law_rate, defBody st__law_rate, defScope st__law_rate, [], []⟩, ⟨("_law_reach", none), "_law_reach", "_law_reach", defArgs st__law_reach, defBody st__law_reach, defScope st__law_reach, [], []⟩, ⟨("_law_said", none), "_law_said", "_law_said", defArgs st__law_said, defBody st__law_said, defScope st__law_said, [], []⟩, ⟨("_law_odd", none), "_law_odd", "_law_odd", defArgs st__law_odd, defBody st__law_odd, defScope st__law_odd, [], []⟩, ⟨("_law_right", none), "_law_right", "_law_right", defArgs st__law_right, defBody st__law_right, defScope st__law_right, [], []⟩, ⟨("law", none), "law", "law", defArgs st_law, defBody st_law, defScope st_law, [], []⟩]
def faL : List He.Fa := [.glo "is_whole", .glo "need_whole", .glo "rising", .glo "reach_of", .glo "falling", .glo "greatest_step", .glo "many_for", .glo "steps_of", .glo "_law_wide", .glo "_law_rate", .glo "_law_reach", .glo "_law_said", .glo "_law_odd", .glo "_law_right", .glo "law", .free "ValueError", .free "bool", .free "enumerate", .free "int", .free "isinstance", .free "len", .free "list", .free "max", .free "min", .free "range", .free "reversed", .free "sum", .int "MOST_DISTANCE" (1000000000000), .int "MOST_PACE" (1000000000), .int "MOST_STEPS" (200), .glo "BadName", .glo "BadNumber", .glo "BadRow", .glo "BadSheet", .glo "BadStage", .glo "Busy", .glo "Moving", .glo "NoCue", .glo "NotStopped", .glo "StageError", .glo "Stopped", .glo "TooLong", .glo "TooNear", .exc "BadNumber", .exc "TooLong"]
section
variable {P : Program} {w : World} {K : PySem.W.Frag} {h : Heap} {mg : Str → Option Value} {fa : Addr}
theorem facts (X : K.In h) (G : h.Ns mainGlobals mg) (hfa : mg "law" = some (.ref fa)) (kb : kitB_ T K = true) (c : He.SaysD faL fnL K) :
    ∃ fd : FuncData, (∀ (s : Shared) (v : Value), BindsTo s fd ⟨[v], []⟩ [("_law_script", v)]) ∧ ∀ base : Heap, K.In base → base.Ns mainGlobals mg → FnOk P w K mg base (L2.CX P w) 7 fa fd ["_law_script"] (spD K 1 m_law) := by
  have ev : Ev K mg := ⟨(kitB_ok kb).1, (kitB_ok kb).2, He.free_ok X G (c.fact 15 (f := .free "ValueError") rfl), He.free_ok X G (c.fact 16 (f := .free "bool") rfl), He.free_ok X G (c.fact 17 (f := .free "enumerate") rfl), He.free_ok X G (c.fact 18 (f := .free "int") rfl), He.free_ok X G (c.fact 19 (f := .free "isinstance") rfl), He.free_ok X G (c.fact 20 (f := .free "len") rfl), He.free_ok X G (c.fact 21 (f := .free "list") rfl), He.free_ok X G (c.fact 22 (f := .free "max") rfl), He.free_ok X G (c.fact 23 (f := .free "min") rfl), He.free_ok X G (c.fact 24 (f := .free "range") rfl), He.free_ok X G (c.fact 25 (f := .free "reversed") rfl), He.free_ok X G (c.fact 26 (f := .free "sum") rfl), He.int_ok X G (c.fact 27 (f := .int "MOST_DISTANCE" (1000000000000)) rfl), He.int_ok X G (c.fact 28 (f := .int "MOST_PACE" (1000000000)) rfl), He.int_ok X G (c.fact 29 (f := .int "MOST_STEPS" (200)) rfl), He.glo_ok X G (c.fact 30 (f := .glo "BadName") rfl), He.glo_ok X G (c.fact 31 (f := .glo "BadNumber") rfl), He.glo_ok X G (c.fact 32 (f := .glo "BadRow") rfl), He.glo_ok X G (c.fact 33 (f := .glo "BadSheet") rfl), He.glo_ok X G (c.fact 34 (f := .glo "BadStage") rfl), He.glo_ok X G (c.fact 35 (f := .glo "Busy") rfl), He.glo_ok X G (c.fact 36 (f := .glo "Moving") rfl), He.glo_ok X G (c.fact 37 (f := .glo "NoCue") rfl), He.glo_ok X G (c.fact 38 (f := .glo "NotStopped") rfl), He.glo_ok X G (c.fact 39 (f := .glo "StageError") rfl), He.glo_ok X G (c.fact 40 (f := .glo "Stopped") rfl), He.glo_ok X G (c.fact 41 (f := .glo "TooLong") rfl), He.glo_ok X G (c.fact 42 (f := .glo "TooNear") rfl), c.fact 43 (f := .exc "BadNumber") rfl, c.fact 44 (f := .exc "TooLong") rfl⟩
  obtain ⟨fd_is_whole, D_is_whole⟩ := c.def_ 0 rfl
  have g_is_whole := He.glo_ok X G (c.fact 0 (f := .glo "is_whole") rfl)
  obtain ⟨fd_need_whole, D_need_whole⟩ := c.def_ 1 rfl
  have g_need_whole := He.glo_ok X G (c.fact 1 (f := .glo "need_whole") rfl)
  obtain ⟨fd_rising, D_rising⟩ := c.def_ 2 rfl
  have g_rising := He.glo_ok X G (c.fact 2 (f := .glo "rising") rfl)
  obtain ⟨fd_reach_of, D_reach_of⟩ := c.def_ 3 rfl
  have g_reach_of := He.glo_ok X G (c.fact 3 (f := .glo "reach_of") rfl)
  obtain ⟨fd_falling, D_falling⟩ := c.def_ 4 rfl
  have g_falling := He.glo_ok X G (c.fact 4 (f := .glo "falling") rfl)
  obtain ⟨fd_greatest_step, D_greatest_step⟩ := c.def_ 5 rfl
  have g_greatest_step := He.glo_ok X G (c.fact 5 (f := .glo "greatest_step") rfl)
  obtain ⟨fd_many_for, D_many_for⟩ := c.def_ 6 rfl
  have g_many_for := He.glo_ok X G (c.fact 6 (f := .glo "many_for") rfl)
  obtain ⟨fd_steps_of, D_steps_of⟩ := c.def_ 7 rfl
  have g_steps_of := He.glo_ok X G (c.fact 7 (f := .glo "steps_of") rfl)
  obtain ⟨fd__law_wide, D__law_wide⟩ := c.def_ 8 rfl
  have g__law_wide := He.glo_ok X G (c.fact 8 (f := .glo "_law_wide") rfl)
  obtain ⟨fd__law_rate, D__law_rate⟩ := c.def_ 9 rfl
  have g__law_rate := He.glo_ok X G (c.fact 9 (f := .glo "_law_rate") rfl)
  obtain ⟨fd__law_reach, D__law_reach⟩ := c.def_ 10 rfl
  have g__law_reach := He.glo_ok X G (c.fact 10 (f := .glo "_law_reach") rfl)
  obtain ⟨fd__law_said, D__law_said⟩ := c.def_ 11 rfl
  have g__law_said := He.glo_ok X G (c.fact 11 (f := .glo "_law_said") rfl)
  obtain ⟨fd__law_odd, D__law_odd⟩ := c.def_ 12 rfl
  have g__law_odd := He.glo_ok X G (c.fact 12 (f := .glo "_law_odd") rfl)
  obtain ⟨fd__law_right, D__law_right⟩ := c.def_ 13 rfl
  have g__law_right := He.glo_ok X G (c.fact 13 (f := .glo "_law_right") rfl)
  obtain ⟨fd_law, D_law⟩ := c.def_ 14 rfl
  have g_law := He.glo_ok X G (c.fact 14 (f := .glo "law") rfl)
  have e := hfa.symm.trans g_law
  cases e
  have bl := FunD.bindsA (ps := ["_law_script"]) D_law fun _ _ _ _ _ _ us hl => match us, hl with | [_], _ => rfl
  refine ⟨fd_law, fun s v => bl s [v] rfl, fun base _ _ => ?_⟩
  have A_is_whole : DFn P w K mg base 1 "is_whole" 3 m_is_whole := F_is_whole ev D_is_whole g_is_whole
  have A_need_whole : DFn P w K mg base 2 "need_whole" 3 m_need_whole := F_need_whole ev (A_is_whole.mono (by decide)) D_need_whole g_need_whole
  have A_rising : DFn P w K mg base 1 "rising" 3 m_rising := F_rising ev D_rising g_rising
  have A_reach_of : DFn P w K mg base 2 "reach_of" 3 m_reach_of := F_reach_of ev (A_rising.mono (by decide)) D_reach_of g_reach_of
  have A_falling : DFn P w K mg base 1 "falling" 3 m_falling := F_falling ev D_falling g_falling
  have A_greatest_step : DFn P w K mg base 2 "greatest_step" 5 m_greatest_step := F_greatest_step ev (A_falling.mono (by decide)) D_greatest_step g_greatest_step
  have A_many_for : DFn P w K mg base 3 "many_for" 3 m_many_for := F_many_for ev (A_reach_of.mono (by decide)) D_many_for g_many_for
  have A_steps_of : DFn P w K mg base 4 "steps_of" 3 m_steps_of := F_steps_of ev (A_need_whole.mono (by decide)) (A_many_for.mono (by decide)) (A_greatest_step.mono (by decide)) D_steps_of g_steps_of
  have A__law_wide : DFn P w K mg base 1 "_law_wide" 2 m__law_wide := F__law_wide ev D__law_wide g__law_wide
  have A__law_rate : DFn P w K mg base 1 "_law_rate" 1 m__law_rate := F__law_rate ev D__law_rate g__law_rate
  have A__law_reach : DFn P w K mg base 1 "_law_reach" 3 m__law_reach := F__law_reach ev D__law_reach g__law_reach
  have A__law_said : DFn P w K mg base 5 "_law_said" 3 m__law_said := F__law_said ev (A_steps_of.mono (by decide)) D__law_said g__law_said
  have A__law_odd : DFn P w K mg base 1 "_law_odd" 2 m__law_odd := F__law_odd ev D__law_odd g__law_odd
  have A__law_right : DFn P w K mg base 6 "_law_right" 2 m__law_right := F__law_right ev (A__law_rate.mono (by decide)) (A__law_reach.mono (by decide)) (A__law_said.mono (by decide)) (A__law_odd.mono (by decide)) D__law_right g__law_right
  exact fn_def D_law sc_law fun cdv A outer s H E hr => d_law ev (A__law_right.mono (by decide)) (A__law_wide.mono (by decide)) _ cdv A outer s H E hr
end
abbrev RL : PySem.W.OpenRow := PySem.W.OpenLaw.row PySem.Challenge.rw_flywright_k03_moves_refused
abbrev hkL : PySem.W.Hook := hookF 5 (kitB_ T) faL fnL
def obL (s : PySem.W.SharedT) : AlF := obsFG 5 (kitB_ T) faL fnL (HandSHeadRun.getT s)
theorem obL_eq (s : PySem.W.SharedT) : obL s = hkL.obs s.abs := obsFG_eq (HandSHeadRun.getT_eq s)
def looseL : List Str := ["StageError", "BadNumber", "BadName", "BadStage", "BadSheet", "TooLong", "Busy", "TooNear", "Stopped", "NotStopped", "Moving", "NoCue", "BadRow", "MOST_PACE", "MOST_DISTANCE", "MOST_STEPS", "is_whole", "need_whole", "rising", "reach_of", "falling", "greatest_step", "many_for", "steps_of", "_law_wide", "_law_rate", "_law_reach", "_law_said", "_law_odd", "_law_right"]
theorem runL (w : World) : HandSHeadRun.RunEq RL (PySem.W.view RL.prog [33]) hkL obL 4000 looseL w := by
  intro os
  kernel_rfl
open PySem.W PySem.Calls in
theorem holdsL (hlaw : ∀ ns : List Int, ns.length ≤ 63 → ∃ S', m_law [.lst (ns.map D.int)] [] = .ok (.val (.bl true)) S') : PySem.Challenge.rw_flywright_k03_moves_refused.Holds := by
  w_on; o_law
  refine HandSHeadRun.head_any (r := OpenLaw.row PySem.Challenge.rw_flywright_k03_moves_refused) (q := view (OpenLaw.row PySem.Challenge.rw_flywright_k03_moves_refused).prog [33]) (H := hkL) (ob := obL) (M := 4000) (loose := looseL) (d := HandSHeadRun.topDef (OpenLaw.row PySem.Challenge.rw_flywright_k03_moves_refused).prog 33) (kwd := []) obL_eq
    (by kernel_rfl) (fun s => by kernel_rfl) runL (by kernel_rfl) (by kernel_rfl) (by kernel_rfl) (by rfl) (by first | assumption | decide +kernel) (by decide +kernel) ⟨rfl, rfl, rfl, rfl, rfl, by decide +kernel⟩ ?hw ?hc
  case hw => w_witness2
  case hc =>
    refine walk_ofE (CX := CXW (PySem.Challenge.rw_flywright_k03_moves_refused).prog) (l := PySem.Challenge.rw_flywright_k03_moves_refused) (n := 63) (k := 7) (x := "_law_script") rfl (by decide) (by kernel_rfl) ⟨rfl, by decide, by decide⟩ ?F (fun _ _ _ _ h => h.elim fun _ z => cx_none z)
    intro w mg fa h Y G hmg0
    obtain ⟨K, KX, kb, c⟩ := Y
    have hmg : mg ("law" : PySem.Str) = some (.ref fa) := by
      have e : (HandSHeadRun.topDef (OpenLaw.row PySem.Challenge.rw_flywright_k03_moves_refused).prog 33).name = ("law" : PySem.Str) := by kernel_rfl
      rw [← e]
      exact hmg0
    obtain ⟨fd, hb, hF⟩ := facts (P := (PySem.Challenge.rw_flywright_k03_moves_refused).prog) (w := w) KX G hmg kb c
    exact ⟨K, fd, spD K 1 m_law, KX, hb, fun H a ns hl hO hS => sp_law hlaw H a ns hl hO hS, fun base b1 b2 => FnOk.any (hF base b1 b2)⟩
end FW
end
section
set_option maxHeartbeats 4000000
namespace FW
open PySem
theorem mul_s {S : Sto} {i j : Int} (h1 : -1000000000000000000000000000000000000000000000000000000000000000000000000000000000000000000 ≤ i) (h2 : i ≤ 1000000000000000000000000000000000000000000000000000000000000000000000000000000000000000000)
    (h3 : -1000000000000000000000000000000000000000000000000000000000000000000000000000000000000000000 ≤ j) (h4 : j ≤ 1000000000000000000000000000000000000000000000000000000000000000000000000000000000000000000) : opI2 fMul S (.int i) (.int j) = some (.val (.int (i * j))) := by
  have e : (1000000000000000000000000000000000000000000000000000000000000000000000000000000000000000000 : Int) < 2 ^ 600 := by decide +kernel
  simp only [opI2, fMul]
  rw [if_pos ⟨by omega, by omega, by omega, by omega⟩]; rfl
theorem div_s {S : Sto} {i j : Int} (h1 : 0 < j) (h2 : j ≤ 1000000000000000000000000000000000000000000000000000000000000000000000000000000000000000000) : opI2 fDiv S (.int i) (.int j) = some (.val (.int (i / j))) := by
  have e : (1000000000000000000000000000000000000000000000000000000000000000000000000000000000000000000 : Int) < 2 ^ 600 := by decide +kernel
  simp only [opI2, fDiv]
  rw [if_pos ⟨by omega, by omega⟩]; rfl
theorem mod_s {S : Sto} {i j : Int} (h1 : 0 < j) : opI2 fMod S (.int i) (.int j) = some (.val (.int (i % j))) := by
  simp only [opI2, fMod]
  rw [if_pos h1]; rfl
theorem add_s {S : Sto} {i j : Int} : opAdd S (.int i) (.int j) = some (.val (.int (i + j))) := rfl
theorem sub_s {S : Sto} {i j : Int} : opSub S (.int i) (.int j) = some (.val (.int (i - j))) := rfl
theorem cat_s {S : Sto} {a b : List D} : opAdd S (.lst a) (.lst b) = if a.length + b.length ≤ 1000000 then some (.own (.lst (a ++ b))) else none := rfl
theorem lt_s {S : Sto} {i j : Int} : cLt S (.int i) (.int j) = some (decide (i < j)) := rfl
theorem le_s {S : Sto} {i j : Int} : cLe S (.int i) (.int j) = some (decide (i ≤ j)) := rfl
theorem gt_s {S : Sto} {i j : Int} : cGt S (.int i) (.int j) = some (decide (j < i)) := rfl
theorem ge_s {S : Sto} {i j : Int} : cGe S (.int i) (.int j) = some (decide (j ≤ i)) := rfl
theorem mul_bd {a b A B : Int} (h1 : 0 ≤ a) (h2 : a ≤ A) (h3 : 0 ≤ b) (h4 : b ≤ B) : 0 ≤ a * b ∧ a * b ≤ A * B :=
  ⟨Int.mul_nonneg h1 h3, Int.mul_le_mul h2 h4 h3 (Int.le_trans h1 h2)⟩
def isW (d : D) (lo hi : Int) : Bool := match d with
  | .int i => decide (lo ≤ i) && decide (i ≤ hi)
  | _ => false
/-- a thing of a built-in kind -/
def plain (d : D) : Bool := match d with
  | .non | .bl _ | .int _ | .str _ | .lst _ | .tup _ | .dic _ => true
  | _ => false
theorem e_is_whole {d : D} {lo hi : Int} {S : Sto} (h : plain d = true) : m_is_whole [d, .int lo, .int hi] S = .ok (.val (.bl (isW d lo hi))) S := by
  cases d <;> simp [plain] at h <;> simp [m_is_whole, b_is_whole, N_is_whole, fIsi, isi1, tyN, T, isW, mDef, startD, sSeq, sNext, sSet, sRet, sRetV, sRetN, sIf, sExpr, sRaise, sAug, sPar, sTgt, sApp, sFrz, sTryAs, rBind, R.bind, mMap, mBin, mUn, mCmp, mChain, mFn, mCall, mAnd, mOr, mNot, mTru, mAndV, mOrV, mNotV, mIf, aNil, aCons, oLst, eVar, eC, lift2, liftB, opI2, fDiv, fMod, fPow, opAdd, sub_s, lookD, Slot.d, Cell.d, lt_s, le_s, gt_s, ge_s, cIsN, cIsNN, truD, fNeg, fAddI, fSubI, List.getElem?_cons_zero, List.getElem?_cons_succ, List.set_cons_zero, List.set_cons_succ]
  rename_i i
  by_cases h1 : lo ≤ i <;> simp [h1]
theorem e_need_whole {d : D} {lo hi : Int} {S : Sto} (h : plain d = true) : m_need_whole [d, .int lo, .int hi] S = if isW d lo hi then .ok (.val .non) S else .err ⟨"BadNumber", []⟩ S := by
  simp [m_need_whole, b_need_whole, N_need_whole, e_is_whole h, mDef, startD, sSeq, sNext, sSet, sRet, sRetV, sRetN, sIf, sExpr, sRaise, sAug, sPar, sTgt, sApp, sFrz, sTryAs, rBind, R.bind, mMap, mBin, mUn, mCmp, mChain, mFn, mCall, mAnd, mOr, mNot, mTru, mAndV, mOrV, mNotV, mIf, aNil, aCons, oLst, eVar, eC, lift2, liftB, opI2, fDiv, fMod, fPow, opAdd, sub_s, lookD, Slot.d, Cell.d, lt_s, le_s, gt_s, ge_s, cIsN, cIsNN, truD, fNeg, fAddI, fSubI, List.getElem?_cons_zero, List.getElem?_cons_succ, List.set_cons_zero, List.set_cons_succ]
  by_cases h1 : isW d lo hi = true <;> simp [h1]
def risingZ (n p g : Int) : Int := g * min n (p / g) * (min n (p / g) + 1) / 2 + (n - min n (p / g)) * p
theorem e_rising {n p g : Int} {S : Sto} (h0 : 0 ≤ n) (h1 : n ≤ 1000) (hp : 1 ≤ p) (hp2 : p ≤ 1000000000) (hg : 1 ≤ g) (hg2 : g ≤ 1000000000) :
    m_rising [.int n, .int p, .int g] S = .ok (.val (.int (risingZ n p g))) S := by
  have d0 : 0 ≤ p / g := Int.ediv_nonneg (by omega) (by omega)
  have b := mul_bd (a := g) (b := min n (p / g)) (A := 1000000000) (B := 1000) (by omega) (by omega) (by omega) (by omega)
  simp (disch := omega) [m_rising, b_rising, N_rising, fMin, mul_s, div_s, risingZ, mDef, startD, sSeq, sNext, sSet, sRet, sRetV, sRetN, sIf, sExpr, sRaise, sAug, sPar, sTgt, sApp, sFrz, sTryAs, rBind, R.bind, mMap, mBin, mUn, mCmp, mChain, mFn, mCall, mAnd, mOr, mNot, mTru, mAndV, mOrV, mNotV, mIf, aNil, aCons, oLst, eVar, eC, lift2, liftB, fPow, sub_s, lookD, Slot.d, Cell.d, lt_s, le_s, gt_s, ge_s, cIsN, cIsNN, truD, fNeg, fAddI, fSubI, List.getElem?_cons_zero, List.getElem?_cons_succ, List.set_cons_zero, List.set_cons_succ, add_s, cat_s]
def reachZ (n p g : Int) : Int := 2 * risingZ (n / 2) p g + (if n % 2 = 1 then min p (g * (n / 2 + 1)) else 0)
theorem rising_bd {n p g : Int} (h0 : 0 ≤ n) (h1 : n ≤ 1000) (hp : 1 ≤ p) (hp2 : p ≤ 1000000000) (hg : 1 ≤ g) (hg2 : g ≤ 1000000000) : 0 ≤ risingZ n p g ∧ risingZ n p g ≤ 1000000000000000000 := by
  have d0 : 0 ≤ p / g := Int.ediv_nonneg (by omega) (by omega)
  have b := mul_bd (a := g) (b := min n (p / g)) (A := 1000000000) (B := 1000) (by omega) (by omega) (by omega) (by omega)
  have b2 := mul_bd (a := g * min n (p / g)) (b := min n (p / g) + 1) (A := 1000000000000) (B := 1001) (by omega) (by omega) (by omega) (by omega)
  have b3 := mul_bd (a := n - min n (p / g)) (b := p) (A := 1000) (B := 1000000000) (by omega) (by omega) (by omega) (by omega)
  unfold risingZ
  omega
theorem e_reach_of {n p g : Int} {S : Sto} (h0 : 0 ≤ n) (h1 : n ≤ 1000) (hp : 1 ≤ p) (hp2 : p ≤ 1000000000) (hg : 1 ≤ g) (hg2 : g ≤ 1000000000) :
    m_reach_of [.int n, .int p, .int g] S = .ok (.val (.int (reachZ n p g))) S := by
  have b := rising_bd (n := n / 2) (p := p) (g := g) (by omega) (by omega) hp hp2 hg hg2
  have e := e_rising (S := S) (n := n / 2) (p := p) (g := g) (by omega) (by omega) hp hp2 hg hg2
  by_cases h : n % 2 = 1
  · simp (disch := omega) [m_reach_of, b_reach_of, N_reach_of, fMin, mul_s, div_s, mod_s, reachZ, cEq, e, h, mDef, startD, sSeq, sNext, sSet, sRet, sRetV, sRetN, sIf, sExpr, sRaise, sAug, sPar, sTgt, sApp, sFrz, sTryAs, rBind, R.bind, mMap, mBin, mUn, mCmp, mChain, mFn, mCall, mAnd, mOr, mNot, mTru, mAndV, mOrV, mNotV, mIf, aNil, aCons, oLst, eVar, eC, lift2, liftB, fPow, sub_s, lookD, Slot.d, Cell.d, lt_s, le_s, gt_s, ge_s, cIsN, cIsNN, truD, fNeg, fAddI, fSubI, List.getElem?_cons_zero, List.getElem?_cons_succ, List.set_cons_zero, List.set_cons_succ, add_s, cat_s]
  · simp (disch := omega) [m_reach_of, b_reach_of, N_reach_of, fMin, mul_s, div_s, mod_s, reachZ, cEq, e, h, mDef, startD, sSeq, sNext, sSet, sRet, sRetV, sRetN, sIf, sExpr, sRaise, sAug, sPar, sTgt, sApp, sFrz, sTryAs, rBind, R.bind, mMap, mBin, mUn, mCmp, mChain, mFn, mCall, mAnd, mOr, mNot, mTru, mAndV, mOrV, mNotV, mIf, aNil, aCons, oLst, eVar, eC, lift2, liftB, fPow, sub_s, lookD, Slot.d, Cell.d, lt_s, le_s, gt_s, ge_s, cIsN, cIsNN, truD, fNeg, fAddI, fSubI, List.getElem?_cons_zero, List.getElem?_cons_succ, List.set_cons_zero, List.set_cons_succ, add_s, cat_s]
def zD : D → Int
  | .int i => i
  | _ => 0
theorem isW_int {d : D} {lo hi : Int} (h : isW d lo hi = true) : ∃ i, d = .int i ∧ lo ≤ i ∧ i ≤ hi := by
  cases d <;> simp [isW] at h
  exact ⟨_, rfl, h⟩
/-! ### comprehensions whose turns are plain -/
theorem lc_all {gm : D → List Slot → Option (List Slot)} {ρ : List Slot} {mt : M Bool} {me : M D} {S : Sto} (f : D → D) : ∀ (ds acc : List D), (∀ d ∈ ds, ∃ ρ1, gm d ρ = some ρ1 ∧ mt ρ1 S = .ok true S ∧ me ρ1 S = .ok (f d) S) → lcLoop gm ρ mt me ds acc S = .ok (acc ++ ds.map f) S
  | [], acc, _ => by simp [lcLoop]
  | d :: ds, acc, h => by
    obtain ⟨ρ1, a, b, c⟩ := h d (by simp)
    simp only [lcLoop, a, b, c, R.bind, cond_true]
    rw [lc_all f ds _ fun x hx => h x (by simp [hx])]
    simp
theorem lc_none {gm : D → List Slot → Option (List Slot)} {ρ : List Slot} {mt : M Bool} {me : M D} {S : Sto} : ∀ (ds acc : List D), (∀ d ∈ ds, ∃ ρ1, gm d ρ = some ρ1 ∧ mt ρ1 S = .ok false S) → lcLoop gm ρ mt me ds acc S = .ok acc S
  | [], acc, _ => by simp [lcLoop]
  | d :: ds, acc, h => by
    obtain ⟨ρ1, a, b⟩ := h d (by simp)
    simp only [lcLoop, a, b, R.bind, cond_false]
    exact lc_none ds _ fun x hx => h x (by simp [hx])
/-! ### sums -/
def sumTo (f : Nat → Int) : Nat → Int
  | 0 => 0
  | n + 1 => sumTo f n + f n
theorem sumTo_congr {f g : Nat → Int} : ∀ {n : Nat}, (∀ k, k < n → f k = g k) → sumTo f n = sumTo g n
  | 0, _ => rfl
  | n + 1, h => by simp only [sumTo]; rw [sumTo_congr fun k hk => h k (by omega), h n (by omega)]
theorem sumTo_add (f : Nat → Int) (a : Nat) : ∀ b : Nat, sumTo f (a + b) = sumTo f a + sumTo (fun k => f (a + k)) b
  | 0 => by simp [sumTo]
  | b + 1 => by rw [← Nat.add_assoc]; simp only [sumTo]; rw [sumTo_add f a b]; omega
theorem sumTo_front (f : Nat → Int) (n : Nat) : sumTo f (n + 1) = f 0 + sumTo (fun k => f (k + 1)) n := by
  have := sumTo_add f 1 n
  rw [Nat.add_comm 1 n] at this
  rw [this]
  have e : (fun k => f (1 + k)) = fun k => f (k + 1) := by funext k; rw [Nat.add_comm]
  rw [e]; simp [sumTo]
theorem sumTo_rev (f : Nat → Int) : ∀ n : Nat, sumTo f n = sumTo (fun k => f (n - 1 - k)) n
  | 0 => rfl
  | n + 1 => by
    rw [sumTo_front (fun k => f (n + 1 - 1 - k)) n]
    simp only [sumTo]
    rw [sumTo_rev f n]
    have e : sumTo (fun k => f (n + 1 - 1 - (k + 1))) n = sumTo (fun k => f (n - 1 - k)) n := sumTo_congr fun k hk => by rw [show n + 1 - 1 - (k + 1) = n - 1 - k by omega]
    rw [e]; simp; omega
theorem sum_range (f : Nat → Int) : ∀ n : Nat, ((List.range n).map f).sum = sumTo f n
  | 0 => rfl
  | n + 1 => by rw [List.range_succ, List.map_append, List.sum_append, sum_range f n]; simp [sumTo]
/-! ### the way of a move -/
def hZ (p g : Int) (j : Nat) : Int := min p (g * j)
theorem tri_even : ∀ m : Nat, ∃ t : Int, (m : Int) * (m + 1) = 2 * t
  | 0 => ⟨0, by simp⟩
  | m + 1 => by
    obtain ⟨t, e⟩ := tri_even m
    refine ⟨t + m + 1, ?_⟩
    have : ((m + 1 : Nat) : Int) * ((m + 1 : Nat) + 1) = (m : Int) * (m + 1) + 2 * (m + 1) := by push_cast; simp only [Int.mul_add, Int.add_mul]; omega
    rw [this, e]; omega
theorem rising_sum {p g : Int} (hp : 0 ≤ p) (hg : 1 ≤ g) : ∀ m : Nat, risingZ m p g = sumTo (fun k => hZ p g (k + 1)) m
  | 0 => by
    have : 0 ≤ p / g := Int.ediv_nonneg hp (by omega)
    simp [risingZ, sumTo, show min 0 (p / g) = 0 by omega]
  | m + 1 => by
    simp only [sumTo]
    rw [← rising_sum hp hg m]
    unfold risingZ hZ
    have d0 : 0 ≤ p / g := Int.ediv_nonneg hp (by omega)
    by_cases h : (m : Int) + 1 ≤ p / g
    · have e1 : min ((m + 1 : Nat) : Int) (p / g) = m + 1 := by omega
      have e2 : min (m : Int) (p / g) = m := by omega
      rw [e1, e2]
      have hle : g * ((m + 1 : Nat) : Int) ≤ p := by
        have := Int.mul_le_mul_of_nonneg_left h (show (0 : Int) ≤ g by omega)
        have h2 := Int.mul_ediv_self_le (x := p) (k := g) (by omega)
        push_cast; omega
      rw [Int.min_eq_right hle]
      obtain ⟨t, et⟩ := tri_even m
      have a1 : g * (m : Int) * (m + 1) = 2 * (g * t) := by rw [Int.mul_assoc, et]; simp only [Int.mul_left_comm]
      have a2 : g * ((m : Int) + 1) * (m + 1 + 1) = 2 * (g * t) + 2 * (g * (m + 1)) := by
        rw [← a1]; simp only [Int.mul_add, Int.add_mul, Int.mul_assoc, Int.mul_one, Int.one_mul]; omega
      rw [a1, a2]
      push_cast
      rw [show 2 * (g * t) / 2 = g * t by omega, show (2 * (g * t) + 2 * (g * ((m : Int) + 1))) / 2 = g * t + g * (m + 1) by omega]
      simp
    · have e1 : min ((m + 1 : Nat) : Int) (p / g) = p / g := by push_cast; omega
      have e2 : min (m : Int) (p / g) = p / g := by omega
      rw [e1, e2]
      have hle : p ≤ g * ((m + 1 : Nat) : Int) := by
        have h1 : p / g + 1 ≤ (m : Int) + 1 := by omega
        have h2 := Int.lt_mul_ediv_self_add (x := p) (k := g) (by omega)
        have := Int.mul_le_mul_of_nonneg_left h1 (show (0 : Int) ≤ g by omega)
        rw [Int.mul_add, Int.mul_one] at this
        push_cast; omega
      rw [Int.min_eq_left hle]
      push_cast
      rw [show ((m : Int) + 1 - p / g) = ((m : Int) - p / g) + 1 by omega, Int.add_mul]; omega
def stepZ (n : Nat) (p g : Int) (k : Nat) : Int := hZ p g (min (k + 1) (n - k))
theorem half_up (p g : Int) (n m : Nat) (h : m ≤ n - m) (hm : m ≤ n) : sumTo (stepZ n p g) m = sumTo (fun k => hZ p g (k + 1)) m := sumTo_congr fun k hk => by
  unfold stepZ; rw [show min (k + 1) (n - k) = k + 1 by omega]
theorem half_down (p g : Int) (n m : Nat) (h : 2 * m ≤ n) : sumTo (fun k => stepZ n p g (n - m + k)) m = sumTo (fun k => hZ p g (k + 1)) m := by
  rw [sumTo_rev (fun k => hZ p g (k + 1)) m]
  refine sumTo_congr fun k hk => ?_
  unfold stepZ
  rw [show min (n - m + k + 1) (n - (n - m + k)) = m - 1 - k + 1 by omega]
theorem reach_sum {p g : Int} (hp : 0 ≤ p) (hg : 1 ≤ g) (n : Nat) : reachZ n p g = sumTo (stepZ n p g) n := by
  unfold reachZ
  have e : ((n : Int) / 2) = ((n / 2 : Nat) : Int) := by omega
  rw [e, rising_sum hp hg]
  by_cases h : n % 2 = 1
  · have hn : n = (n / 2 + 1) + n / 2 := by omega
    have s := sumTo_add (stepZ n p g) (n / 2 + 1) (n / 2)
    rw [← hn] at s
    rw [s]
    have d := half_down p g n (n / 2) (by omega)
    rw [show n - n / 2 = n / 2 + 1 by omega] at d
    rw [d]
    simp only [sumTo]
    rw [half_up p g n (n / 2) (by omega) (by omega), if_pos (by omega)]
    unfold stepZ hZ
    rw [show min (n / 2 + 1) (n - n / 2) = n / 2 + 1 by omega]
    push_cast
    omega
  · have hn : n = n / 2 + n / 2 := by omega
    have s := sumTo_add (stepZ n p g) (n / 2) (n / 2)
    rw [← hn] at s
    rw [s]
    have d := half_down p g n (n / 2) (by omega)
    rw [show n - n / 2 = n / 2 by omega] at d
    rw [d, half_up p g n (n / 2) (by omega) (by omega), if_neg (by omega)]
    omega
theorem e_law_reach {n p g : Int} {S : Sto} (h0 : 0 ≤ n) (h1 : n ≤ 1000) (hp : 1 ≤ p) (hp2 : p ≤ 1000000000) (hg : 1 ≤ g) (hg2 : g ≤ 1000000000) :
    m__law_reach [.int n, .int p, .int g] S = .ok (.val (.int (reachZ n p g))) S := by
  obtain ⟨m, rfl⟩ : ∃ m : Nat, n = m := ⟨n.toNat, by omega⟩
  rw [reach_sum (by omega) hg]
  have loop := lc_all (gm := gN 3) (ρ := [.val (.int m), .val (.int p), .val (.int g), .none]) (mt := eC true) (S := S) (fun d => .int (stepZ m p g (zD d).toNat))
    (me := (mMap Slot.d (mCall fMin (aCons (eVar 1) (aCons (mMap Slot.d (mBin (opI2 fMul) (eVar 2) (mMap Slot.d (mBin opAdd (eVar 3) (eC (.int (1))))))) (aCons (mMap Slot.d (mBin (opI2 fMul) (eVar 2) (mMap Slot.d (mBin opSub (eVar 0) (eVar 3))))) aNil)))))) (rangeD 0 m) [] (fun d hd => by
      simp only [rangeD, List.mem_map, List.mem_range] at hd
      obtain ⟨k, hk, rfl⟩ := hd
      refine ⟨_, rfl, rfl, ?_⟩
      have e : min (g * ((k : Int) + 1)) (g * (m - k)) = g * ((min (k + 1) (m - k) : Nat) : Int) := by
        by_cases hh : k + 1 ≤ m - k
        · rw [Nat.min_eq_left hh, Int.min_eq_left (Int.mul_le_mul_of_nonneg_left (by omega) (by omega))]; push_cast; rfl
        · rw [Nat.min_eq_right (by omega), Int.min_eq_right (Int.mul_le_mul_of_nonneg_left (by omega) (by omega))]; congr 1; omega
      simp (disch := omega) [fMin, mul_s, zD, mDef, startD, sSeq, sNext, sSet, sRet, sRetV, sRetN, sIf, sExpr, sRaise, sAug, sPar, sTgt, sApp, sFrz, sTryAs, rBind, R.bind, mMap, mBin, mUn, mCmp, mChain, mFn, mCall, mAnd, mOr, mNot, mTru, mAndV, mOrV, mNotV, mIf, aNil, aCons, oLst, eVar, eC, lift2, liftB, fPow, sub_s, lookD, Slot.d, Cell.d, lt_s, le_s, gt_s, ge_s, cIsN, cIsNN, truD, fNeg, fAddI, fSubI, List.getElem?_cons_zero, List.getElem?_cons_succ, List.set_cons_zero, List.set_cons_succ, add_s, cat_s]
      unfold stepZ hZ
      rw [← e])
  have hs : intsD ((rangeD 0 m).map fun d => .int (stepZ m p g (zD d).toNat)) = some ((List.range m).map (stepZ m p g)) := by
    rw [← intsD_map]
    congr 1
    simp [rangeD, zD]
  have hm : (m : Int) ≤ 1000000 := by omega
  have hl : (rangeD 0 m).length ≤ 1000000 := by simp [rangeD]; omega
  simp (disch := omega) [m__law_reach, b__law_reach, N__law_reach, mLc, mRange, mThen, fRange, wipeD, noErr, loop, fSum, hs, sum_range, hm, hl, mDef, startD, sSeq, sNext, sSet, sRet, sRetV, sRetN, sIf, sExpr, sRaise, sAug, sPar, sTgt, sApp, sFrz, sTryAs, rBind, R.bind, mMap, mBin, mUn, mCmp, mChain, mFn, mCall, mAnd, mOr, mNot, mTru, mAndV, mOrV, mNotV, mIf, aNil, aCons, oLst, eVar, eC, lift2, liftB, fPow, sub_s, lookD, Slot.d, Cell.d, lt_s, le_s, gt_s, ge_s, cIsN, cIsNN, truD, fNeg, fAddI, fSubI, List.getElem?_cons_zero, List.getElem?_cons_succ, List.set_cons_zero, List.set_cons_succ, add_s, cat_s]
theorem eq_s {S : Sto} {i j : Int} : cEq S (.int i) (.int j) = some (decide (i = j)) := rfl
theorem ne_s {S : Sto} {i j : Int} : cNe S (.int i) (.int j) = some (!decide (i = j)) := rfl
theorem pow_s {S : Sto} {i j : Int} (h0 : 0 ≤ j) (h1 : j ≤ 100) (h2 : 0 ≤ i) (h3 : i ≤ 1000) : opI2 fPow S (.int i) (.int j) = some (.val (.int (i ^ j.toNat))) := by
  simp only [opI2, fPow]
  rw [if_pos ⟨h0, h1, h2, h3⟩]; rfl
theorem atD_mem {xs : List D} {i : Int} (h0 : 0 ≤ i) (h1 : i < xs.length) : ∃ d, d ∈ xs ∧ atD xs i = some d := by
  have hl : i.toNat < xs.length := by omega
  refine ⟨xs[i.toNat], List.getElem_mem hl, ?_⟩
  unfold atD
  rw [if_pos h0, List.getElem?_eq_getElem hl]
theorem e_rate {n : Int} {S : Sto} : ∃ r, m__law_rate [.int n] S = .ok (.val (.int r)) S ∧ 1 ≤ r ∧ r ≤ 1000000000 := by
  obtain ⟨d, hd, e⟩ := atD_mem (xs := [.int (1 + n / 8 % 9), .int (1 + n / 8 % 1000), .int (1 + n / 8 % 1000000000), .int 1000000000, .int 1, .int 2, .int 7, .int 3]) (i := n % 8) (Int.emod_nonneg _ (by omega)) (by simp; omega)
  have hr : ∃ r, d = .int r ∧ 1 ≤ r ∧ r ≤ 1000000000 := by
    simp only [List.mem_cons, List.not_mem_nil, or_false] at hd
    rcases hd with h | h | h | h | h | h | h | h <;> exact ⟨_, h, by omega, by omega⟩
  obtain ⟨r, rfl, r1, r2⟩ := hr
  refine ⟨r, ?_, r1, r2⟩
  simp (disch := omega) [m__law_rate, b__law_rate, N__law_rate, div_s, mod_s, pow_s, opIx, e, mDef, startD, sSeq, sNext, sSet, sRet, sRetV, sRetN, sIf, sExpr, sRaise, sAug, sPar, sTgt, sApp, sFrz, sTryAs, rBind, R.bind, mMap, mBin, mUn, mCmp, mChain, mFn, mCall, mAnd, mOr, mNot, mTru, mAndV, mOrV, mNotV, mIf, aNil, aCons, oLst, eVar, eC, lift2, liftB, fPow, sub_s, lookD, Slot.d, Cell.d, lt_s, le_s, gt_s, ge_s, cIsN, cIsNN, truD, fNeg, fAddI, fSubI, List.getElem?_cons_zero, List.getElem?_cons_succ, List.set_cons_zero, List.set_cons_succ, add_s, cat_s]
theorem e_wide {c k : Int} {S : Sto} (h0 : 0 ≤ k) (h1 : k ≤ 2000) : ∃ n, m__law_wide [.int c, .int k] S = .ok (.val (.int n)) S ∧ 0 ≤ n := by
  have c0 : 0 ≤ c % 1000000000000000000000000000000000000000000000000000000000000 := Int.emod_nonneg _ (by omega)
  have c1 : c % 1000000000000000000000000000000000000000000000000000000000000 < 1000000000000000000000000000000000000000000000000000000000000 := Int.emod_lt_of_pos _ (by omega)
  have b1 := mul_bd (a := 104729 * k) (b := k) (A := 1000000000) (B := 2000) (by omega) (by omega) h0 h1
  generalize hx : (c % 1000000000000000000000000000000000000000000000000000000000000 + 104729 * k * k + 7919 * k + 3) * 2862933555777941757 = x
  have x0 : 0 ≤ x := by omega
  have x1 : x ≤ 100000000000000000000000000000000000000000000000000000000000000000000000000000000 := by omega
  have m0 : 0 ≤ x * x % 170141183460469231731687303715884105727 := Int.emod_nonneg _ (by omega)
  refine ⟨x * x % 170141183460469231731687303715884105727 / 1073741824, ?_, Int.ediv_nonneg m0 (by omega)⟩
  simp (disch := omega) [m__law_wide, b__law_wide, N__law_wide, mul_s, div_s, mod_s, pow_s, hx, mDef, startD, sSeq, sNext, sSet, sRet, sRetV, sRetN, sIf, sExpr, sRaise, sAug, sPar, sTgt, sApp, sFrz, sTryAs, rBind, R.bind, mMap, mBin, mUn, mCmp, mChain, mFn, mCall, mAnd, mOr, mNot, mTru, mAndV, mOrV, mNotV, mIf, aNil, aCons, oLst, eVar, eC, lift2, liftB, fPow, sub_s, lookD, Slot.d, Cell.d, lt_s, le_s, gt_s, ge_s, cIsN, cIsNN, truD, fNeg, fAddI, fSubI, List.getElem?_cons_zero, List.getElem?_cons_succ, List.set_cons_zero, List.set_cons_succ, add_s, cat_s]
end FW
end
section
set_option maxHeartbeats 4000000
namespace FW
open PySem
/-! ### the steps of a move, in plain numbers -/
def lowR (g : Int) : Nat → Int → Int
  | 0, _ => 0
  | n + 1, s => max 1 (s - g) + lowR g n (max 1 (s - g))
abbrev mostZ (p g last : Int) (n : Nat) : Int := min p (min (last + g) (g * (n + 1)))
def highR (p g : Int) : Nat → Int → Int
  | 0, _ => 0
  | n + 1, s => mostZ p g s n + highR p g n (mostZ p g s n)
theorem low_mono {g : Int} : ∀ (n : Nat) {s t : Int}, s ≤ t → lowR g n s ≤ lowR g n t
  | 0, _, _, _ => Int.le_refl _
  | n + 1, s, t, h => by
    have := low_mono (g := g) n (show max 1 (s - g) ≤ max 1 (t - g) by omega)
    simp only [lowR]; omega
theorem low_pos {g : Int} : ∀ (n : Nat) (s : Int), (n : Int) ≤ lowR g n s
  | 0, _ => by simp [lowR]
  | n + 1, s => by
    have := low_pos (g := g) n (max 1 (s - g))
    simp only [lowR]; push_cast; omega
theorem low_one {g : Int} (hg : 1 ≤ g) : ∀ (n : Nat) {s : Int}, s ≤ g → lowR g n s = n
  | 0, _, _ => rfl
  | n + 1, s, h => by
    have e : max 1 (s - g) = 1 := by omega
    simp only [lowR, e, low_one hg n (show (1 : Int) ≤ g from hg)]; push_cast; omega
theorem low_high {p g : Int} (hp : 1 ≤ p) (hg : 1 ≤ g) : ∀ (n : Nat) {a b : Int}, 0 ≤ b → a ≤ b + 1 → a ≤ p → a ≤ g * (n + 1) → lowR g n a ≤ highR p g n b
  | 0, _, _, _, _, _, _ => Int.le_refl _
  | n + 1, a, b, h0, h1, h2, h3 => by
    have e : g * (((n + 1 : Nat) : Int) + 1) = g * (n + 1) + g := by push_cast; rw [Int.mul_add g ((n : Int) + 1) 1, Int.mul_one]
    have e2 : g ≤ g * ((n : Int) + 1) := by
      have := Int.mul_le_mul_of_nonneg_left (show (1 : Int) ≤ (n : Int) + 1 by omega) (show (0 : Int) ≤ g by omega)
      omega
    rw [e] at h3
    have hm : mostZ p g b n = min p (min (b + g) (g * (n + 1))) := rfl
    have := low_high hp hg n (a := max 1 (a - g)) (b := mostZ p g b n) (by omega) (by omega) (by omega) (by omega)
    simp only [lowR, highR]; omega
def Good (p g : Int) : Nat → Int → Int → List Int → Prop
  | 0, _, L, xs => xs = [] ∧ L = 0
  | n + 1, last, L, xs => ∃ s r, xs = s :: r ∧ max 1 (last - g) ≤ s ∧ s ≤ mostZ p g last n ∧ (s = mostZ p g last n ∨ L < s + 1 + lowR g n (s + 1)) ∧ Good p g n s (L - s) r
/-- n steps are left, the last was so great, so far is to go -/
structure On (p g : Int) (n : Nat) (last L : Int) : Prop where
  l0 : 0 ≤ last
  lp : last ≤ p
  lg : last ≤ g * (n + 1)
  lo : lowR g n last ≤ L
  hi : L ≤ highR p g n last
theorem gmul {g : Int} (n : Nat) : g * (((n + 1 : Nat) : Int) + 1) = g * (n + 1) + g := by push_cast; rw [Int.mul_add g ((n : Int) + 1) 1, Int.mul_one]
theorem gone {g : Int} (hg : 1 ≤ g) (n : Nat) : g ≤ g * ((n : Int) + 1) := by
  have := Int.mul_le_mul_of_nonneg_left (show (1 : Int) ≤ (n : Int) + 1 by omega) (show (0 : Int) ≤ g by omega)
  omega
theorem On.room {p g : Int} {n : Nat} {last L : Int} (hp : 1 ≤ p) (hg : 1 ≤ g) (h : On p g (n + 1) last L) : max 1 (last - g) ≤ mostZ p g last n ∧ max 1 (last - g) + lowR g n (max 1 (last - g)) ≤ L := by
  obtain ⟨h0, h1, h2, h3, h4⟩ := h
  rw [gmul] at h2
  have e2 := gone hg n
  simp only [lowR] at h3
  have hm : mostZ p g last n = min p (min (last + g) (g * (n + 1))) := rfl
  exact ⟨by omega, h3⟩
theorem On.next {p g : Int} {n : Nat} {last L s : Int} (hp : 1 ≤ p) (hg : 1 ≤ g) (h : On p g (n + 1) last L) (s1 : max 1 (last - g) ≤ s) (s2 : s ≤ mostZ p g last n) (s3 : s + lowR g n s ≤ L) (s4 : s = mostZ p g last n ∨ L < s + 1 + lowR g n (s + 1)) : On p g n s (L - s) := by
  have hm : mostZ p g last n = min p (min (last + g) (g * (n + 1))) := rfl
  refine ⟨by omega, by omega, by omega, by omega, ?_⟩
  by_cases z : s = mostZ p g last n
  · have := h.hi
    simp only [highR] at this
    rw [← z] at this; omega
  · have w := s4.resolve_left z
    have := low_high hp hg n (a := s + 1) (b := s) (by omega) (by omega) (by omega) (by omega)
    omega
theorem high_sum {p g : Int} (hp : 1 ≤ p) (hg : 1 ≤ g) : ∀ (n : Nat) (last : Int), highR p g n last = sumTo (fun k => min p (min (last + g * (k + 1)) (g * ((n - k : Nat) : Int)))) n
  | 0, _ => rfl
  | n + 1, last => by
    rw [sumTo_front]
    simp only [highR]
    rw [high_sum hp hg n]
    have e0 : min p (min (last + g * (((0 : Nat) : Int) + 1)) (g * ((n + 1 - 0 : Nat) : Int))) = mostZ p g last n := by simp
    rw [e0]
    congr 1
    refine sumTo_congr fun k hk => ?_
    have a1 : g * (((k + 1 : Nat) : Int) + 1) = g * (k + 1) + g := gmul k
    have a2 : n + 1 - (k + 1) = n - k := by omega
    have a3 : g * ((n - k : Nat) : Int) ≤ g * (n + 1) := Int.mul_le_mul_of_nonneg_left (by omega) (by omega)
    have a4 := gone hg k
    have hm : mostZ p g last n = min p (min (last + g) (g * (n + 1))) := rfl
    rw [a1, a2]
    omega
theorem high_reach {p g : Int} (hp : 1 ≤ p) (hg : 1 ≤ g) (n : Nat) : highR p g n 0 = reachZ n p g := by
  rw [high_sum hp hg, reach_sum (by omega) hg]
  refine sumTo_congr fun k hk => ?_
  unfold stepZ hZ
  by_cases hh : k + 1 ≤ n - k
  · rw [Nat.min_eq_left hh]
    have := Int.mul_le_mul_of_nonneg_left (show ((k + 1 : Nat) : Int) ≤ ((n - k : Nat) : Int) by omega) (show (0 : Int) ≤ g by omega)
    push_cast at *; omega
  · rw [Nat.min_eq_right (by omega)]
    have := Int.mul_le_mul_of_nonneg_left (show ((n - k : Nat) : Int) ≤ ((k + 1 : Nat) : Int) by omega) (show (0 : Int) ≤ g by omega)
    push_cast at *; omega
theorem hZ_pos {p g : Int} (hp : 1 ≤ p) (hg : 1 ≤ g) (j : Nat) : 1 ≤ hZ p g (j + 1) := by
  have := gone hg j
  unfold hZ; push_cast; omega
theorem reach_succ {p g : Int} (hp : 1 ≤ p) (hg : 1 ≤ g) (n : Nat) : reachZ n p g + 1 ≤ reachZ ((n : Int) + 1) p g := by
  have r : risingZ ((n / 2 + 1 : Nat) : Int) p g = risingZ ((n / 2 : Nat) : Int) p g + hZ p g (n / 2 + 1) := by
    rw [rising_sum (by omega) hg, rising_sum (by omega) hg]; rfl
  have h1 := hZ_pos hp hg (n / 2)
  have d : ((n : Int) / 2) = ((n / 2 : Nat) : Int) := by omega
  unfold reachZ
  rw [d]
  by_cases h : n % 2 = 1
  · have d2 : ((n : Int) + 1) / 2 = ((n / 2 + 1 : Nat) : Int) := by omega
    rw [d2, r, if_pos (by omega), if_neg (by omega)]
    unfold hZ at *
    push_cast at *
    omega
  · have d2 : ((n : Int) + 1) / 2 = ((n / 2 : Nat) : Int) := by omega
    rw [d2, if_neg (by omega), if_pos (by omega)]
    unfold hZ at *
    push_cast at *
    omega
theorem reach_ge {p g : Int} (hp : 1 ≤ p) (hg : 1 ≤ g) : ∀ n : Nat, (n : Int) ≤ reachZ n p g
  | 0 => by
    have : 0 ≤ p / g := Int.ediv_nonneg (by omega) (by omega)
    simp [reachZ, risingZ, show min 0 (p / g) = 0 by omega]
  | n + 1 => by
    have a := reach_ge hp hg n
    have b := reach_succ hp hg n
    push_cast; omega
theorem reach_mono {p g : Int} (hp : 1 ≤ p) (hg : 1 ≤ g) (n : Nat) : ∀ k : Nat, reachZ n p g ≤ reachZ ((n + k : Nat) : Int) p g
  | 0 => Int.le_refl _
  | k + 1 => by
    have a := reach_mono hp hg n k
    have b := reach_succ hp hg (n + k)
    have e : (((n + k : Nat) : Int) + 1) = ((n + (k + 1) : Nat) : Int) := by push_cast; omega
    rw [e] at b; omega
def fallF (s n g : Int) : Int := min n ((s - 1) / g) * s - g * min n ((s - 1) / g) * (min n ((s - 1) / g) + 1) / 2 + n - min n ((s - 1) / g)
theorem fall_low {g : Int} (hg : 1 ≤ g) : ∀ (n : Nat) {s : Int}, 1 ≤ s → fallF s n g = lowR g n s
  | 0, s, h => by
    have : 0 ≤ (s - 1) / g := Int.ediv_nonneg (by omega) (by omega)
    simp [fallF, lowR, show min 0 ((s - 1) / g) = 0 by omega]
  | n + 1, s, h => by
    simp only [lowR]
    have q0 : 0 ≤ (s - 1) / g := Int.ediv_nonneg (by omega) (by omega)
    by_cases z : s - 1 < g
    · have q : (s - 1) / g = 0 := Int.ediv_eq_zero_of_lt (by omega) z
      rw [show max 1 (s - g) = 1 by omega, low_one hg n hg]
      simp only [fallF, q]
      rw [show min ((n + 1 : Nat) : Int) 0 = 0 by omega]
      simp; omega
    · have q : (s - g - 1) / g = (s - 1) / g - 1 := by
        have : s - g - 1 = (s - 1) + (-1) * g := by omega
        rw [this, Int.add_mul_ediv_right _ _ (by omega)]; omega
      have q1 : 1 ≤ (s - 1) / g := by rw [Int.le_ediv_iff_mul_le (by omega)]; omega
      rw [show max 1 (s - g) = s - g by omega, ← fall_low hg n (s := s - g) (by omega)]
      unfold fallF
      rw [q]
      obtain ⟨f, hf⟩ : ∃ f : Nat, (f : Int) = min (n : Int) ((s - 1) / g - 1) := ⟨(min (n : Int) ((s - 1) / g - 1)).toNat, by omega⟩
      have e1 : min ((n + 1 : Nat) : Int) ((s - 1) / g) = f + 1 := by omega
      rw [e1, ← hf]
      obtain ⟨t, et⟩ := tri_even f
      have a1 : g * (f : Int) * (f + 1) = 2 * (g * t) := by rw [Int.mul_assoc, et]; simp only [Int.mul_left_comm]
      have a2 : g * ((f : Int) + 1) * (f + 1 + 1) = 2 * (g * t) + 2 * (g * (f + 1)) := by
        rw [← a1]; simp only [Int.mul_add, Int.add_mul, Int.mul_assoc, Int.mul_one, Int.one_mul]; omega
      rw [a1, a2, show 2 * (g * t) / 2 = g * t by omega, show (2 * (g * t) + 2 * (g * ((f : Int) + 1))) / 2 = g * t + g * (f + 1) by omega]
      simp only [Int.mul_add, Int.add_mul, Int.mul_sub, Int.mul_one, Int.one_mul]
      rw [Int.mul_comm g (f : Int)]
      push_cast
      omega
end FW
end
section
set_option maxHeartbeats 8000000
namespace FW
open PySem
theorem while_nx {t : M Bool} {b : MS} {ρ ρ' : List Slot} {S S1 S' : Sto} (h : t ρ S = .ok true S1) (h2 : b ρ S1 = .nx ρ' S') : sWhile t b ρ S = sWhile t b ρ' S' := by
  rw [sWhile_eq, h]; simp only [rBind, cond_true, h2]
theorem while_end {t : M Bool} {b : MS} {ρ : List Slot} {S S1 : Sto} (h : t ρ S = .ok false S1) : sWhile t b ρ S = .nx ρ S1 := by
  rw [sWhile_eq, h]; rfl
theorem fall_bd {s g : Int} {n : Nat} (hs : 1 ≤ s) (hg : 1 ≤ g) (hs2 : s ≤ 1000000000) (hn : n ≤ 1000) (hg2 : g ≤ 1000000000) {S : Sto} : m_falling [.int s, .int n, .int g] S = .ok (.val (.int (lowR g n s))) S := by
  rw [← fall_low hg n hs]
  have q0 : 0 ≤ (s - 1) / g := Int.ediv_nonneg (by omega) (by omega)
  have b1 := mul_bd (a := g) (b := min (n : Int) ((s - 1) / g)) (A := 1000000000) (B := 1000) (by omega) (by omega) (by omega) (by omega)
  simp (disch := omega) [m_falling, b_falling, N_falling, fMin, mul_s, div_s, fallF, mDef, startD, sSeq, sNext, sSet, sRet, sRetV, sRetN, sIf, sExpr, sRaise, sAug, sPar, sTgt, sApp, sFrz, sTryAs, rBind, R.bind, mMap, mBin, mUn, mCmp, mChain, mFn, mCall, mAnd, mOr, mNot, mTru, mAndV, mOrV, mNotV, mIf, aNil, aCons, oLst, eVar, eC, lift2, liftB, fPow, sub_s, lookD, Slot.d, Cell.d, lt_s, le_s, gt_s, ge_s, cIsN, cIsNN, truD, fNeg, fAddI, fSubI, List.getElem?_cons_zero, List.getElem?_cons_succ, List.set_cons_zero, List.set_cons_succ, add_s, cat_s]
/-- what the search's loop does -/
abbrev gsT : M Bool := mCmp cLt (eVar 2) (eVar 3)
noncomputable abbrev gsB : MS := sSeq (sSet 5 (mMap Slot.val (mMap Slot.d (mBin (opI2 fDiv) (mMap Slot.d (mBin opAdd (mMap Slot.d (mBin opAdd (eVar 2) (eVar 3))) (eC (.int (1))))) (eC (.int (2))))))) (sSeq (sIf (mCmp cLe (mMap Slot.d (mBin opAdd (eVar 5) (mMap Slot.d (mFn m_falling (aCons (eVar 5) (aCons (eVar 1) (aCons (eVar 4) aNil))))))) (eVar 0)) (sSeq (sSet 2 (mMap Slot.val (eVar 5))) sNext) (sSeq (sSet 3 (mMap Slot.val (mMap Slot.d (mBin opSub (eVar 5) (eC (.int (1))))))) sNext)) sNext)
theorem gs_turn {L lo hi g : Int} {b : Nat} {x : Slot} {S : Sto} (h : lo < hi) (h1 : 1 ≤ lo) (h2 : hi ≤ 1000000000) (hb : b ≤ 1000) (hg : 1 ≤ g) (hg2 : g ≤ 1000000000) :
    gsB [.val (.int L), .val (.int b), .val (.int lo), .val (.int hi), .val (.int g), x] S = if (lo + hi + 1) / 2 + lowR g b ((lo + hi + 1) / 2) ≤ L then .nx [.val (.int L), .val (.int b), .val (.int ((lo + hi + 1) / 2)), .val (.int hi), .val (.int g), .val (.int ((lo + hi + 1) / 2))] S else .nx [.val (.int L), .val (.int b), .val (.int lo), .val (.int ((lo + hi + 1) / 2 - 1)), .val (.int g), .val (.int ((lo + hi + 1) / 2))] S := by
  have e := fall_bd (s := (lo + hi + 1) / 2) (g := g) (n := b) (by omega) hg (by omega) hb hg2 (S := S)
  by_cases z : (lo + hi + 1) / 2 + lowR g b ((lo + hi + 1) / 2) ≤ L <;> simp (disch := omega) [gsB, div_s, e, z, mDef, startD, sSeq, sNext, sSet, sRet, sRetV, sRetN, sIf, sExpr, sRaise, sAug, sPar, sTgt, sApp, sFrz, sTryAs, rBind, R.bind, mMap, mBin, mUn, mCmp, mChain, mFn, mCall, mAnd, mOr, mNot, mTru, mAndV, mOrV, mNotV, mIf, aNil, aCons, oLst, eVar, eC, lift2, liftB, fPow, sub_s, lookD, Slot.d, Cell.d, lt_s, le_s, gt_s, ge_s, cIsN, cIsNN, truD, fNeg, fAddI, fSubI, List.getElem?_cons_zero, List.getElem?_cons_succ, List.set_cons_zero, List.set_cons_succ, add_s, cat_s]
theorem gs_loop {L g : Int} {b : Nat} (hb : b ≤ 1000) (hg : 1 ≤ g) (hg2 : g ≤ 1000000000) : ∀ (k : Nat) (lo hi top : Int), (hi - lo).toNat ≤ k → 1 ≤ lo → lo ≤ hi → hi ≤ top → top ≤ 1000000000 → lo + lowR g b lo ≤ L → (hi = top ∨ L < hi + 1 + lowR g b (hi + 1)) →
    ∃ s, lo ≤ s ∧ s ≤ top ∧ s + lowR g b s ≤ L ∧ (s = top ∨ L < s + 1 + lowR g b (s + 1)) ∧ ∀ (x : Slot) (S : Sto), ∃ hi' x', sWhile gsT gsB [.val (.int L), .val (.int b), .val (.int lo), .val (.int hi), .val (.int g), x] S = .nx [.val (.int L), .val (.int b), .val (.int s), .val (.int hi'), .val (.int g), x'] S := by
  intro k
  induction k with
  | zero =>
    intro lo hi top hk h1 h2 h3 h4 h5 h6
    have e : hi = lo := by omega
    subst e
    refine ⟨hi, Int.le_refl _, h3, h5, h6, fun x S => ⟨hi, x, ?_⟩⟩
    rw [sWhile_eq]
    simp [gsT, mDef, startD, sSeq, sNext, sSet, sRet, sRetV, sRetN, sIf, sExpr, sRaise, sAug, sPar, sTgt, sApp, sFrz, sTryAs, rBind, R.bind, mMap, mBin, mUn, mCmp, mChain, mFn, mCall, mAnd, mOr, mNot, mTru, mAndV, mOrV, mNotV, mIf, aNil, aCons, oLst, eVar, eC, lift2, liftB, opI2, fDiv, fMod, fPow, opAdd, sub_s, lookD, Slot.d, Cell.d, lt_s, le_s, gt_s, ge_s, cIsN, cIsNN, truD, fNeg, fAddI, fSubI, List.getElem?_cons_zero, List.getElem?_cons_succ, List.set_cons_zero, List.set_cons_succ]
  | succ k ih =>
    intro lo hi top hk h1 h2 h3 h4 h5 h6
    by_cases z : lo < hi
    · by_cases y : (lo + hi + 1) / 2 + lowR g b ((lo + hi + 1) / 2) ≤ L
      · obtain ⟨s, a1, a2, a3, a4, a5⟩ := ih ((lo + hi + 1) / 2) hi top (by omega) (by omega) (by omega) h3 h4 y h6
        refine ⟨s, by omega, a2, a3, a4, fun x S => ?_⟩
        obtain ⟨hi', x', e⟩ := a5 (.val (.int ((lo + hi + 1) / 2))) S
        refine ⟨hi', x', ?_⟩
        have t := gs_turn (L := L) (x := x) (S := S) z h1 (by omega) hb hg hg2
        rw [if_pos y] at t
        rw [while_nx (S1 := S) (by simp [gsT, z, mDef, startD, sSeq, sNext, sSet, sRet, sRetV, sRetN, sIf, sExpr, sRaise, sAug, sPar, sTgt, sApp, sFrz, sTryAs, rBind, R.bind, mMap, mBin, mUn, mCmp, mChain, mFn, mCall, mAnd, mOr, mNot, mTru, mAndV, mOrV, mNotV, mIf, aNil, aCons, oLst, eVar, eC, lift2, liftB, opI2, fDiv, fMod, fPow, opAdd, sub_s, lookD, Slot.d, Cell.d, lt_s, le_s, gt_s, ge_s, cIsN, cIsNN, truD, fNeg, fAddI, fSubI, List.getElem?_cons_zero, List.getElem?_cons_succ, List.set_cons_zero, List.set_cons_succ]) t, e]
      · obtain ⟨s, a1, a2, a3, a4, a5⟩ := ih lo ((lo + hi + 1) / 2 - 1) top (by omega) h1 (by omega) (by omega) h4 h5 (.inr (by rw [show (lo + hi + 1) / 2 - 1 + 1 = (lo + hi + 1) / 2 by omega]; omega))
        refine ⟨s, a1, a2, a3, a4, fun x S => ?_⟩
        obtain ⟨hi', x', e⟩ := a5 (.val (.int ((lo + hi + 1) / 2))) S
        refine ⟨hi', x', ?_⟩
        have t := gs_turn (L := L) (x := x) (S := S) z h1 (by omega) hb hg hg2
        rw [if_neg y] at t
        rw [while_nx (S1 := S) (by simp [gsT, z, mDef, startD, sSeq, sNext, sSet, sRet, sRetV, sRetN, sIf, sExpr, sRaise, sAug, sPar, sTgt, sApp, sFrz, sTryAs, rBind, R.bind, mMap, mBin, mUn, mCmp, mChain, mFn, mCall, mAnd, mOr, mNot, mTru, mAndV, mOrV, mNotV, mIf, aNil, aCons, oLst, eVar, eC, lift2, liftB, opI2, fDiv, fMod, fPow, opAdd, sub_s, lookD, Slot.d, Cell.d, lt_s, le_s, gt_s, ge_s, cIsN, cIsNN, truD, fNeg, fAddI, fSubI, List.getElem?_cons_zero, List.getElem?_cons_succ, List.set_cons_zero, List.set_cons_succ]) t, e]
    · have e : hi = lo := by omega
      subst e
      refine ⟨hi, Int.le_refl _, h3, h5, h6, fun x S => ⟨hi, x, ?_⟩⟩
      rw [sWhile_eq]
      simp [gsT, mDef, startD, sSeq, sNext, sSet, sRet, sRetV, sRetN, sIf, sExpr, sRaise, sAug, sPar, sTgt, sApp, sFrz, sTryAs, rBind, R.bind, mMap, mBin, mUn, mCmp, mChain, mFn, mCall, mAnd, mOr, mNot, mTru, mAndV, mOrV, mNotV, mIf, aNil, aCons, oLst, eVar, eC, lift2, liftB, opI2, fDiv, fMod, fPow, opAdd, sub_s, lookD, Slot.d, Cell.d, lt_s, le_s, gt_s, ge_s, cIsN, cIsNN, truD, fNeg, fAddI, fSubI, List.getElem?_cons_zero, List.getElem?_cons_succ, List.set_cons_zero, List.set_cons_succ]
theorem e_greatest {L g lo hi : Int} {b : Nat} (hb : b ≤ 1000) (hg : 1 ≤ g) (hg2 : g ≤ 1000000000) (h1 : 1 ≤ lo) (h2 : lo ≤ hi) (h3 : hi ≤ 1000000000) (h4 : lo + lowR g b lo ≤ L) :
    ∃ s, lo ≤ s ∧ s ≤ hi ∧ s + lowR g b s ≤ L ∧ (s = hi ∨ L < s + 1 + lowR g b (s + 1)) ∧ ∀ S, m_greatest_step [.int L, .int b, .int lo, .int hi, .int g] S = .ok (.val (.int s)) S := by
  obtain ⟨s, a1, a2, a3, a4, a5⟩ := gs_loop (L := L) hb hg hg2 _ lo hi hi (Nat.le_refl _) h1 h2 (Int.le_refl _) h3 h4 (.inl rfl)
  refine ⟨s, a1, a2, a3, a4, fun S => ?_⟩
  obtain ⟨hi', x', e⟩ := a5 .none S
  have eb : b_greatest_step = sSeq (sWhile gsT gsB) (sSeq (sRetV 2) sNext) := rfl
  simp only [m_greatest_step, mDef, eb, startD, N_greatest_step, List.map_cons, List.map_nil, List.length_cons, List.length_nil, List.replicate, List.cons_append, List.nil_append, Nat.reduceAdd, Nat.reduceSub, sSeq, e]
  simp [sRetV]
/-! ### how many -/
noncomputable abbrev mfT : M Bool := mCmp cLt (mMap Slot.d (mFn m_reach_of (aCons (eVar 3) (aCons (eVar 1) (aCons (eVar 2) aNil))))) (eVar 0)
noncomputable abbrev mfB : MS := sSeq (sAug 3 fAddI (eC (.int (1)))) (sSeq (sIf (mCmp cGt (eVar 3) (eC (.int (200)))) (sSeq (sRaise "TooLong") sNext) sNext) sNext)
theorem mf_loop {D0 p g : Int} (hp : 1 ≤ p) (hp2 : p ≤ 1000000000) (hg : 1 ≤ g) (hg2 : g ≤ 1000000000) (n : Nat) (hn : n ≤ 200) (h1 : D0 ≤ reachZ n p g) (h2 : ∀ m : Nat, m < n → reachZ m p g < D0) : ∀ (k i : Nat) (S : Sto), i + k = n →
    sWhile mfT mfB [.val (.int D0), .val (.int p), .val (.int g), .val (.int i)] S = .nx [.val (.int D0), .val (.int p), .val (.int g), .val (.int n)] S := by
  intro k
  induction k with
  | zero =>
    intro i S hi
    have : i = n := by omega
    subst this
    have e := e_reach_of (S := S) (n := i) (p := p) (g := g) (by omega) (by omega) hp hp2 hg hg2
    have z : ¬ reachZ i p g < D0 := by omega
    rw [sWhile_eq]
    simp [mfT, e, z, mDef, startD, sSeq, sNext, sSet, sRet, sRetV, sRetN, sIf, sExpr, sRaise, sAug, sPar, sTgt, sApp, sFrz, sTryAs, rBind, R.bind, mMap, mBin, mUn, mCmp, mChain, mFn, mCall, mAnd, mOr, mNot, mTru, mAndV, mOrV, mNotV, mIf, aNil, aCons, oLst, eVar, eC, lift2, liftB, opI2, fDiv, fMod, fPow, opAdd, sub_s, lookD, Slot.d, Cell.d, lt_s, le_s, gt_s, ge_s, cIsN, cIsNN, truD, fNeg, fAddI, fSubI, List.getElem?_cons_zero, List.getElem?_cons_succ, List.set_cons_zero, List.set_cons_succ]
  | succ k ih =>
    intro i S hi
    have e := e_reach_of (S := S) (n := i) (p := p) (g := g) (by omega) (by omega) hp hp2 hg hg2
    have z := h2 i (by omega)
    have w : ¬ (200 : Int) < (i : Int) + 1 := by omega
    have r := ih (i + 1) S (by omega)
    have ec : ((i + 1 : Nat) : Int) = (i : Int) + 1 := by push_cast; rfl
    rw [ec] at r
    have t : mfT [.val (.int D0), .val (.int p), .val (.int g), .val (.int i)] S = .ok true S := by simp [mfT, e, z, mDef, startD, sSeq, sNext, sSet, sRet, sRetV, sRetN, sIf, sExpr, sRaise, sAug, sPar, sTgt, sApp, sFrz, sTryAs, rBind, R.bind, mMap, mBin, mUn, mCmp, mChain, mFn, mCall, mAnd, mOr, mNot, mTru, mAndV, mOrV, mNotV, mIf, aNil, aCons, oLst, eVar, eC, lift2, liftB, opI2, fDiv, fMod, fPow, opAdd, sub_s, lookD, Slot.d, Cell.d, lt_s, le_s, gt_s, ge_s, cIsN, cIsNN, truD, fNeg, fAddI, fSubI, List.getElem?_cons_zero, List.getElem?_cons_succ, List.set_cons_zero, List.set_cons_succ]
    have bd : mfB [.val (.int D0), .val (.int p), .val (.int g), .val (.int i)] S = .nx [.val (.int D0), .val (.int p), .val (.int g), .val (.int ((i : Int) + 1))] S := by simp [mfB, w, mDef, startD, sSeq, sNext, sSet, sRet, sRetV, sRetN, sIf, sExpr, sRaise, sAug, sPar, sTgt, sApp, sFrz, sTryAs, rBind, R.bind, mMap, mBin, mUn, mCmp, mChain, mFn, mCall, mAnd, mOr, mNot, mTru, mAndV, mOrV, mNotV, mIf, aNil, aCons, oLst, eVar, eC, lift2, liftB, opI2, fDiv, fMod, fPow, opAdd, sub_s, lookD, Slot.d, Cell.d, lt_s, le_s, gt_s, ge_s, cIsN, cIsNN, truD, fNeg, fAddI, fSubI, List.getElem?_cons_zero, List.getElem?_cons_succ, List.set_cons_zero, List.set_cons_succ]
    rw [while_nx t bd, r]
theorem e_many {D0 p g : Int} (hp : 1 ≤ p) (hp2 : p ≤ 1000000000) (hg : 1 ≤ g) (hg2 : g ≤ 1000000000) (n : Nat) (hn : n ≤ 200) (h1 : D0 ≤ reachZ n p g) (h2 : ∀ m : Nat, m < n → reachZ m p g < D0) (S : Sto) : m_many_for [.int D0, .int p, .int g] S = .ok (.val (.int n)) S := by
  have e := mf_loop hp hp2 hg hg2 n hn h1 h2 n 0 S (by omega)
  have eb : b_many_for = sSeq (sSet 3 (mMap Slot.val (eC (.int (0))))) (sSeq (sWhile mfT mfB) (sSeq (sRetV 3) sNext)) := rfl
  have s0 : sSet 3 (mMap Slot.val (eC (.int (0)))) [.val (.int D0), .val (.int p), .val (.int g), .none] S = .nx [.val (.int D0), .val (.int p), .val (.int g), .val (.int ((0 : Nat) : Int))] S := by simp [mDef, startD, sSeq, sNext, sSet, sRet, sRetV, sRetN, sIf, sExpr, sRaise, sAug, sPar, sTgt, sApp, sFrz, sTryAs, rBind, R.bind, mMap, mBin, mUn, mCmp, mChain, mFn, mCall, mAnd, mOr, mNot, mTru, mAndV, mOrV, mNotV, mIf, aNil, aCons, oLst, eVar, eC, lift2, liftB, opI2, fDiv, fMod, fPow, opAdd, sub_s, lookD, Slot.d, Cell.d, lt_s, le_s, gt_s, ge_s, cIsN, cIsNN, truD, fNeg, fAddI, fSubI, List.getElem?_cons_zero, List.getElem?_cons_succ, List.set_cons_zero, List.set_cons_succ]
  simp only [m_many_for, mDef, eb, startD, N_many_for, List.map_cons, List.map_nil, List.length_cons, List.length_nil, List.replicate, List.cons_append, List.nil_append, Nat.reduceAdd, Nat.reduceSub, sSeq, s0, e]
  simp [sRetV]
/-! ### the steps -/
noncomputable abbrev soB : MS := sSeq (sSet 8 (mMap Slot.val (mMap Slot.d (mCall fMin (aCons (eVar 1) (aCons (mMap Slot.d (mBin opAdd (eVar 6) (eVar 2))) (aCons (mMap Slot.d (mBin (opI2 fMul) (eVar 2) (mMap Slot.d (mBin opAdd (eVar 7) (eC (.int (1))))))) aNil))))))) (sSeq (sSet 6 (mMap Slot.val (mMap Slot.d (mFn m_greatest_step (aCons (eVar 5) (aCons (eVar 7) (aCons (mMap Slot.d (mCall fMax (aCons (eC (.int (1))) (aCons (mMap Slot.d (mBin opSub (eVar 6) (eVar 2))) aNil)))) (aCons (eVar 8) (aCons (eVar 2) aNil))))))))) (sSeq (sApp 4 (eVar 6)) (sSeq (sAug 5 fSubI (eVar 6)) sNext)))
theorem so_turn {D0 p g L last s m : Int} {n : Nat} {ys : List D} {x8 : Slot} {S : Sto} (hg : 1 ≤ g) (hg2 : g ≤ 1000000000) (hn : n ≤ 1000) (hy : ys.length < 1000000)
    (e : m_greatest_step [.int L, .int n, .int (max 1 (last - g)), .int (mostZ p g last n), .int g] S = .ok (.val (.int s)) S) :
    soB [.val (.int D0), .val (.int p), .val (.int g), .val (.int m), .own (.lst ys), .val (.int L), .val (.int last), .val (.int n), x8] S =
    .nx [.val (.int D0), .val (.int p), .val (.int g), .val (.int m), .own (.lst (ys ++ [.int s])), .val (.int (L - s)), .val (.int s), .val (.int n), .val (.int (mostZ p g last n))] S := by
  simp (disch := omega) [soB, fMin, fMax, mul_s, e, hy, mDef, startD, sSeq, sNext, sSet, sRet, sRetV, sRetN, sIf, sExpr, sRaise, sAug, sPar, sTgt, sApp, sFrz, sTryAs, rBind, R.bind, mMap, mBin, mUn, mCmp, mChain, mFn, mCall, mAnd, mOr, mNot, mTru, mAndV, mOrV, mNotV, mIf, aNil, aCons, oLst, eVar, eC, lift2, liftB, fPow, sub_s, lookD, Slot.d, Cell.d, lt_s, le_s, gt_s, ge_s, cIsN, cIsNN, truD, fNeg, fAddI, fSubI, List.getElem?_cons_zero, List.getElem?_cons_succ, List.set_cons_zero, List.set_cons_succ, add_s, cat_s]
theorem range_rev (n : Nat) : (rangeD 0 (n + 1)).reverse = .int n :: (rangeD 0 n).reverse := by simp [rangeD, List.range_succ]
theorem so_loop {D0 p g m : Int} (hp : 1 ≤ p) (hp2 : p ≤ 1000000000) (hg : 1 ≤ g) (hg2 : g ≤ 1000000000) : ∀ (n : Nat) (last L : Int), On p g n last L → n ≤ 200 →
    ∃ xs, Good p g n last L xs ∧ ∀ (ys : List Int) (x7 x8 : Slot) (S : Sto), ys.length + n ≤ 1000 → ∃ a b c d, sForL (gN 7) soB (rangeD 0 n).reverse [.val (.int D0), .val (.int p), .val (.int g), .val (.int m), .own (.lst (ys.map D.int)), .val (.int L), .val (.int last), x7, x8] S =
      .nx [.val (.int D0), .val (.int p), .val (.int g), .val (.int m), .own (.lst ((ys ++ xs).map D.int)), a, b, c, d] S := by
  intro n
  induction n with
  | zero =>
    intro last L h _
    refine ⟨[], ⟨rfl, ?_⟩, fun ys x7 x8 S _ => ⟨.val (.int L), .val (.int last), x7, x8, by simp [rangeD, sForL, sNext]⟩⟩
    have a := h.lo
    have b := h.hi
    simp only [lowR, highR] at a b
    omega
  | succ n ih =>
    intro last L h hn
    obtain ⟨r1, r2⟩ := h.room hp hg
    have hm : mostZ p g last n = min p (min (last + g) (g * (n + 1))) := rfl
    obtain ⟨s, s1, s2, s3, s4, es⟩ := e_greatest (b := n) (by omega) hg hg2 (by omega) r1 (by omega) r2
    obtain ⟨xs, gd, run⟩ := ih s (L - s) (h.next hp hg s1 s2 s3 s4) (by omega)
    refine ⟨s :: xs, ⟨s, xs, rfl, s1, s2, s4, gd⟩, fun ys x7 x8 S hy => ?_⟩
    obtain ⟨a, b, c, d, e⟩ := run (ys ++ [s]) (.val (.int n)) (.val (.int (mostZ p g last n))) S (by simp; omega)
    refine ⟨a, b, c, d, ?_⟩
    have t := so_turn (D0 := D0) (m := m) (ys := ys.map D.int) (x8 := x8) hg hg2 (by omega) (by simp; omega) (es S)
    rw [range_rev]
    simp only [sForL, gN, List.set_cons_succ, List.set_cons_zero, t]
    simp only [List.map_append, List.map_cons, List.map_nil, List.append_assoc, List.cons_append, List.nil_append] at e ⊢
    exact e
theorem e_steps {D0 p g : Int} (hp : 1 ≤ p) (hp2 : p ≤ 1000000000) (hg : 1 ≤ g) (hg2 : g ≤ 1000000000) (n : Nat) (hn : n ≤ 200) (d0 : 0 ≤ D0) (d1 : D0 ≤ 1000000000000) (h1 : D0 ≤ reachZ n p g) (h2 : ∀ m : Nat, m < n → reachZ m p g < D0) :
    ∃ xs, Good p g n 0 D0 xs ∧ ∀ S, m_steps_of [.int D0, .int p, .int g] S = .ok (.own (.lst (xs.map D.int))) S := by
  have on : On p g n 0 D0 := by
    refine ⟨Int.le_refl _, by omega, Int.le_trans (by omega) (gone hg n), ?_, by rw [high_reach hp hg]; exact h1⟩
    rw [low_one hg n (by omega)]
    cases n with
    | zero => exact d0
    | succ n =>
      have := h2 n (by omega)
      have := reach_ge hp hg n
      push_cast; omega
  obtain ⟨xs, gd, run⟩ := so_loop (D0 := D0) (m := n) hp hp2 hg hg2 n 0 D0 on hn
  refine ⟨xs, gd, fun S => ?_⟩
  obtain ⟨a, b, c, d, e⟩ := run [] .none .none S (by simp; omega)
  have em := e_many hp hp2 hg hg2 n hn h1 h2 S
  have w0 : isW (.int D0) 0 1000000000000 = true := by simp [isW]; omega
  have w1 : isW (.int p) 1 1000000000 = true := by simp [isW]; omega
  have w2 : isW (.int g) 1 1000000000 = true := by simp [isW]; omega
  have n0 : b_steps_of_0 [.val (.int D0), .val (.int p), .val (.int g), .none, .none, .none, .none, .none, .none] S = .nx [.val (.int D0), .val (.int p), .val (.int g), .none, .none, .none, .none, .none, .none] S := by
    simp [b_steps_of_0, e_need_whole (d := .int D0) rfl, w0, mDef, startD, sSeq, sNext, sSet, sRet, sRetV, sRetN, sIf, sExpr, sRaise, sAug, sPar, sTgt, sApp, sFrz, sTryAs, rBind, R.bind, mMap, mBin, mUn, mCmp, mChain, mFn, mCall, mAnd, mOr, mNot, mTru, mAndV, mOrV, mNotV, mIf, aNil, aCons, oLst, eVar, eC, lift2, liftB, fPow, sub_s, lookD, Slot.d, Cell.d, lt_s, le_s, gt_s, ge_s, cIsN, cIsNN, truD, fNeg, fAddI, fSubI, List.getElem?_cons_zero, List.getElem?_cons_succ, List.set_cons_zero, List.set_cons_succ, add_s, cat_s]
  have n1 : b_steps_of_1 [.val (.int D0), .val (.int p), .val (.int g), .none, .none, .none, .none, .none, .none] S = .nx [.val (.int D0), .val (.int p), .val (.int g), .none, .none, .none, .none, .none, .none] S := by
    simp [b_steps_of_1, e_need_whole (d := .int p) rfl, w1, mDef, startD, sSeq, sNext, sSet, sRet, sRetV, sRetN, sIf, sExpr, sRaise, sAug, sPar, sTgt, sApp, sFrz, sTryAs, rBind, R.bind, mMap, mBin, mUn, mCmp, mChain, mFn, mCall, mAnd, mOr, mNot, mTru, mAndV, mOrV, mNotV, mIf, aNil, aCons, oLst, eVar, eC, lift2, liftB, fPow, sub_s, lookD, Slot.d, Cell.d, lt_s, le_s, gt_s, ge_s, cIsN, cIsNN, truD, fNeg, fAddI, fSubI, List.getElem?_cons_zero, List.getElem?_cons_succ, List.set_cons_zero, List.set_cons_succ, add_s, cat_s]
  have n2 : b_steps_of_2 [.val (.int D0), .val (.int p), .val (.int g), .none, .none, .none, .none, .none, .none] S = .nx [.val (.int D0), .val (.int p), .val (.int g), .none, .none, .none, .none, .none, .none] S := by
    simp [b_steps_of_2, e_need_whole (d := .int g) rfl, w2, mDef, startD, sSeq, sNext, sSet, sRet, sRetV, sRetN, sIf, sExpr, sRaise, sAug, sPar, sTgt, sApp, sFrz, sTryAs, rBind, R.bind, mMap, mBin, mUn, mCmp, mChain, mFn, mCall, mAnd, mOr, mNot, mTru, mAndV, mOrV, mNotV, mIf, aNil, aCons, oLst, eVar, eC, lift2, liftB, fPow, sub_s, lookD, Slot.d, Cell.d, lt_s, le_s, gt_s, ge_s, cIsN, cIsNN, truD, fNeg, fAddI, fSubI, List.getElem?_cons_zero, List.getElem?_cons_succ, List.set_cons_zero, List.set_cons_succ, add_s, cat_s]
  have n3 : b_steps_of_3 [.val (.int D0), .val (.int p), .val (.int g), .none, .none, .none, .none, .none, .none] S = .nx [.val (.int D0), .val (.int p), .val (.int g), .val (.int n), .none, .none, .none, .none, .none] S := by
    simp [b_steps_of_3, em, mDef, startD, sSeq, sNext, sSet, sRet, sRetV, sRetN, sIf, sExpr, sRaise, sAug, sPar, sTgt, sApp, sFrz, sTryAs, rBind, R.bind, mMap, mBin, mUn, mCmp, mChain, mFn, mCall, mAnd, mOr, mNot, mTru, mAndV, mOrV, mNotV, mIf, aNil, aCons, oLst, eVar, eC, lift2, liftB, fPow, sub_s, lookD, Slot.d, Cell.d, lt_s, le_s, gt_s, ge_s, cIsN, cIsNN, truD, fNeg, fAddI, fSubI, List.getElem?_cons_zero, List.getElem?_cons_succ, List.set_cons_zero, List.set_cons_succ, add_s, cat_s]
  have n4 : b_steps_of_4 [.val (.int D0), .val (.int p), .val (.int g), .val (.int n), .none, .none, .none, .none, .none] S = .nx [.val (.int D0), .val (.int p), .val (.int g), .val (.int n), .own (.lst []), .none, .none, .none, .none] S := by
    simp [b_steps_of_4, mDef, startD, sSeq, sNext, sSet, sRet, sRetV, sRetN, sIf, sExpr, sRaise, sAug, sPar, sTgt, sApp, sFrz, sTryAs, rBind, R.bind, mMap, mBin, mUn, mCmp, mChain, mFn, mCall, mAnd, mOr, mNot, mTru, mAndV, mOrV, mNotV, mIf, aNil, aCons, oLst, eVar, eC, lift2, liftB, fPow, sub_s, lookD, Slot.d, Cell.d, lt_s, le_s, gt_s, ge_s, cIsN, cIsNN, truD, fNeg, fAddI, fSubI, List.getElem?_cons_zero, List.getElem?_cons_succ, List.set_cons_zero, List.set_cons_succ, add_s, cat_s]
  have n5 : b_steps_of_5 [.val (.int D0), .val (.int p), .val (.int g), .val (.int n), .own (.lst []), .none, .none, .none, .none] S = .nx [.val (.int D0), .val (.int p), .val (.int g), .val (.int n), .own (.lst []), .val (.int D0), .none, .none, .none] S := by
    simp [b_steps_of_5, mDef, startD, sSeq, sNext, sSet, sRet, sRetV, sRetN, sIf, sExpr, sRaise, sAug, sPar, sTgt, sApp, sFrz, sTryAs, rBind, R.bind, mMap, mBin, mUn, mCmp, mChain, mFn, mCall, mAnd, mOr, mNot, mTru, mAndV, mOrV, mNotV, mIf, aNil, aCons, oLst, eVar, eC, lift2, liftB, fPow, sub_s, lookD, Slot.d, Cell.d, lt_s, le_s, gt_s, ge_s, cIsN, cIsNN, truD, fNeg, fAddI, fSubI, List.getElem?_cons_zero, List.getElem?_cons_succ, List.set_cons_zero, List.set_cons_succ, add_s, cat_s]
  have n6 : b_steps_of_6 [.val (.int D0), .val (.int p), .val (.int g), .val (.int n), .own (.lst []), .val (.int D0), .none, .none, .none] S = .nx [.val (.int D0), .val (.int p), .val (.int g), .val (.int n), .own (.lst []), .val (.int D0), .val (.int 0), .none, .none] S := by
    simp [b_steps_of_6, mDef, startD, sSeq, sNext, sSet, sRet, sRetV, sRetN, sIf, sExpr, sRaise, sAug, sPar, sTgt, sApp, sFrz, sTryAs, rBind, R.bind, mMap, mBin, mUn, mCmp, mChain, mFn, mCall, mAnd, mOr, mNot, mTru, mAndV, mOrV, mNotV, mIf, aNil, aCons, oLst, eVar, eC, lift2, liftB, fPow, sub_s, lookD, Slot.d, Cell.d, lt_s, le_s, gt_s, ge_s, cIsN, cIsNN, truD, fNeg, fAddI, fSubI, List.getElem?_cons_zero, List.getElem?_cons_succ, List.set_cons_zero, List.set_cons_succ, add_s, cat_s]
  have eb : b_steps_of_7 = sFor (mThen fRevRange (eVar 3)) (gN 7) soB := rfl
  have hn2 : (n : Int) ≤ 1000000 := by omega
  have n7 : b_steps_of_7 [.val (.int D0), .val (.int p), .val (.int g), .val (.int n), .own (.lst []), .val (.int D0), .val (.int 0), .none, .none] S = .nx [.val (.int D0), .val (.int p), .val (.int g), .val (.int n), .own (.lst (xs.map D.int)), a, b, c, d] S := by
    have it : mThen fRevRange (eVar 3) [.val (.int D0), .val (.int p), .val (.int g), .val (.int n), .own (.lst []), .val (.int D0), .val (.int 0), .none, .none] S = .ok (rangeD 0 n).reverse S := by
      have hn3 : -1000000000000 ≤ (n : Int) := by omega
      simp [mThen, fRevRange, eVar, hn2, hn3]
    rw [eb]
    unfold sFor
    rw [it]
    exact e
  have n8 : b_steps_of_8 [.val (.int D0), .val (.int p), .val (.int g), .val (.int n), .own (.lst (xs.map D.int)), a, b, c, d] S = .rt (.own (.lst (xs.map D.int))) S := by
    simp [b_steps_of_8, sRetV]
  simp only [m_steps_of, mDef, b_steps_of, startD, N_steps_of, List.map_cons, List.map_nil, List.length_cons, List.length_nil, List.replicate, List.cons_append, List.nil_append, Nat.reduceAdd, Nat.reduceSub, sSeq, n0, n1, n2, n3, n4, n5, n6, n7, n8]
end FW
end
section
set_option maxHeartbeats 8000000
namespace FW
open PySem
theorem least_of {P : Nat → Prop} : ∀ (n : Nat), P n → ∃ m, m ≤ n ∧ P m ∧ ∀ k, k < m → ¬ P k := by
  intro n
  induction n using Nat.strongRecOn with
  | _ n ih =>
    intro h
    by_cases z : ∃ k, k < n ∧ P k
    · obtain ⟨k, hk, pk⟩ := z
      obtain ⟨m, a, b, c⟩ := ih k hk pk
      exact ⟨m, by omega, b, c⟩
    · exact ⟨n, Nat.le_refl _, h, fun k hk pk => z ⟨k, hk, pk⟩⟩
theorem good_len {p g : Int} : ∀ {n : Nat} {last L : Int} {xs : List Int}, Good p g n last L xs → xs.length = n
  | 0, _, _, _, h => by rw [h.1]; rfl
  | n + 1, _, _, _, ⟨s, r, e, _, _, _, h⟩ => by rw [e, List.length_cons, good_len h]
theorem good_sum {p g : Int} : ∀ {n : Nat} {last L : Int} {xs : List Int}, Good p g n last L xs → xs.sum = L
  | 0, _, _, _, h => by rw [h.1, h.2]; rfl
  | n + 1, _, _, _, ⟨s, r, e, _, _, _, h⟩ => by rw [e, List.sum_cons, good_sum h]; omega
/-! ### too long -/
theorem reach_le {p g : Int} (hp : 1 ≤ p) (hg : 1 ≤ g) {i : Nat} (h : i ≤ 200) : reachZ i p g ≤ reachZ 200 p g := by
  have := reach_mono hp hg i (200 - i)
  rw [show ((i + (200 - i) : Nat) : Int) = 200 by omega] at this
  exact this
theorem while_ex {t : M Bool} {b : MS} {ρ ρ' : List Slot} {S S1 S' : Sto} {e : Exc} (h : t ρ S = .ok true S1) (h2 : b ρ S1 = .ex e ρ' S') : sWhile t b ρ S = .ex e ρ' S' := by
  rw [sWhile_eq, h]; simp only [rBind, cond_true, h2]
theorem mf_long {D0 p g : Int} (hp : 1 ≤ p) (hp2 : p ≤ 1000000000) (hg : 1 ≤ g) (hg2 : g ≤ 1000000000) (h : reachZ 200 p g < D0) : ∀ (k i : Nat) (S : Sto), i + k = 200 → ∃ ρ', sWhile mfT mfB [.val (.int D0), .val (.int p), .val (.int g), .val (.int i)] S = .ex ⟨"TooLong", []⟩ ρ' S := by
  intro k
  induction k with
  | zero =>
    intro i S hi
    have e := e_reach_of (S := S) (n := i) (p := p) (g := g) (by omega) (by omega) hp hp2 hg hg2
    have z : reachZ i p g < D0 := Int.lt_of_le_of_lt (reach_le hp hg (by omega)) h
    have w : (200 : Int) < (i : Int) + 1 := by omega
    refine ⟨[.val (.int D0), .val (.int p), .val (.int g), .val (.int ((i : Int) + 1))], while_ex (S1 := S) ?_ ?_⟩
    · simp [mfT, e, z, mDef, startD, sSeq, sNext, sSet, sRet, sRetV, sRetN, sIf, sExpr, sRaise, sAug, sPar, sTgt, sApp, sFrz, sTryAs, rBind, R.bind, mMap, mBin, mUn, mCmp, mChain, mFn, mCall, mAnd, mOr, mNot, mTru, mAndV, mOrV, mNotV, mIf, aNil, aCons, oLst, eVar, eC, lift2, liftB, opI2, fDiv, fMod, fPow, opAdd, sub_s, lookD, Slot.d, Cell.d, lt_s, le_s, gt_s, ge_s, cIsN, cIsNN, truD, fNeg, fAddI, fSubI, List.getElem?_cons_zero, List.getElem?_cons_succ, List.set_cons_zero, List.set_cons_succ]
    · simp [mfB, w, mDef, startD, sSeq, sNext, sSet, sRet, sRetV, sRetN, sIf, sExpr, sRaise, sAug, sPar, sTgt, sApp, sFrz, sTryAs, rBind, R.bind, mMap, mBin, mUn, mCmp, mChain, mFn, mCall, mAnd, mOr, mNot, mTru, mAndV, mOrV, mNotV, mIf, aNil, aCons, oLst, eVar, eC, lift2, liftB, opI2, fDiv, fMod, fPow, opAdd, sub_s, lookD, Slot.d, Cell.d, lt_s, le_s, gt_s, ge_s, cIsN, cIsNN, truD, fNeg, fAddI, fSubI, List.getElem?_cons_zero, List.getElem?_cons_succ, List.set_cons_zero, List.set_cons_succ]
  | succ k ih =>
    intro i S hi
    have e := e_reach_of (S := S) (n := i) (p := p) (g := g) (by omega) (by omega) hp hp2 hg hg2
    have z : reachZ i p g < D0 := Int.lt_of_le_of_lt (reach_le hp hg (by omega)) h
    have w : ¬ (200 : Int) < (i : Int) + 1 := by omega
    obtain ⟨ρ', r⟩ := ih (i + 1) S (by omega)
    have ec : ((i + 1 : Nat) : Int) = (i : Int) + 1 := by push_cast; rfl
    rw [ec] at r
    refine ⟨ρ', ?_⟩
    rw [while_nx (S1 := S) (ρ' := [.val (.int D0), .val (.int p), .val (.int g), .val (.int ((i : Int) + 1))]) (S' := S) (by simp [mfT, e, z, mDef, startD, sSeq, sNext, sSet, sRet, sRetV, sRetN, sIf, sExpr, sRaise, sAug, sPar, sTgt, sApp, sFrz, sTryAs, rBind, R.bind, mMap, mBin, mUn, mCmp, mChain, mFn, mCall, mAnd, mOr, mNot, mTru, mAndV, mOrV, mNotV, mIf, aNil, aCons, oLst, eVar, eC, lift2, liftB, opI2, fDiv, fMod, fPow, opAdd, sub_s, lookD, Slot.d, Cell.d, lt_s, le_s, gt_s, ge_s, cIsN, cIsNN, truD, fNeg, fAddI, fSubI, List.getElem?_cons_zero, List.getElem?_cons_succ, List.set_cons_zero, List.set_cons_succ]) (by simp [mfB, w, mDef, startD, sSeq, sNext, sSet, sRet, sRetV, sRetN, sIf, sExpr, sRaise, sAug, sPar, sTgt, sApp, sFrz, sTryAs, rBind, R.bind, mMap, mBin, mUn, mCmp, mChain, mFn, mCall, mAnd, mOr, mNot, mTru, mAndV, mOrV, mNotV, mIf, aNil, aCons, oLst, eVar, eC, lift2, liftB, opI2, fDiv, fMod, fPow, opAdd, sub_s, lookD, Slot.d, Cell.d, lt_s, le_s, gt_s, ge_s, cIsN, cIsNN, truD, fNeg, fAddI, fSubI, List.getElem?_cons_zero, List.getElem?_cons_succ, List.set_cons_zero, List.set_cons_succ]), r]
theorem e_many_long {D0 p g : Int} (hp : 1 ≤ p) (hp2 : p ≤ 1000000000) (hg : 1 ≤ g) (hg2 : g ≤ 1000000000) (h : reachZ 200 p g < D0) (S : Sto) : m_many_for [.int D0, .int p, .int g] S = .err ⟨"TooLong", []⟩ S := by
  obtain ⟨ρ', e⟩ := mf_long hp hp2 hg hg2 h 200 0 S (by omega)
  have eb : b_many_for = sSeq (sSet 3 (mMap Slot.val (eC (.int (0))))) (sSeq (sWhile mfT mfB) (sSeq (sRetV 3) sNext)) := rfl
  have s0 : sSet 3 (mMap Slot.val (eC (.int (0)))) [.val (.int D0), .val (.int p), .val (.int g), .none] S = .nx [.val (.int D0), .val (.int p), .val (.int g), .val (.int ((0 : Nat) : Int))] S := by simp [mDef, startD, sSeq, sNext, sSet, sRet, sRetV, sRetN, sIf, sExpr, sRaise, sAug, sPar, sTgt, sApp, sFrz, sTryAs, rBind, R.bind, mMap, mBin, mUn, mCmp, mChain, mFn, mCall, mAnd, mOr, mNot, mTru, mAndV, mOrV, mNotV, mIf, aNil, aCons, oLst, eVar, eC, lift2, liftB, opI2, fDiv, fMod, fPow, opAdd, sub_s, lookD, Slot.d, Cell.d, lt_s, le_s, gt_s, ge_s, cIsN, cIsNN, truD, fNeg, fAddI, fSubI, List.getElem?_cons_zero, List.getElem?_cons_succ, List.set_cons_zero, List.set_cons_succ]
  simp only [m_many_for, mDef, eb, startD, N_many_for, List.map_cons, List.map_nil, List.length_cons, List.length_nil, List.replicate, List.cons_append, List.nil_append, Nat.reduceAdd, Nat.reduceSub, sSeq, s0, e]
theorem e_steps_long {D0 p g : Int} (hp : 1 ≤ p) (hp2 : p ≤ 1000000000) (hg : 1 ≤ g) (hg2 : g ≤ 1000000000) (d0 : 0 ≤ D0) (d1 : D0 ≤ 1000000000000) (h : reachZ 200 p g < D0) (S : Sto) : m_steps_of [.int D0, .int p, .int g] S = .err ⟨"TooLong", []⟩ S := by
  have em := e_many_long hp hp2 hg hg2 h S
  have w0 : isW (.int D0) 0 1000000000000 = true := by simp [isW]; omega
  have w1 : isW (.int p) 1 1000000000 = true := by simp [isW]; omega
  have w2 : isW (.int g) 1 1000000000 = true := by simp [isW]; omega
  simp [m_steps_of, b_steps_of, N_steps_of, b_steps_of_0, b_steps_of_1, b_steps_of_2, b_steps_of_3, e_need_whole (d := .int D0) rfl, e_need_whole (d := .int p) rfl, e_need_whole (d := .int g) rfl, w0, w1, w2, em, mDef, startD, sSeq, sNext, sSet, sRet, sRetV, sRetN, sIf, sExpr, sRaise, sAug, sPar, sTgt, sApp, sFrz, sTryAs, rBind, R.bind, mMap, mBin, mUn, mCmp, mChain, mFn, mCall, mAnd, mOr, mNot, mTru, mAndV, mOrV, mNotV, mIf, aNil, aCons, oLst, eVar, eC, lift2, liftB, fPow, sub_s, lookD, Slot.d, Cell.d, lt_s, le_s, gt_s, ge_s, cIsN, cIsNN, truD, fNeg, fAddI, fSubI, List.getElem?_cons_zero, List.getElem?_cons_succ, List.set_cons_zero, List.set_cons_succ, add_s, cat_s]
theorem e_steps_num {a b c : D} (ha : plain a = true) (hb : plain b = true) (hc : plain c = true) (h : (isW a 0 1000000000000 && isW b 1 1000000000 && isW c 1 1000000000) = false) (S : Sto) : m_steps_of [a, b, c] S = .err ⟨"BadNumber", []⟩ S := by
  by_cases h1 : isW a 0 1000000000000 = true
  · by_cases h2 : isW b 1 1000000000 = true
    · have h3 : isW c 1 1000000000 = false := by simpa [h1, h2] using h
      simp [m_steps_of, b_steps_of, N_steps_of, b_steps_of_0, b_steps_of_1, b_steps_of_2, e_need_whole, ha, hb, hc, h1, h2, h3, mDef, startD, sSeq, sNext, sSet, sRet, sRetV, sRetN, sIf, sExpr, sRaise, sAug, sPar, sTgt, sApp, sFrz, sTryAs, rBind, R.bind, mMap, mBin, mUn, mCmp, mChain, mFn, mCall, mAnd, mOr, mNot, mTru, mAndV, mOrV, mNotV, mIf, aNil, aCons, oLst, eVar, eC, lift2, liftB, fPow, sub_s, lookD, Slot.d, Cell.d, lt_s, le_s, gt_s, ge_s, cIsN, cIsNN, truD, fNeg, fAddI, fSubI, List.getElem?_cons_zero, List.getElem?_cons_succ, List.set_cons_zero, List.set_cons_succ, add_s, cat_s]
    · simp [m_steps_of, b_steps_of, N_steps_of, b_steps_of_0, b_steps_of_1, e_need_whole, ha, hb, h1, h2, mDef, startD, sSeq, sNext, sSet, sRet, sRetV, sRetN, sIf, sExpr, sRaise, sAug, sPar, sTgt, sApp, sFrz, sTryAs, rBind, R.bind, mMap, mBin, mUn, mCmp, mChain, mFn, mCall, mAnd, mOr, mNot, mTru, mAndV, mOrV, mNotV, mIf, aNil, aCons, oLst, eVar, eC, lift2, liftB, fPow, sub_s, lookD, Slot.d, Cell.d, lt_s, le_s, gt_s, ge_s, cIsN, cIsNN, truD, fNeg, fAddI, fSubI, List.getElem?_cons_zero, List.getElem?_cons_succ, List.set_cons_zero, List.set_cons_succ, add_s, cat_s]
  · simp [m_steps_of, b_steps_of, N_steps_of, b_steps_of_0, e_need_whole, ha, h1, mDef, startD, sSeq, sNext, sSet, sRet, sRetV, sRetN, sIf, sExpr, sRaise, sAug, sPar, sTgt, sApp, sFrz, sTryAs, rBind, R.bind, mMap, mBin, mUn, mCmp, mChain, mFn, mCall, mAnd, mOr, mNot, mTru, mAndV, mOrV, mNotV, mIf, aNil, aCons, oLst, eVar, eC, lift2, liftB, fPow, sub_s, lookD, Slot.d, Cell.d, lt_s, le_s, gt_s, ge_s, cIsN, cIsNN, truD, fNeg, fAddI, fSubI, List.getElem?_cons_zero, List.getElem?_cons_succ, List.set_cons_zero, List.set_cons_succ, add_s, cat_s]
/-! ### what is said -/
theorem said_num {a b c : D} (ha : plain a = true) (hb : plain b = true) (hc : plain c = true) (h : (isW a 0 1000000000000 && isW b 1 1000000000 && isW c 1 1000000000) = false) (S : Sto) : m__law_said [a, b, c] S = .ok (.val (.str (Str.ofString "number"))) S := by
  have es := e_steps_num ha hb hc h S
  simp [m__law_said, b__law_said, N__law_said, b__law_said_0, b__law_said_1, b__law_said_2, b__law_said_3, b__law_said_4, b__law_said_5, b__law_said_6, b__law_said_7, b__law_said_8, es, exmD, fIsi, isi1, isiL, T, opIx, atD, cEq, mDef, startD, sSeq, sNext, sSet, sRet, sRetV, sRetN, sIf, sExpr, sRaise, sAug, sPar, sTgt, sApp, sFrz, sTryAs, rBind, R.bind, mMap, mBin, mUn, mCmp, mChain, mFn, mCall, mAnd, mOr, mNot, mTru, mAndV, mOrV, mNotV, mIf, aNil, aCons, oLst, eVar, eC, lift2, liftB, opI2, fDiv, fMod, fPow, opAdd, sub_s, lookD, Slot.d, Cell.d, lt_s, le_s, gt_s, ge_s, cIsN, cIsNN, truD, fNeg, fAddI, fSubI, List.getElem?_cons_zero, List.getElem?_cons_succ, List.set_cons_zero, List.set_cons_succ]
theorem said_long {D0 p g : Int} (hp : 1 ≤ p) (hp2 : p ≤ 1000000000) (hg : 1 ≤ g) (hg2 : g ≤ 1000000000) (d0 : 0 ≤ D0) (d1 : D0 ≤ 1000000000000) (h : reachZ 200 p g < D0) (S : Sto) : m__law_said [.int D0, .int p, .int g] S = .ok (.val (.str (Str.ofString "long"))) S := by
  have es := e_steps_long hp hp2 hg hg2 d0 d1 h S
  simp [m__law_said, b__law_said, N__law_said, b__law_said_0, b__law_said_1, b__law_said_2, b__law_said_3, b__law_said_4, b__law_said_5, b__law_said_6, b__law_said_7, b__law_said_8, es, exmD, fIsi, isi1, isiL, T, opIx, atD, cEq, mDef, startD, sSeq, sNext, sSet, sRet, sRetV, sRetN, sIf, sExpr, sRaise, sAug, sPar, sTgt, sApp, sFrz, sTryAs, rBind, R.bind, mMap, mBin, mUn, mCmp, mChain, mFn, mCall, mAnd, mOr, mNot, mTru, mAndV, mOrV, mNotV, mIf, aNil, aCons, oLst, eVar, eC, lift2, liftB, opI2, fDiv, fMod, fPow, opAdd, sub_s, lookD, Slot.d, Cell.d, lt_s, le_s, gt_s, ge_s, cIsN, cIsNN, truD, fNeg, fAddI, fSubI, List.getElem?_cons_zero, List.getElem?_cons_succ, List.set_cons_zero, List.set_cons_succ]
theorem said_told {D0 p g : Int} (hp : 1 ≤ p) (hp2 : p ≤ 1000000000) (hg : 1 ≤ g) (hg2 : g ≤ 1000000000) (d0 : 0 ≤ D0) (d1 : D0 ≤ 1000000000000) (h : D0 ≤ reachZ 200 p g) (S : Sto) : m__law_said [.int D0, .int p, .int g] S = .ok (.val (.str (Str.ofString "told"))) S := by
  obtain ⟨n, hn, hr, hmin⟩ := least_of (P := fun n => D0 ≤ reachZ n p g) 200 h
  obtain ⟨xs, gd, es⟩ := e_steps hp hp2 hg hg2 n hn d0 d1 hr (fun m hm => by have := hmin m hm; omega)
  have fl : fLen S [.lst (xs.map D.int)] = some (.val (.int n)) := by simp [fLen, lookD, good_len gd]
  have fs : fSum S [.lst (xs.map D.int)] = some (.val (.int D0)) := by simp [fSum, lookD, intsD_map, good_sum gd]
  have w : (n : Int) ≤ 200 := by omega
  simp [m__law_said, b__law_said, N__law_said, b__law_said_0, b__law_said_1, b__law_said_2, b__law_said_3, es, fl, fs, w, fIsi, isi1, tyN, T, eq_s, mDef, startD, sSeq, sNext, sSet, sRet, sRetV, sRetN, sIf, sExpr, sRaise, sAug, sPar, sTgt, sApp, sFrz, sTryAs, rBind, R.bind, mMap, mBin, mUn, mCmp, mChain, mFn, mCall, mAnd, mOr, mNot, mTru, mAndV, mOrV, mNotV, mIf, aNil, aCons, oLst, eVar, eC, lift2, liftB, opI2, fDiv, fMod, fPow, opAdd, sub_s, lookD, Slot.d, Cell.d, lt_s, le_s, gt_s, ge_s, cIsN, cIsNN, truD, fNeg, fAddI, fSubI, List.getElem?_cons_zero, List.getElem?_cons_succ, List.set_cons_zero, List.set_cons_succ]
end FW
end
section
set_option maxHeartbeats 8000000
namespace FW
open PySem
theorem m16 (n : Int) : n % 16 = 0 ∨ n % 16 = 1 ∨ n % 16 = 2 ∨ n % 16 = 3 ∨ n % 16 = 4 ∨ n % 16 = 5 ∨ n % 16 = 6 ∨ n % 16 = 7 ∨ n % 16 = 8 ∨ n % 16 = 9 ∨ n % 16 = 10 ∨ n % 16 = 11 ∨ n % 16 = 12 ∨ n % 16 = 13 ∨ n % 16 = 14 ∨ n % 16 = 15 := by omega
def farZ (n : Int) : Int := n / 16 % 1000000000000
def oddL (n m : Int) : List D := [.non, .bl true, .bl false, .int (-1), .int (m + 1), .int (m + 1 + farZ n), .int (-1 - farZ n), .str (Str.ofString "1"), .lst [.int 1], .tup [.int 1], .dic [], .int (m * 100000000000000000000 + 1), .str (Str.ofString ""), .str (Str.ofString "one"), .lst [], .tup []]
theorem e_odd {n m : Int} {S : Sto} (hm : 0 ≤ m) (hm2 : m ≤ 1000000000000) : ∃ d, m__law_odd [.int n, .int m] S = .ok (.val d) S ∧ plain d = true ∧ isW d 0 m = false ∧ isW d 1 m = false := by
  have f1 : 0 ≤ farZ n := Int.emod_nonneg _ (by omega)
  obtain ⟨d, hd, e⟩ := atD_mem (xs := oddL n m) (i := n % 16) (Int.emod_nonneg _ (by omega)) (by simp [oddL]; omega)
  refine ⟨d, ?_, ?_⟩
  · have e' := e
    unfold oddL farZ at e'
    simp (disch := omega) [m__law_odd, b__law_odd, N__law_odd, mul_s, div_s, mod_s, pow_s, opIx, e', mDef, startD, sSeq, sNext, sSet, sRet, sRetV, sRetN, sIf, sExpr, sRaise, sAug, sPar, sTgt, sApp, sFrz, sTryAs, rBind, R.bind, mMap, mBin, mUn, mCmp, mChain, mFn, mCall, mAnd, mOr, mNot, mTru, mAndV, mOrV, mNotV, mIf, aNil, aCons, oLst, eVar, eC, lift2, liftB, fPow, sub_s, lookD, Slot.d, Cell.d, lt_s, le_s, gt_s, ge_s, cIsN, cIsNN, truD, fNeg, fAddI, fSubI, List.getElem?_cons_zero, List.getElem?_cons_succ, List.set_cons_zero, List.set_cons_succ, add_s, cat_s]
  · simp only [oddL, List.mem_cons, List.not_mem_nil, or_false] at hd
    rcases hd with h | h | h | h | h | h | h | h | h | h | h | h | h | h | h | h <;> subst h <;> simp [plain, isW] <;> omega
theorem ne_str {S : Sto} {a : Str} : cNe S (.str a) (.str a) = some false := by simp [cNe, cEq]
theorem eq_nil {S : Sto} : cEq S (.lst []) (.lst []) = some true := rfl
theorem e_right {n m : Int} {S : Sto} (hm : 0 ≤ m) : m__law_right [.int n, .int m] S = .ok (.val (.bl true)) S := by
  obtain ⟨p, ep, p1, p2⟩ := e_rate (n := n) (S := S)
  obtain ⟨g, eg, g1, g2⟩ := e_rate (n := n / 100000000000) (S := S)
  have el := e_law_reach (n := 200) (p := p) (g := g) (S := S) (by omega) (by omega) p1 p2 g1 g2
  have fg := reach_ge p1 g1 200
  have t0 : 0 ≤ min (reachZ 200 p g) 1000000000000 := by push_cast at fg; omega
  have tld := said_told p1 p2 g1 g2 t0 (Int.min_le_right _ _) (Int.min_le_left (reachZ 200 p g) 1000000000000) S
  have lng := fun D0 => said_long (D0 := D0) p1 p2 g1 g2
  push_cast at fg
  generalize hF : reachZ 200 p g = far at *
  have c0 : 0 ≤ m % 1000000 := Int.emod_nonneg _ (by omega)
  have c1 : 0 ≤ m % 1000000000000 := Int.emod_nonneg _ (by omega)
  obtain ⟨d, hd, ed⟩ := atD_mem (xs := [.int 0, .int 1, .int (m % 1000000), .int (m % 1000000000000)]) (i := m / 7 % 4) (Int.emod_nonneg _ (by omega)) (by simp; omega)
  have hx : ∃ x, d = .int x ∧ 0 ≤ x := by
    simp only [List.mem_cons, List.not_mem_nil, or_false] at hd
    rcases hd with h | h | h | h <;> exact ⟨_, h, by omega⟩
  obtain ⟨x, rfl, x0⟩ := hx
  obtain ⟨b, hb⟩ : ∃ b, b = min 1000000000000 (far + 1 + x) := ⟨_, rfl⟩
  have b0 : 0 ≤ b := by omega
  have b1 : b ≤ 1000000000000 := by omega
  obtain ⟨o1, e1, o11, o12, o13⟩ := e_odd (n := m / 100) (m := 1000000000) (S := S) (by omega) (by omega)
  obtain ⟨o2, e2, o21, o22, o23⟩ := e_odd (n := m / 100) (m := 1000000000000) (S := S) (by omega) (by omega)
  have n0 : b__law_right_0 [.val (.int n), .val (.int m), .none, .none, .none, .none, .none, .none, .none, .none] S = .nx [.val (.int n), .val (.int m), .val (.int p), .val (.int g), .none, .none, .none, .none, .none, .none] S := by
    simp (disch := omega) [b__law_right_0, ep, eg, pow_s, div_s, mDef, startD, sSeq, sNext, sSet, sRet, sRetV, sRetN, sIf, sExpr, sRaise, sAug, sPar, sTgt, sApp, sFrz, sTryAs, rBind, R.bind, mMap, mBin, mUn, mCmp, mChain, mFn, mCall, mAnd, mOr, mNot, mTru, mAndV, mOrV, mNotV, mIf, aNil, aCons, oLst, eVar, eC, lift2, liftB, fPow, sub_s, lookD, Slot.d, Cell.d, lt_s, le_s, gt_s, ge_s, cIsN, cIsNN, truD, fNeg, fAddI, fSubI, List.getElem?_cons_zero, List.getElem?_cons_succ, List.set_cons_zero, List.set_cons_succ, add_s, cat_s]
  have n1 : b__law_right_1 [.val (.int n), .val (.int m), .val (.int p), .val (.int g), .none, .none, .none, .none, .none, .none] S = .nx [.val (.int n), .val (.int m), .val (.int p), .val (.int g), .val (.int far), .none, .none, .none, .none, .none] S := by
    simp [b__law_right_1, el, mDef, startD, sSeq, sNext, sSet, sRet, sRetV, sRetN, sIf, sExpr, sRaise, sAug, sPar, sTgt, sApp, sFrz, sTryAs, rBind, R.bind, mMap, mBin, mUn, mCmp, mChain, mFn, mCall, mAnd, mOr, mNot, mTru, mAndV, mOrV, mNotV, mIf, aNil, aCons, oLst, eVar, eC, lift2, liftB, fPow, sub_s, lookD, Slot.d, Cell.d, lt_s, le_s, gt_s, ge_s, cIsN, cIsNN, truD, fNeg, fAddI, fSubI, List.getElem?_cons_zero, List.getElem?_cons_succ, List.set_cons_zero, List.set_cons_succ, add_s, cat_s]
  have n2 : b__law_right_2 [.val (.int n), .val (.int m), .val (.int p), .val (.int g), .val (.int far), .none, .none, .none, .none, .none] S = .nx [.val (.int n), .val (.int m), .val (.int p), .val (.int g), .val (.int far), .val (.int b), .none, .none, .none, .none] S := by
    simp (disch := omega) [b__law_right_2, fMin, div_s, mod_s, pow_s, opIx, ed, ← hb, mDef, startD, sSeq, sNext, sSet, sRet, sRetV, sRetN, sIf, sExpr, sRaise, sAug, sPar, sTgt, sApp, sFrz, sTryAs, rBind, R.bind, mMap, mBin, mUn, mCmp, mChain, mFn, mCall, mAnd, mOr, mNot, mTru, mAndV, mOrV, mNotV, mIf, aNil, aCons, oLst, eVar, eC, lift2, liftB, fPow, sub_s, lookD, Slot.d, Cell.d, lt_s, le_s, gt_s, ge_s, cIsN, cIsNN, truD, fNeg, fAddI, fSubI, List.getElem?_cons_zero, List.getElem?_cons_succ, List.set_cons_zero, List.set_cons_succ, add_s, cat_s]
  have n3 : b__law_right_3 [.val (.int n), .val (.int m), .val (.int p), .val (.int g), .val (.int far), .val (.int b), .none, .none, .none, .none] S = .nx [.val (.int n), .val (.int m), .val (.int p), .val (.int g), .val (.int far), .val (.int b), .none, .none, .none, .none] S := by
    simp (disch := omega) [b__law_right_3, fMin, pow_s, tld, ne_str, mDef, startD, sSeq, sNext, sSet, sRet, sRetV, sRetN, sIf, sExpr, sRaise, sAug, sPar, sTgt, sApp, sFrz, sTryAs, rBind, R.bind, mMap, mBin, mUn, mCmp, mChain, mFn, mCall, mAnd, mOr, mNot, mTru, mAndV, mOrV, mNotV, mIf, aNil, aCons, oLst, eVar, eC, lift2, liftB, fPow, sub_s, lookD, Slot.d, Cell.d, lt_s, le_s, gt_s, ge_s, cIsN, cIsNN, truD, fNeg, fAddI, fSubI, List.getElem?_cons_zero, List.getElem?_cons_succ, List.set_cons_zero, List.set_cons_succ, add_s, cat_s]
  have n4 : b__law_right_4 [.val (.int n), .val (.int m), .val (.int p), .val (.int g), .val (.int far), .val (.int b), .none, .none, .none, .none] S = .nx [.val (.int n), .val (.int m), .val (.int p), .val (.int g), .val (.int far), .val (.int b), .none, .none, .none, .none] S := by
    by_cases z : far < b
    · have l := lng b b0 b1 z S
      simp [b__law_right_4, z, l, ne_str, mDef, startD, sSeq, sNext, sSet, sRet, sRetV, sRetN, sIf, sExpr, sRaise, sAug, sPar, sTgt, sApp, sFrz, sTryAs, rBind, R.bind, mMap, mBin, mUn, mCmp, mChain, mFn, mCall, mAnd, mOr, mNot, mTru, mAndV, mOrV, mNotV, mIf, aNil, aCons, oLst, eVar, eC, lift2, liftB, fPow, sub_s, lookD, Slot.d, Cell.d, lt_s, le_s, gt_s, ge_s, cIsN, cIsNN, truD, fNeg, fAddI, fSubI, List.getElem?_cons_zero, List.getElem?_cons_succ, List.set_cons_zero, List.set_cons_succ, add_s, cat_s]
    · simp [b__law_right_4, z, mDef, startD, sSeq, sNext, sSet, sRet, sRetV, sRetN, sIf, sExpr, sRaise, sAug, sPar, sTgt, sApp, sFrz, sTryAs, rBind, R.bind, mMap, mBin, mUn, mCmp, mChain, mFn, mCall, mAnd, mOr, mNot, mTru, mAndV, mOrV, mNotV, mIf, aNil, aCons, oLst, eVar, eC, lift2, liftB, fPow, sub_s, lookD, Slot.d, Cell.d, lt_s, le_s, gt_s, ge_s, cIsN, cIsNN, truD, fNeg, fAddI, fSubI, List.getElem?_cons_zero, List.getElem?_cons_succ, List.set_cons_zero, List.set_cons_succ, add_s, cat_s]
  have n5 : b__law_right_5 [.val (.int n), .val (.int m), .val (.int p), .val (.int g), .val (.int far), .val (.int b), .none, .none, .none, .none] S = .nx [.val (.int n), .val (.int m), .val (.int p), .val (.int g), .val (.int far), .val (.int b), .val o1, .val o2, .none, .none] S := by
    simp (disch := omega) [b__law_right_5, div_s, pow_s, e1, e2, mDef, startD, sSeq, sNext, sSet, sRet, sRetV, sRetN, sIf, sExpr, sRaise, sAug, sPar, sTgt, sApp, sFrz, sTryAs, rBind, R.bind, mMap, mBin, mUn, mCmp, mChain, mFn, mCall, mAnd, mOr, mNot, mTru, mAndV, mOrV, mNotV, mIf, aNil, aCons, oLst, eVar, eC, lift2, liftB, fPow, sub_s, lookD, Slot.d, Cell.d, lt_s, le_s, gt_s, ge_s, cIsN, cIsNN, truD, fNeg, fAddI, fSubI, List.getElem?_cons_zero, List.getElem?_cons_succ, List.set_cons_zero, List.set_cons_succ, add_s, cat_s]
  have n6 : b__law_right_6 [.val (.int n), .val (.int m), .val (.int p), .val (.int g), .val (.int far), .val (.int b), .val o1, .val o2, .none, .none] S = .nx [.val (.int n), .val (.int m), .val (.int p), .val (.int g), .val (.int far), .val (.int b), .val o1, .val o2, .val (.lst [.tup [o2, .int p, .int g], .tup [.int b, o1, .int g], .tup [.int b, .int p, o1], .tup [o2, o1, o1], .tup [.int 5, .int 0, .int g], .tup [.int 5, .int p, .int 0]]), .none] S := by
    simp [b__law_right_6, mDef, startD, sSeq, sNext, sSet, sRet, sRetV, sRetN, sIf, sExpr, sRaise, sAug, sPar, sTgt, sApp, sFrz, sTryAs, rBind, R.bind, mMap, mBin, mUn, mCmp, mChain, mFn, mCall, mAnd, mOr, mNot, mTru, mAndV, mOrV, mNotV, mIf, aNil, aCons, oLst, eVar, eC, lift2, liftB, fPow, sub_s, lookD, Slot.d, Cell.d, lt_s, le_s, gt_s, ge_s, cIsN, cIsNN, truD, fNeg, fAddI, fSubI, List.getElem?_cons_zero, List.getElem?_cons_succ, List.set_cons_zero, List.set_cons_succ, add_s, cat_s]
  have rows : ∀ r ∈ ([.tup [o2, .int p, .int g], .tup [.int b, o1, .int g], .tup [.int b, .int p, o1], .tup [o2, o1, o1], .tup [.int 5, .int 0, .int g], .tup [.int 5, .int p, .int 0]] : List D), ∃ a b c, r = .tup [a, b, c] ∧ m__law_said [a, b, c] S = .ok (.val (.str (Str.ofString "number"))) S := by
    intro r hr
    simp only [List.mem_cons, List.not_mem_nil, or_false] at hr
    rcases hr with h | h | h | h | h | h <;> subst h <;> refine ⟨_, _, _, rfl, ?_⟩
    · exact said_num o21 rfl rfl (by simp [o22]) S
    · exact said_num rfl o11 rfl (by simp [o13]) S
    · exact said_num rfl rfl o11 (by simp [o13]) S
    · exact said_num o21 o11 o11 (by simp [o22]) S
    · exact said_num rfl rfl rfl (by simp [isW]) S
    · exact said_num rfl rfl rfl (by simp [isW]) S
  generalize hR : ([.tup [o2, .int p, .int g], .tup [.int b, o1, .int g], .tup [.int b, .int p, o1], .tup [o2, o1, o1], .tup [.int 5, .int 0, .int g], .tup [.int 5, .int p, .int 0]] : List D) = Rs at rows n6
  have hl : Rs.length ≤ 1000000 := by subst hR; simp
  have loop := lc_none (gm := gN 9) (ρ := [.val (.int n), .val (.int m), .val (.int p), .val (.int g), .val (.int far), .val (.int b), .val o1, .val o2, .val (.lst Rs), .none]) (S := S) (me := eVar 9)
    (mt := mCmp cNe (mMap Slot.d (mFn m__law_said (aCons (mMap Slot.d (mBin opIx (eVar 9) (eC (.int (0))))) (aCons (mMap Slot.d (mBin opIx (eVar 9) (eC (.int (1))))) (aCons (mMap Slot.d (mBin opIx (eVar 9) (eC (.int (2))))) aNil))))) (eC (.str (Str.ofString "number")))) Rs [] (fun r hr => by
      obtain ⟨a, b, c, rfl, e⟩ := rows r hr
      exact ⟨_, rfl, by simp [opIx, atD, e, ne_str, mDef, startD, sSeq, sNext, sSet, sRet, sRetV, sRetN, sIf, sExpr, sRaise, sAug, sPar, sTgt, sApp, sFrz, sTryAs, rBind, R.bind, mMap, mBin, mUn, mCmp, mChain, mFn, mCall, mAnd, mOr, mNot, mTru, mAndV, mOrV, mNotV, mIf, aNil, aCons, oLst, eVar, eC, lift2, liftB, opI2, fDiv, fMod, fPow, opAdd, sub_s, lookD, Slot.d, Cell.d, lt_s, le_s, gt_s, ge_s, cIsN, cIsNN, truD, fNeg, fAddI, fSubI, List.getElem?_cons_zero, List.getElem?_cons_succ, List.set_cons_zero, List.set_cons_succ]⟩)
  have n7 : b__law_right_7 [.val (.int n), .val (.int m), .val (.int p), .val (.int g), .val (.int far), .val (.int b), .val o1, .val o2, .val (.lst Rs), .none] S = .rt (.val (.bl true)) S := by
    simp [b__law_right_7, mLc, mSeq, mThen, fSeq, wipeD, noErr, hl, loop, eq_nil, mDef, startD, sSeq, sNext, sSet, sRet, sRetV, sRetN, sIf, sExpr, sRaise, sAug, sPar, sTgt, sApp, sFrz, sTryAs, rBind, R.bind, mMap, mBin, mUn, mCmp, mChain, mFn, mCall, mAnd, mOr, mNot, mTru, mAndV, mOrV, mNotV, mIf, aNil, aCons, oLst, eVar, eC, lift2, liftB, fPow, sub_s, lookD, Slot.d, Cell.d, lt_s, le_s, gt_s, ge_s, cIsN, cIsNN, truD, fNeg, fAddI, fSubI, List.getElem?_cons_zero, List.getElem?_cons_succ, List.set_cons_zero, List.set_cons_succ, add_s, cat_s]
  simp only [m__law_right, mDef, b__law_right, startD, N__law_right, List.map_cons, List.map_nil, List.length_cons, List.length_nil, List.replicate, List.cons_append, List.nil_append, Nat.reduceAdd, Nat.reduceSub, sSeq, n0, n1, n2, n3, n4, n5, n6, n7]
theorem law_turn {s : Slot} {c k : Int} {S : Sto} (h0 : 0 ≤ k) (h1 : k ≤ 1000) : ∃ S', b_law_0_body [s, .val (.int k), .val (.int c)] S = .nx [s, .val (.int k), .val (.int c)] S' := by
  obtain ⟨a, ea, a0⟩ := e_wide (c := c) (k := k) (S := S) h0 (by omega)
  obtain ⟨b, eb, b0⟩ := e_wide (c := c) (k := k + 1000) (S := S) (by omega) (by omega)
  have er := e_right (n := a) (m := b) (S := S) b0
  exact ⟨S, by simp [b_law_0_body, ea, eb, er, mDef, startD, sSeq, sNext, sSet, sRet, sRetV, sRetN, sIf, sExpr, sRaise, sAug, sPar, sTgt, sApp, sFrz, sTryAs, rBind, R.bind, mMap, mBin, mUn, mCmp, mChain, mFn, mCall, mAnd, mOr, mNot, mTru, mAndV, mOrV, mNotV, mIf, aNil, aCons, oLst, eVar, eC, lift2, liftB, fPow, sub_s, lookD, Slot.d, Cell.d, lt_s, le_s, gt_s, ge_s, cIsN, cIsNN, truD, fNeg, fAddI, fSubI, List.getElem?_cons_zero, List.getElem?_cons_succ, List.set_cons_zero, List.set_cons_succ, add_s, cat_s]⟩
theorem loop_one {s : Slot} {c : Int} {cs : List Int} {i : Nat} {x y : Slot} {S S1 S' : Sto} {ρ' : List Slot} {lb : MS} (e : lb [s, .val (.int i), .val (.int c)] S = .nx [s, .val (.int i), .val (.int c)] S1) (e2 : sForL (gT [1, 2]) lb (enumD (i + 1) (cs.map D.int)) [s, .val (.int i), .val (.int c)] S1 = .nx ρ' S') : sForL (gT [1, 2]) lb (enumD i ((c :: cs).map D.int)) [s, x, y] S = .nx ρ' S' := by
  simp only [List.map_cons, enumD, sForL, gT, gSets, List.length_cons, List.length_nil, if_true, List.set_cons_succ, List.set_cons_zero, e, e2]
theorem loop_all {s : Slot} {lb : MS} {M : Int} (turn : ∀ (c k : Int) (S : Sto), 0 ≤ k → k ≤ M → ∃ S', lb [s, .val (.int k), .val (.int c)] S = .nx [s, .val (.int k), .val (.int c)] S') (cs : List Int) : ∀ (i : Nat) (x y : Slot) (S : Sto), ((i + cs.length : Nat) : Int) ≤ M → ∃ ρ' S', sForL (gT [1, 2]) lb (enumD i (cs.map D.int)) [s, x, y] S = .nx ρ' S' := by
  induction cs with
  | nil => intro i x y S h; refine ⟨[s, x, y], S, ?_⟩; simp only [List.map_nil, enumD, sForL, sNext]
  | cons c cs ih =>
    intro i x y S h
    simp only [List.length_cons] at h
    obtain ⟨S1, e⟩ := turn c i S (by omega) (by omega)
    obtain ⟨ρ', S', e2⟩ := ih (i + 1) (.val (.int i)) (.val (.int c)) S1 (by omega)
    exact ⟨ρ', S', loop_one e e2⟩
theorem e_law (ns : List Int) (h : ns.length ≤ 63) : ∃ S', m_law [.lst (ns.map D.int)] [] = .ok (.val (.bl true)) S' := by
  obtain ⟨ρ', S', e⟩ := loop_all (s := .val (.lst (ns.map D.int))) (lb := b_law_0_body) (M := 1000) (fun c k S h0 h1 => law_turn h0 h1) (ns ++ [0]) 0 .none .none [] (by simp only [List.length_append, List.length_cons, List.length_nil]; omega)
  refine ⟨S', ?_⟩
  have hl : ns.length + 1 ≤ 1000000 := by omega
  have it : mThen fEnum (aCons (mMap Slot.d (mBin opAdd (eVar 0) (mMap Slot.d (oLst (aCons (eC (.int (0))) aNil))))) aNil) [.val (.lst (ns.map D.int)), .none, .none] [] = .ok (enumD 0 ((ns ++ [0]).map D.int)) [] := by
    simp [mThen, fEnum, hl, mDef, startD, sSeq, sNext, sSet, sRet, sRetV, sRetN, sIf, sExpr, sRaise, sAug, sPar, sTgt, sApp, sFrz, sTryAs, rBind, R.bind, mMap, mBin, mUn, mCmp, mChain, mFn, mCall, mAnd, mOr, mNot, mTru, mAndV, mOrV, mNotV, mIf, aNil, aCons, oLst, eVar, eC, lift2, liftB, fPow, sub_s, lookD, Slot.d, Cell.d, lt_s, le_s, gt_s, ge_s, cIsN, cIsNN, truD, fNeg, fAddI, fSubI, List.getElem?_cons_zero, List.getElem?_cons_succ, List.set_cons_zero, List.set_cons_succ, add_s, cat_s]
  have n0 : b_law_0 [.val (.lst (ns.map D.int)), .none, .none] [] = .nx ρ' S' := by
    unfold b_law_0 sFor
    rw [it]; exact e
  have n1 : b_law_1 ρ' S' = .rt (.val (.bl true)) S' := by simp [b_law_1, mDef, startD, sSeq, sNext, sSet, sRet, sRetV, sRetN, sIf, sExpr, sRaise, sAug, sPar, sTgt, sApp, sFrz, sTryAs, rBind, R.bind, mMap, mBin, mUn, mCmp, mChain, mFn, mCall, mAnd, mOr, mNot, mTru, mAndV, mOrV, mNotV, mIf, aNil, aCons, oLst, eVar, eC, lift2, liftB, fPow, sub_s, lookD, Slot.d, Cell.d, lt_s, le_s, gt_s, ge_s, cIsN, cIsNN, truD, fNeg, fAddI, fSubI, List.getElem?_cons_zero, List.getElem?_cons_succ, List.set_cons_zero, List.set_cons_succ, add_s, cat_s]
  simp only [m_law, mDef, b_law, startD, N_law, List.map_cons, List.map_nil, List.length_cons, List.length_nil, List.replicate, List.cons_append, List.nil_append, Nat.reduceAdd, Nat.reduceSub, sSeq, n0, n1]
end FW
theorem PySem.Challenge.cw_flywright_k03_moves_refused_holds : PySem.Challenge.rw_flywright_k03_moves_refused.Holds := by
  exact FW.holdsL FW.e_law
end
