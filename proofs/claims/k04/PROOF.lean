import PyProof.Rows.All
import Wide.All
import OpenK.AllK
import Wide.FinOn
import HandS.ForMost
import HandS.Exc
import HandS.ExcOwn
import HandS.TryOnly
import HandS.WordsExc
import HandS.Defaults
import HandS.HeadHook1
import HandS.HeadHook2
import HandS.Wide
import HandS.IsInst
import HandS.ExcIs
import HandS.RevRange
import PyProof.MaxThree
import HandS.Ends
import HandS.Head0
import HandS.Head1
import HandS.Head2
import HandS.HeadEnd
import HandS.RaiseMore
import HandS.ClsMeth
import HandS.Text
import HandS.More
import PyProof.StrBlock2
import PyProof.DictUpdate
import PyProof.FactsAll.dict_0
import HandS.NoneIn
import PyProof.FitsInt
import PySem.Challenge.RW_flywright_k04_machines_and_boxes
set_option Elab.async false
set_option linter.all false
set_option maxRecDepth 100000
section
set_option maxHeartbeats 2000000
/-! FW1: plain data D, a store of changeable cells, what stands for it on the tracked heap (Rep, Ok, Post, RelS, Rel). -/
namespace FW
open PySem L2

inductive D where
  | non | bl (b : Bool) | int (i : Int) | str (s : Str) | ty (n : String) | cls (c : String)
  | lst (xs : List D) | tup (xs : List D) | dic (ks : List (Key × D))
  | obj (c : String) (fs : List (String × D)) | exc (c : String) (fs : List (String × D)) | ref (i : Nat)

instance : Inhabited D := ⟨.non⟩

/-- a changeable thing -/
inductive Cell where
  | lst (xs : List D) | dic (ks : List (Key × D)) | obj (c : String) (fs : List (String × D))
def Cell.d : Cell → D
  | .lst xs => .lst xs
  | .dic ks => .dic ks
  | .obj c fs => .obj c fs
abbrev Sto := List (Option Cell)

/-- the tracked object of a caught exception: its class, its own dict -/
def exho (a : Addr) (cls : Value) (d : Option Addr) : HO := .ext fun h => ∃ oe : Obj, h.get? a = some oe ∧ Zc cls d oe ∧ ∃ vs, oe.data = .fields vs

section
variable (K : PySem.W.Frag) (io : List Addr) (F : Hp)
mutual
def Rep : V → D → Prop
  | v, .non => v = .non
  | v, .bl b => v = .bl b
  | v, .int i => v = .int i
  | v, .str s => v = .str s
  | v, .ty n => v = .ty n
  | v, .cls c => v = .ref (He.ga K (Str.ofString c))
  | v, .lst ds => ∃ p vs, v = .ref p ∧ SqL K F p vs ∧ RepL vs ds
  | v, .tup ds => ∃ p vs, v = .ref p ∧ F p = some (.tup vs) ∧ RepL vs ds
  | v, .dic ks => ∃ p kvs, v = .ref p ∧ F p = some (.dK kvs) ∧ RepK kvs ks
  | v, .obj c fs => ∃ p dx fvs, v = .ref p ∧ F p = some (.ins (He.ga K (Str.ofString c)) dx fvs) ∧ F dx = some (.own p) ∧ RepF fvs fs
  | v, .exc c fs => ∃ p d, v = .ref p ∧ F p = some (exho p (.ref (He.ga K (Str.ofString c))) d) ∧ ((fs = [] ∧ d = none) ∨ (fs ≠ [] ∧ ∃ dx fvs, d = some dx ∧ F dx = some (.xd fvs) ∧ RepF fvs fs))
  | v, .ref i => ∃ p, io[i]? = some p ∧ v = .ref p
def RepL : List V → List D → Prop
  | vs, [] => vs = []
  | vs, d :: ds => ∃ v r, vs = v :: r ∧ Rep v d ∧ RepL r ds
def RepK : List (Key × V) → List (Key × D) → Prop
  | vs, [] => vs = []
  | vs, (k, d) :: ds => ∃ v r, vs = (k, v) :: r ∧ Rep v d ∧ RepK r ds
def RepF : List (Str × V) → List (String × D) → Prop
  | vs, [] => vs = []
  | vs, (k, d) :: ds => ∃ v r, vs = (Str.ofString k, v) :: r ∧ Rep v d ∧ RepF r ds
end
end

def Le (F F' : Hp) : Prop := ∀ a u, F a = some u → F' a = some u
theorem Le.refl (F : Hp) : Le F F := fun _ _ h => h
theorem Le.trans {F G J : Hp} (a : Le F G) (b : Le G J) : Le F J := fun x u h => b x u (a x u h)
def Pre (a b : List Addr) : Prop := ∃ r, b = a ++ r
theorem Pre.refl (a : List Addr) : Pre a a := ⟨[], by simp⟩
theorem Pre.trans {a b c : List Addr} : Pre a b → Pre b c → Pre a c
  | ⟨r, e⟩, ⟨q, f⟩ => ⟨r ++ q, by rw [f, e, List.append_assoc]⟩
theorem Pre.get {a b : List Addr} (h : Pre a b) {i : Nat} {p : Addr} (e : a[i]? = some p) : b[i]? = some p := by
  obtain ⟨r, rfl⟩ := h
  rw [List.getElem?_append_left (List.getElem?_eq_some_iff.mp e).1]; exact e
theorem Pre.mem {a b : List Addr} (h : Pre a b) {p : Addr} (e : p ∈ a) : p ∈ b := by
  obtain ⟨r, rfl⟩ := h
  exact List.mem_append_left _ e
theorem Rd.mono {F F' : Hp} (h : Le F F') {a : Addr} {u : HO} : Rd F a u → Rd F' a u
  | .inl e => .inl (h _ _ e)
  | .inr ⟨o, e⟩ => .inr ⟨o, h _ _ e⟩

theorem SqL.mono {K : PySem.W.Frag} {F F' : Hp} (h : Le F F') {a : Addr} {xs : List V} : SqL K F a xs → SqL K F' a xs
  | .inl e => .inl (Rd.mono h e)
  | .inr e => .inr e

section
variable {K : PySem.W.Frag} {io io' : List Addr} {F F' : Hp}
mutual
theorem Rep.mono (hF : Le F F') (hi : Pre io io') : ∀ (d : D) {v : V}, Rep K io F v d → Rep K io' F' v d
  | .non, _, h => by simp only [Rep] at h ⊢; exact h
  | .bl _, _, h => by simp only [Rep] at h ⊢; exact h
  | .int _, _, h => by simp only [Rep] at h ⊢; exact h
  | .str _, _, h => by simp only [Rep] at h ⊢; exact h
  | .ty _, _, h => by simp only [Rep] at h ⊢; exact h
  | .cls _, _, h => by simp only [Rep] at h ⊢; exact h
  | .lst ds, _, h => by
    simp only [Rep] at h ⊢
    obtain ⟨p, vs, e, r, l⟩ := h
    exact ⟨p, vs, e, FW.SqL.mono hF r, RepL.mono hF hi ds l⟩
  | .tup ds, _, h => by
    simp only [Rep] at h ⊢
    obtain ⟨p, vs, e, r, l⟩ := h
    exact ⟨p, vs, e, hF _ _ r, RepL.mono hF hi ds l⟩
  | .dic ks, _, h => by
    simp only [Rep] at h ⊢
    obtain ⟨p, vs, e, r, l⟩ := h
    exact ⟨p, vs, e, hF _ _ r, RepK.mono hF hi ks l⟩
  | .obj c fs, _, h => by
    simp only [Rep] at h ⊢
    obtain ⟨p, dx, vs, e, r, q, l⟩ := h
    exact ⟨p, dx, vs, e, hF _ _ r, hF _ _ q, RepF.mono hF hi fs l⟩
  | .exc c fs, _, h => by
    simp only [Rep] at h ⊢
    obtain ⟨p, d, e, r, l⟩ := h
    refine ⟨p, d, e, hF _ _ r, ?_⟩
    rcases l with l | ⟨n, dx, vs, e1, e2, l⟩
    · exact .inl l
    · exact .inr ⟨n, dx, vs, e1, hF _ _ e2, RepF.mono hF hi fs l⟩
  | .ref i, _, h => by
    simp only [Rep] at h ⊢
    obtain ⟨p, e, q⟩ := h
    exact ⟨p, hi.get e, q⟩
theorem RepL.mono (hF : Le F F') (hi : Pre io io') : ∀ (ds : List D) {vs : List V}, RepL K io F vs ds → RepL K io' F' vs ds
  | [], _, h => by simp only [RepL] at h ⊢; exact h
  | d :: ds, _, h => by
    simp only [RepL] at h ⊢
    obtain ⟨v, r, e, a, b⟩ := h
    exact ⟨v, r, e, Rep.mono hF hi d a, RepL.mono hF hi ds b⟩
theorem RepK.mono (hF : Le F F') (hi : Pre io io') : ∀ (ds : List (Key × D)) {vs : List (Key × V)}, RepK K io F vs ds → RepK K io' F' vs ds
  | [], _, h => by simp only [RepK] at h ⊢; exact h
  | (k, d) :: ds, _, h => by
    simp only [RepK] at h ⊢
    obtain ⟨v, r, e, a, b⟩ := h
    exact ⟨v, r, e, Rep.mono hF hi d a, RepK.mono hF hi ds b⟩
theorem RepF.mono (hF : Le F F') (hi : Pre io io') : ∀ (ds : List (String × D)) {vs : List (Str × V)}, RepF K io F vs ds → RepF K io' F' vs ds
  | [], _, h => by simp only [RepF] at h ⊢; exact h
  | (k, d) :: ds, _, h => by
    simp only [RepF] at h ⊢
    obtain ⟨v, r, e, a, b⟩ := h
    exact ⟨v, r, e, Rep.mono hF hi d a, RepF.mono hF hi ds b⟩
end

theorem RepL.length : ∀ {ds : List D} {vs : List V}, RepL K io F vs ds → vs.length = ds.length
  | [], _, h => by simp only [RepL] at h; subst h; rfl
  | d :: ds, _, h => by
    simp only [RepL] at h
    obtain ⟨v, r, rfl, a, b⟩ := h
    simp only [List.length_cons, RepL.length b]
theorem RepL.get : ∀ {ds : List D} {vs : List V} {i : Nat} {d : D}, RepL K io F vs ds → ds[i]? = some d → ∃ v, vs[i]? = some v ∧ Rep K io F v d
  | [], _, i, _, _, e => by simp at e
  | d :: ds, _, 0, _, h, e => by
    simp only [RepL] at h
    obtain ⟨v, r, rfl, a, b⟩ := h
    simp at e; subst e
    exact ⟨v, by simp, a⟩
  | d :: ds, _, i + 1, x, h, e => by
    simp only [RepL] at h
    obtain ⟨v, r, rfl, a, b⟩ := h
    obtain ⟨w, h1, h2⟩ := RepL.get (i := i) b (by simpa using e)
    exact ⟨w, by simpa using h1, h2⟩
theorem RepL.append : ∀ {ds es : List D} {vs us : List V}, RepL K io F vs ds → RepL K io F us es → RepL K io F (vs ++ us) (ds ++ es)
  | [], _, _, _, h, g => by simp only [RepL] at h; subst h; simpa using g
  | d :: ds, _, _, _, h, g => by
    simp only [RepL] at h
    obtain ⟨v, r, rfl, a, b⟩ := h
    simp only [List.cons_append, RepL]
    exact ⟨v, _, rfl, a, RepL.append b g⟩
theorem RepL.nil : RepL K io F [] [] := by simp only [RepL]
theorem RepL.cons {v : V} {d : D} {vs : List V} {ds : List D} (a : Rep K io F v d) (b : RepL K io F vs ds) : RepL K io F (v :: vs) (d :: ds) := by
  simp only [RepL]; exact ⟨v, vs, rfl, a, b⟩
theorem RepL.one {v : V} {d : D} (a : Rep K io F v d) : RepL K io F [v] [d] := .cons a .nil
theorem RepL.set : ∀ {ds : List D} {vs : List V} (i : Nat) {v : V} {d : D}, RepL K io F vs ds → Rep K io F v d → RepL K io F (vs.set i v) (ds.set i d)
  | [], _, i, _, _, h, _ => by simp only [RepL] at h; subst h; simpa using RepL.nil
  | x :: ds, _, 0, _, _, h, g => by
    simp only [RepL] at h
    obtain ⟨v, r, rfl, a, b⟩ := h
    exact .cons g b
  | x :: ds, _, i + 1, _, _, h, g => by
    simp only [RepL] at h
    obtain ⟨v, r, rfl, a, b⟩ := h
    exact .cons a (RepL.set i b g)
theorem RepL.take : ∀ {ds : List D} {vs : List V} (i : Nat), RepL K io F vs ds → RepL K io F (vs.take i) (ds.take i)
  | _, _, 0, _ => by simpa using RepL.nil
  | [], _, i + 1, h => by simp only [RepL] at h; subst h; simpa using RepL.nil
  | x :: ds, _, i + 1, h => by
    simp only [RepL] at h
    obtain ⟨v, r, rfl, a, b⟩ := h
    exact .cons a (RepL.take i b)
theorem RepL.drop : ∀ {ds : List D} {vs : List V} (i : Nat), RepL K io F vs ds → RepL K io F (vs.drop i) (ds.drop i)
  | _, _, 0, h => by simpa using h
  | [], _, i + 1, h => by simp only [RepL] at h; subst h; simpa using RepL.nil
  | x :: ds, _, i + 1, h => by
    simp only [RepL] at h
    obtain ⟨v, r, rfl, a, b⟩ := h
    exact RepL.drop i b
theorem RepL.ints : ∀ {ns : List Int} {vs : List V}, RepL K io F vs (ns.map D.int) → vs = ns.map V.int
  | [], _, h => by simp only [List.map_nil, RepL] at h; subst h; rfl
  | n :: ns, _, h => by
    simp only [List.map_cons, RepL, Rep] at h
    obtain ⟨v, r, rfl, rfl, b⟩ := h
    rw [RepL.ints b]; rfl
theorem RepL.of_ints : ∀ {ns : List Int}, RepL K io F (ns.map V.int) (ns.map D.int)
  | [] => by simp only [List.map_nil, RepL]
  | n :: ns => .cons (by simp only [Rep]) RepL.of_ints
theorem RepL.bls : ∀ {ns : List Bool} {vs : List V}, RepL K io F vs (ns.map D.bl) → vs = ns.map V.bl
  | [], _, h => by simp only [List.map_nil, RepL] at h; subst h; rfl
  | n :: ns, _, h => by
    simp only [List.map_cons, RepL, Rep] at h
    obtain ⟨v, r, rfl, rfl, b⟩ := h
    rw [RepL.bls b]; rfl
theorem RepL.strs : ∀ {ns : List Str} {vs : List V}, RepL K io F vs (ns.map D.str) → vs = ns.map V.str
  | [], _, h => by simp only [List.map_nil, RepL] at h; subst h; rfl
  | n :: ns, _, h => by
    simp only [List.map_cons, RepL, Rep] at h
    obtain ⟨v, r, rfl, rfl, b⟩ := h
    rw [RepL.strs b]; rfl
theorem RepL.of_strs : ∀ {ns : List Str}, RepL K io F (ns.map V.str) (ns.map D.str)
  | [] => by simp only [List.map_nil, RepL]
  | n :: ns => .cons (by simp only [Rep]) RepL.of_strs
end

/-! ### the state: F what never changes again, H all that is tracked, io the addresses of the store's cells -/
structure G where
  F : Hp
  H : Hp
  io : List Addr
  S : Sto

def CellRep (K : PySem.W.Frag) (g : G) (p : Addr) : Cell → Prop
  | .lst xs => ∃ vs, g.H p = some (.lst vs) ∧ RepL K g.io g.F vs xs
  | .dic ks => ∃ kvs, g.H p = some (.dK kvs) ∧ RepK K g.io g.F kvs ks
  | .obj c fs => ∃ dx fvs, g.H p = some (.ins (He.ga K (Str.ofString c)) dx fvs) ∧ g.H dx = some (.own p) ∧ RepF K g.io g.F fvs fs

structure Ok (K : PySem.W.Frag) (g : G) : Prop where
  le : Le g.F g.H
  len : g.io.length = g.S.length
  nd : g.io.Nodup
  noown : ∀ a x, g.H a = some (.own x) → a ∉ g.io
  own : ∀ a x, g.H a = some (.own x) → g.H x ≠ none
  iod : ∀ a, a ∈ g.io → g.H a ≠ none
  cell : ∀ (i : Nat) c, g.S[i]? = some (some c) → ∃ p, g.io[i]? = some p ∧ g.F p = none ∧ CellRep K g p c

/-- from E on: what was is there; what may have changed are the store's cells alone -/
structure Post (K : PySem.W.Frag) (E g : G) : Prop where
  ok : Ok K g
  leF : Le E.F g.F
  pre : Pre E.io g.io
  fr : ∀ a u, E.H a = some u → a ∉ E.io → g.H a = some u
  fz : ∀ a u, g.F a = some u → E.F a = some u ∨ E.H a = none ∨ a ∈ E.io
  io : ∀ a, a ∈ g.io → a ∈ E.io ∨ E.H a = none
  dom : ∀ a, E.H a ≠ none → g.H a ≠ none

section
variable {K : PySem.W.Frag} {E g g' g'' : G}
theorem Post.refl (h : Ok K g) : Post K g g := ⟨h, Le.refl _, Pre.refl _, fun _ _ e _ => e, fun _ _ e => .inl e, fun _ e => .inl e, fun _ e => e⟩
theorem Post.trans (a : Post K E g) (b : Post K g g') : Post K E g' where
  ok := b.ok
  leF := a.leF.trans b.leF
  pre := a.pre.trans b.pre
  fr := fun x u h n => b.fr x u (a.fr x u h n) fun m => by
    rcases a.io x m with z | z
    · exact n z
    · rw [z] at h; cases h
  fz := fun x u h => by
    rcases b.fz x u h with z | z | z
    · exact a.fz x u z
    · by_cases hE : E.H x = none
      · exact .inr (.inl hE)
      · exact absurd z (a.dom x hE)
    · rcases a.io x z with y | y
      · exact .inr (.inr y)
      · exact .inr (.inl y)
  io := fun x h => by
    rcases b.io x h with z | z
    · exact a.io x z
    · by_cases hE : E.H x = none
      · exact .inr hE
      · exact absurd z (a.dom x hE)
  dom := fun x h => b.dom x (a.dom x h)
theorem Post.rep (b : Post K g g') {v : V} {d : D} (h : Rep K g.io g.F v d) : Rep K g'.io g'.F v d := Rep.mono b.leF b.pre d h
theorem Post.repL (b : Post K g g') {v : List V} {d : List D} (h : RepL K g.io g.F v d) : RepL K g'.io g'.F v d := RepL.mono b.leF b.pre d h
theorem Post.free (b : Post K g g') {p : Addr} (h : g'.H p = none) : g.H p = none := by
  cases e : g.H p with
  | none => rfl
  | some u => exact absurd h (b.dom p (by rw [e]; simp))
end

/-! ### slots -/
inductive Slot where
  | none | val (d : D) | own (c : Cell)
def Slot.d : Slot → D
  | .none => .non
  | .val d => d
  | .own c => c.d

def slotRep (K : PySem.W.Frag) (g : G) (ov : Option V) : Slot → Prop
  | .none => True
  | .val d => ∃ v, ov = some v ∧ Rep K g.io g.F v d
  | .own c => ∃ p, ov = some (.ref p) ∧ g.F p = Option.none ∧ p ∉ g.io ∧ CellRep K g p c

structure RelS (K : PySem.W.Frag) (g : G) (σ : St) (ρ : List Slot) : Prop where
  ok : Ok K g
  len : σ.length = ρ.length
  slot : ∀ (i : Nat) s, ρ[i]? = some s → slotRep K g (σ[i]?.join) s
  dist : ∀ (i j : Nat) c c' p, ρ[i]? = some (.own c) → ρ[j]? = some (.own c') → σ[i]? = some (some (.ref p)) → σ[j]? = some (some (.ref p)) → i = j

/-- what stands at p is new since E -/
def NewAt (E g : G) (p : Addr) : Prop := E.H p = none ∧ ∀ C dx fs, g.H p = some (.ins C dx fs) → E.H dx = none
/-- in a def's body, from its entry E on -/
structure Rel (K : PySem.W.Frag) (E g : G) (σ : St) (ρ : List Slot) : Prop where
  s : RelS K g σ ρ
  p : Post K E g
  new : ∀ (i : Nat) c p, ρ[i]? = some (.own c) → σ[i]? = some (some (.ref p)) → NewAt E g p

section
variable {K : PySem.W.Frag} {E g g' : G} {σ : St} {ρ : List Slot}
theorem CellRep.post {p : Addr} {c : Cell} (b : Post K g g') (hp : p ∉ g.io) (ok : Ok K g) (h : CellRep K g p c) : CellRep K g' p c := by
  cases c with
  | lst xs =>
    obtain ⟨vs, e, r⟩ := h
    exact ⟨vs, b.fr _ _ e hp, b.repL r⟩
  | dic ks =>
    obtain ⟨vs, e, r⟩ := h
    exact ⟨vs, b.fr _ _ e hp, RepK.mono b.leF b.pre _ r⟩
  | obj c fs =>
    obtain ⟨dx, vs, e, q, r⟩ := h
    exact ⟨dx, vs, b.fr _ _ e hp, b.fr _ _ q (ok.noown _ _ q), RepF.mono b.leF b.pre _ r⟩
theorem CellRep.at_ {p : Addr} {c : Cell} (h : CellRep K g p c) : g.H p ≠ none := by
  cases c with
  | lst xs => obtain ⟨vs, e, r⟩ := h; rw [e]; simp
  | dic ks => obtain ⟨vs, e, r⟩ := h; rw [e]; simp
  | obj c fs => obtain ⟨dx, vs, e, q, r⟩ := h; rw [e]; simp
theorem Post.own {p : Addr} {c : Cell} (b : Post K g g') (ok : Ok K g) (hF : g.F p = none) (hp : p ∉ g.io) (h : CellRep K g p c) : g'.F p = none ∧ p ∉ g'.io ∧ CellRep K g' p c := by
  refine ⟨?_, fun m => ?_, h.post b hp ok⟩
  · cases e : g'.F p with
    | none => rfl
    | some u =>
      rcases b.fz p u e with z | z | z
      · rw [hF] at z; cases z
      · exact absurd z h.at_
      · exact absurd z hp
  · rcases b.io p m with z | z
    · exact hp z
    · exact h.at_ z
theorem RelS.post (h : RelS K g σ ρ) (b : Post K g g') : RelS K g' σ ρ where
  ok := b.ok
  len := h.len
  slot := fun i s e => by
    have q := h.slot i s e
    cases s with
    | none => trivial
    | val d => obtain ⟨v, e1, r⟩ := q; exact ⟨v, e1, b.rep r⟩
    | own c => obtain ⟨p, e1, e2, e3, r⟩ := q; exact ⟨p, e1, b.own h.ok e2 e3 r⟩
  dist := h.dist
theorem NewAt.post {p : Addr} {c : Cell} (n : NewAt E g p) (b : Post K g g') (hp : p ∉ g.io) (h : CellRep K g p c) : NewAt E g' p := by
  refine ⟨n.1, fun C dx fs e => ?_⟩
  cases q : g.H p with
  | none => exact absurd q h.at_
  | some u =>
    have z := b.fr p u q hp
    rw [e] at z; cases z
    exact n.2 C dx fs q
theorem Rel.post (h : Rel K E g σ ρ) (b : Post K g g') : Rel K E g' σ ρ := ⟨h.s.post b, h.p.trans b, fun i c p e1 e2 => by
  obtain ⟨q, f1, f2, f3, f4⟩ := h.s.slot i _ e1
  rw [e2] at f1; cases f1
  exact (h.new i c p e1 e2).post b f3 f4⟩
theorem Rel.ok (h : Rel K E g σ ρ) : Ok K g := h.s.ok

/-- a new object that never changes again -/
def G.frz (g : G) (p : Addr) (o : HO) : G := { g with F := upd g.F p o, H := upd g.H p o }
theorem le_upd {F : Hp} {p : Addr} {o : HO} (h : F p = none) : Le F (upd F p o) := fun a u e => by
  rw [upd_ne (ne_of_none e h)]; exact e
theorem Ok.free (ok : Ok K g) {p : Addr} (hp : g.H p = none) : g.F p = none := by
  cases e : g.F p with
  | none => rfl
  | some u => rw [ok.le _ _ e] at hp; cases hp
theorem Ok.nio (ok : Ok K g) {p : Addr} (hp : g.H p = none) {i : Nat} {c : Cell} (hc : g.S[i]? = some (some c)) : g.io[i]? ≠ some p := fun e => by
  obtain ⟨q, e1, _, r⟩ := ok.cell i c hc
  rw [e] at e1; cases e1
  exact r.at_ hp
end
end FW
end
section
set_option maxHeartbeats 2000000
/-! FW2: results, judgements at the level of plain data, the steps of the state. -/
namespace FW
open PySem L2

structure Exc where
  c : String
  fs : List (String × D)
inductive R (α : Type) where
  | ok (a : α) (S : Sto) | err (e : Exc) (S : Sto) | bad
def R.post {α : Type} (r : R α) (q : α → Sto → Prop) (x : Exc → Sto → Prop) : Prop :=
  match r with
  | .ok a S => q a S
  | .err e S => x e S
  | .bad => False
@[simp] def R.bind {α β : Type} (r : R α) (f : α → Sto → R β) : R β :=
  match r with
  | .ok a S => f a S
  | .err e S => .err e S
  | .bad => .bad
theorem post_bind {α β : Type} {r : R α} {f : α → Sto → R β} {q x} : (r.bind f).post q x = r.post (fun a S => (f a S).post q x) x := by cases r <;> rfl
theorem R.post.imp {α : Type} {r : R α} {q q' : α → Sto → Prop} {x x' : Exc → Sto → Prop} (h : r.post q x) (hq : ∀ a S, r = .ok a S → q a S → q' a S) (hx : ∀ e S, r = .err e S → x e S → x' e S) : r.post q' x' := by
  cases r with
  | ok a S => exact hq a S rfl h
  | err e S => exact hx e S rfl h
  | bad => exact h
abbrev M (α : Type) := List Slot → Sto → R α
def mMap {α β : Type} (f : α → β) (m : M α) : M β := fun ρ S => (m ρ S).bind fun a S' => .ok (f a) S'

def RepX (K : PySem.W.Frag) (g : G) (cls : Value) (dd : Option Addr) (e : Exc) : Prop :=
  cls = .ref (He.ga K (Str.ofString e.c)) ∧ ((e.fs = [] ∧ dd = none) ∨ (e.fs ≠ [] ∧ ∃ dx fvs, dd = some dx ∧ g.F dx = some (.xd fvs) ∧ RepF K g.io g.F fvs e.fs))

/-- a result, new since g if it is its own -/
def OutRep (K : PySem.W.Frag) (g g' : G) (v : V) : Slot → Prop
  | .none => False
  | .val d => Rep K g'.io g'.F v d
  | .own c => ∃ p, v = .ref p ∧ NewAt g g' p ∧ g'.F p = Option.none ∧ p ∉ g'.io ∧ CellRep K g' p c

/-! ### readings against plain data -/
def RV (K : PySem.W.Frag) (t : TE) (W : WX) (m : M D) : Prop := ∀ (g : G) (σ : St) (ρ : List Slot) (Q : VK), RelS K g σ ρ →
  (m ρ g.S).post (fun d S' => ∀ g' v, g'.S = S' → Post K g g' → Rep K g'.io g'.F v d → Q v g'.H) (fun e S' => ∀ g' c dd, g'.S = S' → Post K g g' → RepX K g' c dd e → W c dd σ g'.H) → t σ g.H Q
def RO (K : PySem.W.Frag) (t : TE) (W : WX) (m : M Slot) : Prop := ∀ (g : G) (σ : St) (ρ : List Slot) (Q : VK), RelS K g σ ρ →
  (m ρ g.S).post (fun s S' => ∀ g' v, g'.S = S' → Post K g g' → OutRep K g g' v s → Q v g'.H) (fun e S' => ∀ g' c dd, g'.S = S' → Post K g g' → RepX K g' c dd e → W c dd σ g'.H) → t σ g.H Q
def RT (K : PySem.W.Frag) (t : TT) (W : WX) (m : M Bool) : Prop := ∀ (g : G) (σ : St) (ρ : List Slot) (Q : Bool → Hp → Prop), RelS K g σ ρ →
  (m ρ g.S).post (fun b S' => ∀ g', g'.S = S' → Post K g g' → Q b g'.H) (fun e S' => ∀ g' c dd, g'.S = S' → Post K g g' → RepX K g' c dd e → W c dd σ g'.H) → t σ g.H Q
def RA (K : PySem.W.Frag) (t : TA) (W : WX) (m : M (List D)) : Prop := ∀ (g : G) (σ : St) (ρ : List Slot) (Q : List V → Hp → Prop), RelS K g σ ρ →
  (m ρ g.S).post (fun ds S' => ∀ g' vs, g'.S = S' → Post K g g' → RepL K g'.io g'.F vs ds → Q vs g'.H) (fun e S' => ∀ g' c dd, g'.S = S' → Post K g g' → RepX K g' c dd e → W c dd σ g'.H) → t σ g.H Q

structure DV (X : Cx) (e : Expr) (m : M D) : Prop where
  ex : ∀ W, Takes X W → ∃ t, PE X e t ∧ RV X.K t W m
structure DO (X : Cx) (e : Expr) (m : M Slot) : Prop where
  ex : ∀ W, Takes X W → ∃ t, PE X e t ∧ RO X.K t W m
structure DT (X : Cx) (e : Expr) (m : M Bool) : Prop where
  ex : ∀ W, Takes X W → ∃ t, PT X e t ∧ RT X.K t W m
structure DA (X : Cx) (es : List Expr) (m : M (List D)) : Prop where
  ex : ∀ W, Takes X W → ∃ t, PA X es t ∧ RA X.K t W m
  len : ∀ ρ S ds S', m ρ S = .ok ds S' → ds.length = es.length

section
variable {K : PySem.W.Frag} {E g g' g'' : G} {σ : St} {ρ : List Slot}
/-! ### steps of the state -/
theorem upd_some {H : Hp} {a b : Addr} {o u : HO} (h : upd H a o b = some u) : (b = a ∧ u = o) ∨ (b ≠ a ∧ H b = some u) := by
  by_cases e : b = a
  · subst e; rw [upd_same] at h; cases h; exact .inl ⟨rfl, rfl⟩
  · rw [upd_ne e] at h; exact .inr ⟨e, h⟩
theorem not_own_of {o : HO} (h : ∀ x, o ≠ .own x) {H : Hp} {p a x : Addr} (e : upd H p o a = some (.own x)) : H a = some (.own x) := by
  rcases upd_some e with ⟨_, q⟩ | ⟨_, q⟩
  · exact absurd q.symm (h x)
  · exact q
theorem upd_some_ne {H : Hp} {p x : Addr} {o : HO} (h : H x ≠ none) : upd H p o x ≠ none := by
  unfold upd
  split
  · simp
  · exact h
/-- a new thing that stays as it is -/
theorem Ok.frz (ok : Ok K g) {p : Addr} {o : HO} (hp : g.H p = none) (ho : ∀ x, o ≠ .own x) : Ok K (g.frz p o) where
  le := fun a u e => by
    rcases upd_some e with ⟨rfl, rfl⟩ | ⟨n, e⟩
    · exact upd_same
    · show upd g.H p o a = _
      rw [upd_ne n]; exact ok.le _ _ e
  len := ok.len
  nd := ok.nd
  noown := fun a x e => ok.noown a x (not_own_of ho e)
  own := fun a x e => upd_some_ne (ok.own a x (not_own_of ho e))
  iod := fun a h => by
    show upd g.H p o a ≠ none
    unfold upd
    split
    · simp
    · exact ok.iod a h
  cell := fun i c e => by
    obtain ⟨q, e1, e2, r⟩ := ok.cell i c e
    have n : q ≠ p := fun z => by subst z; exact r.at_ hp
    refine ⟨q, e1, ?_, ?_⟩
    · show upd g.F p o q = none
      rw [upd_ne n]; exact e2
    · have lF : Le g.F (upd g.F p o) := le_upd (ok.free hp)
      cases c with
      | lst xs =>
        obtain ⟨vs, a, b⟩ := r
        exact ⟨vs, (upd_ne n).trans a, RepL.mono lF (Pre.refl _) _ b⟩
      | dic xs =>
        obtain ⟨vs, a, b⟩ := r
        exact ⟨vs, (upd_ne n).trans a, RepK.mono lF (Pre.refl _) _ b⟩
      | obj c fs =>
        obtain ⟨dx, vs, a, a2, b⟩ := r
        exact ⟨dx, vs, (upd_ne n).trans a, (upd_ne (ne_of_none a2 hp)).trans a2, RepF.mono lF (Pre.refl _) _ b⟩
theorem Post.frz (ok : Ok K g) {p : Addr} {o : HO} (hp : g.H p = none) (ho : ∀ x, o ≠ .own x) : Post K g (g.frz p o) where
  ok := ok.frz hp ho
  leF := le_upd (ok.free hp)
  pre := Pre.refl _
  fr := fun a u e _ => (upd_ne (ne_of_none e hp)).trans e
  fz := fun a u e => by
    rcases upd_some e with ⟨rfl, rfl⟩ | ⟨n, e⟩
    · exact .inr (.inl hp)
    · exact .inl e
  io := fun a h => .inl h
  dom := fun a h => by
    show upd g.H p o a ≠ none
    unfold upd
    split
    · simp
    · exact h
/-- a new thing of one's own -/
def G.lay (g : G) (p : Addr) (o : HO) : G := { g with H := upd g.H p o }
theorem Post.lay (ok : Ok K g) {p : Addr} {o : HO} (hp : g.H p = none) (ho : ∀ x, o ≠ .own x) : Post K g (g.lay p o) where
  ok := {
    le := fun a u e => (upd_ne (ne_of_none (ok.le _ _ e) hp)).trans (ok.le _ _ e)
    len := ok.len
    nd := ok.nd
    noown := fun a x e => ok.noown a x (not_own_of ho e)
    own := fun a x e => upd_some_ne (ok.own a x (not_own_of ho e))
    iod := fun a h => by
      show upd g.H p o a ≠ none
      unfold upd
      split
      · simp
      · exact ok.iod a h
    cell := fun i c e => by
      obtain ⟨q, e1, e2, r⟩ := ok.cell i c e
      have n : q ≠ p := fun z => by subst z; exact r.at_ hp
      refine ⟨q, e1, e2, ?_⟩
      cases c with
      | lst xs =>
        obtain ⟨vs, a, b⟩ := r
        exact ⟨vs, (upd_ne n).trans a, b⟩
      | dic xs =>
        obtain ⟨vs, a, b⟩ := r
        exact ⟨vs, (upd_ne n).trans a, b⟩
      | obj c fs =>
        obtain ⟨dx, vs, a, a2, b⟩ := r
        exact ⟨dx, vs, (upd_ne n).trans a, (upd_ne (ne_of_none a2 hp)).trans a2, b⟩ }
  leF := Le.refl _
  pre := Pre.refl _
  fr := fun a u e _ => (upd_ne (ne_of_none e hp)).trans e
  fz := fun a u e => .inl e
  io := fun a h => .inl h
  dom := fun a h => by
    show upd g.H p o a ≠ none
    unfold upd
    split
    · simp
    · exact h
theorem Ok.nio' (ok : Ok K g) {p : Addr} (hp : g.H p = none) : p ∉ g.io := fun h => ok.iod p h hp
/-- one's own thing is given up: it stays as it is from now on -/
theorem OutRep.frz {v : V} {s : Slot} (b : Post K g g') (h : OutRep K g g' v s) : ∃ g'', Post K g g'' ∧ g''.H = g'.H ∧ g''.S = g'.S ∧ Rep K g''.io g''.F v s.d ∧ g''.io = g'.io ∧ Le g'.F g''.F ∧ ∀ a u, g''.F a = some u → g'.F a = some u ∨ v = .ref a ∨ ∃ x, u = .own x := by
  cases s with
  | none => exact h.elim
  | val d => exact ⟨g', b, rfl, rfl, h, rfl, Le.refl _, fun a u e => .inl e⟩
  | own c =>
    obtain ⟨p, rfl, ⟨n1, n2⟩, hF, hio, r⟩ := h
    -- a general lemma: F grows by what is new and stands in H
    have grow : ∀ F' : Hp, Le g'.F F' → Le F' g'.H → (∀ a u, F' a = some u → g'.F a = some u ∨ (g.H a = Option.none ∧ a ∉ g'.io)) → Post K g { g' with F := F' } := fun F' l1 l2 l3 => {
      ok := {
        le := l2, len := b.ok.len, nd := b.ok.nd, noown := b.ok.noown, own := b.ok.own, iod := b.ok.iod
        cell := fun i c e => by
          obtain ⟨q, e1, e2, r⟩ := b.ok.cell i c e
          refine ⟨q, e1, ?_, ?_⟩
          · show F' q = Option.none
            cases z : F' q with
            | none => rfl
            | some u =>
              rcases l3 q u z with y | y
              · rw [e2] at y; cases y
              · exact absurd (List.mem_of_getElem? e1) y.2
          · cases c with
            | lst xs =>
              obtain ⟨vs, a, b⟩ := r
              exact ⟨vs, a, RepL.mono l1 (Pre.refl _) _ b⟩
            | dic xs =>
              obtain ⟨vs, a, b⟩ := r
              exact ⟨vs, a, RepK.mono l1 (Pre.refl _) _ b⟩
            | obj c fs =>
              obtain ⟨dx, vs, a, a2, b⟩ := r
              exact ⟨dx, vs, a, a2, RepF.mono l1 (Pre.refl _) _ b⟩ }
      leF := b.leF.trans l1, pre := b.pre, fr := b.fr
      fz := fun a u e => by
        rcases l3 a u e with y | y
        · exact b.fz a u y
        · exact .inr (.inl y.1)
      io := b.io, dom := b.dom }
    have one : ∀ o : HO, g'.H p = some o → Post K g { g' with F := upd g'.F p o } := fun o e => grow _ (le_upd hF) (fun a u z => by
      rcases upd_some z with ⟨rfl, rfl⟩ | ⟨n, z⟩
      · exact e
      · exact b.ok.le _ _ z) fun a u z => by
      rcases upd_some z with ⟨rfl, rfl⟩ | ⟨n, z⟩
      · exact .inr ⟨n1, hio⟩
      · exact .inl z
    cases c with
    | lst xs =>
      obtain ⟨vs, a, r⟩ := r
      refine ⟨_, one _ a, rfl, rfl, ?_, rfl, le_upd hF, fun x u z => ?_⟩
      · simp only [Slot.d, Cell.d, Rep]
        exact ⟨p, vs, rfl, .inl (.inl upd_same), RepL.mono (le_upd hF) (Pre.refl _) _ r⟩
      · rcases upd_some z with ⟨rfl, _⟩ | ⟨_, z⟩
        · exact .inr (.inl rfl)
        · exact .inl z
    | dic xs =>
      obtain ⟨vs, a, r⟩ := r
      refine ⟨_, one _ a, rfl, rfl, ?_, rfl, le_upd hF, fun x u z => ?_⟩
      · simp only [Slot.d, Cell.d, Rep]
        exact ⟨p, vs, rfl, upd_same, RepK.mono (le_upd hF) (Pre.refl _) _ r⟩
      · rcases upd_some z with ⟨rfl, _⟩ | ⟨_, z⟩
        · exact .inr (.inl rfl)
        · exact .inl z
    | obj c fs =>
      obtain ⟨dx, vs, a, a2, r⟩ := r
      have hdx : g'.F dx = Option.none ∨ g'.F dx = some (.own p) := by
        cases z : g'.F dx with
        | none => exact .inl rfl
        | some u =>
          have y := b.ok.le _ _ z
          rw [a2] at y; cases y
          exact .inr rfl
      have l1 : Le g'.F (upd g'.F dx (.own p)) := fun x u e => by
        by_cases q : x = dx
        · subst q
          rcases hdx with z | z
          · rw [z] at e; cases e
          · rw [z] at e; cases e; exact upd_same
        · rw [upd_ne q]; exact e
      have npd : p ≠ dx := fun q => by subst q; rw [a] at a2; cases a2
      have hF2 : upd g'.F dx (.own p) p = Option.none := by rw [upd_ne npd]; exact hF
      refine ⟨_, grow (upd (upd g'.F dx (.own p)) p (.ins (He.ga K (Str.ofString c)) dx vs)) (l1.trans (le_upd hF2)) (fun x u e => ?_) (fun x u e => ?_), rfl, rfl, ?_, rfl, l1.trans (le_upd hF2), fun x u e => ?_⟩
      · rcases upd_some e with ⟨rfl, rfl⟩ | ⟨n, e⟩
        · exact a
        · rcases upd_some e with ⟨rfl, rfl⟩ | ⟨n, e⟩
          · exact a2
          · exact b.ok.le _ _ e
      · rcases upd_some e with ⟨rfl, rfl⟩ | ⟨n, e⟩
        · exact .inr ⟨n1, hio⟩
        · rcases upd_some e with ⟨rfl, rfl⟩ | ⟨n, e⟩
          · exact .inr ⟨n2 _ _ _ a, b.ok.noown _ _ a2⟩
          · exact .inl e
      · simp only [Slot.d, Cell.d, Rep]
        exact ⟨p, dx, vs, rfl, upd_same, (upd_ne npd.symm).trans upd_same, RepF.mono (l1.trans (le_upd hF2)) (Pre.refl _) _ r⟩
      · rcases upd_some e with ⟨rfl, _⟩ | ⟨_, e⟩
        · exact .inr (.inl rfl)
        · rcases upd_some e with ⟨_, rfl⟩ | ⟨_, e⟩
          · exact .inr (.inr ⟨_, rfl⟩)
          · exact .inl e
end
end FW
end
section
set_option maxHeartbeats 2000000
/-! FW3: expressions. -/
namespace FW
open PySem PySem.Spec PyProof.Rows L2

theorem ofString_inj {a b : String} : Str.ofString a = Str.ofString b ↔ a = b := by
  constructor
  · intro h
    have e : ∀ s : String, (Str.ofString s).cps.toList = s.toList.map Char.toNat := fun s => by
      show (cpsOfBytes 0 0 s.toByteArray.data.toList).toArray.toList = _
      rw [List.toList_toArray, cpsOfBytes_string]
    have h2 : a.toList.map Char.toNat = b.toList.map Char.toNat := by rw [← e, ← e, h]
    have inj : ∀ c d : Char, c.toNat = d.toNat → c = d := fun c d q => by
      apply Char.ext
      exact UInt32.toNat_inj.mp q
    have h3 : a.toList = b.toList := by
      have : ∀ l m : List Char, l.map Char.toNat = m.map Char.toNat → l = m := by
        intro l
        induction l with
        | nil => intro m q; cases m with
          | nil => rfl
          | cons _ _ => simp at q
        | cons x l ih => intro m q; cases m with
          | nil => simp at q
          | cons y m =>
            simp only [List.map_cons, List.cons.injEq] at q
            rw [inj _ _ q.1, ih _ q.2]
      exact this _ _ h2
    exact String.toList_inj.mp h3
  · intro h; rw [h]

section
variable {K : PySem.W.Frag} {E g g' g'' : G} {σ : L2.St} {ρ : List Slot} {W : WX}
theorem OutRep.back {v : V} {s : Slot} (a : Post K g g') (h : OutRep K g' g'' v s) : OutRep K g g'' v s := by
  cases s with
  | none => exact h
  | val d => exact h
  | own c =>
    obtain ⟨p, e, ⟨n1, n2⟩, f⟩ := h
    exact ⟨p, e, ⟨a.free n1, fun C dx fs q => a.free (n2 C dx fs q)⟩, f⟩
/-- the usual: an error goes on out -/
theorem err_on {x : Exc → Sto → Prop} {e : Exc} {S : Sto} {X : G → Value → Option Addr → Prop} (p : Post K g g') (h : ∀ g'' c dd, g''.S = S → Post K g g'' → RepX K g'' c dd e → X g'' c dd) :
    ∀ g'' c dd, g''.S = S → Post K g' g'' → RepX K g'' c dd e → X g'' c dd := fun g'' c dd es p2 r => h g'' c dd es (p.trans p2) r
end

/-! ### bare words -/
section
variable {X : Cx} {e a b c : Expr} {ma mb mc : M D} {pos : Pos}
theorem dv_of {m : M Slot} (h : DO X e m) : DV X e (mMap Slot.d m) := ⟨fun W tk => by
  obtain ⟨t, pe, ro⟩ := h.ex W tk
  refine ⟨t, pe, fun g σ ρ Q rel q => ro g σ ρ Q rel ?_⟩
  unfold mMap at q
  rw [post_bind] at q
  refine q.imp (fun s S _ q g' v es p o => ?_) fun e S _ q => q
  obtain ⟨g'', p2, eH, eS, r, _⟩ := OutRep.frz p o
  have z := q g'' v (eS.trans es) p2 r
  rw [eH] at z; exact z⟩
theorem do_val {m : M D} (h : DV X e m) : DO X e (mMap Slot.val m) := ⟨fun W tk => by
  obtain ⟨t, pe, ro⟩ := h.ex W tk
  refine ⟨t, pe, fun g σ ρ Q rel q => ro g σ ρ Q rel ?_⟩
  unfold mMap at q
  rw [post_bind] at q
  exact q.imp (fun s S _ q g' v es p o => q g' v es p o) fun e S _ q => q⟩

def eVar (i : Nat) : M D := fun ρ S => match ρ[i]? with
  | some (.val d) => .ok d S
  | _ => .bad
def eC {α : Type} (d : α) : M α := fun _ S => .ok d S
theorem dv_pe {t : TE} {m : M D} (pe : PE X e t) (h : ∀ W, RV X.K t W m) : DV X e m := ⟨fun W _ => ⟨t, pe, h W⟩⟩
theorem dv_var {i : Nat} (pe : PE X e (tVar i)) : DV X e (eVar i) := dv_pe pe fun W g σ ρ Q rel h => by
  unfold eVar at h
  cases q : ρ[i]? with
  | none => rw [q] at h; exact h.elim
  | some s =>
    rw [q] at h
    cases s with
    | none => exact h.elim
    | own c => exact h.elim
    | val d =>
      obtain ⟨v, e1, r⟩ := rel.slot i _ q
      have e2 : σ[i]? = some (some v) := by
        cases z : σ[i]? with
        | none => rw [z] at e1; cases e1
        | some o => rw [z] at e1; rw [show o = some v from e1]
      exact ⟨v, e2, h g v rfl (Post.refl rel.ok) r⟩
theorem dv_c {v : V} {d : D} (pe : PE X e (tC v)) (r : ∀ io F, Rep X.K io F v d) : DV X e (eC d) := dv_pe pe fun W g σ ρ Q rel h => h g v rfl (Post.refl rel.ok) (r _ _)
theorem dv_int {i j} : DV X (.Constant (.int i) j pos) (eC (.int i)) := dv_c pe_int fun _ _ => by simp only [Rep]
theorem dv_bl {i j} : DV X (.Constant (.bool i) j pos) (eC (.bl i)) := dv_c pe_bl fun _ _ => by simp only [Rep]
theorem dv_non {j} : DV X (.Constant .none j pos) (eC .non) := dv_c pe_non fun _ _ => by simp only [Rep]
theorem dv_str {x j} : DV X (.Constant (.str x) j pos) (eC (.str x)) := dv_c pe_str fun _ _ => by simp only [Rep]
/-- a module's number, text -/
theorem dv_gint {x : Str} {i : Int} (hg : Gl X x) (hm : ∃ t, X.mg x = some (.int i t)) (hd : (x == ("__debug__" : Str)) = false := by decide) : DV X (.Name x pos) (eC (.int i)) := by
  obtain ⟨t, hm⟩ := hm
  exact dv_c (v := .int i) (pe_glob hg hm ⟨_, rfl⟩ hd) fun _ _ => by simp only [Rep]
theorem dv_gstr {x z : Str} (hg : Gl X x) (hm : ∃ t, X.mg x = some (.str z t)) (hd : (x == ("__debug__" : Str)) = false := by decide) : DV X (.Name x pos) (eC (.str z)) := by
  obtain ⟨t, hm⟩ := hm
  exact dv_c (v := .str z) (pe_glob hg hm ⟨_, rfl⟩ hd) fun _ _ => by simp only [Rep]

/-! ### operations of two values -/
def ROp (K : PySem.W.Frag) (r : R2) (f : Sto → D → D → Option Slot) : Prop := ∀ (g : G) (x y : V) (dx dy : D) (s : Slot) (Q : VK), Ok K g → Rep K g.io g.F x dx → Rep K g.io g.F y dy → f g.S dx dy = some s →
  (∀ g' v, g'.S = g.S → Post K g g' → OutRep K g g' v s → Q v g'.H) → r x y g.H Q
def lift2 (f : Sto → D → D → Option Slot) (S : Sto) (x y : D) : R Slot := match f S x y with
  | some s => .ok s S
  | none => .bad
def mBin (f : Sto → D → D → Option Slot) (a b : M D) : M Slot := fun ρ S => (a ρ S).bind fun x S1 => (b ρ S1).bind fun y S2 => lift2 f S2 x y
theorem ro_op {r : R2} {f : Sto → D → D → Option Slot} {ta tb : TE} {W : WX} (hr : ROp X.K r f) (ra : RV X.K ta W ma) (rb : RV X.K tb W mb) : RO X.K (tOp r ta tb) W (mBin f ma mb) := fun g σ ρ Q rel h => by
  unfold mBin at h
  rw [post_bind] at h
  refine ra g σ ρ _ rel (h.imp (fun dx S1 e1 h1 g1 x es p1 r1 => ?_) fun e S1 _ h1 => h1)
  subst es
  rw [post_bind] at h1
  refine rb g1 σ ρ _ (rel.post p1) (h1.imp (fun dy S2 e2 h2 g2 y es2 p2 r2 => ?_) fun e S2 _ h2 => err_on (x := fun _ _ => True) p1 h2)
  subst es2
  unfold lift2 at h2
  cases q : f g2.S dx dy with
  | none => rw [q] at h2; exact h2.elim
  | some s =>
    rw [q] at h2
    exact hr g2 x y dx dy s _ p2.ok (p2.rep r1) r2 q fun g3 v es p3 o => h2 g3 v es ((p1.trans p2).trans p3) (o.back (p1.trans p2))
theorem do_bin {op : Operator} {r : R2} {f : Sto → D → D → Option Slot} (ho : OpR X (binaryOp op) r) (hr : ROp X.K r f) (ha : DV X a ma) (hb : DV X b mb) : DO X (.BinOp a op b pos) (mBin f ma mb) := ⟨fun W tk => by
  obtain ⟨ta, pa, ra⟩ := ha.ex W tk
  obtain ⟨tb, pb, rb⟩ := hb.ex W tk
  exact ⟨_, pe_op ho pa pb, ro_op hr ra rb⟩⟩
theorem do_ix {r : R2} {f : Sto → D → D → Option Slot} (ho : IxR X r) (hr : ROp X.K r f) (hs : PlainIx b) (ha : DV X a ma) (hb : DV X b mb) : DO X (.Subscript a b pos) (mBin f ma mb) := ⟨fun W tk => by
  obtain ⟨ta, pa, ra⟩ := ha.ex W tk
  obtain ⟨tb, pb, rb⟩ := hb.ex W tk
  exact ⟨_, pe_ix ho pa pb hs, ro_op hr ra rb⟩⟩

/-- a thing as it stands: a cell of the store is looked up -/
def lookD (S : Sto) : D → D
  | .ref i => match S[i]? with
    | some (some c) => c.d
    | _ => .ref i
  | d => d
section
variable {K : PySem.W.Frag} {g : G} {v : V} {d : D}
theorem look_lst {ds : List D} (ok : Ok K g) (r : Rep K g.io g.F v d) (e : lookD g.S d = .lst ds) : ∃ p vs, v = .ref p ∧ SqL K g.H p vs ∧ RepL K g.io g.F vs ds := by
  cases d with
  | lst xs =>
    simp only [lookD, D.lst.injEq] at e; subst e
    simp only [Rep] at r
    obtain ⟨p, vs, e1, e2, e3⟩ := r
    exact ⟨p, vs, e1, FW.SqL.mono ok.le e2, e3⟩
  | ref i =>
    simp only [lookD] at e
    simp only [Rep] at r
    obtain ⟨p, e1, e2⟩ := r
    cases q : g.S[i]? with
    | none => rw [q] at e; cases e
    | some o =>
      rw [q] at e
      cases o with
      | none => cases e
      | some c =>
        obtain ⟨p', f1, f2, f3⟩ := ok.cell i c q
        rw [e1] at f1; cases f1
        cases c with
        | lst xs =>
          simp only [Cell.d, D.lst.injEq] at e; subst e
          obtain ⟨vs, a, b⟩ := f3
          exact ⟨p, vs, e2, .inl (.inl a), b⟩
        | dic xs => cases e
        | obj c fs => cases e
  | _ => simp [lookD] at e
theorem look_tup {ds : List D} (ok : Ok K g) (r : Rep K g.io g.F v d) (e : lookD g.S d = .tup ds) : ∃ p vs, v = .ref p ∧ g.F p = some (.tup vs) ∧ RepL K g.io g.F vs ds := by
  cases d with
  | tup xs =>
    simp only [lookD, D.tup.injEq] at e; subst e
    simp only [Rep] at r
    exact r
  | ref i =>
    simp only [lookD] at e
    split at e
    · rename_i c q
      cases c <;> cases e
    · cases e
  | _ => simp [lookD] at e
theorem look_dic {ds : List (Key × D)} (ok : Ok K g) (r : Rep K g.io g.F v d) (e : lookD g.S d = .dic ds) : ∃ p vs, v = .ref p ∧ g.H p = some (.dK vs) ∧ RepK K g.io g.F vs ds := by
  cases d with
  | dic xs =>
    simp only [lookD, D.dic.injEq] at e; subst e
    simp only [Rep] at r
    obtain ⟨p, vs, e1, e2, e3⟩ := r
    exact ⟨p, vs, e1, ok.le _ _ e2, e3⟩
  | ref i =>
    simp only [lookD] at e
    simp only [Rep] at r
    obtain ⟨p, e1, e2⟩ := r
    cases q : g.S[i]? with
    | none => rw [q] at e; cases e
    | some o =>
      rw [q] at e
      cases o with
      | none => cases e
      | some c =>
        obtain ⟨p', f1, f2, f3⟩ := ok.cell i c q
        rw [e1] at f1; cases f1
        cases c with
        | dic xs =>
          simp only [Cell.d, D.dic.injEq] at e; subst e
          obtain ⟨vs, a, b⟩ := f3
          exact ⟨p, vs, e2, a, b⟩
        | lst xs => cases e
        | obj c fs => cases e
  | _ => simp [lookD] at e
/-- a new list of one's own -/
theorem out_lst {vs : List V} {ds : List D} {p : Addr} (ok : Ok K g) (hp : g.H p = none) (r : RepL K g.io g.F vs ds) : Post K g (g.lay p (.lst vs)) ∧ OutRep K g (g.lay p (.lst vs)) (.ref p) (.own (.lst ds)) :=
  ⟨Post.lay ok hp (fun _ z => by cases z), p, rfl, ⟨hp, fun C dx fs z => by rw [show (g.lay p (.lst vs)).H p = some (.lst vs) from upd_same] at z; cases z⟩, ok.free hp, ok.nio' hp, vs, upd_same, r⟩
theorem out_dic {vs : List (Key × V)} {ds : List (Key × D)} {p : Addr} (ok : Ok K g) (hp : g.H p = none) (r : RepK K g.io g.F vs ds) : Post K g (g.lay p (.dK vs)) ∧ OutRep K g (g.lay p (.dK vs)) (.ref p) (.own (.dic ds)) :=
  ⟨Post.lay ok hp (fun _ z => by cases z), p, rfl, ⟨hp, fun C dx fs z => by rw [show (g.lay p (.dK vs)).H p = some (.dK vs) from upd_same] at z; cases z⟩, ok.free hp, ok.nio' hp, vs, upd_same, r⟩
theorem out_tup {vs : List V} {ds : List D} {p : Addr} (ok : Ok K g) (hp : g.H p = none) (r : RepL K g.io g.F vs ds) : Post K g (g.frz p (.tup vs)) ∧ Rep K (g.frz p (.tup vs)).io (g.frz p (.tup vs)).F (.ref p) (.tup ds) := by
  have q := Post.frz ok hp (o := .tup vs) (fun _ z => by cases z)
  refine ⟨q, ?_⟩
  simp only [Rep]
  exact ⟨p, vs, rfl, upd_same, q.repL r⟩
end
theorem lim_ok {n : Nat} (h : n ≤ 1000000) : n ≤ sizeLine := Nat.le_trans h (by rw [sizeLine_eq]; decide)

/-- list + list, whatever stands there -/
def rCatR (K : PySem.W.Frag) : R2 := fun x y H Q => ∃ l b xs zs, x = .ref l ∧ y = .ref b ∧ SqL K H l xs ∧ SqL K H b zs ∧ xs.length + zs.length ≤ sizeLine ∧ ∀ p, H p = none → Q (.ref p) (upd H p (.lst (xs ++ zs)))
theorem op_catR : OpR X (binaryOp .Add) (rCatR X.K) := fun pins s σ H x y v u Q I rx ry ⟨l, b, xs, zs, ex, ey, front, back, fits, then_⟩ => by
  subst ex ey
  obtain rfl : v = .ref l := rx
  obtain rfl : u = .ref b := ry
  obtain ⟨its, ri, ⟨⟨cls, dd, data, sl⟩, n, at1, c1, d1, s1⟩, _⟩ := I.list front
  obtain ⟨its2, ri2, ⟨⟨cls2, dd2, data2, sl2⟩, n2, at2, c2, d2, s2⟩, _⟩ := I.list back
  have n1 := ri.length
  have n2' := ri2.length
  simp only at c1 d1 s1 c2 d2 s2
  subst c1 d1 s1 c2 d2 s2
  have made := I.lnew (t' := s.toks) (ri.append ri2) (by rw [List.length_append]; omega)
  refine concat_meets ⟨_, at1, rfl⟩ ⟨_, at2, rfl⟩ noFill_list_add seq_list_add PySem.F.slot_list_add PySem.F.entry_list_add (PySem.F.args_list_add_2 _ _)
    (list_addW l b its.toArray its2.toArray n n2 none none sl sl2 (by simp only [List.size_toArray]; omega)) ⟨at1, at2, ?_⟩
  rw [List.append_toArray]
  exact ⟨V.ref s.heap.objs.size, _, made, rfl, then_ _ I.fresh⟩

def opAdd (S : Sto) (x y : D) : Option Slot := match lookD S x, lookD S y with
  | .int i, .int j => some (.val (.int (i + j)))
  | .str a, .str b => if a.length + b.length ≤ 1000000 then some (.val (.str (a ++ b))) else none
  | .lst a, .lst b => if a.length + b.length ≤ 1000000 then some (.own (.lst (a ++ b))) else none
  | .tup a, .tup b => if a.length + b.length ≤ 1000000 ∧ a.length ≠ 0 ∧ b.length ≠ 0 then some (.val (.tup (a ++ b))) else none
  | _, _ => none
abbrev rStrAdd : R2 := fun x y H Q => ∃ i j, x = .str i ∧ y = .str j ∧ i.length + j.length ≤ sizeLine ∧ Q (.str (i ++ j)) H
abbrev rAddAll (K : PySem.W.Frag) : R2 := fun x y H Q => (rI0 (fun i j => .int (i + j))) x y H Q ∨ rStrAdd x y H Q ∨ rCatR K x y H Q ∨ rCatT K x y H Q
theorem op_addAll : OpR X (binaryOp .Add) (rAddAll X.K) := op_add.or (op_add_str.or (op_catR.or op_catT))
theorem look_int {S : Sto} {d : D} {i : Int} (e : lookD S d = .int i) : d = .int i := by
  cases d with
  | ref j =>
    simp only [lookD] at e
    split at e
    · rename_i c q; cases c <;> cases e
    · cases e
  | _ => simpa [lookD] using e
theorem look_str {S : Sto} {d : D} {i : Str} (e : lookD S d = .str i) : d = .str i := by
  cases d with
  | ref j =>
    simp only [lookD] at e
    split at e
    · rename_i c q; cases c <;> cases e
    · cases e
  | _ => simpa [lookD] using e
theorem look_bl {S : Sto} {d : D} {i : Bool} (e : lookD S d = .bl i) : d = .bl i := by
  cases d with
  | ref j =>
    simp only [lookD] at e
    split at e
    · rename_i c q; cases c <;> cases e
    · cases e
  | _ => simpa [lookD] using e
theorem r_add : ROp X.K (rAddAll X.K) opAdd := by
  intro g x y dx dy s Q ok rx ry e h
  unfold opAdd at e
  split at e
  · rename_i i j e1 e2
    have := look_int e1; subst this
    have := look_int e2; subst this
    simp only [Rep] at rx ry
    cases e
    exact .inl ⟨i, j, rx, ry, h g _ rfl (Post.refl ok) (by simp only [OutRep, Rep])⟩
  · rename_i i j e1 e2
    have := look_str e1; subst this
    have := look_str e2; subst this
    simp only [Rep] at rx ry
    split at e
    · rename_i hz
      cases e
      exact .inr (.inl ⟨i, j, rx, ry, lim_ok hz, h g _ rfl (Post.refl ok) (by simp only [OutRep, Rep])⟩)
    · cases e
  · rename_i a b e1 e2
    obtain ⟨p, vs, rfl, hp, r1⟩ := look_lst ok rx e1
    obtain ⟨q, us, rfl, hq, r2⟩ := look_lst ok ry e2
    split at e
    · rename_i hz
      cases e
      refine .inr (.inr (.inl ⟨p, q, vs, us, rfl, rfl, hp, hq, by rw [r1.length, r2.length]; exact lim_ok hz, fun l hl => ?_⟩))
      obtain ⟨p1, o⟩ := out_lst ok hl (r1.append r2)
      exact h (G.lay g l _) _ rfl p1 o
    · cases e
  · rename_i a b e1 e2
    obtain ⟨p, vs, rfl, hp, r1⟩ := look_tup ok rx e1
    obtain ⟨q, us, rfl, hq, r2⟩ := look_tup ok ry e2
    split at e
    · rename_i hz
      cases e
      have l1 := r1.length
      have l2 := r2.length
      refine .inr (.inr (.inr ⟨p, q, vs, us, rfl, rfl, SqT.of (ok.le _ _ hp), SqT.of (ok.le _ _ hq), fun z => by subst z; exact hz.2.1 (by simpa using l1.symm), by rw [r1.length, r2.length]; exact lim_ok hz.1, ?_, ?_⟩))
      · intro z
        subst z
        exact absurd (by simpa using l2.symm) hz.2.2
      · intro _ l hl
        obtain ⟨p1, o⟩ := out_tup ok hl (r1.append r2)
        exact h (G.frz g l _) _ rfl p1 o
    · cases e
  · cases e
end
end FW
end
section
set_option maxHeartbeats 2000000
/-! FW4: further expressions. -/
namespace FW
open PySem PySem.Spec PyProof.Rows L2
section
variable {X : Cx} {e a b c : Expr} {ma mb mc : M D} {pos : Pos} {K : PySem.W.Frag}

/-! ### numbers -/
def opI2 (f : Int → Int → Option Int) (S : Sto) (x y : D) : Option Slot := match x, y with
  | .int i, .int j => (f i j).map fun k => .val (.int k)
  | _, _ => none
theorem r_i2 {C : Int → Int → Prop} {h : Int → Int → Int} {f : Int → Int → Option Int} (hf : ∀ i j k, f i j = some k → C i j ∧ h i j = k) : ROp K (rI C fun i j => .int (h i j)) (opI2 f) := by
  intro g x y dx dy s Q ok rx ry e q
  unfold opI2 at e
  split at e
  · rename_i i j
    simp only [Rep] at rx ry
    cases z : f i j with
    | none => rw [z] at e; cases e
    | some k =>
      rw [z] at e
      cases e
      obtain ⟨c, rfl⟩ := hf i j k z
      exact ⟨i, j, rx, ry, c, q g _ rfl (Post.refl ok) (by simp only [OutRep, Rep])⟩
  · cases e
def opSub : Sto → D → D → Option Slot := opI2 fun i j => some (i - j)
def big : Int := 2 ^ 600
def fMul (i j : Int) : Option Int := if -(2 ^ 600) < i ∧ i < 2 ^ 600 ∧ -(2 ^ 600) < j ∧ j < 2 ^ 600 then some (i * j) else none
def fDiv (i j : Int) : Option Int := if 0 < j ∧ j < 2 ^ 600 then some (i / j) else none
def fMod (i j : Int) : Option Int := if 0 < j then some (i % j) else none
def fPow (i j : Int) : Option Int := if 0 ≤ j ∧ j ≤ 100 ∧ 0 ≤ i ∧ i ≤ 1000 then some (i ^ j.toNat) else none
abbrev rSubI : R2 := rI0 fun i j => .int (i - j)
theorem rI0_of {g : Int → Int → V} {x y : V} {H : Hp} {Q : VK} (h : rI (fun _ _ => True) g x y H Q) : rI0 g x y H Q := by
  obtain ⟨i, j, a, b, _, q⟩ := h; exact ⟨i, j, a, b, q⟩
theorem r_sub : ROp K rSubI opSub := fun g x y dx dy s Q ok rx ry e q => rI0_of (r_i2 (K := K) (C := fun _ _ => True) (h := fun i j => i - j) (f := fun i j => some (i - j)) (fun i j k z => ⟨trivial, by simpa using z⟩) g x y dx dy s Q ok rx ry e q)
theorem nat_lt_of_int {i : Int} {n : Nat} (h1 : -(2 ^ n) < i) (h2 : i < 2 ^ n) : i.natAbs < 2 ^ n := by
  have e : ((2 ^ n : Nat) : Int) = 2 ^ n := by simp
  have e1 : -((2 ^ n : Nat) : Int) < i := by rw [e]; exact h1
  have e2 : i < ((2 ^ n : Nat) : Int) := by rw [e]; exact h2
  omega
theorem r_mul : ROp K (rI CMulW fun i j => .int (i * j)) (opI2 fMul) := r_i2 fun i j k z => by
  unfold fMul at z
  split at z
  · rename_i h
    obtain ⟨h1, h2, h3, h4⟩ := h
    exact ⟨wide_mul (nat_lt_of_int h1 h2) (nat_lt_of_int h3 h4) (by decide) (by decide) (by decide), by simpa using z⟩
  · cases z
theorem r_div : ROp K (rI CDivW fun i j => .int (i / j)) (opI2 fDiv) := r_i2 fun i j k z => by
  unfold fDiv at z
  split at z
  · rename_i h
    obtain ⟨h1, h2⟩ := h
    have h0 : -(2 ^ 600 : Int) < j := Int.lt_trans (by decide) h1
    exact ⟨wide_div h1 (nat_lt_of_int h0 h2) (by decide) (by decide), by simpa using z⟩
  · cases z
theorem r_mod : ROp K (rI (fun _ j => 0 < j) fun i j => .int (i % j)) (opI2 fMod) := r_i2 fun i j k z => by
  unfold fMod at z
  split at z
  · rename_i h
    exact ⟨h, by simpa using z⟩
  · cases z
theorem r_pow : ROp K (rI CPow fun i j => .int (i ^ j.toNat)) (opI2 fPow) := r_i2 fun i j k z => by
  unfold fPow at z
  split at z
  · rename_i h
    obtain ⟨h1, h2, h3, h4⟩ := h
    exact ⟨⟨h1, by omega, by omega⟩, by simpa using z⟩
  · cases z
def mUn (f : D → Option D) (a : M D) : M D := fun ρ S => (a ρ S).bind fun x S1 => match f x with
  | some d => .ok d S1
  | none => .bad
def fNeg : D → Option D
  | .int i => some (.int (-i))
  | _ => none
theorem dv_neg (ha : DV X a ma) : DV X (.UnaryOp .USub a pos) (mUn fNeg ma) := ⟨fun W tk => by
  obtain ⟨ta, pa, ra⟩ := ha.ex W tk
  refine ⟨_, pe_un un_neg pa, fun g σ ρ Q rel h => ?_⟩
  unfold mUn at h
  rw [post_bind] at h
  refine ra g σ ρ _ rel (h.imp (fun dx S1 e1 h1 g1 x es p1 r1 => ?_) fun e S1 _ h1 => h1)
  subst es
  cases dx <;> simp only [fNeg] at h1 <;> first | exact h1.elim | skip
  simp only [Rep] at r1
  exact ⟨_, r1, h1 g1 _ rfl p1 (by simp only [Rep])⟩⟩

/-! ### comparisons -/
def RCmp (K : PySem.W.Frag) (r : R2) (f : Sto → D → D → Option Bool) : Prop := ∀ (g : G) (x y : V) (dx dy : D) (b : Bool) (Q : VK), Ok K g → Rep K g.io g.F x dx → Rep K g.io g.F y dy → f g.S dx dy = some b → Q (.bl b) g.H → r x y g.H Q
def liftB (f : Sto → D → D → Option Bool) (S : Sto) (x y : D) : R Bool := match f S x y with
  | some s => .ok s S
  | none => .bad
def mCmp (f : Sto → D → D → Option Bool) (a b : M D) : M Bool := fun ρ S => (a ρ S).bind fun x S1 => (b ρ S1).bind fun y S2 => liftB f S2 x y
theorem ro_cmp {r : R2} {f : Sto → D → D → Option Bool} {ta tb : TE} {W : WX} (hr : RCmp X.K r f) (ra : RV X.K ta W ma) (rb : RV X.K tb W mb) (g : G) (σ : L2.St) (ρ : List Slot) (Q : VK) (rel : RelS X.K g σ ρ)
    (h : (mCmp f ma mb ρ g.S).post (fun d S' => ∀ g', g'.S = S' → Post X.K g g' → Q (.bl d) g'.H) (fun e S' => ∀ g' c dd, g'.S = S' → Post X.K g g' → RepX X.K g' c dd e → W c dd σ g'.H)) : tOp r ta tb σ g.H Q := by
  unfold mCmp at h
  rw [post_bind] at h
  refine ra g σ ρ _ rel (h.imp (fun dx S1 e1 h1 g1 x es p1 r1 => ?_) fun e S1 _ h1 => h1)
  subst es
  rw [post_bind] at h1
  refine rb g1 σ ρ _ (rel.post p1) (h1.imp (fun dy S2 e2 h2 g2 y es2 p2 r2 => ?_) fun e S2 _ h2 => err_on (x := fun _ _ => True) p1 h2)
  subst es2
  unfold liftB at h2
  cases q : f g2.S dx dy with
  | none => rw [q] at h2; exact h2.elim
  | some s =>
    rw [q] at h2
    exact hr g2 x y dx dy s _ p2.ok (p2.rep r1) r2 q (h2 g2 rfl (p1.trans p2))
theorem dt_cmp {op : CmpOp} {r : R2} {f : Sto → D → D → Option Bool} (ho : OpR X (compareOp op) r) (hr : RCmp X.K r f) (ha : DV X a ma) (hb : DV X b mb) (hm : behindInMarks op b = false) : DT X (.Compare a [op] [b] pos) (mCmp f ma mb) := ⟨fun W tk => by
  obtain ⟨ta, pa, ra⟩ := ha.ex W tk
  obtain ⟨tb, pb, rb⟩ := hb.ex W tk
  exact ⟨_, pt_cmpR ho pa pb hm, fun g σ ρ Q rel h => ro_cmp hr ra rb g σ ρ _ rel (h.imp (fun b S _ q g' es p => ⟨b, rfl, q g' es p⟩) fun e S _ q => q)⟩⟩
theorem dv_cmp {op : CmpOp} {r : R2} {f : Sto → D → D → Option Bool} (ho : OpR X (compareOp op) r) (hr : RCmp X.K r f) (ha : DV X a ma) (hb : DV X b mb) (hm : behindInMarks op b = false) : DV X (.Compare a [op] [b] pos) (mMap D.bl (mCmp f ma mb)) := ⟨fun W tk => by
  obtain ⟨ta, pa, ra⟩ := ha.ex W tk
  obtain ⟨tb, pb, rb⟩ := hb.ex W tk
  refine ⟨_, pe_cmpR ho pa pb hm, fun g σ ρ Q rel h => ro_cmp hr ra rb g σ ρ _ rel ?_⟩
  unfold mMap at h
  rw [post_bind] at h
  exact h.imp (fun b S _ q g' es p => q g' _ es p (by simp only [Rep])) fun e S _ q => q⟩
/-- a op1 b op2 c -/
def mChain (f f' : Sto → D → D → Option Bool) (a b c : M D) : M Bool := fun ρ S => (a ρ S).bind fun x S1 => (b ρ S1).bind fun y S2 => match f S2 x y with
  | some true => (c ρ S2).bind fun z S3 => liftB f' S3 y z
  | some false => .ok false S2
  | none => .bad
theorem ro_chain {r r' : R2} {f f' : Sto → D → D → Option Bool} {ta tb tc : TE} {W : WX} (hr : RCmp X.K r f) (hr' : RCmp X.K r' f') (ra : RV X.K ta W ma) (rb : RV X.K tb W mb) (rc : RV X.K tc W mc) (g : G) (σ : L2.St) (ρ : List Slot) (Q : VK) (rel : RelS X.K g σ ρ)
    (h : (mChain f f' ma mb mc ρ g.S).post (fun d S' => ∀ g', g'.S = S' → Post X.K g g' → Q (.bl d) g'.H) (fun e S' => ∀ g' c dd, g'.S = S' → Post X.K g g' → RepX X.K g' c dd e → W c dd σ g'.H)) : tChain r r' ta tb tc σ g.H Q := by
  unfold mChain at h
  rw [post_bind] at h
  refine ra g σ ρ _ rel (h.imp (fun dx S1 e1 h1 g1 x es p1 r1 => ?_) fun e S1 _ h1 => h1)
  subst es
  rw [post_bind] at h1
  refine rb g1 σ ρ _ (rel.post p1) (h1.imp (fun dy S2 e2 h2 g2 y es2 p2 r2 => ?_) fun e S2 _ h2 => err_on (x := fun _ _ => True) p1 h2)
  subst es2
  split at h2
  · rename_i q
    refine hr g2 x y dx dy true _ p2.ok (p2.rep r1) r2 q ⟨true, rfl, ?_⟩
    rw [if_pos rfl]
    rw [post_bind] at h2
    refine rc g2 σ ρ _ ((rel.post p1).post p2) (h2.imp (fun dz S3 e3 h3 g3 z es3 p3 r3 => ?_) fun e S2 _ h2 => err_on (x := fun _ _ => True) (p1.trans p2) h2)
    subst es3
    unfold liftB at h3
    cases q' : f' g3.S dy dz with
    | none => rw [q'] at h3; exact h3.elim
    | some s =>
      rw [q'] at h3
      exact hr' g3 y z dy dz s _ p3.ok (p3.rep r2) r3 q' (h3 g3 rfl ((p1.trans p2).trans p3))
  · rename_i q
    refine hr g2 x y dx dy false _ p2.ok (p2.rep r1) r2 q ⟨false, rfl, ?_⟩
    rw [if_neg Bool.false_ne_true]
    exact h2 g2 rfl (p1.trans p2)
  · exact h2.elim
theorem dt_chain {op op' : CmpOp} {r r' : R2} {f f' : Sto → D → D → Option Bool} (ho : OpR X (compareOp op) r) (ho' : OpR X (compareOp op') r') (hr : RCmp X.K r f) (hr' : RCmp X.K r' f') (ha : DV X a ma) (hb : DV X b mb) (hc : DV X c mc)
    (hm : lastMarks [op, op'] [b, c] = false) : DT X (.Compare a [op, op'] [b, c] pos) (mChain f f' ma mb mc) := ⟨fun W tk => by
  obtain ⟨ta, pa, ra⟩ := ha.ex W tk
  obtain ⟨tb, pb, rb⟩ := hb.ex W tk
  obtain ⟨tc, pc, rc⟩ := hc.ex W tk
  exact ⟨_, pt_chain ho ho' pa pb pc hm, fun g σ ρ Q rel h => ro_chain hr hr' ra rb rc g σ ρ _ rel (h.imp (fun b S _ q g' es p => ⟨b, rfl, q g' es p⟩) fun e S _ q => q)⟩⟩
theorem dv_chain {op op' : CmpOp} {r r' : R2} {f f' : Sto → D → D → Option Bool} (ho : OpR X (compareOp op) r) (ho' : OpR X (compareOp op') r') (hr : RCmp X.K r f) (hr' : RCmp X.K r' f') (ha : DV X a ma) (hb : DV X b mb) (hc : DV X c mc)
    (hm : lastMarks [op, op'] [b, c] = false) : DV X (.Compare a [op, op'] [b, c] pos) (mMap D.bl (mChain f f' ma mb mc)) := ⟨fun W tk => by
  obtain ⟨ta, pa, ra⟩ := ha.ex W tk
  obtain ⟨tb, pb, rb⟩ := hb.ex W tk
  obtain ⟨tc, pc, rc⟩ := hc.ex W tk
  refine ⟨_, pe_chain ho ho' pa pb pc hm, fun g σ ρ Q rel h => ro_chain hr hr' ra rb rc g σ ρ _ rel ?_⟩
  unfold mMap at h
  rw [post_bind] at h
  exact h.imp (fun b S _ q g' es p => q g' _ es p (by simp only [Rep])) fun e S _ q => q⟩
def cI (p : Int → Int → Bool) (S : Sto) (x y : D) : Option Bool := match x, y with
  | .int i, .int j => some (p i j)
  | _, _ => none
theorem r_cI {p : Int → Int → Bool} : RCmp K (rI0 fun i j => .bl (p i j)) (cI p) := by
  intro g x y dx dy s Q ok rx ry e q
  unfold cI at e
  split at e
  · rename_i i j
    simp only [Rep] at rx ry
    cases e
    exact ⟨i, j, rx, ry, q⟩
  · cases e
def cLt : Sto → D → D → Option Bool := cI fun i j => decide (i < j)
def cLe : Sto → D → D → Option Bool := cI fun i j => decide (i ≤ j)
def cGt : Sto → D → D → Option Bool := cI fun i j => decide (j < i)
def cGe : Sto → D → D → Option Bool := cI fun i j => decide (j ≤ i)
def cIsN (S : Sto) (x y : D) : Option Bool := match y with
  | .non => match x with
    | .non => some true
    | .ref _ => some false
    | .lst _ => some false
    | .tup _ => some false
    | .dic _ => some false
    | .obj _ _ => some false
    | .exc _ _ => some false
    | .cls _ => some false
    | _ => some false
  | _ => none
abbrev rIsN : R2 := fun x y H Q => y = .non ∧ Q (.bl (decide (x = .non))) H
abbrev rIsNN : R2 := fun x y H Q => y = .non ∧ Q (.bl (!decide (x = .non))) H
theorem isN_rep {g : G} {x : V} {d : D} (r : Rep K g.io g.F x d) : (match d with | .non => true | _ => false) = decide (x = .non) := by
  cases d <;> simp only [Rep] at r
  all_goals first
    | (subst r; simp)
    | (obtain ⟨p, vs, rfl, _⟩ := r; simp)
    | (obtain ⟨p, d, vs, rfl, _⟩ := r; simp)
    | (obtain ⟨p, e, rfl⟩ := r; simp)
theorem r_isN : RCmp K rIsN cIsN := by
  intro g x y dx dy s Q ok rx ry e q
  have z := isN_rep rx
  cases dy <;> simp only [cIsN] at e <;> first | cases e | skip
  simp only [Rep] at ry
  refine ⟨ry, ?_⟩
  rw [← z]
  cases dx <;> simp only [Option.some.injEq] at e <;> (subst e; exact q)
def cIsNN (S : Sto) (x y : D) : Option Bool := (cIsN S x y).map not
theorem r_isNN : RCmp K rIsNN cIsNN := by
  intro g x y dx dy s Q ok rx ry e q
  have z := isN_rep rx
  unfold cIsNN at e
  cases dy <;> simp only [cIsN, Option.map_none] at e <;> first | cases e | skip
  simp only [Rep] at ry
  refine ⟨ry, ?_⟩
  rw [← z]
  cases dx <;> simp only [Option.map_some, Option.some.injEq, Bool.not_true, Bool.not_false] at e <;> (subst e; exact q)
end
end FW
end
section
set_option maxHeartbeats 2000000
/-! FW5: tests, and, or, not, displays, subscripts, ==. -/
namespace FW
open PySem PySem.Spec PyProof.Rows L2
section
variable {X : Cx} {e a b c : Expr} {ma mb mc : M D} {pos : Pos} {K : PySem.W.Frag} {rest : List Expr}

/-! ### truth -/
def truD (S : Sto) (d : D) : Option Bool := match lookD S d with
  | .non => some false
  | .bl b => some b
  | .int i => some (i != 0)
  | .str s => if s.length ≤ 1000000 then some ((s.length : Int) != 0) else none
  | .lst xs => some !xs.isEmpty
  | .tup xs => some !xs.isEmpty
  | .dic xs => some !xs.isEmpty
  | _ => none
theorem look_non {S : Sto} {d : D} (e : lookD S d = .non) : d = .non := by
  cases d with
  | ref j =>
    simp only [lookD] at e
    split at e
    · rename_i c q; cases c <;> cases e
    · cases e
  | _ => simpa [lookD] using e
theorem RepL.isEmpty {io F} {vs : List V} {ds : List D} (r : RepL K io F vs ds) : vs.isEmpty = ds.isEmpty := by
  have := r.length
  cases vs <;> cases ds <;> simp at this <;> rfl
theorem RepK.length : ∀ {io F} {ds : List (Key × D)} {vs : List (Key × V)}, RepK K io F vs ds → vs.length = ds.length
  | _, _, [], _, h => by simp only [RepK] at h; subst h; rfl
  | _, _, (k, d) :: ds, _, h => by
    simp only [RepK] at h
    obtain ⟨v, r, rfl, a, b⟩ := h
    simp only [List.length_cons, RepK.length b]
theorem truD_ok {g : G} {v : V} {d : D} {k : Bool} (ok : Ok K g) (r : Rep K g.io g.F v d) (e : truD g.S d = some k) : TruV K v g.H k := by
  unfold truD at e
  split at e
  · rename_i q; have := look_non q; subst this; simp only [Rep] at r; subst r; cases e; rfl
  · rename_i q; have := look_bl q; subst this; simp only [Rep] at r; subst r; cases e; rfl
  · rename_i q; have := look_int q; subst this; simp only [Rep] at r; subst r; cases e; rfl
  · rename_i q; have := look_str q; subst this; simp only [Rep] at r; subst r
    split at e
    · rename_i h; cases e; exact ⟨lim_ok h, rfl⟩
    · cases e
  · rename_i xs q
    obtain ⟨p, vs, rfl, h, l⟩ := look_lst ok r q
    cases e
    exact .inl ⟨vs, h, by rw [l.isEmpty]⟩
  · rename_i xs q
    obtain ⟨p, vs, rfl, h, l⟩ := look_tup ok r q
    cases e
    exact .inr (.inl ⟨vs, SqT.of (ok.le _ _ h), by rw [l.isEmpty]⟩)
  · rename_i xs q
    obtain ⟨p, vs, rfl, h, l⟩ := look_dic ok r q
    cases e
    refine .inr (.inr ⟨vs, h, ?_⟩)
    have := l.length
    cases vs <;> cases xs <;> simp at this <;> rfl
  · cases e
def mTru (m : M D) : M Bool := fun ρ S => (m ρ S).bind fun d S1 => match truD S1 d with
  | some b => .ok b S1
  | none => .bad
theorem dt_tru (h : DV X e ma) (he : ∀ whole, isTrue e X.env whole = (do let v ← whole; standAt e.pos; holding [v] (truthy v)) := by intro _; rfl) : DT X e (mTru ma) := ⟨fun W tk => by
  obtain ⟨t, pe, ra⟩ := h.ex W tk
  refine ⟨_, pt_truth pe he, fun g σ ρ Q rel h => ?_⟩
  unfold mTru at h
  rw [post_bind] at h
  refine ra g σ ρ _ rel (h.imp (fun d S1 e1 h1 g1 x es p1 r1 => ?_) fun e S1 _ h1 => h1)
  subst es
  cases q : truD g1.S d with
  | none => rw [q] at h1; exact h1.elim
  | some k => rw [q] at h1; exact ⟨k, truD_ok p1.ok r1 q, h1 g1 rfl p1⟩⟩

/-! ### and, or, not -/
structure DW (X : Cx) (e : Expr) (m : M Bool) : Prop where
  ex : ∀ W, Takes X W → ∃ t, PW X e t ∧ RT X.K t W m
def mAnd (a b : M Bool) : M Bool := fun ρ S => (a ρ S).bind fun x S1 => bif x then b ρ S1 else .ok false S1
def mOr (a b : M Bool) : M Bool := fun ρ S => (a ρ S).bind fun x S1 => bif x then .ok true S1 else b ρ S1
def mNot (a : M Bool) : M Bool := mMap not a
theorem dw_and1 {m : M Bool} (h : DT X a m) : DW X (.BoolOp .And [a] pos) m := ⟨fun W tk => by
  obtain ⟨t, pe, ra⟩ := h.ex W tk; exact ⟨t, pw_and1 pe, ra⟩⟩
theorem dw_or1 {m : M Bool} (h : DT X a m) : DW X (.BoolOp .Or [a] pos) m := ⟨fun W tk => by
  obtain ⟨t, pe, ra⟩ := h.ex W tk; exact ⟨t, pw_or1 pe, ra⟩⟩
theorem dw_and {m n : M Bool} (h : DT X a m) (h2 : DW X (.BoolOp .And (b :: rest) pos) n) : DW X (.BoolOp .And (a :: b :: rest) pos) (mAnd m n) := ⟨fun W tk => by
  obtain ⟨t, pe, ra⟩ := h.ex W tk
  obtain ⟨u, pu, ru⟩ := h2.ex W tk
  refine ⟨_, pw_and pe pu, fun g σ ρ Q rel h => ?_⟩
  unfold mAnd at h
  rw [post_bind] at h
  refine ra g σ ρ _ rel (h.imp (fun d S1 e1 h1 g1 es p1 => ?_) fun e S1 _ h1 => h1)
  subst es
  cases d with
  | true =>
    rw [if_pos rfl]
    exact ru g1 σ ρ _ (rel.post p1) (R.post.imp h1 (fun d S _ q g' es p => q g' es (p1.trans p)) fun e S2 _ h2 => err_on (x := fun _ _ => True) p1 h2)
  | false =>
    rw [if_neg Bool.false_ne_true]
    exact h1 g1 rfl p1⟩
theorem dw_or {m n : M Bool} (h : DT X a m) (h2 : DW X (.BoolOp .Or (b :: rest) pos) n) : DW X (.BoolOp .Or (a :: b :: rest) pos) (mOr m n) := ⟨fun W tk => by
  obtain ⟨t, pe, ra⟩ := h.ex W tk
  obtain ⟨u, pu, ru⟩ := h2.ex W tk
  refine ⟨_, pw_or pe pu, fun g σ ρ Q rel h => ?_⟩
  unfold mOr at h
  rw [post_bind] at h
  refine ra g σ ρ _ rel (h.imp (fun d S1 e1 h1 g1 es p1 => ?_) fun e S1 _ h1 => h1)
  subst es
  cases d with
  | false =>
    rw [if_neg Bool.false_ne_true]
    exact ru g1 σ ρ _ (rel.post p1) (R.post.imp h1 (fun d S _ q g' es p => q g' es (p1.trans p)) fun e S2 _ h2 => err_on (x := fun _ _ => True) p1 h2)
  | true =>
    rw [if_pos rfl]
    exact h1 g1 rfl p1⟩
theorem dt_w {m : M Bool} (h : DW X e m) : DT X e m := ⟨fun W tk => by
  obtain ⟨t, pe, ra⟩ := h.ex W tk; exact ⟨t, pe.pt, ra⟩⟩
theorem dt_not {m : M Bool} (h : DT X a m) : DT X (.UnaryOp .Not a pos) (mNot m) := ⟨fun W tk => by
  obtain ⟨t, pe, ra⟩ := h.ex W tk
  refine ⟨_, pt_not pe, fun g σ ρ Q rel h => ?_⟩
  unfold mNot mMap at h
  rw [post_bind] at h
  exact ra g σ ρ _ rel (h.imp (fun d S1 e1 h1 g1 es p1 => h1 g1 es p1) fun e S1 _ h1 => h1)⟩
/-- as values: all but the last a truth -/
def mAndV (a b : M D) : M D := fun ρ S => (a ρ S).bind fun x S1 => match x with
  | .bl true => b ρ S1
  | .bl false => .ok (.bl false) S1
  | _ => .bad
def mOrV (a b : M D) : M D := fun ρ S => (a ρ S).bind fun x S1 => match x with
  | .bl false => b ρ S1
  | .bl true => .ok (.bl true) S1
  | _ => .bad
def mNotV (a : M D) : M D := mUn (fun x => match x with
  | .bl k => some (.bl (!k))
  | _ => none) a
theorem dv_one {op} (h : DV X a ma) : DV X (.BoolOp op [a] pos) ma := ⟨fun W tk => by
  obtain ⟨t, pe, ra⟩ := h.ex W tk; exact ⟨t, pe_one pe, ra⟩⟩
theorem dv_and (h : DV X a ma) (h2 : DV X (.BoolOp .And (b :: rest) pos) mb) : DV X (.BoolOp .And (a :: b :: rest) pos) (mAndV ma mb) := ⟨fun W tk => by
  obtain ⟨t, pe, ra⟩ := h.ex W tk
  obtain ⟨u, pu, ru⟩ := h2.ex W tk
  refine ⟨_, pe_and pe pu, fun g σ ρ Q rel h => ?_⟩
  unfold mAndV at h
  rw [post_bind] at h
  refine ra g σ ρ _ rel (h.imp (fun d S1 e1 h1 g1 x es p1 r1 => ?_) fun e S1 _ h1 => h1)
  subst es
  cases d with
  | bl k =>
    simp only [Rep] at r1
    refine ⟨k, r1, ?_⟩
    cases k with
    | true =>
      rw [if_pos rfl]
      exact ru g1 σ ρ _ (rel.post p1) (R.post.imp h1 (fun d S _ q g' v es p => q g' v es (p1.trans p)) fun e S2 _ h2 => err_on (x := fun _ _ => True) p1 h2)
    | false =>
      rw [if_neg Bool.false_ne_true]
      exact h1 g1 _ rfl p1 (by simp only [Rep])
  | _ => exact h1.elim⟩
theorem dv_or (h : DV X a ma) (h2 : DV X (.BoolOp .Or (b :: rest) pos) mb) : DV X (.BoolOp .Or (a :: b :: rest) pos) (mOrV ma mb) := ⟨fun W tk => by
  obtain ⟨t, pe, ra⟩ := h.ex W tk
  obtain ⟨u, pu, ru⟩ := h2.ex W tk
  refine ⟨_, pe_or pe pu, fun g σ ρ Q rel h => ?_⟩
  unfold mOrV at h
  rw [post_bind] at h
  refine ra g σ ρ _ rel (h.imp (fun d S1 e1 h1 g1 x es p1 r1 => ?_) fun e S1 _ h1 => h1)
  subst es
  cases d with
  | bl k =>
    simp only [Rep] at r1
    refine ⟨k, r1, ?_⟩
    cases k with
    | false =>
      rw [if_neg Bool.false_ne_true]
      exact ru g1 σ ρ _ (rel.post p1) (R.post.imp h1 (fun d S _ q g' v es p => q g' v es (p1.trans p)) fun e S2 _ h2 => err_on (x := fun _ _ => True) p1 h2)
    | true =>
      rw [if_pos rfl]
      exact h1 g1 _ rfl p1 (by simp only [Rep])
  | _ => exact h1.elim⟩
theorem dv_not (h : DV X a ma) : DV X (.UnaryOp .Not a pos) (mNotV ma) := ⟨fun W tk => by
  obtain ⟨t, pe, ra⟩ := h.ex W tk
  refine ⟨_, pe_not pe, fun g σ ρ Q rel h => ?_⟩
  unfold mNotV mUn at h
  rw [post_bind] at h
  refine ra g σ ρ _ rel (h.imp (fun d S1 e1 h1 g1 x es p1 r1 => ?_) fun e S1 _ h1 => h1)
  subst es
  cases d with
  | bl k =>
    simp only [Rep] at r1
    exact ⟨k, r1, h1 g1 _ rfl p1 (by simp only [Rep])⟩
  | _ => exact h1.elim⟩
/-- a if t else b -/
def mIf {α : Type} (t : M Bool) (a b : M α) : M α := fun ρ S => (t ρ S).bind fun x S1 => bif x then a ρ S1 else b ρ S1
theorem dv_if {mt : M Bool} (ht : DT X c mt) (ha : DV X a ma) (hb : DV X b mb) : DV X (.IfExp c a b pos) (mIf mt ma mb) := ⟨fun W tk => by
  obtain ⟨t, pt, rt⟩ := ht.ex W tk
  obtain ⟨ta, pa, ra⟩ := ha.ex W tk
  obtain ⟨tb, pb, rb⟩ := hb.ex W tk
  refine ⟨_, pe_ifExp pt pa pb, fun g σ ρ Q rel h => ?_⟩
  unfold mIf at h
  rw [post_bind] at h
  refine rt g σ ρ _ rel (h.imp (fun d S1 e1 h1 g1 es p1 => ?_) fun e S1 _ h1 => h1)
  subst es
  cases d with
  | true =>
    rw [if_pos rfl]
    exact ra g1 σ ρ _ (rel.post p1) (R.post.imp h1 (fun d S _ q g' v es p => q g' v es (p1.trans p)) fun e S2 _ h2 => err_on (x := fun _ _ => True) p1 h2)
  | false =>
    rw [if_neg Bool.false_ne_true]
    exact rb g1 σ ρ _ (rel.post p1) (R.post.imp h1 (fun d S _ q g' v es p => q g' v es (p1.trans p)) fun e S2 _ h2 => err_on (x := fun _ _ => True) p1 h2)⟩
theorem do_if {mt : M Bool} {ma mb : M Slot} (ht : DT X c mt) (ha : DO X a ma) (hb : DO X b mb) : DO X (.IfExp c a b pos) (mIf mt ma mb) := ⟨fun W tk => by
  obtain ⟨t, pt, rt⟩ := ht.ex W tk
  obtain ⟨ta, pa, ra⟩ := ha.ex W tk
  obtain ⟨tb, pb, rb⟩ := hb.ex W tk
  refine ⟨_, pe_ifExp pt pa pb, fun g σ ρ Q rel h => ?_⟩
  unfold mIf at h
  rw [post_bind] at h
  refine rt g σ ρ _ rel (h.imp (fun d S1 e1 h1 g1 es p1 => ?_) fun e S1 _ h1 => h1)
  subst es
  cases d with
  | true =>
    rw [if_pos rfl]
    exact ra g1 σ ρ _ (rel.post p1) (R.post.imp h1 (fun d S _ q g' v es p o => q g' v es (p1.trans p) (o.back p1)) fun e S2 _ h2 => err_on (x := fun _ _ => True) p1 h2)
  | false =>
    rw [if_neg Bool.false_ne_true]
    exact rb g1 σ ρ _ (rel.post p1) (R.post.imp h1 (fun d S _ q g' v es p o => q g' v es (p1.trans p) (o.back p1)) fun e S2 _ h2 => err_on (x := fun _ _ => True) p1 h2)⟩

/-! ### arguments, displays -/
def aNil : M (List D) := fun _ S => .ok [] S
def aCons (a : M D) (r : M (List D)) : M (List D) := fun ρ S => (a ρ S).bind fun x S1 => (r ρ S1).bind fun xs S2 => .ok (x :: xs) S2
theorem da_nil : DA X [] aNil := ⟨fun W _ => ⟨_, pa_nil, fun g σ ρ Q rel h => h g [] rfl (Post.refl rel.ok) RepL.nil⟩, fun ρ S ds S' e => by cases e; rfl⟩
theorem da_cons {es : List Expr} {mr : M (List D)} (ha : DV X e ma) (hr : DA X es mr) (hs : starEach (e :: es) X.env = (false, eval e X.env) :: starEach es X.env := by rfl) : DA X (e :: es) (aCons ma mr) := ⟨fun W tk => by
  obtain ⟨t, pe, ra⟩ := ha.ex W tk
  obtain ⟨u, pu, ru⟩ := hr.ex W tk
  refine ⟨_, pa_cons pe pu hs, fun g σ ρ Q rel h => ?_⟩
  unfold aCons at h
  rw [post_bind] at h
  refine ra g σ ρ _ rel (h.imp (fun d S1 e1 h1 g1 x es p1 r1 => ?_) fun e S1 _ h1 => h1)
  subst es
  rw [post_bind] at h1
  refine ru g1 σ ρ _ (rel.post p1) (h1.imp (fun ds S2 e2 h2 g2 vs es2 p2 r2 => ?_) fun e S2 _ h2 => err_on (x := fun _ _ => True) p1 h2)
  exact h2 g2 _ es2 (p1.trans p2) (.cons (p2.rep r1) r2), fun ρ S ds S' q => by
  unfold aCons at q
  cases z : ma ρ S with
  | ok d S1 =>
    rw [z] at q
    simp only [R.bind] at q
    cases y : mr ρ S1 with
    | ok ds S2 =>
      rw [y] at q
      cases q
      rw [List.length_cons, List.length_cons, hr.len _ _ _ _ y]
    | err e S2 => rw [y] at q; cases q
    | bad => rw [y] at q; cases q
  | err e S1 => rw [z] at q; cases q
  | bad => rw [z] at q; cases q⟩
theorem dv_tup {es : List Expr} {x1} {m : M (List D)} (h : DA X es m) (hl : es.length ≤ 1000 := by decide) : DV X (.Tuple es x1 pos) (mMap D.tup m) := ⟨fun W tk => by
  obtain ⟨t, pe, ra⟩ := h.ex W tk
  refine ⟨_, pe_tup pe, fun g σ ρ Q rel q => ?_⟩
  unfold mMap at q
  rw [post_bind] at q
  refine ra g σ ρ _ rel (q.imp (fun ds S1 e1 h1 g1 vs es p1 r1 => ?_) fun e S1 _ h1 => h1)
  refine ⟨?_, fun p hp => ?_⟩
  · rw [r1.length, h.len _ _ _ _ e1]
    exact lim_ok (by omega)
  · obtain ⟨p2, r2⟩ := out_tup p1.ok hp r1
    exact h1 (G.frz g1 p _) _ es (p1.trans p2) r2⟩
def oLst (m : M (List D)) : M Slot := mMap (fun ds => .own (.lst ds)) m
theorem do_lst {es : List Expr} {m : M (List D)} (h : DA X es m) (hl : es.length ≤ 1000 := by decide) : DO X (.List es pos) (oLst m) := ⟨fun W tk => by
  obtain ⟨t, pe, ra⟩ := h.ex W tk
  refine ⟨_, pe_lst pe, fun g σ ρ Q rel q => ?_⟩
  unfold oLst mMap at q
  rw [post_bind] at q
  refine ra g σ ρ _ rel (q.imp (fun ds S1 e1 h1 g1 vs es p1 r1 => ?_) fun e S1 _ h1 => h1)
  refine ⟨?_, fun p hp => ?_⟩
  · rw [r1.length, h.len _ _ _ _ e1]
    exact lim_ok (by omega)
  · obtain ⟨p2, r2⟩ := out_lst p1.ok hp r1
    exact h1 (G.lay g1 p _) _ es (p1.trans p2) (r2.back p1)⟩
/-- {} -/
theorem do_dic0 : DO X (.Dict [] [] pos) (eC (.own (.dic []))) := ⟨fun W tk => ⟨_, pe_dnewK, fun g σ ρ Q rel q p hp => by
  obtain ⟨p2, r2⟩ := out_dic (vs := []) (ds := []) rel.ok hp (by simp only [RepK])
  exact q (G.lay g p _) _ rfl p2 r2⟩⟩

/-! ### subscripts -/
def atD (xs : List D) (i : Int) : Option D := if 0 ≤ i then xs[i.toNat]? else if -(xs.length : Int) ≤ i then xs[(i + xs.length).toNat]? else none
theorem RepL.atI {g : G} {vs : List V} {ds : List D} {i : Int} {d : D} (r : RepL K g.io g.F vs ds) (h : atD ds i = some d) : ∃ v, L2.atI vs i = some v ∧ Rep K g.io g.F v d := by
  have l := r.length
  unfold atD at h
  unfold L2.atI L2.ixN
  split at h
  · rename_i h0
    obtain ⟨v, e, q⟩ := r.get h
    have lt := (List.getElem?_eq_some_iff.mp e).1
    rw [if_pos h0, if_pos (by omega)]
    exact ⟨v, e, q⟩
  · rename_i h0
    split at h
    · rename_i h1
      obtain ⟨v, e, q⟩ := r.get h
      rw [if_neg h0, l, if_pos h1]
      exact ⟨v, e, q⟩
    · cases h
def opIx (S : Sto) (x i : D) : Option Slot := match lookD S x, i with
  | .lst xs, .int i => (atD xs i).map .val
  | .tup xs, .int i => (atD xs i).map .val
  | .str z, .int i => if z.length ≤ 1000000 then (L2.atI z.cps.toList i).map fun c => .val (.str ⟨#[c]⟩) else none
  | _, _ => none
theorem r_ix : ROp K (rIx K) opIx := by
  intro g x y dx dy s Q ok rx ry e h
  unfold opIx at e
  split at e
  · rename_i xs i e1
    obtain ⟨p, vs, rfl, hp, r1⟩ := look_lst ok rx e1
    simp only [Rep] at ry
    cases q : atD xs i with
    | none => rw [q] at e; cases e
    | some d =>
      rw [q] at e; cases e
      obtain ⟨v, f1, f2⟩ := r1.atI q
      exact .inl ⟨p, vs, i, v, rfl, ry, hp, f1, h g v rfl (Post.refl ok) f2⟩
  · rename_i xs i e1
    obtain ⟨p, vs, rfl, hp, r1⟩ := look_tup ok rx e1
    simp only [Rep] at ry
    cases q : atD xs i with
    | none => rw [q] at e; cases e
    | some d =>
      rw [q] at e; cases e
      obtain ⟨v, f1, f2⟩ := r1.atI q
      exact .inr (.inl ⟨p, vs, i, v, rfl, ry, SqT.of (ok.le _ _ hp), f1, h g v rfl (Post.refl ok) f2⟩)
  · rename_i z i e1
    have := look_str e1; subst this
    simp only [Rep] at rx ry
    split at e
    · rename_i hz
      cases q : L2.atI z.cps.toList i with
      | none => rw [q] at e; cases e
      | some c =>
        rw [q] at e; cases e
        exact .inr (.inr ⟨z, i, c, rx, ry, lim_ok hz, q, h g _ rfl (Post.refl ok) (by simp only [OutRep, Rep])⟩)
    · cases e
  · cases e

/-! ### ==, != -/
mutual
def eqD : D → D → Bool
  | .non, .non => true
  | .bl a, .bl b => a == b
  | .bl a, .int j => (if a then 1 else 0) == j
  | .int i, .bl b => i == (if b then 1 else 0)
  | .int i, .int j => decide (i = j)
  | .str x, .str y => decide (x = y)
  | .lst xs, .lst ys => eqDL xs ys
  | .tup xs, .tup ys => eqDL xs ys
  | _, _ => false
def eqDL : List D → List D → Bool
  | [], [] => true
  | x :: xs, y :: ys => eqD x y && eqDL xs ys
  | _, _ => false
end
mutual
def toPy : D → PyData
  | .non => .none
  | .bl b => .bool b
  | .int i => .int i
  | .str s => .str s
  | .lst xs => .list (toPyL xs)
  | .tup xs => .tuple (toPyL xs)
  | _ => .none
def toPyL : List D → List PyData
  | [] => []
  | x :: xs => toPy x :: toPyL xs
end
mutual
/-- data of a depth -/
def okD : Nat → D → Bool
  | _, .non => true
  | _, .bl _ => true
  | _, .int _ => true
  | _, .str s => PyData.strOk s
  | n + 1, .lst xs => okDL n xs
  | n + 1, .tup xs => okDL n xs
  | _, _ => false
def okDL : Nat → List D → Bool
  | _, [] => true
  | n, x :: xs => okD n x && okDL n xs
end
mutual
theorem toPy_eq : ∀ (n m : Nat) (x y : D), okD n x = true → okD m y = true → PyData.eqv (toPy x) (toPy y) = eqD x y
  | n, m, .lst xs, y, hx, hy => by
    cases y <;> first
      | (simp only [toPy, eqD, PyData.eqv]; done)
      | (cases m <;> simp [okD] at hy; done)
      | skip
    rename_i ys
    cases n <;> simp [okD] at hx
    cases m <;> simp [okD] at hy
    simp only [toPy, eqD, PyData.eqv]
    exact toPyL_eq _ _ xs ys hx hy
  | n, m, .tup xs, y, hx, hy => by
    cases y <;> first
      | (simp only [toPy, eqD, PyData.eqv]; done)
      | (cases m <;> simp [okD] at hy; done)
      | skip
    rename_i ys
    cases n <;> simp [okD] at hx
    cases m <;> simp [okD] at hy
    simp only [toPy, eqD, PyData.eqv]
    exact toPyL_eq _ _ xs ys hx hy
  | n, m, .non, y, hx, hy => by cases y <;> first | (simp only [toPy, eqD, PyData.eqv]; done) | (cases m <;> simp [okD] at hy; done)
  | n, m, .bl _, y, hx, hy => by cases y <;> first | (simp only [toPy, eqD, PyData.eqv]; done) | (cases m <;> simp [okD] at hy; done)
  | n, m, .int _, y, hx, hy => by cases y <;> first | (simp only [toPy, eqD, PyData.eqv, Bool.beq_eq_decide_eq]; done) | (cases m <;> simp [okD] at hy; done)
  | n, m, .str _, y, hx, hy => by cases y <;> first | (simp only [toPy, eqD, PyData.eqv, Bool.beq_eq_decide_eq]; done) | (cases m <;> simp [okD] at hy; done)
  | n, m, .ty _, _, hx, _ => by cases n <;> simp [okD] at hx
  | n, m, .cls _, _, hx, _ => by cases n <;> simp [okD] at hx
  | n, m, .dic _, _, hx, _ => by cases n <;> simp [okD] at hx
  | n, m, .obj _ _, _, hx, _ => by cases n <;> simp [okD] at hx
  | n, m, .exc _ _, _, hx, _ => by cases n <;> simp [okD] at hx
  | n, m, .ref _, _, hx, _ => by cases n <;> simp [okD] at hx
theorem toPyL_eq : ∀ (n m : Nat) (xs ys : List D), okDL n xs = true → okDL m ys = true → PyData.eqvAll (toPyL xs) (toPyL ys) = eqDL xs ys
  | _, _, [], [], _, _ => by simp only [toPyL, eqDL, PyData.eqvAll]
  | _, _, [], _ :: _, _, _ => by simp only [toPyL, eqDL, PyData.eqvAll]
  | _, _, _ :: _, [], _, _ => by simp only [toPyL, eqDL, PyData.eqvAll]
  | n, m, x :: xs, y :: ys, hx, hy => by
    simp only [okDL, Bool.and_eq_true] at hx hy
    simp only [toPyL, eqDL, PyData.eqvAll]
    rw [toPy_eq n m x y hx.1 hy.1, toPyL_eq n m xs ys hx.2 hy.2]
end
mutual
theorem toPy_dp {g : G} (le : Le g.F g.H) : ∀ (n : Nat) (d : D) (v : V), okD n d = true → Rep K g.io g.F v d → Dp K g.H v (toPy d)
  | n, .non, v, _, r => by simp only [Rep] at r; subst r; exact .non
  | n, .bl _, v, _, r => by simp only [Rep] at r; subst r; exact .bl _
  | n, .int _, v, _, r => by simp only [Rep] at r; subst r; exact .int _
  | n, .str _, v, _, r => by simp only [Rep] at r; subst r; exact .str _
  | 0, .lst _, v, h, _ => by simp [okD] at h
  | 0, .tup _, v, h, _ => by simp [okD] at h
  | n + 1, .lst xs, v, h, r => by
    simp only [Rep] at r
    obtain ⟨p, vs, rfl, hp, l⟩ := r
    simp only [okD] at h
    exact .lst (FW.SqL.mono le hp) (toPyL_dp le n xs vs h l)
  | n + 1, .tup xs, v, h, r => by
    simp only [Rep] at r
    obtain ⟨p, vs, rfl, hp, l⟩ := r
    simp only [okD] at h
    exact .tup (SqT.of (le _ _ hp)) (toPyL_dp le n xs vs h l)
  | n, .ty _, _, hx, _ => by cases n <;> simp [okD] at hx
  | n, .cls _, _, hx, _ => by cases n <;> simp [okD] at hx
  | n, .dic _, _, hx, _ => by cases n <;> simp [okD] at hx
  | n, .obj _ _, _, hx, _ => by cases n <;> simp [okD] at hx
  | n, .exc _ _, _, hx, _ => by cases n <;> simp [okD] at hx
  | n, .ref _, _, hx, _ => by cases n <;> simp [okD] at hx
theorem toPyL_dp {g : G} (le : Le g.F g.H) : ∀ (n : Nat) (ds : List D) (vs : List V), okDL n ds = true → RepL K g.io g.F vs ds → DpAll K g.H vs (toPyL ds)
  | _, [], vs, _, r => by simp only [RepL] at r; subst r; exact .nil
  | n, d :: ds, vs, h, r => by
    simp only [okDL, Bool.and_eq_true] at h
    simp only [RepL] at r
    obtain ⟨v, q, rfl, a, b⟩ := r
    exact .cons (toPy_dp le n d v h.1 a) (toPyL_dp le n ds q h.2 b)
end
mutual
theorem toPy_shape : ∀ (n : Nat) (d : D), okD n d = true → (toPy d).canLay0 = true ∧ (toPy d).depth ≤ n + 1
  | n, .non, _ => ⟨by simp only [toPy, PyData.canLay0], by simp only [toPy, PyData.depth]; omega⟩
  | n, .bl _, _ => ⟨by simp only [toPy, PyData.canLay0], by simp only [toPy, PyData.depth]; omega⟩
  | n, .int _, _ => ⟨by simp only [toPy, PyData.canLay0], by simp only [toPy, PyData.depth]; omega⟩
  | n, .str _, h => ⟨by cases n <;> simpa only [toPy, PyData.canLay0, okD] using h, by simp only [toPy, PyData.depth]; omega⟩
  | 0, .lst _, h => by simp [okD] at h
  | 0, .tup _, h => by simp [okD] at h
  | n + 1, .lst xs, h => by
    simp only [okD] at h
    obtain ⟨a, b⟩ := toPyL_shape n xs h
    exact ⟨by simp only [toPy, PyData.canLay0]; exact a, by simp only [toPy, PyData.depth]; omega⟩
  | n + 1, .tup xs, h => by
    simp only [okD] at h
    obtain ⟨a, b⟩ := toPyL_shape n xs h
    exact ⟨by simp only [toPy, PyData.canLay0]; exact a, by simp only [toPy, PyData.depth]; omega⟩
  | n, .ty _, hx => by cases n <;> simp [okD] at hx
  | n, .cls _, hx => by cases n <;> simp [okD] at hx
  | n, .dic _, hx => by cases n <;> simp [okD] at hx
  | n, .obj _ _, hx => by cases n <;> simp [okD] at hx
  | n, .exc _ _, hx => by cases n <;> simp [okD] at hx
  | n, .ref _, hx => by cases n <;> simp [okD] at hx
theorem toPyL_shape : ∀ (n : Nat) (ds : List D), okDL n ds = true → PyData.canLayAll0 (toPyL ds) = true ∧ PyData.depthAll (toPyL ds) ≤ n + 1
  | _, [], _ => ⟨by simp only [toPyL, PyData.canLayAll0], by simp only [toPyL, PyData.depthAll]; omega⟩
  | n, d :: ds, h => by
    simp only [okDL, Bool.and_eq_true] at h
    obtain ⟨a, b⟩ := toPy_shape n d h.1
    obtain ⟨c, e⟩ := toPyL_shape n ds h.2
    exact ⟨by simp only [toPyL, PyData.canLayAll0, a, c]; rfl, by simp only [toPyL, PyData.depthAll]; omega⟩
end
def scalD : D → Bool
  | .non => true | .bl _ => true | .int _ => true | .str _ => true
  | _ => false
def cEq (S : Sto) (x y : D) : Option Bool := match x, y with
  | .int i, .int j => some (decide (i = j))
  | .str i, .str j => some (decide (i = j))
  | .bl i, .bl j => some (i == j)
  | x, y => if okD 20 x && okD 20 y then some (eqD x y) else none
def cNe (S : Sto) (x y : D) : Option Bool := (cEq S x y).map not
theorem shaped_of {n : Nat} {d : D} (h : okD n d = true) (hn : n ≤ 40) : SeqAt.shaped (toPy d) = true := by
  obtain ⟨a, b⟩ := toPy_shape n d h
  unfold SeqAt.shaped
  rw [a, decide_eq_true (by omega)]; rfl
abbrev rEqAll (K : PySem.W.Frag) : R2 := fun x y H Q => rEq x y H Q ∨ rEqD K x y H Q
abbrev rNeAll (K : PySem.W.Frag) : R2 := fun x y H Q => rNe x y H Q ∨ rNeD K x y H Q
theorem op_eqAll (hu : X.A.units + 64 < cLine) : OpR X (compareOp .Eq) (rEqAll X.K) := op_eq.or (op_eqD hu)
theorem op_neAll (hu : X.A.units + 64 < cLine) : OpR X (compareOp .NotEq) (rNeAll X.K) := op_ne.or (op_neD hu)
theorem r_eq : RCmp K (rEqAll K) cEq := by
  intro g x y dx dy s Q ok rx ry e q
  unfold cEq at e
  split at e
  · rename_i i j
    simp only [Rep] at rx ry; subst rx ry; cases e
    refine .inl ⟨rfl, ?_⟩
    rw [show decide (V.int i = V.int j) = decide (i = j) by simp]; exact q
  · rename_i i j
    simp only [Rep] at rx ry; subst rx ry; cases e
    refine .inl ⟨rfl, ?_⟩
    rw [show decide (V.str i = V.str j) = decide (i = j) by simp]; exact q
  · rename_i i j
    simp only [Rep] at rx ry; subst rx ry; cases e
    refine .inl ⟨rfl, ?_⟩
    rw [dec_bl]; exact q
  · split at e
    · rename_i h
      simp only [Bool.and_eq_true] at h
      cases e
      refine .inr ⟨_, _, toPy_dp ok.le 20 dx x h.1 rx, toPy_dp ok.le 20 dy y h.2 ry, shaped_of h.1 (by omega), shaped_of h.2 (by omega), ?_⟩
      rw [toPy_eq 20 20 dx dy h.1 h.2]; exact q
    · cases e
theorem r_ne : RCmp K (rNeAll K) cNe := by
  intro g x y dx dy s Q ok rx ry e q
  unfold cNe cEq at e
  split at e
  · rename_i i j
    simp only [Rep] at rx ry; subst rx ry; cases e
    refine .inl ⟨rfl, ?_⟩
    rw [show decide (V.int i = V.int j) = decide (i = j) by simp]; exact q
  · rename_i i j
    simp only [Rep] at rx ry; subst rx ry; cases e
    refine .inl ⟨rfl, ?_⟩
    rw [show decide (V.str i = V.str j) = decide (i = j) by simp]; exact q
  · rename_i i j
    simp only [Rep] at rx ry; subst rx ry; cases e
    refine .inl ⟨rfl, ?_⟩
    rw [dec_bl]; exact q
  · split at e
    · rename_i h
      simp only [Bool.and_eq_true] at h
      cases e
      refine .inr ⟨_, _, toPy_dp ok.le 20 dx x h.1 rx, toPy_dp ok.le 20 dy y h.2 ry, shaped_of h.1 (by omega), shaped_of h.2 (by omega), ?_⟩
      rw [toPy_eq 20 20 dx dy h.1 h.2]; exact q
    · cases e
end
end FW
end
section
set_option maxHeartbeats 2000000
/-! FW6: built-in calls, isinstance, what is walked. -/
namespace FW
open PySem PySem.Spec PyProof.Rows L2
section
variable {X : Cx} {e a b c : Expr} {ma mb mc : M D} {pos : Pos} {K : PySem.W.Frag} {rest es : List Expr}

/-! ### calls by values -/
def RCall (K : PySem.W.Frag) (r : List V → Hp → VK → Prop) (f : Sto → List D → Option Slot) : Prop := ∀ (g : G) (vs : List V) (ds : List D) (s : Slot) (Q : VK), Ok K g → RepL K g.io g.F vs ds → f g.S ds = some s →
  (∀ g' v, g'.S = g.S → Post K g g' → OutRep K g g' v s → Q v g'.H) → r vs g.H Q
def mCall (f : Sto → List D → Option Slot) (m : M (List D)) : M Slot := fun ρ S => (m ρ S).bind fun ds S1 => match f S1 ds with
  | some s => .ok s S1
  | none => .bad
theorem ro_call {r : List V → Hp → VK → Prop} {f : Sto → List D → Option Slot} {t : TA} {W : WX} {m : M (List D)} (hr : RCall X.K r f) (ra : RA X.K t W m) : RO X.K (tCB r t) W (mCall f m) := fun g σ ρ Q rel h => by
  unfold mCall at h
  rw [post_bind] at h
  refine ra g σ ρ _ rel (h.imp (fun ds S1 e1 h1 g1 vs es p1 r1 => ?_) fun e S1 _ h1 => h1)
  subst es
  cases q : f g1.S ds with
  | none => rw [q] at h1; exact h1.elim
  | some s =>
    rw [q] at h1
    exact hr g1 vs ds s _ p1.ok r1 q fun g2 v es p2 o => h1 g2 v es (p1.trans p2) (o.back p1)
theorem do_callB {id : String} {x : Str} {p : Pos} {r : List V → Hp → VK → Prop} {f : Sto → List D → Option Slot} {m : M (List D)} (hc : CallR X (.builtin id) r) (hr : RCall X.K r f) (hg : Gl X x) (hm : X.mg x = none) (hv : bootBuiltins x = some (.builtin id)) (ha : DA X (e :: es) m) (hn : x ≠ "__name__" := by decide) (hdb : (x == ("__debug__" : Str)) = false := by decide)
    (he : starEach (e :: es) X.env = (false, eval e X.env) :: starEach es X.env := by rfl) (hpl : (backTo pos (starEach es X.env)).any (·.1) = false := by rfl) : DO X (.Call (.Name x p) (e :: es) [] pos) (mCall f m) := ⟨fun W tk => by
  obtain ⟨t, pe, ra⟩ := ha.ex W tk
  exact ⟨_, pe_callB hc hg hm hv pe hn hdb he hpl, ro_call hr ra⟩⟩
theorem do_callTy {T : String} {x : Str} {p : Pos} {r : List V → Hp → VK → Prop} {f : Sto → List D → Option Slot} {m : M (List D)} (hc : CallR X (.type T) r) (hr : RCall X.K r f) (hg : Gl X x) (hm : X.mg x = none) (hv : bootBuiltins x = some (.type T)) (ha : DA X (e :: es) m) (hn : x ≠ "__name__" := by decide) (hdb : (x == ("__debug__" : Str)) = false := by decide)
    (he : starEach (e :: es) X.env = (false, eval e X.env) :: starEach es X.env := by rfl) (hpl : (backTo pos (starEach es X.env)).any (·.1) = false := by rfl) : DO X (.Call (.Name x p) (e :: es) [] pos) (mCall f m) := ⟨fun W tk => by
  obtain ⟨t, pe, ra⟩ := ha.ex W tk
  exact ⟨_, pe_callTy hc hg hm hv pe hn hdb he hpl, ro_call hr ra⟩⟩
theorem repL1 {g : G} {vs : List V} {d : D} (r : RepL K g.io g.F vs [d]) : ∃ v, vs = [v] ∧ Rep K g.io g.F v d := by
  simp only [RepL] at r
  obtain ⟨v, q, rfl, a, rfl⟩ := r
  exact ⟨v, rfl, a⟩
theorem repL2 {g : G} {vs : List V} {d e : D} (r : RepL K g.io g.F vs [d, e]) : ∃ v u, vs = [v, u] ∧ Rep K g.io g.F v d ∧ Rep K g.io g.F u e := by
  simp only [RepL] at r
  obtain ⟨v, q, rfl, a, u, q2, rfl, b, rfl⟩ := r
  exact ⟨v, u, rfl, a, b⟩
theorem repL3 {g : G} {vs : List V} {d e f : D} (r : RepL K g.io g.F vs [d, e, f]) : ∃ v u w, vs = [v, u, w] ∧ Rep K g.io g.F v d ∧ Rep K g.io g.F u e ∧ Rep K g.io g.F w f := by
  simp only [RepL] at r
  obtain ⟨v, q, rfl, a, u, q2, rfl, b, w, q3, rfl, c, rfl⟩ := r
  exact ⟨v, u, w, rfl, a, b, c⟩

/-! ### len -/
def fLen (S : Sto) : List D → Option Slot
  | [d] => match lookD S d with
    | .str z => if z.length ≤ 1000000 then some (.val (.int z.length)) else none
    | .lst xs => some (.val (.int xs.length))
    | .tup xs => some (.val (.int xs.length))
    | _ => none
  | _ => none
abbrev rLenV (K : PySem.W.Frag) : List V → Hp → VK → Prop := fun xs H Q => ∃ x n, xs = [x] ∧ LenV K x H n ∧ Q (.int n) H
theorem r_len : RCall K (rLenV K) fLen := by
  intro g vs ds s Q ok r e h
  unfold fLen at e
  split at e
  · rename_i d
    obtain ⟨v, rfl, r0⟩ := repL1 r
    split at e
    · rename_i z q
      have := look_str q; subst this
      simp only [Rep] at r0; subst r0
      split at e
      · rename_i hz
        cases e
        exact ⟨_, _, rfl, ⟨lim_ok hz, rfl⟩, h g _ rfl (Post.refl ok) (by simp only [OutRep, Rep])⟩
      · cases e
    · rename_i xs q
      obtain ⟨p, vs, rfl, hp, l⟩ := look_lst ok r0 q
      cases e
      exact ⟨_, xs.length, rfl, .inl ⟨vs, hp, l.length.symm⟩, h g _ rfl (Post.refl ok) (by simp only [OutRep, Rep])⟩
    · rename_i xs q
      obtain ⟨p, vs, rfl, hp, l⟩ := look_tup ok r0 q
      cases e
      exact ⟨_, xs.length, rfl, .inr ⟨vs, SqT.of (ok.le _ _ hp), l.length.symm⟩, h g _ rfl (Post.refl ok) (by simp only [OutRep, Rep])⟩
    · cases e
  · cases e

/-! ### min, max of two, of three; abs; sum -/
def fMax (S : Sto) : List D → Option Slot
  | [.int i, .int j] => some (.val (.int (max i j)))
  | [.int i, .int j, .int k] => some (.val (.int (max (max i j) k)))
  | _ => none
def fMin (S : Sto) : List D → Option Slot
  | [.int i, .int j] => some (.val (.int (min i j)))
  | [.int i, .int j, .int k] => some (.val (.int (min (min i j) k)))
  | _ => none
abbrev rMax2 : List V → Hp → VK → Prop := fun xs H Q => ∃ i j, xs = [.int i, .int j] ∧ Q (.int (if j > i then j else i)) H
abbrev rMin2 : List V → Hp → VK → Prop := fun xs H Q => ∃ i j, xs = [.int i, .int j] ∧ Q (.int (if j < i then j else i)) H
def rMax3 : List V → Hp → VK → Prop := fun xs H Q => ∃ i j k, xs = [.int i, .int j, .int k] ∧ Q (.int (max (max i j) k)) H
def rMin3 : List V → Hp → VK → Prop := fun xs H Q => ∃ i j k, xs = [.int i, .int j, .int k] ∧ Q (.int (min (min i j) k)) H
theorem vals3 {x y z : V} {us : List Value} (r : Vals [x, y, z] us) : ∃ u w' w3, us = [u, w', w3] ∧ RelV x u ∧ RelV y w' ∧ RelV z w3 := by
  cases r with
  | cons r1 r2 =>
    obtain ⟨u, w', rfl, a, b⟩ := vals2 r2
    exact ⟨_, u, w', rfl, r1, a, b⟩
theorem call_max3 (hc : X.calm = true) : CallR X (.builtin "max") rMax3 := by
  intro pins s σ H xs us Q I r h
  obtain ⟨i, j, k, rfl, q⟩ := h
  obtain ⟨u, w', w3, rfl, ⟨t, rfl⟩, ⟨t', rfl⟩, ⟨t3, rfl⟩⟩ := vals3 r
  refine max_three_ints (I.ok.hd hc) fun h' tk kp => ⟨_, H, I.kept kp, ?_, q⟩
  show ∃ t, _ = Value.int _ t
  by_cases h1 : j > i
  · rw [if_pos h1]
    by_cases h2 : k > j
    · rw [if_pos h2, show max (max i j) k = k by omega]; exact ⟨_, rfl⟩
    · rw [if_neg h2, show max (max i j) k = j by omega]; exact ⟨_, rfl⟩
  · rw [if_neg h1]
    by_cases h2 : k > i
    · rw [if_pos h2, show max (max i j) k = k by omega]; exact ⟨_, rfl⟩
    · rw [if_neg h2, show max (max i j) k = i by omega]; exact ⟨_, rfl⟩
theorem call_min3 (hc : X.calm = true) : CallR X (.builtin "min") rMin3 := by
  intro pins s σ H xs us Q I r h
  obtain ⟨i, j, k, rfl, q⟩ := h
  obtain ⟨u, w', w3, rfl, ⟨t, rfl⟩, ⟨t', rfl⟩, ⟨t3, rfl⟩⟩ := vals3 r
  refine min_three_ints (I.ok.hd hc) fun h' tk kp => ⟨_, H, I.kept kp, ?_, q⟩
  show ∃ t, _ = Value.int _ t
  by_cases h1 : j < i
  · rw [if_pos h1]
    by_cases h2 : k < j
    · rw [if_pos h2, show min (min i j) k = k by omega]; exact ⟨_, rfl⟩
    · rw [if_neg h2, show min (min i j) k = j by omega]; exact ⟨_, rfl⟩
  · rw [if_neg h1]
    by_cases h2 : k < i
    · rw [if_pos h2, show min (min i j) k = k by omega]; exact ⟨_, rfl⟩
    · rw [if_neg h2, show min (min i j) k = i by omega]; exact ⟨_, rfl⟩
theorem call_max (hc : X.calm = true) : CallR X (.builtin "max") (fun xs H Q => rMax2 xs H Q ∨ rMax3 xs H Q) := (call_max2 hc).or (call_max3 hc)
theorem call_min (hc : X.calm = true) : CallR X (.builtin "min") (fun xs H Q => rMin2 xs H Q ∨ rMin3 xs H Q) := (call_min2 hc).or (call_min3 hc)
theorem r_max : RCall K (fun xs H Q => rMax2 xs H Q ∨ rMax3 xs H Q) fMax := by
  intro g vs ds s Q ok r e h
  unfold fMax at e
  split at e
  · rename_i i j
    obtain ⟨v, u, rfl, r1, r2⟩ := repL2 r
    simp only [Rep] at r1 r2; subst r1 r2; cases e
    refine .inl ⟨i, j, rfl, ?_⟩
    have z := h g (.int (max i j)) rfl (Post.refl ok) (by simp only [OutRep, Rep])
    rw [show (if j > i then j else i) = max i j by split <;> omega]; exact z
  · rename_i i j k
    obtain ⟨v, u, w, rfl, r1, r2, r3⟩ := repL3 r
    simp only [Rep] at r1 r2 r3; subst r1 r2 r3; cases e
    exact .inr ⟨i, j, k, rfl, h g _ rfl (Post.refl ok) (by simp only [OutRep, Rep])⟩
  · cases e
theorem r_min : RCall K (fun xs H Q => rMin2 xs H Q ∨ rMin3 xs H Q) fMin := by
  intro g vs ds s Q ok r e h
  unfold fMin at e
  split at e
  · rename_i i j
    obtain ⟨v, u, rfl, r1, r2⟩ := repL2 r
    simp only [Rep] at r1 r2; subst r1 r2; cases e
    refine .inl ⟨i, j, rfl, ?_⟩
    have z := h g (.int (min i j)) rfl (Post.refl ok) (by simp only [OutRep, Rep])
    rw [show (if j < i then j else i) = min i j by split <;> omega]; exact z
  · rename_i i j k
    obtain ⟨v, u, w, rfl, r1, r2, r3⟩ := repL3 r
    simp only [Rep] at r1 r2 r3; subst r1 r2 r3; cases e
    exact .inr ⟨i, j, k, rfl, h g _ rfl (Post.refl ok) (by simp only [OutRep, Rep])⟩
  · cases e
def fAbs (S : Sto) : List D → Option Slot
  | [.int i] => some (.val (.int (if i < 0 then -i else i)))
  | _ => none
theorem r_abs : RCall K (fun xs H Q => ∃ i, xs = [.int i] ∧ Q (.int (if i < 0 then -i else i)) H) fAbs := by
  intro g vs ds s Q ok r e h
  unfold fAbs at e
  split at e
  · rename_i i
    obtain ⟨v, rfl, r1⟩ := repL1 r
    simp only [Rep] at r1; subst r1; cases e
    exact ⟨i, rfl, h g _ rfl (Post.refl ok) (by simp only [OutRep, Rep])⟩
  · cases e
def intsD : List D → Option (List Int)
  | [] => some []
  | .int i :: ds => (intsD ds).map (i :: ·)
  | _ :: _ => none
theorem intsD_eq : ∀ {ds : List D} {ns : List Int}, intsD ds = some ns → ds = ns.map D.int
  | [], _, h => by cases h; rfl
  | .int i :: ds, ns, h => by
    simp only [intsD] at h
    cases q : intsD ds with
    | none => rw [q] at h; cases h
    | some ms => rw [q] at h; cases h; rw [intsD_eq q]; rfl
  | .non :: _, _, h => by cases h
  | .bl _ :: _, _, h => by cases h
  | .str _ :: _, _, h => by cases h
  | .ty _ :: _, _, h => by cases h
  | .cls _ :: _, _, h => by cases h
  | .lst _ :: _, _, h => by cases h
  | .tup _ :: _, _, h => by cases h
  | .dic _ :: _, _, h => by cases h
  | .obj _ _ :: _, _, h => by cases h
  | .exc _ _ :: _, _, h => by cases h
  | .ref _ :: _, _, h => by cases h
theorem intsD_map : ∀ ns : List Int, intsD (ns.map D.int) = some ns
  | [] => rfl
  | n :: ns => by simp only [List.map_cons, intsD, intsD_map ns, Option.map_some]
def fSum (S : Sto) : List D → Option Slot
  | [d] => match lookD S d with
    | .lst xs => (intsD xs).map fun ns => .val (.int ns.sum)
    | _ => none
  | _ => none
theorem r_sum : RCall K (rSum K) fSum := by
  intro g vs ds s Q ok r e h
  unfold fSum at e
  split at e
  · rename_i d
    obtain ⟨v, rfl, r0⟩ := repL1 r
    split at e
    · rename_i xs q
      obtain ⟨p, us, rfl, hp, l⟩ := look_lst ok r0 q
      cases z : intsD xs with
      | none => rw [z] at e; cases e
      | some ns =>
        rw [z] at e; cases e
        rw [intsD_eq z] at l
        have := l.ints; subst this
        exact ⟨p, ns, rfl, hp, h g _ rfl (Post.refl ok) (by simp only [OutRep, Rep])⟩
    · cases e
  · cases e

/-! ### isinstance -/
/-- what isinstance asks of a class of instances -/
structure InsC (K : PySem.W.Frag) (C : Addr) : Prop where
  cl : Cls K C
  asks : PySem.W.findIn K (.ref C) "__class__" = some (some (.builtin "object.__class__")) ∧ PySem.W.specialIn K (.builtin "object.__class__") "__get__" = some (some (.builtin "getset_descriptor.__get__")) ∧ PySem.W.takesIn K (.builtin "object.__class__") = some true ∧ PySem.W.mroIn K C (.type "object") = some true
/-- what the written part tells of its classes; own: all own classes, ec, ic: those of exceptions, of instances; bt: the built-in classes that are asked for -/
structure KitOk (K : PySem.W.Frag) (mro : String → List String) (own ec ic bt : List String) : Prop where
  exc : ∀ c ∈ ec, ExcC K (He.ga K (Str.ofString c))
  ins : ∀ c ∈ ic, InsC K (He.ga K (Str.ofString c))
  kitO : ∀ c ∈ ec ++ ic, ∀ t ∈ own, PySem.W.kitOne K (.ref (He.ga K (Str.ofString c))) (.ref (He.ga K (Str.ofString t))) = some ((mro c).contains t)
  kitB : ∀ c ∈ ec ++ ic, ∀ t ∈ bt, PySem.W.kitOne K (.ref (He.ga K (Str.ofString c))) (.type t) = some ((mro c).contains t)
  kitT : ∀ b ∈ ["NoneType", "bool", "int", "str", "list", "tuple", "dict"], ∀ t ∈ own, PySem.W.kitOne K (.type b) (.ref (He.ga K (Str.ofString t))) = some false
structure CT where
  mro : String → List String
  own : List String
  ec : List String
  ic : List String
  bt : List String
def tyN : D → Option String
  | .non => some "NoneType" | .bl _ => some "bool" | .int _ => some "int" | .str _ => some "str"
  | .lst _ => some "list" | .tup _ => some "tuple" | .dic _ => some "dict"
  | _ => none
def isi1 (T : CT) (x : D) (t : D) : Option Bool := match t with
  | .ty b => match x with
    | .exc c [] => if T.ec.contains c && T.bt.contains b then some ((T.mro c).contains b) else none
    | .obj c _ => if T.ic.contains c && T.bt.contains b then some ((T.mro c).contains b) else none
    | x => match tyN x with
      | some y => if ["NoneType", "bool", "int", "str", "list", "tuple", "dict"].contains b then some (b == y || (y == "bool" && b == "int")) else none
      | none => none
  | .cls k => match x with
    | .exc c [] => if T.ec.contains c && T.own.contains k then some ((T.mro c).contains k) else none
    | .obj c _ => if T.ic.contains c && T.own.contains k then some ((T.mro c).contains k) else none
    | x => match tyN x with
      | some y => if T.own.contains k then some false else none
      | none => none
  | _ => none
def isiL (T : CT) (x : D) : List D → Option Bool
  | [] => some false
  | t :: ts => match isi1 T x t, isiL T x ts with
    | some a, some b => some (a || b)
    | _, _ => none
def fIsi (T : CT) (S : Sto) : List D → Option Slot
  | [x, .tup (t :: ts)] => (isiL T (lookD S x) (t :: ts)).map fun b => .val (.bl b)
  | [x, t] => (isi1 T (lookD S x) t).map fun b => .val (.bl b)
  | _ => none
inductive TyE (K : PySem.W.Frag) (H : Hp) : V → Value → Prop where
  | base {x : V} {t : Value} (h : TyX K H x t) : TyE K H x t
  | exc {a C : Addr} (e : H a = some (exho a (.ref C) none)) (c : ExcC K C) : TyE K H (.ref a) (.ref C)
  | kl {a : Addr} {xs : List V} (e : SqL K H a xs) : TyE K H (.ref a) (.type "list")
theorem kit_ofE {pins : List (Addr × Obj)} {σ : L2.St} {H : Hp} {s : Shared} {x : V} {u t : Value} (I : Inv X pins σ H s) (rx : RelV x u) (ty : TyE X.K H x t) : ∃ P : Heap → Prop, PySem.W.KitX X.K u t P ∧ P s.heap ∧ u ≠ .builtin "__main__.__loader__#opaque" := by
  cases ty with
  | base h => exact kit_of I rx h
  | @kl a xs listed =>
    obtain rfl : u = .ref a := rx
    obtain ⟨_, _, ⟨ob, _, stands, kind, _⟩, _⟩ := I.list listed
    exact ⟨_, PySem.W.kitx_list, ⟨ob, stands, kind⟩, nofun⟩
  | @exc a C tracked c =>
    obtain rfl : u = .ref a := rx
    obtain ⟨⟨⟨oc, od, oda, osl⟩, stands, ⟨k1, k2⟩, vs, k3⟩, _⟩ : ObjOk X.prog X.w H s.heap a (exho a (.ref C) none) := I.hok a _ tracked
    obtain rfl : oc = .ref C := k1
    obtain rfl : od = none := k2
    obtain rfl : oda = .fields vs := k3
    exact ⟨_, PySem.W.handS_kitx_exc c.hg c.hk c.hs c.hd c.ha c.hn c.ht c.hm, ⟨stands, rfl, rfl, trivial⟩, nofun⟩
def rIsiE (K : PySem.W.Frag) : List V → Hp → VK → Prop := fun xs H Q => ∃ (x c : V) (t u : Value) (b : Bool), xs = [x, c] ∧ ClsV c u ∧ TyE K H x t ∧ PySem.W.kitOne K t u = some b ∧ Q (.bl b) H
def rIsiET (K : PySem.W.Frag) : List V → Hp → VK → Prop := fun xs H Q => ∃ (x : V) (tp : Addr) (cs : List V) (t : Value) (us : List Value) (b : Bool), xs = [x, .ref tp] ∧ H tp = some (.tup cs) ∧ Paired ClsV cs us ∧ TyE K H x t ∧ PySem.W.kitAny K t us = some b ∧ Q (.bl b) H
theorem call_isiE : CallR X (.builtin "isinstance") (rIsiE X.K) := fun pins s σ H xs us Q I args ⟨x, c, t, cls, b, two, isCls, ty, says, then_⟩ => by
  subst two
  obtain ⟨_, _, rfl, rx, rc⟩ := vals2 args
  obtain rfl := isCls.eq rc
  obtain ⟨_, kind, here, named⟩ := kit_ofE I rx ty
  exact PySem.W.kia_one kind I.kIn here says named fun tk => ⟨V.bl b, H, I.tok tk, rfl, then_⟩
theorem call_isiET : CallR X (.builtin "isinstance") (rIsiET X.K) := fun pins s σ H xs us Q I args ⟨x, tp, cs, t, clss, b, two, stands, areCls, ty, says, then_⟩ => by
  subst two
  obtain ⟨_, _, rfl, rx, rc⟩ := vals2 args
  obtain rfl : _ = Value.ref tp := rc
  obtain ⟨_, its, rits, ⟨oc, od, dt, sl⟩, at_, isTup, n, items⟩ : ObjOk X.prog X.w H s.heap tp (.tup cs) := I.hok tp _ stands
  obtain rfl := ClsV.all areCls rits
  obtain rfl : oc = _ := isTup
  obtain rfl : dt = _ := items
  obtain ⟨_, kind, here, named⟩ := kit_ofE I rx ty
  exact PySem.W.kia_tup kind I.kIn here at_ says named fun tk => ⟨V.bl b, H, I.tok tk, rfl, then_⟩
theorem call_isiAll : CallR X (.builtin "isinstance") (fun xs H Q => rIsiE X.K xs H Q ∨ rIsiET X.K xs H Q) := call_isiE.or call_isiET

theorem kitY {K : PySem.W.Frag} : ∀ y ∈ ["NoneType", "bool", "int", "str", "list", "tuple", "dict"], ∀ b ∈ ["NoneType", "bool", "int", "str", "list", "tuple", "dict"], PySem.W.kitOne K (.type y) (.type b) = some (b == y || (y == "bool" && b == "int")) := by
  intro y hy b hb
  have h : (["NoneType", "bool", "int", "str", "list", "tuple", "dict"].all fun y => ["NoneType", "bool", "int", "str", "list", "tuple", "dict"].all fun b => decide (kitB y b = some (b == y || (y == "bool" && b == "int")))) = true := by decide +kernel
  exact kit_ty (of_decide_eq_true (List.all_eq_true.mp (List.all_eq_true.mp h y hy) b hb))
theorem tyN_mem {d : D} {y : String} (h : tyN d = some y) : y ∈ ["NoneType", "bool", "int", "str", "list", "tuple", "dict"] := by
  cases d <;> simp only [tyN, Option.some.injEq] at h <;> first | (subst h; decide) | cases h
theorem tyN_ok {g : G} {S : Sto} {v : V} {d : D} {y : String} (ok : Ok K g) (r : Rep K g.io g.F v d) (h : tyN (lookD g.S d) = some y) : TyE K g.H v (.type y) := by
  cases q : lookD g.S d <;> rw [q] at h <;> simp only [tyN, Option.some.injEq] at h <;> first | (subst h) | cases h
  · have := look_non q; subst this; simp only [Rep] at r; subst r; exact .base (.base .non)
  · have := look_bl q; subst this; simp only [Rep] at r; subst r; exact .base (.base (.bl _))
  · have := look_int q; subst this; simp only [Rep] at r; subst r; exact .base (.base (.int _))
  · have := look_str q; subst this; simp only [Rep] at r; subst r; exact .base (.base (.str _))
  · obtain ⟨p, vs, rfl, hp, l⟩ := look_lst ok r q
    exact .kl hp
  · obtain ⟨p, vs, rfl, hp, l⟩ := look_tup ok r q
    exact .base (.base (.tup (ok.le _ _ hp)))
  · obtain ⟨p, vs, rfl, hp, l⟩ := look_dic ok r q
    exact .base (.base (.dK hp))
theorem look_exc {g : G} {v : V} {d : D} {c : String} (ok : Ok K g) (r : Rep K g.io g.F v d) (e : lookD g.S d = .exc c []) : ∃ a, v = .ref a ∧ g.H a = some (exho a (.ref (He.ga K (Str.ofString c))) none) := by
  cases d with
  | exc c' fs =>
    simp only [lookD, D.exc.injEq] at e
    obtain ⟨rfl, rfl⟩ := e
    simp only [Rep] at r
    obtain ⟨p, d, rfl, h, ⟨_, rfl⟩ | ⟨n, _⟩⟩ := r
    · exact ⟨p, rfl, ok.le _ _ h⟩
    · exact absurd rfl n
  | ref i =>
    simp only [lookD] at e
    split at e
    · rename_i c q; cases c <;> cases e
    · cases e
  | _ => simp [lookD] at e
theorem look_obj {g : G} {v : V} {d : D} {c : String} {fs : List (String × D)} (ok : Ok K g) (r : Rep K g.io g.F v d) (e : lookD g.S d = .obj c fs) : ∃ a dx fvs, v = .ref a ∧ g.H a = some (.ins (He.ga K (Str.ofString c)) dx fvs) ∧ g.H dx = some (.own a) ∧ RepF K g.io g.F fvs fs := by
  cases d with
  | obj c' fs' =>
    simp only [lookD, D.obj.injEq] at e
    obtain ⟨rfl, rfl⟩ := e
    simp only [Rep] at r
    obtain ⟨p, dx, fvs, rfl, h, h2, l⟩ := r
    exact ⟨p, dx, fvs, rfl, ok.le _ _ h, ok.le _ _ h2, l⟩
  | ref i =>
    simp only [lookD] at e
    simp only [Rep] at r
    obtain ⟨p, e1, e2⟩ := r
    cases q : g.S[i]? with
    | none => rw [q] at e; cases e
    | some o =>
      rw [q] at e
      cases o with
      | none => cases e
      | some k =>
        obtain ⟨p', f1, f2, f3⟩ := ok.cell i k q
        rw [e1] at f1; cases f1
        cases k with
        | obj c fs =>
          simp only [Cell.d, D.obj.injEq] at e
          obtain ⟨rfl, rfl⟩ := e
          obtain ⟨dx, vs, a, a2, b⟩ := f3
          exact ⟨p, dx, vs, e2, a, a2, b⟩
        | lst xs => cases e
        | dic ks => cases e
  | _ => simp [lookD] at e
variable {T : CT}
abbrev CT.ok (T : CT) (K : PySem.W.Frag) : Prop := KitOk K T.mro T.own T.ec T.ic T.bt
theorem memS {l : List String} {x : String} (h : l.contains x = true) : x ∈ l := by simpa using h
/-- the class of a thing, what isinstance answers of each class -/
theorem isi_ty (hT : T.ok K) {g : G} {v : V} {d : D} {t0 : D} {b0 : Bool} (ok : Ok K g) (r : Rep K g.io g.F v d) (h0 : isi1 T (lookD g.S d) t0 = some b0) :
    ∃ ty, TyE K g.H v ty ∧ ∀ t b, isi1 T (lookD g.S d) t = some b → ∃ cv, (∀ io F x, Rep K io F x t → ClsV x cv) ∧ PySem.W.kitOne K ty cv = some b := by
  cases hx : lookD g.S d with
  | exc c fs =>
    cases fs with
    | cons _ _ => rw [hx] at h0; cases t0 <;> simp [isi1, tyN] at h0
    | nil =>
      obtain ⟨a, rfl, e⟩ := look_exc ok r hx
      have hc : c ∈ T.ec := by
        rw [hx] at h0
        cases t0 <;> simp only [isi1] at h0 <;> first | cases h0 | skip
        all_goals
          split at h0
          · rename_i z; rw [Bool.and_eq_true] at z; exact memS z.1
          · cases h0
      refine ⟨_, .exc e (hT.exc c hc), fun t b h => ?_⟩
      cases t <;> simp only [isi1] at h <;> first | cases h | skip
      · rename_i k
        split at h
        · rename_i z; rw [Bool.and_eq_true] at z; cases h
          exact ⟨.type k, fun io F x q => by simp only [Rep] at q; subst q; exact .ty k, hT.kitB c (List.mem_append_left _ hc) k (memS z.2)⟩
        · cases h
      · rename_i k
        split at h
        · rename_i z; rw [Bool.and_eq_true] at z; cases h
          exact ⟨.ref _, fun io F x q => by simp only [Rep] at q; subst q; exact .own _, hT.kitO c (List.mem_append_left _ hc) k (memS z.2)⟩
        · cases h
  | obj c fs =>
    obtain ⟨a, dx, fvs, rfl, e, e2, l⟩ := look_obj ok r hx
    have hc : c ∈ T.ic := by
      rw [hx] at h0
      cases t0 <;> simp only [isi1] at h0 <;> first | cases h0 | skip
      all_goals
        split at h0
        · rename_i z; rw [Bool.and_eq_true] at z; exact memS z.1
        · cases h0
    have I := hT.ins c hc
    refine ⟨_, .base (.base (.ins e I.cl I.asks.1 I.asks.2.1 I.asks.2.2.1 I.asks.2.2.2)), fun t b h => ?_⟩
    cases t <;> simp only [isi1] at h <;> first | cases h | skip
    · rename_i k
      split at h
      · rename_i z; rw [Bool.and_eq_true] at z; cases h
        exact ⟨.type k, fun io F x q => by simp only [Rep] at q; subst q; exact .ty k, hT.kitB c (List.mem_append_right _ hc) k (memS z.2)⟩
      · cases h
    · rename_i k
      split at h
      · rename_i z; rw [Bool.and_eq_true] at z; cases h
        exact ⟨.ref _, fun io F x q => by simp only [Rep] at q; subst q; exact .own _, hT.kitO c (List.mem_append_right _ hc) k (memS z.2)⟩
      · cases h
  | _ =>
    all_goals
      first
        | (rw [hx] at h0; cases t0 <;> simp [isi1, tyN] at h0; done)
        | (refine ⟨_, tyN_ok (S := g.S) ok r (by rw [hx]; rfl), fun t b h => ?_⟩
           cases t <;> simp only [isi1, tyN] at h <;> first | cases h | skip
           · rename_i k
             split at h
             · rename_i z; cases h
               exact ⟨.type k, fun io F x q => by simp only [Rep] at q; subst q; exact .ty k, kitY _ (by decide) k (memS z)⟩
             · cases h
           · rename_i k
             split at h
             · rename_i z; cases h
               exact ⟨.ref _, fun io F x q => by simp only [Rep] at q; subst q; exact .own _, hT.kitT _ (by decide) k (memS z)⟩
             · cases h)
theorem isiL_ok {ty : Value} {x : D} {io : List Addr} {F : Hp} (HK : ∀ t b, isi1 T x t = some b → ∃ cv, (∀ io F y, Rep K io F y t → ClsV y cv) ∧ PySem.W.kitOne K ty cv = some b) :
    ∀ (ts : List D) (vs : List V) (b : Bool), RepL K io F vs ts → isiL T x ts = some b → ∃ us, Paired ClsV vs us ∧ PySem.W.kitAny K ty us = some b
  | [], vs, b, r, h => by
    simp only [RepL] at r; subst r; cases h
    exact ⟨[], .nil, rfl⟩
  | t :: ts, vs, b, r, h => by
    simp only [RepL] at r
    obtain ⟨v, q, rfl, r1, r2⟩ := r
    simp only [isiL] at h
    cases h1 : isi1 T x t with
    | none => rw [h1] at h; cases h
    | some a =>
      cases h2 : isiL T x ts with
      | none => rw [h1, h2] at h; cases h
      | some b' =>
        rw [h1, h2] at h; cases h
        obtain ⟨cv, k1, k2⟩ := HK t a h1
        obtain ⟨us, k3, k4⟩ := isiL_ok HK ts q b' r2 h2
        exact ⟨cv :: us, .cons (k1 _ _ _ r1) k3, kitAny_cons k2 (fun z => by subst z; simpa using k4) fun z => by subst z; rfl⟩
theorem r_isi (hT : T.ok K) : RCall K (fun xs H Q => rIsiE K xs H Q ∨ rIsiET K xs H Q) (fIsi T) := by
  intro g vs ds s Q ok r e h
  unfold fIsi at e
  split at e
  · rename_i x t ts
    obtain ⟨v, u, rfl, r1, r2⟩ := repL2 r
    cases z : isiL T (lookD g.S x) (t :: ts) with
    | none => rw [z] at e; cases e
    | some b =>
      rw [z] at e; cases e
      simp only [Rep] at r2
      obtain ⟨p, us, rfl, hp, l⟩ := r2
      obtain ⟨b1, hb1⟩ : ∃ b1, isi1 T (lookD g.S x) t = some b1 := by
        simp only [isiL] at z
        cases q : isi1 T (lookD g.S x) t with
        | none => rw [q] at z; cases z
        | some b1 => exact ⟨b1, rfl⟩
      obtain ⟨ty, h1, h2⟩ := isi_ty hT ok r1 hb1
      obtain ⟨ws, k1, k2⟩ := isiL_ok h2 (t :: ts) us b l z
      exact .inr ⟨_, p, us, ty, ws, b, rfl, ok.le _ _ hp, k1, h1, k2, h g _ rfl (Post.refl ok) (by simp only [OutRep, Rep])⟩
  · rename_i x t hn
    obtain ⟨v, u, rfl, r1, r2⟩ := repL2 r
    cases z : isi1 T (lookD g.S x) t with
    | none => rw [z] at e; cases e
    | some b =>
      rw [z] at e; cases e
      obtain ⟨ty, h1, h2⟩ := isi_ty hT ok r1 z
      obtain ⟨cv, k1, k2⟩ := h2 t b z
      exact .inl ⟨_, u, ty, cv, b, rfl, k1 _ _ _ r2, h1, k2, h g _ rfl (Post.refl ok) (by simp only [OutRep, Rep])⟩
  · cases e
/-- classes as values -/
theorem dv_ty {x : Str} {n : String} (hg : Gl X x) (hm : X.mg x = none) (hv : bootBuiltins x = some (.type n)) (hn : x ≠ "__name__" := by decide) (hd : (x == ("__debug__" : Str)) = false := by decide) : DV X (.Name x pos) (eC (.ty n)) :=
  dv_c (v := .ty n) (pe_bltn hg hm hv rfl hn hd) fun _ _ => by simp only [Rep]
theorem dv_cls {x : Str} {c : String} (hg : Gl X x) (hm : X.mg x = some (.ref (He.ga X.K (Str.ofString c)))) (hd : (x == ("__debug__" : Str)) = false := by decide) : DV X (.Name x pos) (eC (.cls c)) :=
  dv_c (v := .ref (He.ga X.K (Str.ofString c))) (pe_glob hg hm rfl hd) fun _ _ => by simp only [Rep]
end
end FW
end
section
set_option maxHeartbeats 2000000
/-! FW7: the one reading of a plain function; what is walked; comprehensions. -/
namespace FW
open PySem PySem.Spec PyProof.Rows L2
/-! ### the reading that a plain function is -/
def tV (K : PySem.W.Frag) (W : WX) (m : M D) : TE := fun σ H Q => ∃ (g : G) (ρ : List Slot), g.H = H ∧ RelS K g σ ρ ∧
  (m ρ g.S).post (fun d S' => ∀ g' v, g'.S = S' → Post K g g' → Rep K g'.io g'.F v d → Q v g'.H) (fun e S' => ∀ g' c dd, g'.S = S' → Post K g g' → RepX K g' c dd e → W c dd σ g'.H)
def tT (K : PySem.W.Frag) (W : WX) (m : M Bool) : TT := fun σ H Q => ∃ (g : G) (ρ : List Slot), g.H = H ∧ RelS K g σ ρ ∧
  (m ρ g.S).post (fun d S' => ∀ g', g'.S = S' → Post K g g' → Q d g'.H) (fun e S' => ∀ g' c dd, g'.S = S' → Post K g g' → RepX K g' c dd e → W c dd σ g'.H)
section
variable {X : Cx} {e : Expr} {W : WX}
theorem DV.pe {m : M D} (h : DV X e m) (tk : Takes X W) : PE X e (tV X.K W m) := ⟨fun pins s σ H Q I q => by
  obtain ⟨t, pe, rv⟩ := h.ex W tk
  obtain ⟨g, ρ, rfl, rel, q⟩ := q
  exact pe.run pins s σ g.H Q I (rv g σ ρ Q rel q)⟩
theorem DT.pt {m : M Bool} (h : DT X e m) (tk : Takes X W) : PT X e (tT X.K W m) := ⟨fun pins s σ H Q I q => by
  obtain ⟨t, pe, rv⟩ := h.ex W tk
  obtain ⟨g, ρ, rfl, rel, q⟩ := q
  exact pe.run pins s σ g.H Q I (rv g σ ρ Q rel q)⟩
end

/-! ### what is walked -/
/-- lists of the store that must stand as they are while they are walked -/
abbrev Gds := List (Nat × List D)
def Gok (C : Gds) (S : Sto) : Prop := ∀ p ∈ C, S[p.1]? = some (some (.lst p.2))
theorem gok_nil {S : Sto} : Gok [] S ↔ True := ⟨fun _ => trivial, fun _ p h => by cases h⟩
theorem gok_one {S : Sto} {n : Nat} {xs : List D} : Gok [(n, xs)] S ↔ S[n]? = some (some (.lst xs)) := ⟨fun h => h (n, xs) (by simp), fun h p hp => by simp at hp; subst hp; exact h⟩
theorem gok_app {C C' : Gds} {S : Sto} : Gok (C ++ C') S ↔ Gok C S ∧ Gok C' S := ⟨fun h => ⟨fun p hp => h p (List.mem_append_left _ hp), fun p hp => h p (List.mem_append_right _ hp)⟩, fun h p hp => by
  rcases List.mem_append.mp hp with z | z
  · exact h.1 p z
  · exact h.2 p z⟩
structure Iter (K : PySem.W.Frag) (g0 : G) (J : It) (ds : List D) (C : Gds) : Prop where
  go : ∀ g, Ok K g → Le g0.F g.F → Pre g0.io g.io → Gok C g.S → ∀ i, i < ds.length → J.go i g.H
  yld : ∀ g, Ok K g → Le g0.F g.F → Pre g0.io g.io → Gok C g.S → ∀ i x H', i < ds.length → J.yld i g.H x H' → ∃ g', g'.H = H' ∧ g'.S = g.S ∧ Post K g g' ∧ ∃ d, ds[i]? = some d ∧ Rep K g'.io g'.F x d
  stop : ∀ g, Ok K g → Le g0.F g.F → Pre g0.io g.io → Gok C g.S → ∀ i, ds.length ≤ i → J.stop i g.H
def RI (K : PySem.W.Frag) (wi : TI) (W : WX) (m : M (List D × Gds)) : Prop := ∀ (g : G) (σ : L2.St) (ρ : List Slot) (R : It → Hp → Prop), RelS K g σ ρ →
  (m ρ g.S).post (fun ds S' => ∀ g' J, g'.S = S' → Post K g g' → Iter K g' J ds.1 ds.2 → R J g'.H) (fun e S' => ∀ g' c dd, g'.S = S' → Post K g g' → RepX K g' c dd e → W c dd σ g'.H) → wi σ g.H R
structure DI (X : Cx) (tg e : Expr) (m : M (List D × Gds)) : Prop where
  ex : ∀ W, Takes X W → ∃ wi, PI X tg e wi ∧ RI X.K wi W m

section
variable {X : Cx} {tg l : Expr} {K : PySem.W.Frag} {g : G}
/-- the list at a, while it stands -/
def StandsL (K : PySem.W.Frag) (g : G) (a : Addr) (ds : List D) (C : Gds) : Prop := ∃ n, ds.length = n ∧ ∀ g', Ok K g' → Le g.F g'.F → Pre g.io g'.io → Gok C g'.S → ∃ vs, SqL K g'.H a vs ∧ RepL K g'.io g'.F vs ds
theorem stands_frz {a : Addr} {vs : List V} {ds : List D} (h : SqL K g.F a vs) (r : RepL K g.io g.F vs ds) : StandsL K g a ds [] := ⟨_, rfl, fun g' ok le pr _ => ⟨vs, FW.SqL.mono ok.le (FW.SqL.mono le h), RepL.mono le pr ds r⟩⟩
theorem stands_ref {a : Addr} {n : Nat} {ds : List D} (h : g.io[n]? = some a) : StandsL K g a ds [(n, ds)] := ⟨_, rfl, fun g' ok le pr c => by
  obtain ⟨p, e, _, vs, hp, r⟩ := ok.cell n _ (gok_one.mp c)
  have := pr.get h
  rw [e] at this; cases this
  exact ⟨vs, .inl (.inl hp), r⟩⟩
theorem StandsL.more {a : Addr} {ds : List D} {C C' : Gds} (h : StandsL K g a ds C) (hc : ∀ S, Gok C' S → Gok C S) : StandsL K g a ds C' := by
  obtain ⟨n, e, f⟩ := h
  exact ⟨n, e, fun g' ok le pr c => f g' ok le pr (hc _ c)⟩
theorem iter_list {a : Addr} {ds : List D} {C : Gds} (h : StandsL K g a ds C) : Iter K g (Itl K a) ds C := by
  obtain ⟨_, _, sq⟩ := h
  refine ⟨fun g' ok le pr c i hi => ?_, fun g' ok le pr c i x H' hi y => ?_, fun g' ok le pr c i hi => ?_⟩
  · obtain ⟨vs, h1, r⟩ := sq g' ok le pr c
    have len := r.length
    exact ⟨vs, vs[i], h1, by simp [show i < vs.length by omega]⟩
  · obtain ⟨rfl, y⟩ := y
    obtain ⟨vs, h1, r⟩ := sq g' ok le pr c
    have e := y vs h1
    obtain ⟨d, hd⟩ : ∃ d, ds[i]? = some d := ⟨ds[i], by simp [hi]⟩
    obtain ⟨v, e2, q⟩ := r.get hd
    rw [e] at e2; cases e2
    exact ⟨g', rfl, rfl, Post.refl ok, d, hd, q⟩
  · obtain ⟨vs, h1, r⟩ := sq g' ok le pr c
    have len := r.length
    exact ⟨vs, h1, by omega⟩
theorem iter_tup {a : Addr} {vs : List V} {ds : List D} (h : g.F a = some (.tup vs)) (r : RepL K g.io g.F vs ds) : Iter K g (Itt K a) ds [] := by
  have sq : ∀ g', Ok K g' → Le g.F g'.F → SqT K g'.H a vs := fun g' ok le => SqT.of (ok.le _ _ (le _ _ h))
  have len := r.length
  refine ⟨fun g' ok le pr _ i hi => ?_, fun g' ok le pr _ i x H' hi y => ?_, fun g' ok le pr _ i hi => ⟨vs, sq g' ok le, by omega⟩⟩
  · exact ⟨vs, vs[i], sq g' ok le, by simp [show i < vs.length by omega]⟩
  · obtain ⟨rfl, y⟩ := y
    have e := y vs (sq g' ok le)
    obtain ⟨d, hd⟩ : ∃ d, ds[i]? = some d := ⟨ds[i], by simp [hi]⟩
    obtain ⟨v, e2, q⟩ := r.get hd
    rw [e] at e2; cases e2
    exact ⟨g', rfl, rfl, Post.refl ok, d, hd, Rep.mono le pr d q⟩
def enumD : Nat → List D → List D
  | _, [] => []
  | i, d :: ds => .tup [.int i, d] :: enumD (i + 1) ds
theorem enumD_length : ∀ (i : Nat) (ds : List D), (enumD i ds).length = ds.length
  | _, [] => rfl
  | i, d :: ds => by simp only [enumD, List.length_cons, enumD_length (i + 1) ds]
theorem enumD_get : ∀ (k i : Nat) (ds : List D) (d : D), ds[i]? = some d → (enumD k ds)[i]? = some (.tup [.int ((k + i : Nat) : Int), d])
  | _, _, [], _, h => by simp at h
  | k, 0, x :: ds, d, h => by simp at h; subst h; simp [enumD]
  | k, i + 1, x :: ds, d, h => by
    have := enumD_get (k + 1) i ds d (by simpa using h)
    simp only [enumD, List.getElem?_cons_succ, this]
    rw [show k + 1 + i = k + (i + 1) by omega]
theorem iter_enum {a : Addr} {ds : List D} {C : Gds} (h : StandsL K g a ds C) : Iter K g (Ite K a) (enumD 0 ds) C := by
  obtain ⟨_, _, sq⟩ := h
  have len2 := enumD_length 0 ds
  refine ⟨fun g' ok le pr c i hi => ?_, fun g' ok le pr c i x H' hi y => ?_, fun g' ok le pr c i hi => ?_⟩
  · obtain ⟨vs, h1, r⟩ := sq g' ok le pr c
    have len := r.length
    exact ⟨vs, vs[i], h1, by simp [show i < vs.length by omega]⟩
  · obtain ⟨p, z, rfl, hp, rfl, y⟩ := y
    obtain ⟨vs, h1, r⟩ := sq g' ok le pr c
    have e := y vs h1
    have hi' : i < ds.length := by omega
    obtain ⟨d, hd⟩ : ∃ d, ds[i]? = some d := ⟨ds[i], by simp [hi']⟩
    obtain ⟨v, e2, q⟩ := r.get hd
    rw [e] at e2; cases e2
    obtain ⟨p1, r1⟩ := out_tup (ds := [.int (i : Nat), d]) ok hp (RepL.cons (v := .int (i : Nat)) (by simp only [Rep]) (.one q))
    exact ⟨g'.frz p _, rfl, rfl, p1, _, by simpa using enumD_get 0 i ds d hd, r1⟩
  · obtain ⟨vs, h1, r⟩ := sq g' ok le pr c
    have len := r.length
    exact ⟨vs, h1, by omega⟩
def zipD : List D → List D → List D
  | x :: xs, y :: ys => .tup [x, y] :: zipD xs ys
  | _, _ => []
theorem zipD_length : ∀ (xs ys : List D), (zipD xs ys).length = min xs.length ys.length
  | [], _ => by simp [zipD]
  | _ :: _, [] => by simp [zipD]
  | x :: xs, y :: ys => by simp only [zipD, List.length_cons, zipD_length xs ys]; omega
theorem zipD_get : ∀ (i : Nat) (xs ys : List D) (x y : D), xs[i]? = some x → ys[i]? = some y → (zipD xs ys)[i]? = some (.tup [x, y])
  | _, [], _, _, _, h, _ => by simp at h
  | _, _ :: _, [], _, _, _, h => by simp at h
  | 0, a :: xs, b :: ys, x, y, h, h2 => by simp at h h2; subst h h2; simp [zipD]
  | i + 1, a :: xs, b :: ys, x, y, h, h2 => by
    have := zipD_get i xs ys x y (by simpa using h) (by simpa using h2)
    simp only [zipD, List.getElem?_cons_succ, this]
theorem iter_zip {a b : Addr} {ds es : List D} {C : Gds} (h : StandsL K g a ds C) (h2 : StandsL K g b es C) : Iter K g (Itz K a b) (zipD ds es) C := by
  obtain ⟨_, _, sq⟩ := h
  obtain ⟨_, _, sq2⟩ := h2
  have lz := zipD_length ds es
  refine ⟨fun g' ok le pr c i hi => ?_, fun g' ok le pr c i x H' hi y => ?_, fun g' ok le pr c i hi => ?_⟩
  · obtain ⟨vs, h1, r⟩ := sq g' ok le pr c
    obtain ⟨us, h3, r2⟩ := sq2 g' ok le pr c
    have len := r.length
    have len2 := r2.length
    exact ⟨vs, us, vs[i]'(by omega), us[i]'(by omega), h1, h3, by simp, by simp⟩
  · obtain ⟨p, z, z2, rfl, hp, rfl, y, y2⟩ := y
    obtain ⟨vs, h1, r⟩ := sq g' ok le pr c
    obtain ⟨us, h3, r2⟩ := sq2 g' ok le pr c
    have e := y vs h1
    have e' := y2 us h3
    obtain ⟨d, hd⟩ : ∃ d, ds[i]? = some d := ⟨ds[i]'(by omega), by simp⟩
    obtain ⟨d2, hd2⟩ : ∃ d, es[i]? = some d := ⟨es[i]'(by omega), by simp⟩
    obtain ⟨v, e2, q⟩ := r.get hd
    obtain ⟨v2, e3, q2⟩ := r2.get hd2
    rw [e] at e2; cases e2
    rw [e'] at e3; cases e3
    obtain ⟨p1, r1⟩ := out_tup (ds := [d, d2]) ok hp (.cons q (.one q2))
    exact ⟨g'.frz p _, rfl, rfl, p1, _, zipD_get i ds es d d2 hd hd2, r1⟩
  · obtain ⟨vs, h1, r⟩ := sq g' ok le pr c
    obtain ⟨us, h3, r2⟩ := sq2 g' ok le pr c
    have len := r.length
    have len2 := r2.length
    exact ⟨vs, us, h1, h3, by omega⟩
def rangeD (lo : Int) (n : Nat) : List D := (List.range n).map fun (i : Nat) => D.int (lo + (i : Int))
theorem iter_range {lo : Int} {n : Nat} : Iter K g (Itr lo n) (rangeD lo n) [] := by
  have l : (rangeD lo n).length = n := by simp [rangeD]
  refine ⟨fun g' ok le pr _ i hi => by rw [l] at hi; exact hi, fun g' ok le pr _ i x H' hi y => ?_, fun g' ok le pr _ i hi => by rw [l] at hi; exact hi⟩
  obtain ⟨rfl, rfl⟩ := y
  rw [l] at hi
  exact ⟨g', rfl, rfl, Post.refl ok, .int (lo + i), by simp [rangeD, hi], by simp only [Rep]⟩

/-- a sequence, a list or a tuple -/
def iSeq (K : PySem.W.Frag) (tl : TE) : TI := fun σ H R => iList K tl σ H R ∨ iTup K tl σ H R
theorem pi_seq {tl : TE} (hl : PE X l tl) : PI X tg l (iSeq X.K tl) := ⟨fun pins s σ H R I h => h.elim ((pi_list hl).run pins s σ H R I) ((pi_tup hl).run pins s σ H R I)⟩
def mThen {α β : Type} (f : α → Option β) (m : M α) : M β := fun ρ S => (m ρ S).bind fun a S1 => match f a with
  | some b => .ok b S1
  | none => .bad
def mThenS {α β : Type} (f : Sto → α → Option β) (m : M α) : M β := fun ρ S => (m ρ S).bind fun a S1 => match f S1 a with
  | some b => .ok b S1
  | none => .bad
/-- a list, as it stands -/
def lstOf (S : Sto) : D → Option (List D × Gds)
  | .lst ds => some (ds, [])
  | .ref n => match S[n]? with
    | some (some (.lst ds)) => some (ds, [(n, ds)])
    | _ => none
  | _ => none
theorem lstOf_ok {v : V} {d : D} {p : List D × Gds} (ok : Ok K g) (r : Rep K g.io g.F v d) (h : lstOf g.S d = some p) : ∃ a vs, v = .ref a ∧ SqL K g.H a vs ∧ StandsL K g a p.1 p.2 := by
  unfold lstOf at h
  split at h
  · cases h
    simp only [Rep] at r
    obtain ⟨a, vs, rfl, ha, l⟩ := r
    exact ⟨a, vs, rfl, FW.SqL.mono ok.le ha, stands_frz ha l⟩
  · rename_i n
    split at h
    · rename_i ds hn
      cases h
      simp only [Rep] at r
      obtain ⟨a, ha, rfl⟩ := r
      obtain ⟨a', e, _, vs, hp, l⟩ := ok.cell n _ hn
      rw [ha] at e; cases e
      exact ⟨a, vs, rfl, .inl (.inl hp), stands_ref ha⟩
    · cases h
  · cases h
def fSeq (S : Sto) : D → Option (List D × Gds)
  | .tup ds => some (ds, [])
  | d => lstOf S d
def mSeq (m : M D) : M (List D × Gds) := mThenS fSeq m
theorem di_seq {m : M D} (h : DV X l m) : DI X tg l (mSeq m) := ⟨fun W tk => by
  obtain ⟨t, pe, rv⟩ := h.ex W tk
  refine ⟨_, pi_seq pe, fun g σ ρ R rel q => ?_⟩
  unfold mSeq mThenS at q
  rw [post_bind] at q
  by_cases tup : ∃ ds S1, m ρ g.S = .ok (.tup ds) S1
  · refine .inr (rv g σ ρ _ rel (q.imp (fun d S1 e1 h1 g1 x es p1 r1 => ?_) fun e S1 _ h1 => h1))
    obtain ⟨ds, S2, e2⟩ := tup
    rw [e2] at e1; cases e1
    simp only [Rep] at r1
    obtain ⟨p, vs, rfl, hp, l⟩ := r1
    exact ⟨p, rfl, ⟨vs, SqT.of (p1.ok.le _ _ hp)⟩, h1 g1 _ es p1 (iter_tup hp l)⟩
  · refine .inl (rv g σ ρ _ rel (q.imp (fun d S1 e1 h1 g1 x es p1 r1 => ?_) fun e S1 _ h1 => h1))
    subst es
    have ef : fSeq g1.S d = lstOf g1.S d := by
      cases d with
      | tup ds => exact absurd ⟨ds, _, e1⟩ tup
      | _ => rfl
    rw [ef] at h1
    cases z : lstOf g1.S d with
    | none => rw [z] at h1; exact h1.elim
    | some pr =>
      rw [z] at h1
      obtain ⟨a, vs, rfl, ha, st⟩ := lstOf_ok p1.ok r1 z
      exact ⟨a, rfl, ⟨vs, ha⟩, h1 g1 _ rfl p1 (iter_list st)⟩⟩
/-- range(n), range(a, b) -/
def fRange : List D → Option (List D × Gds)
  | [.int j] => if j ≤ 1000000 ∧ -1000000000000 ≤ j then some (rangeD 0 j.toNat, []) else none
  | [.int i, .int j] => if -1000000000000 ≤ i ∧ i ≤ 1000000000000 ∧ -1000000000000 ≤ j ∧ j ≤ i + 1000000 then some (rangeD i (j - i).toNat, []) else none
  | _ => none
def mRange (m : M (List D)) : M (List D × Gds) := mThen fRange m
theorem di_range1 {a : Expr} {m : M (List D)} {p pos : Pos} (hg : Gl X "range") (hm : X.mg "range" = none) (ha : DA X [a] m) (hs : starEach [a] X.env = [(false, eval a X.env)] := by rfl) : DI X tg (.Call (.Name "range" p) [a] [] pos) (mRange m) := ⟨fun W tk => by
  obtain ⟨t, pe, rv⟩ := ha.ex W tk
  refine ⟨_, pi_range1 hg hm pe hs, fun g σ ρ R rel q => ?_⟩
  unfold mRange mThen at q
  rw [post_bind] at q
  refine rv g σ ρ _ rel (q.imp (fun ds S1 e1 h1 g1 vs es p1 r1 => ?_) fun e S1 _ h1 => h1)
  have ln := ha.len _ _ _ _ e1
  unfold fRange at h1
  split at h1
  · rename_i ds' q
    split at q
    · rename_i j
      split at q
      · rename_i hj
        cases q
        obtain ⟨v, rfl, r⟩ := repL1 r1
        simp only [Rep] at r; subst r
        exact ⟨j, rfl, by omega, by omega, h1 g1 _ es p1 iter_range⟩
      · cases q
    · simp at ln
    · cases q
  · exact h1.elim⟩
theorem di_range2 {a b : Expr} {m : M (List D)} {p pos : Pos} (hg : Gl X "range") (hm : X.mg "range" = none) (ha : DA X [a, b] m) (hs : starEach [a, b] X.env = [(false, eval a X.env), (false, eval b X.env)] := by rfl) (hs2 : starEach [b] X.env = [(false, eval b X.env)] := by rfl) :
    DI X tg (.Call (.Name "range" p) [a, b] [] pos) (mRange m) := ⟨fun W tk => by
  obtain ⟨t, pe, rv⟩ := ha.ex W tk
  refine ⟨_, pi_range2 hg hm pe hs hs2, fun g σ ρ R rel q => ?_⟩
  unfold mRange mThen at q
  rw [post_bind] at q
  refine rv g σ ρ _ rel (q.imp (fun ds S1 e1 h1 g1 vs es p1 r1 => ?_) fun e S1 _ h1 => h1)
  have ln := ha.len _ _ _ _ e1
  unfold fRange at h1
  split at h1
  · rename_i ds' q
    split at q
    · simp at ln
    · rename_i i j
      split at q
      · rename_i hj
        cases q
        obtain ⟨v, u, rfl, r, r2⟩ := repL2 r1
        simp only [Rep] at r r2; subst r r2
        exact ⟨i, j, rfl, ⟨by omega, by omega, by omega, by omega⟩, h1 g1 _ es p1 iter_range⟩
      · cases q
    · cases q
  · exact h1.elim⟩
/-- enumerate(xs) -/
def fEnum (S : Sto) : List D → Option (List D × Gds)
  | [d] => (lstOf S d).map fun p => (enumD 0 p.1, p.2)
  | _ => none
theorem di_enum {e : Expr} {m : M (List D)} {p pos tpos : Pos} {elts : List Expr} {kk : Nat} (hg : Gl X "enumerate") (hm : X.mg "enumerate" = none) (ha : DA X [e] m) (hs : starEach [e] X.env = [(false, eval e X.env)] := by rfl) :
    DI X (.Tuple elts kk tpos) (.Call (.Name "enumerate" p) [e] [] pos) (mThenS fEnum m) := ⟨fun W tk => by
  obtain ⟨t, pe, rv⟩ := ha.ex W tk
  refine ⟨_, pi_enum hg hm pe hs, fun g σ ρ R rel q => ?_⟩
  unfold mThenS at q
  rw [post_bind] at q
  refine rv g σ ρ _ rel (q.imp (fun ds S1 e1 h1 g1 vs es p1 r1 => ?_) fun e S1 _ h1 => h1)
  subst es
  split at h1
  · rename_i ds' q
    unfold fEnum at q
    split at q
    · rename_i d
      cases z : lstOf g1.S d with
      | none => rw [z] at q; cases q
      | some pr =>
        rw [z] at q; cases q
        obtain ⟨v, rfl, r⟩ := repL1 r1
        obtain ⟨a, us, rfl, ha, st⟩ := lstOf_ok p1.ok r z
        exact ⟨a, us, rfl, ha, h1 g1 _ rfl p1 (iter_enum st)⟩
    · cases q
  · exact h1.elim⟩
/-- zip(xs, ys) -/
def fZip (S : Sto) : List D → Option (List D × Gds)
  | [d, e] => match lstOf S d, lstOf S e with
    | some p, some q => some (zipD p.1 q.1, p.2 ++ q.2)
    | _, _ => none
  | _ => none
theorem di_zip {e e2 : Expr} {m : M (List D)} {p pos tpos : Pos} {elts : List Expr} {kk : Nat} (hg : Gl X "zip") (hm : X.mg "zip" = none) (ha : DA X [e, e2] m)
    (hs : starEach [e, e2] X.env = (false, eval e X.env) :: starEach [e2] X.env := by rfl) (hpl : (backTo pos (starEach [e2] X.env)).any (·.1) = false := by rfl) :
    DI X (.Tuple elts kk tpos) (.Call (.Name "zip" p) [e, e2] [] pos) (mThenS fZip m) := ⟨fun W tk => by
  obtain ⟨t, pe, rv⟩ := ha.ex W tk
  refine ⟨_, pi_zip hg hm pe hs hpl, fun g σ ρ R rel q => ?_⟩
  unfold mThenS at q
  rw [post_bind] at q
  refine rv g σ ρ _ rel (q.imp (fun ds S1 e1 h1 g1 vs es p1 r1 => ?_) fun e S1 _ h1 => h1)
  subst es
  split at h1
  · rename_i ds' q
    unfold fZip at q
    split at q
    · rename_i d e
      split at q
      · rename_i pa pb z1 z2
        cases q
        obtain ⟨v, u, rfl, r, r2⟩ := repL2 r1
        obtain ⟨a, us, rfl, ha, st⟩ := lstOf_ok p1.ok r z1
        obtain ⟨b, us', rfl, hb, st'⟩ := lstOf_ok p1.ok r2 z2
        exact ⟨a, b, us, us', rfl, ha, hb, h1 g1 _ rfl p1 (iter_zip (st.more fun S c => (gok_app.mp c).1) (st'.more fun S c => (gok_app.mp c).2))⟩
      · cases q
    · cases q
  · exact h1.elim⟩
/-- reversed(range(a, b)) -/
theorem iter_rangeC {lo : Int} {n : Nat} : Iter K g (Itc (lo + (n : Int) - 1) (-1) n) (rangeD lo n).reverse [] := by
  have l : (rangeD lo n).reverse.length = n := by simp [rangeD]
  refine ⟨fun g' ok le pr _ i hi => by rw [l] at hi; exact hi, fun g' ok le pr _ i x H' hi y => ?_, fun g' ok le pr _ i hi => by rw [l] at hi; exact hi⟩
  obtain ⟨rfl, rfl⟩ := y
  rw [l] at hi
  refine ⟨g', rfl, rfl, Post.refl ok, .int (lo + (n : Int) - 1 + (i : Int) * -1), ?_, by simp only [Rep]⟩
  rw [List.getElem?_reverse (by simpa [rangeD] using hi)]
  have e : (rangeD lo n).length - 1 - i = n - 1 - i := by simp [rangeD]
  rw [e]
  simp only [rangeD, List.getElem?_map]
  rw [List.getElem?_range (by omega)]
  simp only [Option.map_some, Option.some.injEq, D.int.injEq]
  omega
def fRevRange : D → Option (List D × Gds)
  | .int j => if j ≤ 1000000 ∧ -1000000000000 ≤ j then some ((rangeD 0 j.toNat).reverse, []) else none
  | _ => none
theorem di_revrange {a : Expr} {m : M D} {p pos p2 pos2 : Pos} (hg : Gl X "reversed") (hm : X.mg "reversed" = none) (hg2 : Gl X "range") (hm2 : X.mg "range" = none) (ha : DV X a m)
    (hs : starEach [(.Call (.Name "range" p2) [a] [] pos2)] X.env = (false, eval (.Call (.Name "range" p2) [a] [] pos2) X.env) :: starEach [] X.env := by rfl) (na : starEach [a] X.env = (false, eval a X.env) :: starEach [] X.env := by rfl) :
    DI X tg (.Call (.Name "reversed" p) [(.Call (.Name "range" p2) [a] [] pos2)] [] pos) (mThen fRevRange m) := ⟨fun W tk => by
  obtain ⟨t, pe, rv⟩ := ha.ex W tk
  refine ⟨_, pi_revR hg hm (prg_1 hg2 hm2 pe na) hs, fun g σ ρ R rel q => ?_⟩
  unfold mThen at q
  rw [post_bind] at q
  refine rv g σ ρ _ rel (q.imp (fun d S1 e1 h1 g1 x es p1 r1 => ?_) fun e S1 _ h1 => h1)
  split at h1
  · rename_i ds' q
    unfold fRevRange at q
    split at q
    · rename_i j
      split at q
      · rename_i hj
        cases q
        simp only [Rep] at r1; subst r1
        refine ⟨j, rfl, by decide, by decide, by omega, by omega, h1 g1 _ es p1 ?_⟩
        have := iter_rangeC (K := X.K) (g := g1) (lo := 0) (n := j.toNat)
        simpa using this
      · cases q
    · cases q
  · exact h1.elim⟩

/-! ### targets -/
structure RG (K : PySem.W.Frag) (t : TG) (ix : List Nat) (m : D → List Slot → Option (List Slot)) : Prop where
  run : ∀ (g : G) (σ : L2.St) (ρ : List Slot) (v : V) (d : D) (ρ' : List Slot) (Q : L2.St → Hp → Prop), RelS K g σ ρ → Rep K g.io g.F v d → m d ρ = some ρ' →
    (∀ σ', RelS K g σ' ρ' → (∀ j, j ∉ ix → σ'[j]? = σ[j]? ∧ ρ'[j]? = ρ[j]?) → (∀ j c, j ∈ ix → ρ'[j]? ≠ some (.own c)) → Q σ' g.H) → t v σ g.H Q
  len : ∀ d ρ ρ', m d ρ = some ρ' → ρ'.length = ρ.length
theorem RelS.set {σ : L2.St} {ρ : List Slot} {v : V} {d : D} (h : RelS K g σ ρ) (i : Nat) (r : Rep K g.io g.F v d) : RelS K g (σ.set i (some v)) (ρ.set i (.val d)) where
  ok := h.ok
  len := by simp [h.len]
  slot := fun j s e => by
    by_cases q : i = j
    · subst q
      have hl : i < ρ.length := by
        have := (List.getElem?_eq_some_iff.mp e).1
        simpa using this
      rw [List.getElem?_set_self hl] at e
      cases e
      rw [List.getElem?_set_self (by rw [h.len]; exact hl)]
      exact ⟨v, rfl, r⟩
    · rw [List.getElem?_set_ne q] at e
      rw [List.getElem?_set_ne q]
      exact h.slot j s e
  dist := fun j k c c' p e1 e2 e3 e4 => by
    have nj : i ≠ j := fun q => by
      subst q
      rw [List.getElem?_set_self (by have := (List.getElem?_eq_some_iff.mp e1).1; simpa using this)] at e1
      cases e1
    have nk : i ≠ k := fun q => by
      subst q
      rw [List.getElem?_set_self (by have := (List.getElem?_eq_some_iff.mp e2).1; simpa using this)] at e2
      cases e2
    rw [List.getElem?_set_ne nj] at e1 e3
    rw [List.getElem?_set_ne nk] at e2 e4
    exact h.dist j k c c' p e1 e2 e3 e4
def gN (i : Nat) (d : D) (ρ : List Slot) : Option (List Slot) := some (ρ.set i (.val d))
theorem rg_name (i : Nat) : RG K (gName i) [i] (gN i) := .mk (len := fun d ρ ρ' e => by cases e; simp) (run := fun g σ ρ v d ρ' Q rel r e q => by
  cases e
  refine q _ (rel.set i r) (fun j hj => ?_) fun j c hj e => ?_
  · have n : i ≠ j := fun z => hj (by simp [z])
    rw [List.getElem?_set_ne n, List.getElem?_set_ne n]; exact ⟨rfl, rfl⟩
  · have z : j = i := by simpa using hj
    subst z
    by_cases hl : j < ρ.length
    · rw [List.getElem?_set_self hl] at e; cases e
    · rw [List.getElem?_eq_none (by simpa using hl)] at e; cases e)
/-- several names -/
def gSets : List Nat → List D → List Slot → List Slot
  | i :: is, d :: ds, ρ => gSets is ds (ρ.set i (.val d))
  | _, _, ρ => ρ
theorem gSets_length : ∀ (is : List Nat) (ds : List D) (ρ : List Slot), (gSets is ds ρ).length = ρ.length
  | [], ds, _ => by cases ds <;> rfl
  | _ :: _, [], _ => rfl
  | i :: is, d :: ds, ρ => by simp only [gSets]; rw [gSets_length is ds]; simp
def gTups : List Nat → TGs
  | [] => gNil
  | i :: is => gCons (gName i) (gTups is)
theorem rg_sets : ∀ (is : List Nat) (vs : List V) (ds : List D) (g : G) (σ : L2.St) (ρ : List Slot) (Q : L2.St → Hp → Prop), RelS K g σ ρ → RepL K g.io g.F vs ds → ds.length = is.length →
    (∀ σ', RelS K g σ' (gSets is ds ρ) → (∀ j, j ∉ is → σ'[j]? = σ[j]? ∧ (gSets is ds ρ)[j]? = ρ[j]?) → (∀ j c, j ∈ is → (gSets is ds ρ)[j]? ≠ some (.own c)) → Q σ' g.H) → gTups is vs σ g.H Q
  | [], vs, ds, g, σ, ρ, Q, rel, r, hl, q => by
    cases ds with
    | nil =>
      simp only [RepL] at r; subst r
      exact ⟨rfl, q σ rel (fun j _ => ⟨rfl, rfl⟩) fun j c h => by simp at h⟩
    | cons _ _ => simp at hl
  | i :: is, vs, ds, g, σ, ρ, Q, rel, r, hl, q => by
    cases ds with
    | nil => simp at hl
    | cons d ds =>
      simp only [RepL] at r
      obtain ⟨v, us, rfl, r1, r2⟩ := r
      refine ⟨v, us, rfl, ?_⟩
      refine rg_sets is us ds g _ (ρ.set i (.val d)) Q (rel.set i r1) r2 (by simpa using hl) fun σ' rel' h1 h2 => q σ' rel' (fun j hj => ?_) fun j c hj => ?_
      · have n : i ≠ j := fun z => hj (by simp [z])
        obtain ⟨a, b⟩ := h1 j (fun z => hj (by simp [z]))
        rw [List.getElem?_set_ne n] at a b
        exact ⟨a, b⟩
      · by_cases z : j ∈ is
        · exact h2 j c z
        · have e : j = i := by simpa [z] using hj
          subst e
          obtain ⟨a, b⟩ := h1 j z
          intro y
          have y2 : (ρ.set j (.val d))[j]? = some (.own c) := b.symm.trans y
          by_cases hl : j < ρ.length
          · rw [List.getElem?_set_self hl] at y2; cases y2
          · rw [List.getElem?_eq_none (by simpa using hl)] at y2; cases y2
def gT (is : List Nat) (d : D) (ρ : List Slot) : Option (List Slot) := match d with
  | .tup ds => if ds.length = is.length then some (gSets is ds ρ) else none
  | _ => none
theorem gT_len {is : List Nat} {d : D} {ρ ρ' : List Slot} (e : gT is d ρ = some ρ') : ρ'.length = ρ.length := by
  unfold gT at e
  split at e
  · split at e
    · cases e; exact gSets_length _ _ _
    · cases e
  · cases e
theorem rg_tup (is : List Nat) : RG K (gTup K is.length (gTups is)) is (gT is) := .mk (len := fun d ρ ρ' e => gT_len e) (run := fun g σ ρ v d ρ' Q rel r e q => by
  unfold gT at e
  split at e
  · rename_i ds
    split at e
    · rename_i hl
      cases e
      simp only [Rep] at r
      obtain ⟨p, vs, rfl, hp, l⟩ := r
      exact ⟨p, vs, rfl, SqT.of (rel.ok.le _ _ hp), by rw [l.length, hl], rg_sets is vs ds g σ ρ Q rel l hl q⟩
    · cases e
  · cases e)
/-! ### [e for target in xs if ..] -/
def wipeD (ρ : List Slot) : List Nat → List Slot
  | [] => ρ
  | v :: vs => (wipeD ρ vs).set v .none
open Classical in
noncomputable def lcLoop (C : Gds) (gm : D → List Slot → Option (List Slot)) (ρ : List Slot) (mt : M Bool) (me : M D) : List D → List D → Sto → R (List D)
  | [], acc, S => if Gok C S then .ok acc S else .bad
  | d :: ds, acc, S => if Gok C S then (match gm d ρ with
    | none => .bad
    | some ρ1 => (mt ρ1 S).bind fun b S1 => bif b then (me ρ1 S1).bind fun x S2 => lcLoop C gm ρ mt me ds (acc ++ [x]) S2 else lcLoop C gm ρ mt me ds acc S1) else .bad
/-- an error within is not served -/
def noErr {α : Type} (r : R α) : R α := match r with
  | .err _ _ => .bad
  | r => r
noncomputable def mLc (mi : M (List D × Gds)) (gm : D → List Slot → Option (List Slot)) (ix : List Nat) (mt : M Bool) (me : M D) : M Slot := fun ρ S => (mi ρ S).bind fun ds S1 =>
  if ds.1.length ≤ 1000000 then (noErr (lcLoop ds.2 gm (wipeD ρ ix) mt me ds.1 [] S1)).bind fun acc S2 => .ok (.own (.lst acc)) S2 else .bad
theorem wipe_get (σ : L2.St) : ∀ (vs : List Nat) (j : Nat), (wipe σ vs)[j]? = if j ∈ vs then (σ[j]?).map (fun _ => none) else σ[j]?
  | [], j => by simp [wipe]
  | v :: vs, j => by
    unfold wipe
    by_cases h : v = j
    · subst h
      rw [if_pos (by simp)]
      by_cases hl : v < σ.length
      · rw [List.getElem?_set_self (by rw [wipe_length]; exact hl)]
        simp [hl]
      · rw [List.getElem?_eq_none (by rw [List.length_set, wipe_length]; omega), List.getElem?_eq_none (by omega)]; rfl
    · rw [List.getElem?_set_ne h, wipe_get σ vs j]
      by_cases q : j ∈ vs
      · rw [if_pos q, if_pos (by simp [q])]
      · rw [if_neg q, if_neg (by simp [q]; exact fun z => h z.symm)]
theorem wipeD_length (ρ : List Slot) : ∀ vs : List Nat, (wipeD ρ vs).length = ρ.length
  | [] => rfl
  | v :: vs => by unfold wipeD; rw [List.length_set, wipeD_length ρ vs]
theorem wipeD_get (ρ : List Slot) : ∀ (vs : List Nat) (j : Nat), (wipeD ρ vs)[j]? = if j ∈ vs then (ρ[j]?).map (fun _ => Slot.none) else ρ[j]?
  | [], j => by simp [wipeD]
  | v :: vs, j => by
    unfold wipeD
    by_cases h : v = j
    · subst h
      rw [if_pos (by simp)]
      by_cases hl : v < ρ.length
      · rw [List.getElem?_set_self (by rw [wipeD_length]; exact hl)]
        simp [hl]
      · rw [List.getElem?_eq_none (by rw [List.length_set, wipeD_length]; omega), List.getElem?_eq_none (by omega)]; rfl
    · rw [List.getElem?_set_ne h, wipeD_get ρ vs j]
      by_cases q : j ∈ vs
      · rw [if_pos q, if_pos (by simp [q])]
      · rw [if_neg q, if_neg (by simp [q]; exact fun z => h z.symm)]
theorem RelS.wipe {σ : L2.St} {ρ : List Slot} (h : RelS K g σ ρ) (vs : List Nat) : RelS K g (wipe σ vs) (wipeD ρ vs) where
  ok := h.ok
  len := by rw [wipe_length, wipeD_length, h.len]
  slot := fun j s e => by
    rw [wipeD_get] at e
    rw [wipe_get]
    split at e
    · rename_i q
      cases z : ρ[j]? with
      | none => rw [z] at e; cases e
      | some s' => rw [z] at e; cases e; trivial
    · rename_i q
      rw [if_neg q]; exact h.slot j s e
  dist := fun j k c c' p e1 e2 e3 e4 => by
    rw [wipeD_get] at e1 e2
    rw [wipe_get] at e3 e4
    split at e1
    · cases z : ρ[j]? with
      | none => rw [z] at e1; cases e1
      | some s' => rw [z] at e1; cases e1
    · rename_i q
      rw [if_neg q] at e3
      split at e2
      · cases z : ρ[k]? with
        | none => rw [z] at e2; cases e2
        | some s' => rw [z] at e2; cases e2
      · rename_i q2
        rw [if_neg q2] at e4
        exact h.dist j k c c' p e1 e2 e3 e4
theorem wipe_same {σ σ' : L2.St} {vs : List Nat} (hl : σ'.length = σ.length) (h : ∀ j, j ∉ vs → σ'[j]? = (L2.wipe σ vs)[j]?) : L2.wipe σ' vs = L2.wipe σ vs := by
  apply List.ext_getElem?
  intro j
  rw [wipe_get, wipe_get]
  by_cases q : j ∈ vs
  · rw [if_pos q, if_pos q]
    by_cases hj : j < σ.length
    · simp [hj, hl]
    · rw [List.getElem?_eq_none (by omega), List.getElem?_eq_none (by omega)]
  · rw [if_neg q, if_neg q, h j q, wipe_get, if_neg q]
structure DTs (X : Cx) (ifs : List Expr) (m : M Bool) : Prop where
  ex : ∀ W, Takes X W → PTs X ifs (tT X.K W m)
theorem dts_nil : DTs X [] (eC true) := ⟨fun W tk => ⟨fun pins s σ H Q I q => by
  obtain ⟨g, ρ, rfl, rel, q⟩ := q
  exact pts_nil.run pins s σ g.H Q I (q g rfl (Post.refl rel.ok))⟩⟩
theorem dts_one {c : Expr} {m : M Bool} (h : DT X c m) : DTs X [c] m := ⟨fun W tk => pts_one (h.pt tk)⟩

/-- what is new since E, and one's own, changes -/
theorem Post.mut {E g : G} {p : Addr} {u o : HO} (b : Post K E g) (hE : E.H p = none) (hH : g.H p = some u) (hu : ∀ x, u ≠ .own x) (hF : g.F p = none) (hio : p ∉ g.io) (ho : ∀ x, o ≠ .own x) : Post K E { g with H := upd g.H p o } where
  ok := {
    le := fun a w e => (upd_ne (fun z => by subst z; rw [hF] at e; cases e)).trans (b.ok.le _ _ e)
    len := b.ok.len
    nd := b.ok.nd
    noown := fun a x e => b.ok.noown a x (not_own_of ho e)
    own := fun a x e => upd_some_ne (b.ok.own a x (not_own_of ho e))
    iod := fun a h => by
      show upd g.H p o a ≠ none
      unfold upd
      split
      · simp
      · exact b.ok.iod a h
    cell := fun i c e => by
      obtain ⟨q, e1, e2, r⟩ := b.ok.cell i c e
      have n : q ≠ p := fun z => by subst z; exact hio (List.mem_of_getElem? e1)
      refine ⟨q, e1, e2, ?_⟩
      cases c with
      | lst xs =>
        obtain ⟨vs, a, b⟩ := r
        exact ⟨vs, (upd_ne n).trans a, b⟩
      | dic xs =>
        obtain ⟨vs, a, b⟩ := r
        exact ⟨vs, (upd_ne n).trans a, b⟩
      | obj c fs =>
        obtain ⟨dx, vs, a, a2, b⟩ := r
        refine ⟨dx, vs, (upd_ne n).trans a, (upd_ne (fun z => ?_)).trans a2, b⟩
        subst z
        rw [hH] at a2
        exact hu _ (Option.some.inj a2) }
  leF := b.leF
  pre := b.pre
  fr := fun a w e n => (upd_ne (fun z => by subst z; rw [hE] at e; cases e)).trans (b.fr a w e n)
  fz := b.fz
  io := b.io
  dom := fun a h => by
    show upd g.H p o a ≠ none
    unfold upd
    split
    · simp
    · exact b.dom a h
/-- the new list at p beside a state of which it is no part -/
theorem lc_turns {J : It} {gt : TG} {ix : List Nat} {gm : D → List Slot → Option (List Slot)} {mt : M Bool} {me : M D} {σ : L2.St} {ρ : List Slot} {g0 : G} {ds : List D} {C : Gds} {p : Addr} {Q : VK} {W : WX}
    (rg : RG K gt ix gm) (rel0 : RelS K g0 σ ρ) (it : Iter K g0 J ds C) (hlen : ds.length ≤ 1000000) (hp : g0.H p = none)
    (fin : ∀ (g : G) acc, Post K g0 g → OutRep K g0 g (.ref p) (.own (.lst acc)) → (noErr (lcLoop C gm (wipeD ρ ix) mt me ds [] g0.S)) = .ok acc g.S → Q (.ref p) g.H)
    (ok : noErr (lcLoop C gm (wipeD ρ ix) mt me ds [] g0.S) ≠ .bad) :
    ∃ W0 : Nat → Nat → Hp → Prop, (∃ m, W0 0 m (upd g0.H p (.lst []))) ∧ ∀ i m H, W0 i m H →
      (J.stop i H ∧ Q (.ref p) H) ∨ (J.go i H ∧ ∃ Nx : Hp → Prop, (∀ H', Nx H' → ∃ m', m' < m ∧ W0 (i + 1) m' H') ∧ ∀ x H', J.yld i H x H' → gt x (L2.wipe σ ix) H' fun σ2 H2 => L2.wipe σ2 ix = L2.wipe σ ix ∧ tT K (fun _ _ _ _ => False) mt σ2 H2 fun b H3 =>
        if b = true then tV K (fun _ _ _ _ => False) me σ2 H3 fun y H4 => ∃ acc, H4 p = some (.lst acc) ∧ acc.length < sizeLine ∧ Nx (upd H4 p (.lst (acc ++ [y]))) else Nx H3) := by
  -- at turn i: a state g with the list of acc beside it
  refine ⟨fun i m H => m = ds.length - i ∧ i ≤ ds.length ∧ ∃ (g : G) (vs : List V) (acc : List D), g.H = H ∧ Post K g0 g ∧ g.H p = some (.lst vs) ∧ g.F p = none ∧ p ∉ g.io ∧ RepL K g.io g.F vs acc ∧ acc.length ≤ i ∧
      lcLoop C gm (wipeD ρ ix) mt me ds [] g0.S = lcLoop C gm (wipeD ρ ix) mt me (ds.drop i) acc g.S, ⟨_, by rw [Nat.sub_zero], Nat.zero_le _, g0.lay p (.lst []), [], [], rfl, Post.lay rel0.ok hp (fun _ z => by cases z), upd_same, rel0.ok.free hp, rel0.ok.nio' hp, RepL.nil, Nat.le_refl _, by simp [G.lay]⟩, ?_⟩
  rintro i m H ⟨rfl, hi, g, vs, acc, rfl, p0, hH, hF, hio, rl, ha, e⟩
  have gk : Gok C g.S := by
    by_cases gk : Gok C g.S
    · exact gk
    · exfalso
      apply ok
      rw [e]
      cases ds.drop i with
      | nil => simp only [lcLoop, if_neg gk]; rfl
      | cons d r => simp only [lcLoop, if_neg gk]; rfl
  by_cases hlt : i < ds.length
  · refine .inr ⟨it.go g p0.ok p0.leF p0.pre gk i hlt, fun H' => i + 1 ≤ ds.length ∧ ∃ (g : G) (vs : List V) (acc : List D), g.H = H' ∧ Post K g0 g ∧ g.H p = some (.lst vs) ∧ g.F p = none ∧ p ∉ g.io ∧ RepL K g.io g.F vs acc ∧ acc.length ≤ i + 1 ∧
      lcLoop C gm (wipeD ρ ix) mt me ds [] g0.S = lcLoop C gm (wipeD ρ ix) mt me (ds.drop (i + 1)) acc g.S, fun H' h => ⟨ds.length - (i + 1), by omega, rfl, h⟩, fun x H' y => ?_⟩
    obtain ⟨g1, rfl, eS1, p1, d, hd, rd⟩ := it.yld g p0.ok p0.leF p0.pre gk i x H' hlt y
    have cellAt : ∀ g', Post K g g' → g'.H p = some (.lst vs) ∧ g'.F p = none ∧ p ∉ g'.io ∧ RepL K g'.io g'.F vs acc := fun g' q => by
      obtain ⟨a, b, c⟩ := q.own p0.ok hF hio (c := .lst acc) ⟨vs, hH, rl⟩
      obtain ⟨vs', h1, h2⟩ := c
      have := q.fr p _ hH hio
      exact ⟨this, a, b, q.repL rl⟩
    have step : ds.drop i = d :: ds.drop (i + 1) := by
      rw [List.drop_eq_getElem_cons hlt]
      have : ds[i] = d := by rw [List.getElem?_eq_getElem hlt] at hd; exact Option.some.inj hd
      rw [this]
    rw [step] at e
    simp only [lcLoop, if_pos gk] at e
    have rel1 : RelS K g1 (L2.wipe σ ix) (wipeD ρ ix) := (((rel0.wipe ix).post p0).post p1)
    cases q : gm d (wipeD ρ ix) with
    | none => rw [q] at e; rw [e] at ok; exact absurd rfl ok
    | some ρ1 =>
      rw [q] at e
      simp only at e
      refine rg.run g1 _ _ x d ρ1 _ rel1 rd q fun σ2 rel2 h2 _ => ⟨?_, g1, ρ1, rfl, rel2, ?_⟩
      · exact wipe_same (by rw [rel2.len, rg.len _ _ _ q, wipeD_length, rel0.len]) fun j hj => (h2 j hj).1
      · rw [eS1]
        cases q2 : mt ρ1 g.S with
        | bad => rw [q2] at e; rw [e] at ok; exact absurd rfl ok
        | err e2 S2 => rw [q2] at e; rw [e] at ok; exact absurd rfl ok
        | ok b S2 =>
          rw [q2] at e
          simp only [R.bind] at e
          intro g2 eS2 p2
          subst eS2
          cases b with
          | false =>
            rw [if_neg Bool.false_ne_true]
            obtain ⟨a1, a2, a3, a4⟩ := cellAt g2 (p1.trans p2)
            exact ⟨hlt, g2, vs, acc, rfl, (p0.trans p1).trans p2, a1, a2, a3, a4, by omega, e⟩
          | true =>
            rw [if_pos rfl]
            refine ⟨g2, ρ1, rfl, rel2.post p2, ?_⟩
            simp only [cond_true] at e
            cases q3 : me ρ1 g2.S with
            | bad => rw [q3] at e; rw [e] at ok; exact absurd rfl ok
            | err e2 S2 => rw [q3] at e; rw [e] at ok; exact absurd rfl ok
            | ok d2 S3 =>
              rw [q3] at e
              simp only [R.bind] at e
              intro g3 y3 eS3 p3 r3
              subst eS3
              obtain ⟨a1, a2, a3, a4⟩ := cellAt g3 ((p1.trans p2).trans p3)
              refine ⟨vs, a1, ?_, hlt, { g3 with H := upd g3.H p (.lst (vs ++ [y3])) }, vs ++ [y3], acc ++ [d2], rfl, ?_, upd_same, a2, a3, a4.append (.one r3), by simp; omega, e⟩
              · rw [a4.length, sizeLine_eq]; omega
              · exact ((p0.trans p1).trans (p2.trans p3)).mut hp a1 (fun _ z => by cases z) a2 a3 (fun _ z => by cases z)
  · have z : i = ds.length := by omega
    subst z
    refine .inl ⟨it.stop g p0.ok p0.leF p0.pre gk _ (Nat.le_refl _), ?_⟩
    rw [List.drop_length] at e
    simp only [lcLoop, if_pos gk] at e
    refine fin g acc p0 ⟨p, rfl, ⟨hp, fun C dx fs z => by rw [hH] at z; cases z⟩, hF, hio, vs, hH, rl⟩ (by rw [e]; rfl)

theorem ro_lc {wi : TI} {gt : TG} {ix : List Nat} {gm : D → List Slot → Option (List Slot)} {mi : M (List D × Gds)} {mt : M Bool} {me : M D} {W : WX} (ri : RI K wi W mi) (rg : RG K gt ix gm) :
    RO K (tLc wi gt (tT K (fun _ _ _ _ => False) mt) (tV K (fun _ _ _ _ => False) me) ix) W (mLc mi gm ix mt me) := fun g σ ρ Q rel h => by
  unfold mLc at h
  rw [post_bind] at h
  refine ri g σ ρ _ rel (h.imp (fun ds S1 e1 h1 g1 J es p1 it => ?_) fun e S1 _ h1 => h1)
  subst es
  split at h1
  · rename_i hlen
    rw [post_bind] at h1
    intro p hp
    refine lc_turns (W := W) rg (rel.post p1) it hlen hp (fun g2 acc p2 o e => ?_) (fun e => by rw [e] at h1; exact h1)
    rw [e] at h1
    exact h1 g2 _ rfl (p1.trans p2) (o.back p1)
  · exact h1.elim
theorem do_lc {elt tg iter : Expr} {ifs : List Expr} {scope : Scope} {own : List (Str × Nat)} {pos : Pos} {gt : TG} {gm : D → List Slot → Option (List Slot)} {mi : M (List D × Gds)} {mt : M Bool} {me : M D} (hc : X.calm = true) (hN : X.N.Nodup) (hi : DI X tg iter mi) (ok : BlkOk X.N X.env.scope scope own)
    (rg : RG X.K gt (own.map (·.2)) gm) (hg : ∀ (s : Shared) (H : Hp) (C : Addr) (cl : List (Str × Addr)) (fp : List Addr), PG (X.blk s H scope (compEnvC scope cl C X.env) fp) tg gt)
    (ht : ∀ (s : Shared) (H : Hp) (C : Addr) (cl : List (Str × Addr)) (fp : List Addr), DTs (X.blk s H scope (compEnvC scope cl C X.env) fp) ifs mt)
    (he : ∀ (s : Shared) (H : Hp) (C : Addr) (cl : List (Str × Addr)) (fp : List Addr), DV (X.blk s H scope (compEnvC scope cl C X.env) fp) elt me) (hs : ∀ x, foldedSetIterable iter X.env x = pure x := by intro _; rfl) :
    DO X (.ListComp elt [⟨tg, iter, ifs, 0⟩] scope pos) (mLc mi gm (own.map (·.2)) mt me) := ⟨fun W tk => by
  obtain ⟨wi, pi, ri⟩ := hi.ex W tk
  exact ⟨_, pe_lc hc hN pi ok hg (fun s H C cl fp => (ht s H C cl fp).ex _ takes0) (fun s H C cl fp => (he s H C cl fp).pe takes0) hs, ro_lc ri rg⟩⟩
end
end FW
end
section
set_option maxHeartbeats 2000000
/-! FW8: statements. -/
namespace FW
open PySem PySem.Spec PyProof.Rows L2

inductive RS where
  | nx (ρ : List Slot) (S : Sto) | bk (ρ : List Slot) (S : Sto) | ct (ρ : List Slot) (S : Sto)
  | rt (s : Slot) (S : Sto) | ex (e : Exc) (ρ : List Slot) (S : Sto) | bad
abbrev MS := List Slot → Sto → RS
def RS.ends (K : PySem.W.Frag) (E : G) (W : WX) (D : Ends) : RS → Prop
  | .nx ρ S => ∀ g σ, g.S = S → Rel K E g σ ρ → D.nx σ g.H
  | .bk ρ S => ∀ g σ, g.S = S → Rel K E g σ ρ → D.bk σ g.H
  | .ct ρ S => ∀ g σ, g.S = S → Rel K E g σ ρ → D.ct σ g.H
  | .rt s S => ∀ g v, g.S = S → Post K E g → OutRep K E g v s → D.rt v g.H
  | .ex e ρ S => ∀ g σ c dd, g.S = S → Rel K E g σ ρ → RepX K g c dd e → W c dd σ g.H
  | .bad => False
def RSt (K : PySem.W.Frag) (t : TS) (W : WX) (m : MS) : Prop := ∀ (E g : G) (σ : L2.St) (ρ : List Slot) (Dn : Ends), Rel K E g σ ρ → (m ρ g.S).ends K E W Dn → t Dn σ g.H
structure DS (X : Cx) (st : Stmt) (m : MS) : Prop where
  ex : ∀ W, Takes X W → ∃ t, PS X st t ∧ RSt X.K t W m
structure DSs (X : Cx) (st : List Stmt) (m : MS) : Prop where
  ex : ∀ W, Takes X W → ∃ t, PSs X st t ∧ RSt X.K t W m
/-- the one reading -/
def tS (K : PySem.W.Frag) (W : WX) (m : MS) : TS := fun Dn σ H => ∃ (E g : G) (ρ : List Slot), g.H = H ∧ Rel K E g σ ρ ∧ (m ρ g.S).ends K E W Dn
theorem DSs.ps {X : Cx} {st : List Stmt} {W : WX} {m : MS} (h : DSs X st m) (tk : Takes X W) : PSs X st (tS X.K W m) := ⟨fun pins s σ H Dn I q => by
  obtain ⟨t, pe, rv⟩ := h.ex W tk
  obtain ⟨E, g, ρ, rfl, rel, q⟩ := q
  exact pe.run pins s σ g.H Dn I (rv E g σ ρ Dn rel q)⟩

/-- an expression's result, then a statement's -/
def rBind {α : Type} (r : R α) (ρ : List Slot) (f : α → Sto → RS) : RS := match r with
  | .ok a S => f a S
  | .err e S => .ex e ρ S
  | .bad => .bad
theorem ends_bind {α : Type} {K : PySem.W.Frag} {E g : G} {W : WX} {Dn : Ends} {σ : L2.St} {ρ : List Slot} {r : R α} {f : α → Sto → RS} (rel : Rel K E g σ ρ) (h : (rBind r ρ f).ends K E W Dn) :
    r.post (fun a S => (f a S).ends K E W Dn) (fun e S => ∀ g' c dd, g'.S = S → Post K g g' → RepX K g' c dd e → W c dd σ g'.H) := by
  cases r with
  | ok a S => exact h
  | err e S => exact fun g' c dd es p r => h g' σ c dd es (rel.post p) r
  | bad => exact h

section
variable {X : Cx} {st : Stmt} {rest sts : List Stmt} {e : Expr} {pos : Pos} {K : PySem.W.Frag} {E g g' : G} {σ : L2.St} {ρ : List Slot}
def sNext : MS := fun ρ S => .nx ρ S
def sSeq (a b : MS) : MS := fun ρ S => match a ρ S with
  | .nx ρ' S' => b ρ' S'
  | r => r
theorem dss_nil : DSs X [] sNext := ⟨fun W tk => ⟨_, pss_nil, fun E g σ ρ Dn rel h => h g σ rfl rel⟩⟩
theorem dss_cons {a b : MS} (h1 : DS X st a) (h2 : DSs X rest b) : DSs X (st :: rest) (sSeq a b) := ⟨fun W tk => by
  obtain ⟨t, pe, ra⟩ := h1.ex W tk
  obtain ⟨u, pu, rb⟩ := h2.ex W tk
  refine ⟨_, pss_cons pe pu, fun E g σ ρ Dn rel h => ra E g σ ρ _ rel ?_⟩
  unfold sSeq at h
  cases q : a ρ g.S with
  | nx ρ' S' => rw [q] at h; exact fun g' σ' es rel' => rb E g' σ' ρ' Dn rel' (by subst es; exact h)
  | bk ρ' S' => rw [q] at h; exact h
  | ct ρ' S' => rw [q] at h; exact h
  | rt s S' => rw [q] at h; exact h
  | ex e ρ' S' => rw [q] at h; exact h
  | bad => rw [q] at h; exact h⟩
theorem dss_one {a : MS} (h1 : DS X st a) : DSs X [st] a := ⟨fun W tk => by
  obtain ⟨t, pe, ra⟩ := h1.ex W tk
  exact ⟨_, pss_one pe, ra⟩⟩
theorem ds_pass : DS X (.Pass pos) sNext := ⟨fun W tk => ⟨_, ps_pass, fun E g σ ρ Dn rel h => h g σ rfl rel⟩⟩
def sBreak : MS := fun ρ S => .bk ρ S
def sCont : MS := fun ρ S => .ct ρ S
theorem ds_break : DS X (.Break pos) sBreak := ⟨fun W tk => ⟨_, ps_break, fun E g σ ρ Dn rel h => h g σ rfl rel⟩⟩
theorem ds_cont : DS X (.Continue pos) sCont := ⟨fun W tk => ⟨_, ps_continue, fun E g σ ρ Dn rel h => h g σ rfl rel⟩⟩

/-! ### x = e -/
theorem Post.new_of {p : Addr} (b : Post K E g) (h : NewAt g g' p) : NewAt E g' p := ⟨b.free h.1, fun C dx fs q => b.free (h.2 C dx fs q)⟩
theorem Rel.setS {v : V} {s : Slot} (h : Rel K E g σ ρ) (b : Post K g g') (i : Nat) (o : OutRep K g g' v s) : Rel K E g' (σ.set i (some v)) (ρ.set i s) where
  s := {
    ok := b.ok
    len := by simp [h.s.len]
    slot := fun j s' e => by
      by_cases q : i = j
      · subst q
        have hl : i < ρ.length := by have := (List.getElem?_eq_some_iff.mp e).1; simpa using this
        rw [List.getElem?_set_self hl] at e
        cases e
        rw [List.getElem?_set_self (by rw [h.s.len]; exact hl)]
        cases s with
        | none => exact o.elim
        | val d => exact ⟨v, rfl, o⟩
        | own c => obtain ⟨p, rfl, n, f1, f2, f3⟩ := o; exact ⟨p, rfl, f1, f2, f3⟩
      · rw [List.getElem?_set_ne q] at e
        rw [List.getElem?_set_ne q]
        exact (h.s.post b).slot j s' e
    dist := fun j k c c' p e1 e2 e3 e4 => by
      have old : ∀ j' c'', i ≠ j' → ρ[j']? = some (.own c'') → σ[j']? = some (some (.ref p)) → g.H p ≠ none := fun j' c'' n a1 a2 => by
        obtain ⟨q, f1, f2, f3, f4⟩ := h.s.slot j' _ a1
        rw [a2] at f1; cases f1
        exact f4.at_
      have mine : ∀ j', i = j' → ∀ c'', (ρ.set i s)[j']? = some (.own c'') → (σ.set i (some v))[j']? = some (some (.ref p)) → g.H p = none := fun j' q c'' a1 a2 => by
        subst q
        have hl : i < ρ.length := by have := (List.getElem?_eq_some_iff.mp a1).1; simpa using this
        rw [List.getElem?_set_self hl] at a1
        rw [List.getElem?_set_self (by rw [h.s.len]; exact hl)] at a2
        cases a1; cases a2
        obtain ⟨p', z, n, _⟩ := o
        cases z; exact n.1
      by_cases q1 : i = j
      · by_cases q2 : i = k
        · rw [← q1, ← q2]
        · have z := mine j q1 c e1 e3
          rw [List.getElem?_set_ne q2] at e2 e4
          exact absurd z (old k c' q2 e2 e4)
      · by_cases q2 : i = k
        · have z := mine k q2 c' e2 e4
          rw [List.getElem?_set_ne q1] at e1 e3
          exact absurd z (old j c q1 e1 e3)
        · rw [List.getElem?_set_ne q1] at e1 e3
          rw [List.getElem?_set_ne q2] at e2 e4
          exact h.s.dist j k c c' p e1 e2 e3 e4 }
  p := h.p.trans b
  new := fun j c p e1 e2 => by
    by_cases q : i = j
    · subst q
      have hl : i < ρ.length := by have := (List.getElem?_eq_some_iff.mp e1).1; simpa using this
      rw [List.getElem?_set_self hl] at e1
      rw [List.getElem?_set_self (by rw [h.s.len]; exact hl)] at e2
      cases e1; cases e2
      obtain ⟨p', z, n, _⟩ := o
      cases z
      exact h.p.new_of n
    · rw [List.getElem?_set_ne q] at e1 e2
      exact (h.post b).new j c p e1 e2
def sSet (i : Nat) (m : M Slot) : MS := fun ρ S => rBind (m ρ S) ρ fun s S' => .nx (ρ.set i s) S'
theorem rs_set {te : TE} {W : WX} {m : M Slot} (i : Nat) (ro : RO K te W m) : RSt K (tAsg te (gName i)) W (sSet i m) := fun E g σ ρ Dn rel h => by
  refine ro g σ ρ _ rel.s ((ends_bind rel h).imp (fun s S _ q g' v es p o => ?_) fun e S _ q => q)
  exact q g' _ es (rel.setS p i o)
theorem ds_set {i : Nat} {x : Str} {pos' : Pos} {m : M Slot} (hN : X.N.Nodup) (hi : X.N[i]? = some x) (hx : Loc X.env.scope x) (h : DO X e m) (hs : swapsWith e (some (.Name x pos')) pos.line X.env = pure false := by rfl) (hf : X.fn x = true ∨ X.env.scope.names.lookup x = some .local := by first | exact .inl rfl | exact .inr rfl | assumption) :
    DS X (.Assign [.Name x pos'] e pos) (sSet i m) := ⟨fun W tk => by
  obtain ⟨t, pe, ro⟩ := h.ex W tk
  exact ⟨_, ps_set hN hi hx pe hs hf, rs_set i ro⟩⟩
theorem ds_setLc {i : Nat} {y : Str} {py : Pos} {elt tg iter : Expr} {ifs : List Expr} {scope : Scope} {own : List (Str × Nat)} {pos spos : Pos} {gt : TG} {gm : D → List Slot → Option (List Slot)} {mi : M (List D × Gds)} {mt : M Bool} {me : M D} (hc : X.calm = true) (hN : X.N.Nodup)
    (hy : X.N[i]? = some y) (hyl : X.env.scope.names.lookup y = some .local) (hsw : swapsWith (.ListComp elt [⟨tg, iter, ifs, 0⟩] scope pos) (some (.Name y py)) spos.line X.env = pure true) (hi : DI X tg iter mi) (ok : BlkOk X.N X.env.scope scope own)
    (rg : RG X.K gt (own.map (·.2)) gm) (hg : ∀ (s : Shared) (H : Hp) (C : Addr) (cl : List (Str × Addr)) (fp : List Addr), PG (X.blk s H scope (compEnvC scope cl C X.env) fp) tg gt)
    (ht : ∀ (s : Shared) (H : Hp) (C : Addr) (cl : List (Str × Addr)) (fp : List Addr), DTs (X.blk s H scope (compEnvC scope cl C X.env) fp) ifs mt)
    (he : ∀ (s : Shared) (H : Hp) (C : Addr) (cl : List (Str × Addr)) (fp : List Addr), DV (X.blk s H scope (compEnvC scope cl C X.env) fp) elt me) (hs : ∀ x, foldedSetIterable iter X.env x = pure x := by intro _; rfl) :
    DS X (.Assign [.Name y py] (.ListComp elt [⟨tg, iter, ifs, 0⟩] scope pos) spos) (sSet i (mLc mi gm (own.map (·.2)) mt me)) := ⟨fun W tk => by
  obtain ⟨wi, pi, ri⟩ := hi.ex W tk
  exact ⟨_, ps_setLc hc hN hy hyl hsw pi ok hg (fun s H C cl fp => (ht s H C cl fp).ex _ takes0) (fun s H C cl fp => (he s H C cl fp).pe takes0) hs, rs_set i (ro_lc ri rg)⟩⟩
/-- a, b = e, f -/
def sPar (i j : Nat) (m : M (List D)) : MS := fun ρ S => rBind (m ρ S) ρ fun ds S' => match ds with
  | [d, d'] => .nx ((ρ.set i (.val d)).set j (.val d')) S'
  | _ => .bad
theorem ds_par {i j : Nat} {x y : Str} {a b : Expr} {m : M (List D)} {px py pt : Pos} {kt k2 pt2} (hc : X.calm = true) (hN : X.N.Nodup) (hi : X.N[i]? = some x) (hj : X.N[j]? = some y) (hij : i ≠ j)
    (hx : X.env.scope.names.lookup x = some .local) (hy : X.env.scope.names.lookup y = some .local) (ha : DA X [a, b] m)
    (hw : swappedStores [.Tuple [.Name x px, .Name y py] kt pt] (.Tuple [a, b] k2 pt2) X.env = pure (some [x, y]))
    (hs : swapsWithSole [.Tuple [.Name x px, .Name y py] kt pt] (.Tuple [a, b] k2 pt2) pos.line X.env = pure false := by rfl) :
    DS X (.Assign [.Tuple [.Name x px, .Name y py] kt pt] (.Tuple [a, b] k2 pt2) pos) (sPar i j m) := ⟨fun W tk => by
  obtain ⟨t, pe, ra⟩ := ha.ex W tk
  refine ⟨_, ps_par hc hN hi hj hij hx hy pe hw hs, fun E g σ ρ Dn rel h => ?_⟩
  refine ra g σ ρ _ rel.s ((ends_bind rel h).imp (fun ds S _ q g' vs es p r => ?_) fun e S _ q => q)
  split at q
  · rename_i d d' _
    obtain ⟨v, u, rfl, r1, r2⟩ := repL2 r
    refine ⟨v, u, rfl, q g' _ es ?_⟩
    have z1 := rel.setS p i (show OutRep X.K g g' v (.val d) from r1)
    exact z1.setS (Post.refl p.ok) j (show OutRep X.K g' g' u (.val d') from r2)
  · exact q.elim⟩
/-- a, b, .. = e, by its items -/
structure RgS (K : PySem.W.Frag) (t : TG) (m : D → List Slot → Option (List Slot)) : Prop where
  run : ∀ (E g : G) (σ : L2.St) (ρ : List Slot) (v : V) (d : D) (ρ' : List Slot) (Q : L2.St → Hp → Prop), Rel K E g σ ρ → Rep K g.io g.F v d → m d ρ = some ρ' → (∀ σ', Rel K E g σ' ρ' → Q σ' g.H) → t v σ g.H Q
theorem RG.rel {t : TG} {ix : List Nat} {m : D → List Slot → Option (List Slot)} (h : RG K t ix m) : RgS K t m := ⟨fun E g σ ρ v d ρ' Q rel r e q => by
  refine h.run g σ ρ v d ρ' _ rel.s r e fun σ' rel' h1 h2 => q σ' ⟨rel', rel.p, fun j c p e1 e2 => ?_⟩
  by_cases z : j ∈ ix
  · exact absurd e1 (h2 j c z)
  · obtain ⟨a, b⟩ := h1 j z
    rw [a] at e2; rw [b] at e1
    exact rel.new j c p e1 e2⟩
def sTgt (gm : D → List Slot → Option (List Slot)) (m : M D) : MS := fun ρ S => rBind (m ρ S) ρ fun d S' => match gm d ρ with
  | some ρ' => .nx ρ' S'
  | none => .bad
theorem ds_tgt {tg : Expr} {gt : TG} {gm : D → List Slot → Option (List Slot)} {m : M D} (h : DV X e m) (hg : PG X tg gt) (rg : RgS X.K gt gm) (hs : swapsWithSole [tg] e pos.line X.env = pure false := by rfl) (hw : swappedStores [tg] e X.env = pure none := by rfl)
    (h1 : (assignEach [tg] X.env).map (·.2) = [assign tg X.env] := by rfl) : DS X (.Assign [tg] e pos) (sTgt gm m) := ⟨fun W tk => by
  obtain ⟨t, pe, ro⟩ := h.ex W tk
  refine ⟨_, ps_asg pe hg hs hw h1, fun E g σ ρ Dn rel h => ?_⟩
  refine ro g σ ρ _ rel.s ((ends_bind rel h).imp (fun d S _ q g' v es p r => ?_) fun e S _ q => q)
  cases z : gm d ρ with
  | none => rw [z] at q; exact q.elim
  | some ρ' =>
    rw [z] at q
    exact rg.run E g' σ ρ v d ρ' _ (rel.post p) r z fun σ' rel' => q g' σ' es rel'⟩
/-- x op= e -/
def sAug (i : Nat) (f : D → D → Option D) (m : M D) : MS := fun ρ S => match ρ[i]? with
  | some (.val x) => rBind (m ρ S) ρ fun d S' => match f x d with
    | some z => .nx (ρ.set i (.val z)) S'
    | none => .bad
  | _ => .bad
def RIp (K : PySem.W.Frag) (t : TIp) (f : D → D → Option D) : Prop := ∀ (g : G) (x y : V) (dx dy d : D) (Q : VK), Ok K g → Rep K g.io g.F x dx → Rep K g.io g.F y dy → f dx dy = some d → (∀ v, Rep K g.io g.F v d → Q v g.H) → t x y g.H Q
theorem ds_aug {i : Nat} {x : Str} {op : Operator} {ti : TIp} {pos' : Pos} {f : D → D → Option D} {m : M D} (hN : X.N.Nodup) (hi : X.N[i]? = some x) (hx : Loc X.env.scope x) (he : DV X e m) (ho : PIp X op ti) (hf : RIp X.K ti f) (hfn : X.fn x = true ∨ X.env.scope.names.lookup x = some .local := by first | exact .inl rfl | exact .inr rfl | assumption) :
    DS X (.AugAssign (.Name x pos') op e pos) (sAug i f m) := ⟨fun W tk => by
  obtain ⟨t, pe, ra⟩ := he.ex W tk
  refine ⟨_, ps_aug hN hi hx pe ho hfn, fun E g σ ρ Dn rel h => ?_⟩
  unfold sAug at h
  split at h
  · rename_i d0 q0
    obtain ⟨v0, e1, r0⟩ := rel.s.slot i _ q0
    have e2 : σ[i]? = some (some v0) := by
      cases z : σ[i]? with
      | none => rw [z] at e1; cases e1
      | some o => rw [z] at e1; rw [show o = some v0 from e1]
    refine ⟨v0, e2, ?_⟩
    refine ra g σ ρ _ rel.s ((ends_bind rel h).imp (fun d S _ q g' v es p r => ?_) fun e S _ q => q)
    cases z : f d0 d with
    | none => rw [z] at q; exact q.elim
    | some d' =>
      rw [z] at q
      exact hf g' v0 v d0 d d' _ p.ok (p.rep r0) r z fun v' r' => q g' _ es (rel.setS p i (show OutRep X.K g g' v' (.val d') from r'))
  · exact h.elim⟩
def fAddI : D → D → Option D
  | .int i, .int j => some (.int (i + j))
  | _, _ => none
def fSubI : D → D → Option D
  | .int i, .int j => some (.int (i - j))
  | _, _ => none
theorem ri_add : RIp K (ipI fun i j => i + j) fAddI := by
  intro g x y dx dy d Q ok rx ry e h
  unfold fAddI at e
  split at e
  · simp only [Rep] at rx ry; cases e
    exact ⟨_, _, rx, ry, h _ (by simp only [Rep])⟩
  · cases e
theorem ri_sub : RIp K (ipI fun i j => i - j) fSubI := by
  intro g x y dx dy d Q ok rx ry e h
  unfold fSubI at e
  split at e
  · simp only [Rep] at rx ry; cases e
    exact ⟨_, _, rx, ry, h _ (by simp only [Rep])⟩
  · cases e

/-! ### one's own list changes -/
theorem Rel.mut {i : Nat} {p : Addr} {c c' : Cell} {u o : HO} (h : Rel K E g σ ρ) (e1 : ρ[i]? = some (.own c)) (e2 : σ[i]? = some (some (.ref p))) (hH : g.H p = some u) (hu : ∀ x, u ≠ .own x) (ho : ∀ x, o ≠ .own x) (hins : ∀ C dx fs, o = .ins C dx fs → ∃ fs', u = .ins C dx fs')
    (hc : CellRep K { g with H := upd g.H p o } p c') : Rel K E { g with H := upd g.H p o } σ (ρ.set i (.own c')) := by
  obtain ⟨p', f1, f2, f3, f4⟩ := h.s.slot i _ e1
  rw [e2] at f1; cases f1
  have n := h.new i c p e1 e2
  have hl : i < ρ.length := (List.getElem?_eq_some_iff.mp e1).1
  have P := h.p.mut n.1 hH hu f2 f3 ho
  refine ⟨⟨P.ok, by simp [h.s.len], fun j s e => ?_, fun j k c1 c2 q a1 a2 a3 a4 => ?_⟩, P, fun j c1 q a1 a2 => ?_⟩
  · by_cases z : i = j
    · subst z
      rw [List.getElem?_set_self hl] at e; cases e
      rw [e2]
      exact ⟨p, rfl, f2, f3, hc⟩
    · rw [List.getElem?_set_ne z] at e
      have y := h.s.slot j s e
      cases s with
      | none => trivial
      | val d => exact y
      | own c1 =>
        obtain ⟨q, b1, b2, b3, b4⟩ := y
        have b0 : σ[j]? = some (some (.ref q)) := by
          cases w : σ[j]? with
          | none => rw [w] at b1; cases b1
          | some o => rw [w] at b1; rw [show o = some (.ref q) from b1]
        have nq : q ≠ p := fun w => by subst w; exact z (h.s.dist i j c c1 q e1 e e2 b0)
        refine ⟨q, b1, b2, b3, ?_⟩
        cases c1 with
        | lst xs => obtain ⟨vs, a, b⟩ := b4; exact ⟨vs, (upd_ne nq).trans a, b⟩
        | dic xs => obtain ⟨vs, a, b⟩ := b4; exact ⟨vs, (upd_ne nq).trans a, b⟩
        | obj c fs =>
          obtain ⟨dx, vs, a, a2, b⟩ := b4
          exact ⟨dx, vs, (upd_ne nq).trans a, (upd_ne (fun w => by subst w; rw [hH] at a2; exact hu _ (Option.some.inj a2))).trans a2, b⟩
  · have back : ∀ j c1, (ρ.set i (Slot.own c'))[j]? = some (Slot.own c1) → ∃ c2, ρ[j]? = some (Slot.own c2) := fun j c1 w => by
      by_cases z : i = j
      · subst z; exact ⟨c, e1⟩
      · rw [List.getElem?_set_ne z] at w; exact ⟨c1, w⟩
    obtain ⟨d1, w1⟩ := back j c1 a1
    obtain ⟨d2, w2⟩ := back k c2 a2
    exact h.s.dist j k d1 d2 q w1 w2 a3 a4
  · by_cases z : i = j
    · subst z
      rw [e2] at a2; cases a2
      refine ⟨n.1, fun C dx fs w => ?_⟩
      have w' : some o = some (HO.ins C dx fs) := upd_same.symm.trans w
      obtain ⟨fs', y⟩ := hins C dx fs (Option.some.inj w')
      exact n.2 C dx fs' (by rw [hH, y])
    · rw [List.getElem?_set_ne z] at a1
      have m := h.new j c1 q a1 a2
      have nq : q ≠ p := fun w => by subst w; exact z (h.s.dist i j c c1 q e1 a1 e2 a2)
      exact ⟨m.1, fun C dx fs w => m.2 C dx fs ((upd_ne nq).symm.trans w)⟩
/-- x.append(e), x one's own list -/
def sApp (i : Nat) (m : M D) : MS := fun ρ S => match ρ[i]? with
  | some (.own (.lst xs)) => rBind (m ρ S) ρ fun d S' => if xs.length < 1000000 then .nx (ρ.set i (.own (.lst (xs ++ [d])))) S' else .bad
  | _ => .bad
theorem sig_of {i : Nat} {v : V} (e1 : (σ[i]?).join = some v) : σ[i]? = some (some v) := by
  cases z : σ[i]? with
  | none => rw [z] at e1; cases e1
  | some o => rw [z] at e1; rw [show o = some v from e1]
theorem ds_app {i : Nat} {o : Expr} {m : M D} {apos cpos : Pos} (po : PE X o (tVar i)) (h : DV X e m) (hs : starEach (e :: []) X.env = (false, eval e X.env) :: starEach [] X.env := by rfl)
    (pb : ∀ {ta : TA}, PA X [e] ta → PE X (.Call (.Attribute o "append" apos) [e] [] cpos) (tBM X.K "list" rAppend (tVar i) ta)) (hw : swapsWith (.Call (.Attribute o "append" apos) [e] [] cpos) none pos.line X.env = pure false := by rfl) : DS X (.Expr (.Call (.Attribute o "append" apos) [e] [] cpos) pos) (sApp i m) := ⟨fun W tk => by
  obtain ⟨t, pe, ra⟩ := (da_cons h da_nil hs).ex W tk
  refine ⟨_, ps_expr (pb pe) hw, fun E g σ ρ Dn rel h => ?_⟩
  unfold sApp at h
  split at h
  · rename_i xs q0
    obtain ⟨p, e1, f2, f3, vs, f4, f5⟩ := rel.s.slot i _ q0
    have e2 := sig_of e1
    refine ⟨_, e2, .inl ⟨rfl, _, SqL.of f4⟩, ?_⟩
    refine ra g σ ρ _ rel.s ?_
    unfold aCons
    rw [post_bind]
    refine (ends_bind rel h).imp (fun d S _ q => ?_) fun e S _ q => q
    show R.post (R.ok [d] S) _ _
    intro g' us es p1 r
    obtain ⟨v, rfl, r0⟩ := repL1 r
    have rel' := rel.post p1
    obtain ⟨p', b1, b2, b3, vs', b4, b5⟩ := rel'.s.slot i _ q0
    rw [e1] at b1; cases b1
    split at q
    · rename_i hlen
      have l := b5.length
      refine ⟨p, vs', v, rfl, rfl, b4, by rw [l, sizeLine_eq]; omega, ?_⟩
      refine q { g' with H := upd g'.H p (.lst (vs' ++ [v])) } σ es (rel'.mut q0 e2 b4 (fun _ z => by cases z) (fun _ z => by cases z) (fun C dx fs z => by cases z) ⟨_, upd_same, b5.append (.one r0)⟩)
    · exact q.elim
  · exact h.elim⟩

/-! ### if, return -/
def sIf (t : M Bool) (a b : MS) : MS := fun ρ S => rBind (t ρ S) ρ fun x S1 => bif x then a ρ S1 else b ρ S1
theorem ds_if {c : Expr} {as bs : List Stmt} {mt : M Bool} {a b : MS} (hc : DT X c mt) (ha : DSs X as a) (hb : DSs X bs b) : DS X (.If c as bs pos) (sIf mt a b) := ⟨fun W tk => by
  obtain ⟨t, pt, rt⟩ := hc.ex W tk
  obtain ⟨ta, pa, ra⟩ := ha.ex W tk
  obtain ⟨tb, pb, rb⟩ := hb.ex W tk
  refine ⟨_, ps_if pt pa pb, fun E g σ ρ Dn rel h => ?_⟩
  refine rt g σ ρ _ rel.s ((ends_bind rel h).imp (fun x S _ q g' es p => ?_) fun e S _ q => q)
  subst es
  cases x with
  | true => rw [if_pos rfl]; exact ra E g' σ ρ Dn (rel.post p) q
  | false => rw [if_neg Bool.false_ne_true]; exact rb E g' σ ρ Dn (rel.post p) q⟩
def sRet (m : M Slot) : MS := fun ρ S => rBind (m ρ S) ρ fun s S' => .rt s S'
theorem ds_ret {m : M Slot} (h : DO X e m) : DS X (.Return (some e) pos) (sRet m) := ⟨fun W tk => by
  obtain ⟨t, pe, ro⟩ := h.ex W tk
  refine ⟨_, ps_ret pe, fun E g σ ρ Dn rel h => ?_⟩
  exact ro g σ ρ _ rel.s ((ends_bind rel h).imp (fun s S _ q g' v es p o => q g' v es (rel.p.trans p) (o.back rel.p)) fun e S _ q => q)⟩
def sRetN : MS := fun ρ S => .rt (.val .non) S
theorem ds_retN : DS X (.Return none pos) sRetN := ⟨fun W tk => ⟨_, ps_retN, fun E g σ ρ Dn rel h => h g .non rfl rel.p (by simp only [OutRep, Rep])⟩⟩
/-- return x: what x holds is handed on -/
def sRetV (i : Nat) : MS := fun ρ S => match ρ[i]? with
  | some .none => .bad
  | some s => .rt s S
  | none => .bad
theorem ds_retV {i : Nat} (pe : PE X e (tVar i)) : DS X (.Return (some e) pos) (sRetV i) := ⟨fun W tk => ⟨_, ps_ret pe, fun E g σ ρ Dn rel h => by
  unfold sRetV at h
  cases q : ρ[i]? with
  | none => rw [q] at h; exact h.elim
  | some s =>
    rw [q] at h
    have sl := rel.s.slot i _ q
    cases s with
    | none => exact h.elim
    | val d =>
      obtain ⟨v, e1, r⟩ := sl
      exact ⟨v, sig_of e1, h g v rfl rel.p r⟩
    | own c =>
      obtain ⟨p, e1, f2, f3, f4⟩ := sl
      exact ⟨_, sig_of e1, h g _ rfl rel.p ⟨p, rfl, rel.new i c p q (sig_of e1), f2, f3, f4⟩⟩⟩⟩
/-- from here on what x holds stays as it is -/
def sFrz (i : Nat) (m : MS) : MS := fun ρ S => match ρ[i]? with
  | some (.own c) => m (ρ.set i (.val c.d)) S
  | _ => m ρ S
theorem Rel.frz {i : Nat} {c : Cell} (h : Rel K E g σ ρ) (e1 : ρ[i]? = some (.own c)) : ∃ g', g'.H = g.H ∧ g'.S = g.S ∧ Rel K E g' σ (ρ.set i (.val c.d)) := by
  obtain ⟨p, f1, f2, f3, f4⟩ := h.s.slot i _ e1
  have e2 := sig_of f1
  have n := h.new i c p e1 e2
  obtain ⟨g', P, eH, eS, r, eio, lF, only⟩ := OutRep.frz h.p (s := .own c) ⟨p, rfl, n, f2, f3, f4⟩
  have pre : Pre g.io g'.io := by rw [eio]; exact Pre.refl _
  have hl : i < ρ.length := (List.getElem?_eq_some_iff.mp e1).1
  have cell : ∀ q c1, q ≠ p → g.F q = none → q ∉ g.io → CellRep K g q c1 → g'.F q = none ∧ q ∉ g'.io ∧ CellRep K g' q c1 := fun q c1 nq b2 b3 b4 => by
    refine ⟨?_, by rw [eio]; exact b3, ?_⟩
    · cases z : g'.F q with
      | none => rfl
      | some u =>
        rcases only q u z with y | y | ⟨x, rfl⟩
        · rw [b2] at y; cases y
        · cases y; exact absurd rfl nq
        · have y := P.ok.le _ _ z
          rw [eH] at y
          cases c1 with
          | lst xs => obtain ⟨vs, a, _⟩ := b4; rw [a] at y; cases y
          | dic xs => obtain ⟨vs, a, _⟩ := b4; rw [a] at y; cases y
          | obj c fs => obtain ⟨dx, vs, a, _⟩ := b4; rw [a] at y; cases y
    · cases c1 with
      | lst xs => obtain ⟨vs, a, b⟩ := b4; exact ⟨vs, by rw [eH]; exact a, RepL.mono lF pre _ b⟩
      | dic xs => obtain ⟨vs, a, b⟩ := b4; exact ⟨vs, by rw [eH]; exact a, RepK.mono lF pre _ b⟩
      | obj c fs => obtain ⟨dx, vs, a, a2, b⟩ := b4; exact ⟨dx, vs, by rw [eH]; exact a, by rw [eH]; exact a2, RepF.mono lF pre _ b⟩
  have back : ∀ j c1, (ρ.set i (Slot.val c.d))[j]? = some (Slot.own c1) → i ≠ j ∧ ρ[j]? = some (Slot.own c1) := fun j c1 w => by
    by_cases z : i = j
    · subst z; rw [List.getElem?_set_self hl] at w; cases w
    · rw [List.getElem?_set_ne z] at w; exact ⟨z, w⟩
  refine ⟨g', eH, eS, ⟨⟨P.ok, by simp [h.s.len], fun j s e => ?_, fun j k c1 c2 q a1 a2 a3 a4 => ?_⟩, P, fun j c1 q a1 a2 => ?_⟩⟩
  · by_cases z : i = j
    · subst z
      rw [List.getElem?_set_self hl] at e; cases e
      rw [e2]
      exact ⟨_, rfl, r⟩
    · rw [List.getElem?_set_ne z] at e
      have y := h.s.slot j s e
      cases s with
      | none => trivial
      | val d => obtain ⟨v, b1, b2⟩ := y; exact ⟨v, b1, Rep.mono lF pre d b2⟩
      | own c1 =>
        obtain ⟨q, b1, b2, b3, b4⟩ := y
        have nq : q ≠ p := fun w => by subst w; exact z (h.s.dist i j c c1 q e1 e e2 (sig_of b1))
        exact ⟨q, b1, cell q c1 nq b2 b3 b4⟩
  · obtain ⟨_, w1⟩ := back j c1 a1
    obtain ⟨_, w2⟩ := back k c2 a2
    exact h.s.dist j k c1 c2 q w1 w2 a3 a4
  · obtain ⟨_, w1⟩ := back j c1 a1
    obtain ⟨m1, m2⟩ := h.new j c1 q w1 a2
    exact ⟨m1, fun C dx fs w => m2 C dx fs (by rw [eH] at w; exact w)⟩
theorem rs_frz {t : TS} {W : WX} {m : MS} (i : Nat) (h : RSt K t W m) : RSt K t W (sFrz i m) := fun E g σ ρ Dn rel q => by
  unfold sFrz at q
  split at q
  · rename_i c e
    obtain ⟨g', eH, eS, rel'⟩ := rel.frz e
    have z := h E g' σ _ Dn rel' (by rw [eS]; exact q)
    rw [eH] at z; exact z
  · exact h E g σ ρ Dn rel q
theorem ds_frz {m : MS} (i : Nat) (h : DS X st m) : DS X st (sFrz i m) := ⟨fun W tk => by
  obtain ⟨t, pe, ra⟩ := h.ex W tk; exact ⟨t, pe, rs_frz i ra⟩⟩
theorem dss_frz {m : MS} (i : Nat) (h : DSs X sts m) : DSs X sts (sFrz i m) := ⟨fun W tk => by
  obtain ⟨t, pe, ra⟩ := h.ex W tk; exact ⟨t, pe, rs_frz i ra⟩⟩
end
end FW
end
section
set_option maxHeartbeats 2000000
/-! FW9: while, for, raise, try, a def, a call. -/
namespace FW
open PySem PySem.Spec PyProof.Rows L2
section
variable {X : Cx} {st : Stmt} {rest sts : List Stmt} {e : Expr} {pos : Pos} {K : PySem.W.Frag} {E g g' : G} {σ : L2.St} {ρ : List Slot}

/-! ### while -/
def sWhileN (t : M Bool) (b : MS) : Nat → MS
  | 0 => fun _ _ => .bad
  | n + 1 => fun ρ S => rBind (t ρ S) ρ fun x S1 => bif x then (match b ρ S1 with
    | .nx ρ' S' => sWhileN t b n ρ' S'
    | .ct ρ' S' => sWhileN t b n ρ' S'
    | .bk ρ' S' => .nx ρ' S'
    | r => r) else .nx ρ S1
theorem sWhileN_mono {t : M Bool} {b : MS} : ∀ {n m : Nat} {ρ : List Slot} {S : Sto}, n ≤ m → sWhileN t b n ρ S ≠ .bad → sWhileN t b m ρ S = sWhileN t b n ρ S
  | 0, _, _, _, _, h => absurd rfl h
  | n + 1, 0, _, _, l, _ => absurd l (Nat.not_succ_le_zero n)
  | n + 1, m + 1, ρ, S, l, h => by
    simp only [sWhileN] at h ⊢
    cases q : t ρ S with
    | ok x S1 =>
      rw [q] at h
      cases x with
      | false => rfl
      | true =>
        simp only [rBind, cond_true] at h ⊢
        cases z : b ρ S1 with
        | nx ρ' S' => rw [z] at h; exact sWhileN_mono (Nat.le_of_succ_le_succ l) h
        | ct ρ' S' => rw [z] at h; exact sWhileN_mono (Nat.le_of_succ_le_succ l) h
        | _ => rfl
    | err e S1 => rfl
    | bad => rfl
open Classical in
noncomputable def sWhile (t : M Bool) (b : MS) : MS := fun ρ S => if h : ∃ n, sWhileN t b n ρ S ≠ .bad then sWhileN t b (choose h) ρ S else .bad
theorem sWhile_of {t : M Bool} {b : MS} {n : Nat} {ρ : List Slot} {S : Sto} (h : sWhileN t b n ρ S ≠ .bad) : sWhile t b ρ S = sWhileN t b n ρ S := by
  have hx : ∃ n, sWhileN t b n ρ S ≠ .bad := ⟨n, h⟩
  unfold sWhile
  rw [dif_pos hx]
  have h2 := Classical.choose_spec hx
  rcases Nat.le_total n (Classical.choose hx) with l | l
  · exact sWhileN_mono l h
  · exact (sWhileN_mono l h2).symm
theorem sWhile_ex {t : M Bool} {b : MS} {ρ : List Slot} {S : Sto} (h : sWhile t b ρ S ≠ .bad) : ∃ n, sWhile t b ρ S = sWhileN t b n ρ S := by
  unfold sWhile at h ⊢
  split
  · exact ⟨_, rfl⟩
  · rename_i q; rw [dif_neg q] at h; exact absurd rfl h
theorem sWhile_eq {t : M Bool} {b : MS} {ρ : List Slot} {S : Sto} : sWhile t b ρ S = rBind (t ρ S) ρ fun x S1 => bif x then (match b ρ S1 with
    | .nx ρ' S' => sWhile t b ρ' S'
    | .ct ρ' S' => sWhile t b ρ' S'
    | .bk ρ' S' => .nx ρ' S'
    | r => r) else .nx ρ S1 := by
  have up : ∀ {ρ' : List Slot} {S' : Sto} (n : Nat), sWhileN t b n ρ' S' = .bad ∨ sWhileN t b n ρ' S' = sWhile t b ρ' S' := fun {ρ' S'} n => by
    by_cases h : sWhileN t b n ρ' S' = .bad
    · exact .inl h
    · exact .inr (sWhile_of h).symm
  cases q : t ρ S with
  | err e S1 =>
    have z : sWhileN t b 1 ρ S = .ex e ρ S1 := by simp only [sWhileN, q, rBind]
    rw [sWhile_of (n := 1) (by rw [z]; exact fun h => nomatch h), z]; rfl
  | bad =>
    by_cases h : sWhile t b ρ S = .bad
    · exact h
    · obtain ⟨n, e⟩ := sWhile_ex h
      rw [e]
      cases n with
      | zero => rfl
      | succ n => simp only [sWhileN, q, rBind]
  | ok x S1 =>
    cases x with
    | false =>
      have z : sWhileN t b 1 ρ S = .nx ρ S1 := by simp only [sWhileN, q, rBind, cond_false]
      rw [sWhile_of (n := 1) (by rw [z]; exact fun h => nomatch h), z]; rfl
    | true =>
      simp only [rBind, cond_true]
      have one : ∀ n, sWhileN t b (n + 1) ρ S = (match b ρ S1 with
        | .nx ρ' S' => sWhileN t b n ρ' S'
        | .ct ρ' S' => sWhileN t b n ρ' S'
        | .bk ρ' S' => .nx ρ' S'
        | r => r) := fun n => by simp only [sWhileN, q, rBind, cond_true]
      have loop : ∀ (ρ' : List Slot) (S' : Sto), (∀ n, sWhileN t b (n + 1) ρ S = sWhileN t b n ρ' S') → sWhile t b ρ S = sWhile t b ρ' S' := fun ρ' S' one => by
        by_cases h : sWhile t b ρ' S' = .bad
        · by_cases h2 : sWhile t b ρ S = .bad
          · rw [h, h2]
          · obtain ⟨n, e⟩ := sWhile_ex h2
            cases n with
            | zero => rw [e] at h2; exact absurd rfl h2
            | succ n =>
              rw [e, one n] at h2
              rw [sWhile_of h2] at h
              exact absurd h h2
        · obtain ⟨n, e⟩ := sWhile_ex h
          rw [e] at h ⊢
          rw [← one n] at h ⊢
          exact sWhile_of h
      cases z : b ρ S1 with
      | nx ρ' S' => exact loop ρ' S' fun n => by rw [one n, z]
      | ct ρ' S' => exact loop ρ' S' fun n => by rw [one n, z]
      | bk ρ' S' =>
        have y : sWhileN t b 1 ρ S = .nx ρ' S' := by rw [one 0, z]
        rw [sWhile_of (n := 1) (by rw [y]; exact fun h => nomatch h), y]
      | rt v S' =>
        have y : sWhileN t b 1 ρ S = .rt v S' := by rw [one 0, z]
        rw [sWhile_of (n := 1) (by rw [y]; exact fun h => nomatch h), y]
      | ex e ρ' S' =>
        have y : sWhileN t b 1 ρ S = .ex e ρ' S' := by rw [one 0, z]
        rw [sWhile_of (n := 1) (by rw [y]; exact fun h => nomatch h), y]
      | bad =>
        by_cases h : sWhile t b ρ S = .bad
        · exact h
        · obtain ⟨n, e⟩ := sWhile_ex h
          rw [e]
          cases n with
          | zero => rfl
          | succ n => rw [one n, z]
theorem ds_while {c : Expr} {body : List Stmt} {mt : M Bool} {mb : MS} (hp : PassesOwn (model X.prog X.w) X.A X.env X.xe) (hc : DT X c mt) (hb : DSs X body mb) : DS X (.While c body [] pos) (sWhile mt mb) := ⟨fun W tk => by
  obtain ⟨t, pt, rt⟩ := hc.ex W tk
  obtain ⟨tb, pb, rb⟩ := hb.ex W tk
  refine ⟨_, ps_while hp pt pb, fun E g σ ρ Dn rel h => ?_⟩
  have nb : sWhile mt mb ρ g.S ≠ .bad := fun z => by rw [z] at h; exact h
  obtain ⟨n, e⟩ := sWhile_ex nb
  rw [e] at h
  refine ⟨fun m σ' H' => ∃ g' ρ', g'.H = H' ∧ Rel X.K E g' σ' ρ' ∧ (sWhileN mt mb m ρ' g'.S).ends X.K E W Dn, ⟨n, g, ρ, rfl, rel, h⟩, ?_⟩
  rintro m σ1 H1 ⟨g1, ρ1, rfl, rel1, h1⟩
  cases m with
  | zero => exact h1.elim
  | succ m =>
    simp only [sWhileN] at h1
    refine rt g1 σ1 ρ1 _ rel1.s ((ends_bind rel1 h1).imp (fun x S _ q g2 es p => ?_) fun e S _ q => q)
    have rel2 := rel1.post p
    cases x with
    | false =>
      rw [if_neg Bool.false_ne_true]
      exact q g2 σ1 es rel2
    | true =>
      rw [if_pos rfl]
      simp only [cond_true] at q
      refine ⟨fun σ' H' => ∃ g' ρ', g'.H = H' ∧ Rel X.K E g' σ' ρ' ∧ (sWhileN mt mb m ρ' g'.S).ends X.K E W Dn, fun σ' H' ⟨g', ρ', a, b, c⟩ => ⟨m, Nat.lt_succ_self m, g', ρ', a, b, c⟩, ?_⟩
      refine rb E g2 σ1 ρ1 _ rel2 ?_
      rw [es]
      cases z : mb ρ1 S with
      | nx ρ' S' => rw [z] at q; exact fun g3 σ3 es3 rel3 => ⟨g3, ρ', rfl, rel3, by rw [es3]; exact q⟩
      | ct ρ' S' => rw [z] at q; exact fun g3 σ3 es3 rel3 => ⟨g3, ρ', rfl, rel3, by rw [es3]; exact q⟩
      | bk ρ' S' => rw [z] at q; exact q
      | rt v S' => rw [z] at q; exact q
      | ex e ρ' S' => rw [z] at q; exact q
      | bad => rw [z] at q; exact q⟩

/-! ### for -/
/-- the entry E, with what had come to stand by g -/
def G.mid (E g : G) : G := { F := g.F, H := E.H, io := g.io, S := g.S }
theorem Post.of_mid {g1 : G} (p1 : Post K E g1) (p : Post K (E.mid g1) g) : Post K E g where
  ok := p.ok
  leF := p1.leF.trans p.leF
  pre := p1.pre.trans p.pre
  fr := fun a u e n => p.fr a u e fun m => by
    rcases p1.io a m with z | z
    · exact n z
    · rw [z] at e; cases e
  fz := fun a u e => by
    rcases p.fz a u e with z | z | z
    · exact p1.fz a u z
    · exact .inr (.inl z)
    · rcases p1.io a z with y | y
      · exact .inr (.inr y)
      · exact .inr (.inl y)
  io := fun a m => by
    rcases p.io a m with z | z
    · exact p1.io a z
    · exact .inr z
  dom := p.dom
theorem Post.mid {g1 : G} (p1 : Post K E g1) (p : Post K g1 g) : Post K (E.mid g1) g where
  ok := p.ok
  leF := p.leF
  pre := p.pre
  fr := fun a u e n => (p1.trans p).fr a u e fun m => n (p1.pre.mem m)
  fz := fun a u e => by
    rcases (p1.trans p).fz a u e with z | z | z
    · exact .inl (p1.leF _ _ z)
    · exact .inr (.inl z)
    · exact .inr (.inr (p1.pre.mem z))
  io := fun a m => by
    rcases (p1.trans p).io a m with z | z
    · exact .inl (p1.pre.mem z)
    · exact .inr z
  dom := (p1.trans p).dom
theorem Rel.of_mid {g1 : G} (p1 : Post K E g1) (h : Rel K (E.mid g1) g σ ρ) : Rel K E g σ ρ := ⟨h.s, p1.of_mid h.p, h.new⟩
theorem Rel.mid (h : Rel K E g σ ρ) : Rel K (E.mid g) g σ ρ := ⟨h.s, h.p.mid (Post.refl h.s.ok), h.new⟩
theorem RS.ends.mid {W : WX} {Dn : Ends} {r : RS} {g1 : G} (p1 : Post K E g1) (h : r.ends K E W Dn) : r.ends K (E.mid g1) W Dn := by
  cases r with
  | nx ρ S => exact fun g σ es rel => h g σ es (rel.of_mid p1)
  | bk ρ S => exact fun g σ es rel => h g σ es (rel.of_mid p1)
  | ct ρ S => exact fun g σ es rel => h g σ es (rel.of_mid p1)
  | rt s S => exact fun g v es p o => h g v es (p1.of_mid p) (by cases s <;> exact o)
  | ex e ρ S => exact fun g σ c dd es rel x => h g σ c dd es (rel.of_mid p1) x
  | bad => exact h
open Classical in
noncomputable def sForL (C : Gds) (gm : D → List Slot → Option (List Slot)) (b : MS) : List D → MS
  | [] => fun ρ S => if Gok C S then .nx ρ S else .bad
  | x :: xs => fun ρ S => if Gok C S then (match gm x ρ with
    | none => .bad
    | some ρ1 => match b ρ1 S with
      | .nx ρ' S' => sForL C gm b xs ρ' S'
      | .ct ρ' S' => sForL C gm b xs ρ' S'
      | .bk ρ' S' => .nx ρ' S'
      | r => r) else .bad
noncomputable def sFor (mi : M (List D × Gds)) (gm : D → List Slot → Option (List Slot)) (b : MS) : MS := fun ρ S => rBind (mi ρ S) ρ fun xs S1 => sForL xs.2 gm b xs.1 ρ S1
theorem ds_for {tg iter : Expr} {body : List Stmt} {gt : TG} {gm : D → List Slot → Option (List Slot)} {mi : M (List D × Gds)} {mb : MS} (hp : PassesOwn (model X.prog X.w) X.A X.env X.xe) (hc : X.calm = true) (hi : DI X tg iter mi) (hg : PG X tg gt) (rg : RgS X.K gt gm) (hb : DSs X body mb)
    (hs : ∀ x, foldedSetIterable iter X.env x = pure x := by intro _; rfl) : DS X (.For tg iter body [] pos) (sFor mi gm mb) := ⟨fun W tk => by
  obtain ⟨wi, pi, ri⟩ := hi.ex W tk
  obtain ⟨tb, pb, rb⟩ := hb.ex W tk
  refine ⟨_, ps_for hp hc pi hg pb hs, fun E g σ ρ Dn rel h => ?_⟩
  refine ri g σ ρ _ rel.s ((ends_bind rel h).imp (fun xs S _ q g1 J es p it => ?_) fun e S _ q => q)
  have rel1 := (rel.post p).mid
  have q := RS.ends.mid (rel.post p).p q
  obtain ⟨E1, eE⟩ : ∃ E1, E1 = E.mid g1 := ⟨_, rfl⟩
  have eF : E1.F = g1.F := by rw [eE]; rfl
  have eio : E1.io = g1.io := by rw [eE]; rfl
  rw [← eE] at rel1 q
  refine ⟨fun i m σ' H' => ∃ g' ρ', g'.H = H' ∧ Rel X.K E1 g' σ' ρ' ∧ m = xs.1.length - i ∧ (sForL xs.2 gm mb (xs.1.drop i) ρ' g'.S).ends X.K E1 W Dn,
    ⟨xs.1.length, g1, ρ, rfl, rel1, rfl, by rw [es]; exact q⟩, ?_⟩
  rintro i m σ1 H1 ⟨g2, ρ1, rfl, rel2, rfl, h1⟩
  have le : Le g1.F g2.F := eF ▸ rel2.p.leF
  have pr : Pre g1.io g2.io := eio ▸ rel2.p.pre
  have gk : Gok xs.2 g2.S := by
    by_cases gk : Gok xs.2 g2.S
    · exact gk
    · exfalso
      cases z : xs.1.drop i with
      | nil => rw [z] at h1; simp only [sForL, if_neg gk] at h1; exact h1
      | cons d r => rw [z] at h1; simp only [sForL, if_neg gk] at h1; exact h1
  by_cases hi : i < xs.1.length
  · right
    refine ⟨it.go g2 rel2.ok le pr gk i hi, fun σ' H' => ∃ g' ρ', g'.H = H' ∧ Rel X.K E1 g' σ' ρ' ∧ (sForL xs.2 gm mb (xs.1.drop (i + 1)) ρ' g'.S).ends X.K E1 W Dn,
      fun σ' H' ⟨g', ρ', a, b, e⟩ => ⟨xs.1.length - (i + 1), by omega, g', ρ', a, b, rfl, e⟩, fun x H' y => ?_⟩
    obtain ⟨g3, rfl, eS, p3, d, hd, r3⟩ := it.yld g2 rel2.ok le pr gk i x H' hi y
    have ed : xs.1[i] = d := by rw [List.getElem?_eq_getElem hi] at hd; exact Option.some.inj hd
    rw [List.drop_eq_getElem_cons hi, ed] at h1
    simp only [sForL, if_pos gk] at h1
    cases z : gm d ρ1 with
    | none => rw [z] at h1; exact h1.elim
    | some ρ2 =>
      rw [z] at h1
      simp only at h1
      have rel3 := rel2.post p3
      refine rg.run E1 g3 σ1 ρ1 x d ρ2 _ rel3 r3 z fun σ4 rel4 => ?_
      refine rb E1 g3 σ4 ρ2 _ rel4 ?_
      rw [eS]
      cases y : mb ρ2 g2.S with
      | nx ρ' S' => rw [y] at h1; exact fun g5 σ5 es5 rel5 => ⟨g5, ρ', rfl, rel5, by rw [es5]; exact h1⟩
      | ct ρ' S' => rw [y] at h1; exact fun g5 σ5 es5 rel5 => ⟨g5, ρ', rfl, rel5, by rw [es5]; exact h1⟩
      | bk ρ' S' => rw [y] at h1; exact h1
      | rt v S' => rw [y] at h1; exact h1
      | ex e ρ' S' => rw [y] at h1; exact h1
      | bad => rw [y] at h1; exact h1
  · left
    rw [List.drop_eq_nil_of_le (by omega)] at h1
    simp only [sForL, if_pos gk] at h1
    exact ⟨it.stop g2 rel2.ok le pr gk i (by omega), h1 g2 σ1 rfl rel2⟩⟩
end
end FW
end
section
set_option maxHeartbeats 2000000
/-! FW10: raise; try .. except C as e: x = e, the exception tracked from then on. -/
namespace FW
open PySem PySem.Spec PyProof.Rows L2
section
variable {X : Cx} {st : Stmt} {rest sts : List Stmt} {e : Expr} {pos : Pos} {K : PySem.W.Frag} {E g g' : G} {σ : L2.St} {ρ : List Slot}
/-! ### raise -/
def sRaise (c : String) : MS := fun ρ S => .ex ⟨c, []⟩ ρ S
theorem ds_raise {c : String} {x m : Str} {j : Nat} {p p2 pos' : Pos} (hc : X.calm = true) (hx : (He.Fa.exc (Str.ofString c)).ok X.K = true) (gC : X.mg x = some (.ref (He.ga X.K (Str.ofString c)))) (hg : Gl X x) (hdb : (x == ("__debug__" : Str)) = false := by decide) :
    DS X (.Raise (some (.Call (.Name x p) [.Constant (.str m) j p2] [] pos')) none pos) (sRaise c) := ⟨fun W tk => by
  obtain ⟨h1, h2, h3, h4⟩ := He.exc_ok hx
  exact ⟨_, ps_raise hc tk (pmk_own PySem.F.excBase_ValueError h1 gC h2 (raises_own h3 h4) hg hdb), fun E g σ ρ Dn rel h => h g σ _ none rfl rel ⟨rfl, .inl ⟨rfl, rfl⟩⟩⟩⟩

/-! ### an object is tracked -/
theorem inv_track {pins : List (Addr × Obj)} {H : Hp} {s : Shared} {a : Addr} {o : HO} (I : Inv X pins σ H s) (na : H a = none) (n0 : X.s_0.heap.get? a = none) (nL : a ≠ X.env.locals) (np : ∀ p ∈ X.pn ++ pins, p.1 ≠ a)
    (nc : ∀ x c, X.env.cells.lookup x = some c → c ≠ a) (new : ObjOk X.prog X.w (upd H a o) s.heap a o) : Inv X pins σ (upd H a o) s := by
  refine ⟨I.ok, I.os, I.bare, ⟨I.base.keep, I.base.slot, fun b u e n hx => ?_, I.base.there, fun b xs e => ?_, fun b u w e => ?_, fun b ps e => ?_⟩, I.loc, I.cell, ?_, fun x c e => ?_, fun p hp => ?_, fun b ob e => ?_, I.len⟩
  · have : b ≠ a := fun z => by subst z; rw [n0] at e; cases e
    rw [upd_ne this]; exact I.base.free b u e n hx
  · have z := I.base.tups b xs e
    rw [upd_ne (ne_of_none z na)]; exact z
  · have z := I.base.frzs b u w e
    rw [upd_ne (ne_of_none z na)]; exact z
  · obtain ⟨more, z⟩ := I.base.tbls b ps e
    exact ⟨more, by rw [upd_ne (ne_of_none z na)]; exact z⟩
  · rw [upd_ne nL.symm]; exact I.free
  · rw [upd_ne (nc x c e)]; exact I.freeC x c e
  · obtain ⟨h1, h2, h3, h4, h5⟩ := I.pin p hp
    exact ⟨h1, by rw [upd_ne (np p hp)]; exact h2, h3, h4, h5⟩
  · by_cases hb : b = a
    · subst hb; rw [upd_same] at e; cases e; exact new
    · rw [upd_ne hb] at e
      exact (I.hok b ob e).stay (fun c u _ q => q) (fun c q => by rw [upd_ne (ne_of_none q na)]; exact q) fun c xs q => by rw [upd_ne (ne_of_none q na)]; exact q
theorem pin_more {pins : List (Addr × Obj)} {H : Hp} {s : Shared} {a : Addr} {oe : Obj} {vs : Array Value} (I : Inv X pins σ H s) (ha : s.heap.get? a = some oe) (hd : oe.data = .fields vs) (na : H a = none) (nL : a ≠ X.env.locals) (nF : a ∉ X.fs) :
    Inv X (pins ++ [(a, oe)]) σ H s := I.pins_of fun p hp => by
  rcases List.mem_append.mp hp with z | z
  · exact I.pin p (List.mem_append_right _ z)
  · have e : p = (a, oe) := by simpa using z
    subst e
    exact ⟨ha, na, nL, nF, fun v z => by rw [show (a, oe).2.data = .fields vs from hd] at z; cases z⟩

/-! ### try: .., except c as n: y = n -/
def wAsT (K : PySem.W.Frag) (c : Value) (i j : Nat) (Wout : WX) (D : Ends) : WX := fun cls d σ H =>
  ∃ b, PySem.W.exmOne K cls c = some b ∧ (b = true → ∀ a, H a = none → i < σ.length → D.nx (((σ.set i (some (.ref a))).set j (some (.ref a))).set i none) (upd H a (exho a cls d))) ∧ (b = false → Wout cls d σ H)
/-- an exception of this frame's try body, landed: where it stands, that it is new, that no pin is its -/
structure Caught (X : Cx) (pins : List (Addr × Obj)) (σ : L2.St) (H : Hp) (a : Addr) (cls : Value) (d : Option Addr) (B : Heap) (s : Shared) : Prop where
  inv : Inv X pins σ H s
  fly : HandSPX.FlyingZ B (X.env :: X.outer) a (Zc cls d) s.heap
  na : H a = none
  old : X.s_0.heap.get? a = none
  pin : ∀ p ∈ X.pn ++ pins, p.1 ≠ a
section
variable {pins : List (Addr × Obj)} {H : Hp} {a : Addr} {cls : Value} {d : Option Addr} {B : Heap} {s : Shared}
theorem fly_frames {l : List Env} {h : Heap} (f : HandSPX.FlyingZ B l a (Zc cls d) h) : a ∉ frs l := by
  obtain ⟨oe, vs, there, _, fields⟩ := f.there
  intro m
  obtain ⟨_, other, at_, nofields⟩ := f.2.2.1.mem m
  rw [there] at at_
  cases at_
  exact nofields vs fields
theorem Caught.locals (c : Caught X pins σ H a cls d B s) (hf : X.env.frame = some X.env.locals) : a ≠ X.env.locals ∧ a ∉ X.fs := by
  have no := fly_frames c.fly
  unfold frs at no
  rw [List.filterMap_cons, hf] at no
  exact ⟨fun z => no (z ▸ List.mem_cons_self), fun m => no (List.mem_cons_of_mem _ m)⟩
/-- the same exception over a heap that differs in slots and flights alone -/
theorem Caught.to {sI : Shared} (J : Inv X pins σ H sI) (hs : X.stack = X.env :: X.outer) (hex : X.ex = []) (nb : ∀ b o, sI.heap.get? b = some o → b ∉ frs X.stack → B.get? b = some o) (up : sI.heap.UpToSlots s.heap) (eo : s.os = sI.os) (bare : AllBare s.gens) (na : H a = none)
    (fly : HandSPX.FlyingZ B (X.env :: X.outer) a (Zc cls d) s.heap) : Caught X pins σ H a cls d B s := by
  have gone : sI.heap.get? a = none := by
    cases q : sI.heap.get? a with
    | none => rfl
    | some o => exact absurd (nb a o q (hs ▸ fly_frames fly)) (by rw [fly.2.1]; exact fun z => nomatch z)
  refine ⟨J.landed nb fly.1 up eo bare, fly, na, ?_, fun p hp z => ?_⟩
  · cases q : X.s_0.heap.get? a with
    | none => rfl
    | some o =>
      have still := J.base.there a o q (by rw [hex]; exact List.not_mem_nil)
      rw [gone] at still
      exact still.elim fun _ w => nomatch w
  · have w := (J.pin p hp).1
    rw [z, gone] at w
    cases w
/-- the clause's class is asked -/
theorem Caught.ask {x : Str} {c : Value} {np : Pos} {b : Bool} {Q : Bool → Shared → Prop} {E' : Value → Shared → Prop} (k : Caught X pins σ H a cls d B s) (hf : X.env.frame = some X.env.locals) (hc : Names X x c) (hb : PySem.W.exmOne X.K cls c = some b) (q : Q b s) :
    wpAny (model X.prog X.w) (X.A.mark (some (.ref a))) (eval (.Name x np) X.env) (fun v s1 => wpAny (model X.prog X.w) (X.A.mark (some (.ref a))) (excMatches (.ref a) v) Q E' s1) E' s := by
  obtain ⟨oe, vs, there, z, fields⟩ := k.fly.there
  obtain ⟨n1, n2⟩ := k.locals hf
  have inside := k.inv.suite there fields k.na n1 n2
  have says := PySem.W.exm_one (M := model X.prog X.w) k.inv.kIn (fun _ _ _ _ keep w => wpAny_typeOf_ref (keep _ _ there) (z.1.symm ▸ w)) hb
  have go := says.here (A := X.A.mark (some (.ref a))) (E := E') q
  rcases hc with ⟨hg, dbg, g | ⟨g, v, nm⟩⟩
  · exact ld_glob inside hg g go dbg
  · exact ld_blt inside hg g v go nm dbg
/-- no clause is left: it goes on -/
theorem Caught.on {Wout : WX} {Q : Flow → Shared → Prop} {sI : Shared} (k : Caught X pins σ H a cls d B s) (hs : X.stack = X.env :: X.outer) (hf : X.env.frame = some X.env.locals) (tk : Takes X Wout) (J : Inv X pins σ H sI) (nb : ∀ b o, sI.heap.get? b = some o → b ∉ frs X.stack → B.get? b = some o)
    (up : sI.heap.UpToSlots s.heap) (eo : s.os = sI.os) (bare : AllBare s.gens) (w : Wout cls d σ H) : wpAny (model X.prog X.w) X.A (handleBy (.ref a) X.env []) Q X.xe s := by
  have away : wpAny (model X.prog X.w) X.A (setFlight (.ref a) X.env.frame) (fun _ s4 => wpAny (model X.prog X.w) X.A (throw (.ref a) : Sem Flow) Q X.xe s4) X.xe s := by
    rw [hf]
    exact HandSPX.setFlight_upZ k.fly fun h4 held up4 => wpAny_throw (tk _ _ ⟨a, B, sI, pins, σ, H, cls, d, rfl, J, nb, up.trans up4, .inr (.inr (hs.symm ▸ held)), k.na, eo, bare, w⟩)
  refine wpAny_handleBy_nil ?_
  obtain ⟨_, _, _, oe, vs, Tr, _, _, there, _, fields, trace, _⟩ := k.fly
  unfold PySem.passOn
  refine wpAny_bind (wpAny_field there fields trace ?_)
  have some_trace : ¬ (Value.ref Tr == Value.none) = true := by simp
  rw [if_neg some_trace]
  first
    | exact wpAny_bind (wpAny_pure (wpAny_bind away))
    | exact wpAny_bind away
end
theorem ps_try_asT {x n y : Str} {c : Value} {i j : Nat} {body : List Stmt} {np py pn2 spos pos' : Pos} {tb : WX → TS} {Wout : WX} (hs : X.stack = X.env :: X.outer) (hf : X.env.frame = some X.env.locals) (hex : X.ex = []) (hN : X.N.Nodup) (hi : X.N[i]? = some n) (hln : X.env.kindOf n = some .local)
    (hc : Names X x c) (tk : Takes X Wout) (body_ok : ∀ (W : WX) (pn : List (Addr × Obj)) (xe : Value → Shared → Prop), Takes (X.tr pn xe) W → PassesOwn (model X.prog X.w) X.A X.env xe → PSs (X.tr pn xe) body (tb W))
    (suite_ok : ∀ (a : Addr) (pn : List (Addr × Obj)), PSs (X.suite a pn) [.Assign [.Name y py] (.Name n pn2) spos] (tAsg (tVar i) (gName j))) :
    PS X (.Try body [.ExceptHandler (some (.Name x np)) (some n) [.Assign [.Name y py] (.Name n pn2) spos] pos'] [] [] pos) (fun D σ H => tb (wAsT X.K c i j Wout D) D σ H) := ⟨fun pins s σ H D I h => by
  have fr : X.A.frames = some (X.env :: X.outer) := I.ok.frames.trans (congrArg some hs)
  refine wpAny_Try_except (wpAny_mono ((body_ok (wAsT X.K c i j Wout D) (X.pn ++ pins) _ (fun u s' air => ?_) PassesOwn.looking).run [] s σ H D (I.toTry _) h) (fun f s1 hsp => ?_) fun _ _ z => z)
  · obtain ⟨a, B, sI, _, σ', H', cls, d, rfl, J', nb, up, sky, na, eo, bare, b, hb, yes, no⟩ := air
    have J := J'.ofTry I.ok
    refine Sky.land Zc.steady fr hf (hs ▸ sky) fun h3 fly3 up3 => ?_
    have k3 : Caught X pins σ' H' a cls d B { s' with heap := h3 } := Caught.to J hs hex nb (up.trans up3) eo bare na fly3
    refine wpAny_handleBy_cons (codeAny_handlers_test (k3.ask hf hc hb ?_)) (fun z => nomatch z)
    cases b with
    | false => exact k3.on hs hf tk J nb (up.trans up3) eo bare (no rfl)
    | true =>
      refine codeAny_handlers_suite_as (HandSPX.lands_againZ fly3 fun h4 fly4 up4 => ?_)
      have k4 : Caught X pins σ' H' a cls d B { s' with heap := h4 } := Caught.to J hs hex nb ((up.trans up3).trans up4) eo bare na fly4
      obtain ⟨oe, vs, there, z, fields⟩ := fly4.there
      obtain ⟨n1, n2⟩ := k4.locals hf
      have room : i < σ'.length := by rw [J.len]; exact (List.getElem?_eq_some_iff.mp hi).1
      refine store_ok (X := X.suite a ((a, oe) :: (X.pn ++ pins))) (v := .ref a) (k4.inv.suite there fields na n1 n2) hN hi (.inl hln) rfl (fun s5 S5 => ?_) (.inr hln)
      let E : Ends := { nx := fun σ6 H6 => σ6 = (σ'.set i (some (.ref a))).set j (some (.ref a)) ∧ H6 = H', rt := fun _ _ => False, bk := fun _ _ => False, ct := fun _ _ => False }
      refine wpAny_mono ((suite_ok a ((a, oe) :: (X.pn ++ pins))).run [] s5 _ H' E S5 ⟨.ref a, by rw [List.getElem?_set_self room], rfl, rfl⟩) (fun f s6 out => ?_) fun _ _ z => z.elim
      cases f with
      | brk => exact out.elim fun _ w => w.elim fun _ w => w.2.elim
      | cont => exact out.elim fun _ w => w.elim fun _ w => w.2.elim
      | ret u => exact out.elim fun _ w => w.elim fun _ w => w.elim fun _ w => w.2.2.elim
      | next =>
        obtain ⟨σ6, H6, S6, rfl, rfl⟩ := out
        have p6 := S6.pin (a, oe) (List.mem_append_left _ List.mem_cons_self)
        refine gone_ok (pin_more (S6.unsuite I.ok) p6.1 fields p6.2.1 n1 n2) hN hi hln fun s7 J7 => ?_
        have p7 := J7.pin (a, oe) (List.mem_append_right _ (List.mem_append_right _ List.mem_cons_self))
        have J8 : Inv X pins _ H6 s7 := J7.pins_of fun p hp => J7.pin p (List.mem_append_right _ (List.mem_append_left _ hp))
        refine ⟨_, _, inv_track (a := a) (o := exho a cls d) J8 p7.2.1 k4.old n1 k4.pin (fun x1 c1 e1 z1 => ?_) ⟨⟨oe, p7.1, z, vs, fields⟩, ⟨oe, p7.1⟩, fun _ _ ⟨o1, w1, w2⟩ w3 => ⟨o1, w3 _ w1, w2⟩⟩, yes rfl a na room⟩
        obtain ⟨_, o1, at1, cell1⟩ := J8.cell x1 c1 e1
        rw [z1, p7.1] at at1
        cases at1
        rw [fields] at cell1
        cases cell1
  · cases f with
    | next =>
      obtain ⟨σ1, H1, K1, w⟩ := hsp
      exact wpAny_execs_nil ⟨σ1, H1, K1.ofTry I.ok, w⟩
    | brk => exact hsp.elim fun σ1 w => w.elim fun H1 w => ⟨σ1, H1, w.1.ofTry I.ok, w.2⟩
    | cont => exact hsp.elim fun σ1 w => w.elim fun H1 w => ⟨σ1, H1, w.1.ofTry I.ok, w.2⟩
    | ret u =>
      obtain ⟨v1, σ1, H1, K1, w1, w2⟩ := hsp
      exact ⟨v1, σ1, H1, K1.ofTry I.ok, w1, w2⟩⟩
/-- what the module's classes of exceptions answer to a clause -/
structure ExmOk (T : CT) (K : PySem.W.Frag) : Prop where
  exm : ∀ c ∈ T.ec, ∀ t ∈ T.ec, PySem.W.exmOne K (.ref (He.ga K (Str.ofString c))) (.ref (He.ga K (Str.ofString t))) = some ((T.mro c).contains t)
def exmD (T : CT) (c t : String) : Option Bool := if T.ec.contains c && T.ec.contains t then some ((T.mro c).contains t) else none
theorem exmD_ok {T : CT} (h : ExmOk T K) {c t : String} {b : Bool} (e : exmD T c t = some b) : PySem.W.exmOne K (.ref (He.ga K (Str.ofString c))) (.ref (He.ga K (Str.ofString t))) = some b := by
  unfold exmD at e
  split at e
  · rename_i q
    obtain ⟨q1, q2⟩ := Bool.and_eq_true_iff.mp q
    rw [← e]
    exact h.exm c (memS q1) t (memS q2)
  · cases e
def sTryAs (T : CT) (t : String) (i j : Nat) (m : MS) : MS := fun ρ S => match m ρ S with
  | .ex e ρ' S' => match exmD T e.c t with
    | some true => .nx ((ρ'.set i .none).set j (.val (.exc e.c e.fs))) S'
    | some false => .ex e ρ' S'
    | none => .bad
  | r => r
theorem Rel.none (h : Rel K E g σ ρ) (i : Nat) (o : Option V) : Rel K E g (σ.set i o) (ρ.set i .none) where
  s := {
    ok := h.s.ok
    len := by simp [h.s.len]
    slot := fun k s e => by
      by_cases z : i = k
      · subst z
        have hl : i < ρ.length := by have := (List.getElem?_eq_some_iff.mp e).1; simpa using this
        rw [List.getElem?_set_self hl] at e; cases e
        trivial
      · rw [List.getElem?_set_ne z] at e ⊢
        exact h.s.slot k s e
    dist := fun k l c c' p e1 e2 e3 e4 => by
      have ne : ∀ k c, (ρ.set i Slot.none)[k]? = some (Slot.own c) → i ≠ k := fun k c e z => by
        subst z
        have hl : i < ρ.length := by have := (List.getElem?_eq_some_iff.mp e).1; simpa using this
        rw [List.getElem?_set_self hl] at e; cases e
      have n1 := ne k c e1
      have n2 := ne l c' e2
      rw [List.getElem?_set_ne n1] at e1 e3
      rw [List.getElem?_set_ne n2] at e2 e4
      exact h.s.dist k l c c' p e1 e2 e3 e4 }
  p := h.p
  new := fun k c p e1 e2 => by
    by_cases z : i = k
    · subst z
      have hl : i < ρ.length := by have := (List.getElem?_eq_some_iff.mp e1).1; simpa using this
      rw [List.getElem?_set_self hl] at e1; cases e1
    · rw [List.getElem?_set_ne z] at e1 e2
      exact h.new k c p e1 e2
theorem ds_try_as {T : CT} {t : String} {x n y : Str} {i j : Nat} {body : List Stmt} {np py pn2 spos pos' : Pos} {m : MS} (hT : ExmOk T X.K) (hs : X.stack = X.env :: X.outer) (hf : X.env.frame = some X.env.locals) (hex : X.ex = []) (hN : X.N.Nodup) (hi : X.N[i]? = some n) (hln : X.env.kindOf n = some .local)
    (hj : X.N[j]? = some y) (hly : X.env.kindOf y = some .local) (hij : i ≠ j) (hc : Names X x (.ref (He.ga X.K (Str.ofString t))))
    (hb : ∀ (pn : List (Addr × Obj)) (xe : Value → Shared → Prop), PassesOwn (model X.prog X.w) X.A X.env xe → DSs (X.tr pn xe) body m)
    (hw : swapsWith (.Name n pn2) (some (.Name y py)) spos.line X.env = pure false := by rfl) (hd : (n == ("__debug__" : Str)) = false := by decide) (hcd : (n == ("__classdict__" : Str)) = false := by decide) :
    DS X (.Try body [.ExceptHandler (some (.Name x np)) (some n) [.Assign [.Name y py] (.Name n pn2) spos] pos'] [] [] pos) (sTryAs T t i j m) := ⟨fun W tk => by
  refine ⟨_, ps_try_asT (j := j) hs hf hex hN hi hln hc tk (tb := fun W' => tS X.K W' m) (fun W' pn xe tk' po => (hb pn xe po).ps tk') (fun a pn => ?_), fun E g σ ρ Dn rel h => ?_⟩
  · exact pss_one (ps_set (X := X.suite a pn) hN hj (.inl hly) (pe_var (X := X.suite a pn) hi (.inl hln) hd hcd) hw (.inr hly))
  · refine ⟨E, g, ρ, rfl, rel, ?_⟩
    unfold sTryAs at h
    cases q : m ρ g.S with
    | nx ρ' S' => rw [q] at h; exact h
    | bk ρ' S' => rw [q] at h; exact h
    | ct ρ' S' => rw [q] at h; exact h
    | rt s S' => rw [q] at h; exact h
    | bad => rw [q] at h; exact h
    | ex e ρ' S' =>
      rw [q] at h
      simp only at h
      intro g2 σ2 c dd es rel2 rx
      cases z : exmD T e.c t with
      | none => rw [z] at h; exact h.elim
      | some b =>
        rw [z] at h
        have he := exmD_ok hT z
        rw [← rx.1] at he
        refine ⟨b, he, fun eb a na hl => ?_, fun eb => ?_⟩
        · subst eb
          have P := Post.frz (K := X.K) rel2.ok (o := exho a c dd) na (fun x z => by cases z)
          have rel3 := rel2.post P
          have r : Rep X.K (g2.frz a (exho a c dd)).io (g2.frz a (exho a c dd)).F (.ref a) (.exc e.c e.fs) := by
            simp only [Rep]
            refine ⟨a, dd, rfl, ?_, ?_⟩
            · rw [← rx.1]; exact upd_same
            · rcases rx.2 with z | ⟨n, dx, fvs, e1, e2, r⟩
              · exact .inl z
              · exact .inr ⟨n, dx, fvs, e1, P.leF _ _ e2, RepF.mono P.leF P.pre _ r⟩
          have e1 : ((σ2.set i (some (.ref a))).set j (some (.ref a))).set i none = (σ2.set i none).set j (some (.ref a)) := by
            rw [List.set_comm _ _ hij.symm, List.set_set]
          rw [e1]
          exact h (g2.frz a (exho a c dd)) _ (show (g2.frz a (exho a c dd)).S = _ from es) ((rel3.none i none).setS (Post.refl rel3.ok) j (show OutRep X.K _ _ (.ref a) (.val (.exc e.c e.fs)) from r))
        · subst eb
          exact h g2 σ2 c dd es rel2 rx⟩
end
end FW
end
section
set_option maxHeartbeats 2000000
/-! FW11: a def, a call, a look at what is one's own. -/
namespace FW
open PySem PySem.Spec PyProof.Rows L2
abbrev MF := List D → Sto → R Slot
def spD (K : PySem.W.Frag) (n : Nat) (mf : MF) : Sp := fun vs H Q E => ∃ (g : G) (ds : List D), g.H = H ∧ Ok K g ∧ RepL K g.io g.F vs ds ∧ ds.length = n ∧
  (mf ds g.S).post (fun s S' => ∀ g' v, g'.S = S' → Post K g g' → OutRep K g g' v s → Q v g'.H) (fun e S' => ∀ g' c dd, g'.S = S' → Post K g g' → RepX K g' c dd e → E c dd g'.H)
def startD (N : List Str) (ds : List D) : List Slot := ds.map Slot.val ++ List.replicate (N.length - ds.length) .none
def mDef (N : List Str) (m : MS) : MF := fun ds S => match m (startD N ds) S with
  | .nx _ S' => .ok (.val .non) S'
  | .rt s S' => .ok s S'
  | .ex e _ S' => .err e S'
  | _ => .bad
section
variable {K : PySem.W.Frag} {E g g' : G} {σ : L2.St} {ρ : List Slot}
theorem rel_start {N : List Str} {vs : List V} {ds : List D} (ok : Ok K g) (r : RepL K g.io g.F vs ds) : Rel K g g (L2.start N vs) (startD N ds) := by
  have len := r.length
  have noown : ∀ (i : Nat) (c : Cell), (startD N ds)[i]? ≠ some (Slot.own c) := fun i c e => by
    unfold startD at e
    by_cases h : i < (ds.map Slot.val).length
    · rw [List.getElem?_append_left h, List.getElem?_map] at e
      cases q : ds[i]? with
      | none => rw [q] at e; cases e
      | some d => rw [q] at e; cases e
    · rw [List.getElem?_append_right (by omega), List.getElem?_replicate] at e
      split at e
      · cases e
      · cases e
  refine ⟨⟨ok, by simp [L2.start, startD, len], fun i s e => ?_, fun i j c c' p e1 => absurd e1 (noown i c)⟩, Post.refl ok, fun i c p e1 => absurd e1 (noown i c)⟩
  unfold startD at e
  unfold L2.start
  by_cases h : i < ds.length
  · rw [List.getElem?_append_left (by simpa using h), List.getElem?_map] at e
    obtain ⟨d, hd⟩ : ∃ d, ds[i]? = some d := ⟨ds[i], by simp [h]⟩
    rw [hd] at e; cases e
    obtain ⟨v, e2, q⟩ := r.get hd
    refine ⟨v, ?_, q⟩
    rw [List.getElem?_append_left (by simpa [len] using h), List.getElem?_map, e2]; rfl
  · rw [List.getElem?_append_right (by simpa using Nat.le_of_not_lt h), List.getElem?_replicate] at e
    split at e
    · cases e; trivial
    · cases e
theorem fn_def {P : Program} {w : World} {mg : Str → Option Value} {base : Heap} {x qual : Str} {params : Arguments} {body : List Stmt} {scope : Scope} {dvs : List V} {kws : List (Str × V)} {f : Addr} {fd : FuncData} {N ps : List Str} {k : Nat} {m : MS}
    (F : FunD K x qual params body scope dvs kws f fd) (S : FnScope N ps scope) (hb : ∀ (cdv : Value) (A : Around) (outer : List Env) (s : Shared) (H : Hp) (E : XK), Room k (A.deeper (envOfC qual scope s.heap.objs.size f cdv)) →
      DSs (cxOf (L2.CX P w) P w K mg base N qual scope f cdv A outer s H E) body m) : FnOk P w K mg base (L2.CX P w) (k + 1) f fd ps (spD K ps.length (mDef N m)) := by
  refine F.ok S (fun vs H Q E ⟨g, ds, _, _, r, l, _⟩ => r.length.trans l) fun cdv A outer s H vs Q E hr ⟨g, ds, eH, ok, r, l, q⟩ => ?_
  subst eH
  refine ⟨_, (hb cdv A outer s g.H E hr).ps (takes_of rfl rfl rfl rfl), g, g, _, rfl, rel_start ok r, ?_⟩
  unfold mDef at q
  cases z : m (startD N ds) g.S with
  | nx ρ' S' => rw [z] at q; exact fun g' σ es rel => q g' _ es rel.p (by simp only [OutRep, Rep])
  | rt v S' => rw [z] at q; exact fun g' u es p o => q g' u es p o
  | ex e ρ' S' => rw [z] at q; exact fun g' σ c dd es rel x => q g' c dd es rel.p x
  | bk ρ' S' => rw [z] at q; exact q.elim
  | ct ρ' S' => rw [z] at q; exact q.elim
  | bad => rw [z] at q; exact q.elim

/-! ### a call -/
/-- the module's function x of n parameters, what it does -/
structure DFn (P : Program) (w : World) (K : PySem.W.Frag) (mg : Str → Option Value) (base : Heap) (k : Nat) (x : Str) (n : Nat) (mf : MF) : Prop where
  ex : ∃ (f : Addr) (fd : FuncData) (ps : List Str), FnOk P w K mg base (L2.CX P w) k f fd ps (spD K n mf) ∧ mg x = some (.ref f) ∧ PySem.W.keepIn K (.ref f) = true ∧ Binds K fd ps []
theorem DFn.mono {P : Program} {w : World} {mg : Str → Option Value} {base : Heap} {k k' : Nat} {x : Str} {n : Nat} {mf : MF} (h : DFn P w K mg base k x n mf) (l : k ≤ k') : DFn P w K mg base k' x n mf := by
  obtain ⟨f, fd, ps, a, b⟩ := h.ex
  exact ⟨f, fd, ps, a.mono l, b⟩
def mFn (mf : MF) (ma : M (List D)) : M Slot := fun ρ S => (ma ρ S).bind mf
theorem do_call {X : Cx} {k n : Nat} {x : Str} {p pos : Pos} {e : Expr} {es : List Expr} {mf : MF} {ma : M (List D)} (F : DFn X.prog X.w X.K X.mg X.base k x n mf) (hr : Room k X.A) (hg : Gl X x) (ha : DA X (e :: es) ma) (hn : (e :: es).length = n := by rfl)
    (hd : (x == ("__debug__" : Str)) = false := by decide) (he : starEach (e :: es) X.env = (false, eval e X.env) :: starEach es X.env := by rfl) (hpl : (backTo pos (starEach es X.env)).any (·.1) = false := by rfl) :
    DO X (.Call (.Name x p) (e :: es) [] pos) (mFn mf ma) := ⟨fun W tk => by
  obtain ⟨t, pe, ra⟩ := ha.ex W tk
  obtain ⟨f, fd, ps, F, hm, hk, hb⟩ := F.ex
  refine ⟨_, pe_callS F hr hg hm hk hb (fun σ => passAt tk σ) pe hd he hpl, fun g σ ρ Q rel h => ?_⟩
  unfold mFn at h
  rw [post_bind] at h
  refine ra g σ ρ _ rel (h.imp (fun ds S z q g1 vs e1 p1 r => ?_) fun e S _ q => q)
  refine ⟨g1, ds, rfl, p1.ok, r, (ha.len _ _ _ _ z).trans hn, ?_⟩
  rw [e1]
  exact q.imp (fun s S _ q g2 v e2 p2 o => q g2 v e2 (p1.trans p2) (OutRep.back p1 o)) fun e S _ q g2 c dd e2 p2 x => q g2 c dd e2 (p1.trans p2) x⟩

/-! ### what is one's own, looked at -/
def flat : D → Bool
  | .non | .bl _ | .int _ | .str _ | .ty _ | .cls _ => true
  | _ => false
mutual
def nor : D → Bool
  | .non => true | .bl _ => true | .int _ => true | .str _ => true | .ty _ => true | .cls _ => true
  | .lst ds => norL ds
  | .tup ds => norL ds
  | .dic ks => norK ks
  | .obj _ fs => norF fs
  | .exc _ fs => norF fs
  | .ref _ => false
def norL : List D → Bool
  | [] => true
  | d :: ds => nor d && norL ds
def norK : List (Key × D) → Bool
  | [] => true
  | (_, d) :: ds => nor d && norK ds
def norF : List (String × D) → Bool
  | [] => true
  | (_, d) :: ds => nor d && norF ds
end
theorem norL_ints : ∀ (ns : List Int), norL (ns.map D.int) = true
  | [] => by simp only [List.map_nil, norL]
  | n :: ns => by simp only [List.map_cons, norL, nor, norL_ints ns, Bool.and_self]
theorem norL_append : ∀ (a b : List D), norL (a ++ b) = (norL a && norL b)
  | [], b => by simp [norL]
  | x :: a, b => by simp [norL, norL_append a b, Bool.and_assoc]
section
variable {io io' : List Addr} {F F' : Hp}
mutual
theorem Rep.nor (hF : Le F F') : ∀ (d : D) {v : V}, FW.nor d = true → Rep K io F v d → Rep K io' F' v d
  | .non, _, _, h => by simp only [Rep] at h ⊢; exact h
  | .bl _, _, _, h => by simp only [Rep] at h ⊢; exact h
  | .int _, _, _, h => by simp only [Rep] at h ⊢; exact h
  | .str _, _, _, h => by simp only [Rep] at h ⊢; exact h
  | .ty _, _, _, h => by simp only [Rep] at h ⊢; exact h
  | .cls _, _, _, h => by simp only [Rep] at h ⊢; exact h
  | .lst ds, _, n, h => by
    simp only [Rep, FW.nor] at n h ⊢
    obtain ⟨p, vs, e, r, l⟩ := h
    exact ⟨p, vs, e, FW.SqL.mono hF r, RepL.nor hF ds n l⟩
  | .tup ds, _, n, h => by
    simp only [Rep, FW.nor] at n h ⊢
    obtain ⟨p, vs, e, r, l⟩ := h
    exact ⟨p, vs, e, hF _ _ r, RepL.nor hF ds n l⟩
  | .dic ks, _, n, h => by
    simp only [Rep, FW.nor] at n h ⊢
    obtain ⟨p, vs, e, r, l⟩ := h
    exact ⟨p, vs, e, hF _ _ r, RepK.nor hF ks n l⟩
  | .obj c fs, _, n, h => by
    simp only [Rep, FW.nor] at n h ⊢
    obtain ⟨p, dx, vs, e, r, q, l⟩ := h
    exact ⟨p, dx, vs, e, hF _ _ r, hF _ _ q, RepF.nor hF fs n l⟩
  | .exc c fs, _, n, h => by
    simp only [Rep, FW.nor] at n h ⊢
    obtain ⟨p, d, e, r, l⟩ := h
    refine ⟨p, d, e, hF _ _ r, ?_⟩
    rcases l with l | ⟨n', dx, vs, e1, e2, l⟩
    · exact .inl l
    · exact .inr ⟨n', dx, vs, e1, hF _ _ e2, RepF.nor hF fs n l⟩
  | .ref i, _, n, h => by simp [FW.nor] at n
theorem RepL.nor (hF : Le F F') : ∀ (ds : List D) {vs : List V}, norL ds = true → RepL K io F vs ds → RepL K io' F' vs ds
  | [], _, _, h => by simp only [RepL] at h ⊢; exact h
  | d :: ds, _, n, h => by
    simp only [RepL, norL, Bool.and_eq_true] at n h ⊢
    obtain ⟨v, r, e, a, b⟩ := h
    exact ⟨v, r, e, Rep.nor hF d n.1 a, RepL.nor hF ds n.2 b⟩
theorem RepK.nor (hF : Le F F') : ∀ (ds : List (Key × D)) {vs : List (Key × V)}, norK ds = true → RepK K io F vs ds → RepK K io' F' vs ds
  | [], _, _, h => by simp only [RepK] at h ⊢; exact h
  | (k, d) :: ds, _, n, h => by
    simp only [RepK, norK, Bool.and_eq_true] at n h ⊢
    obtain ⟨v, r, e, a, b⟩ := h
    exact ⟨v, r, e, Rep.nor hF d n.1 a, RepK.nor hF ds n.2 b⟩
theorem RepF.nor (hF : Le F F') : ∀ (ds : List (String × D)) {vs : List (Str × V)}, norF ds = true → RepF K io F vs ds → RepF K io' F' vs ds
  | [], _, _, h => by simp only [RepF] at h ⊢; exact h
  | (k, d) :: ds, _, n, h => by
    simp only [RepF, norF, Bool.and_eq_true] at n h ⊢
    obtain ⟨v, r, e, a, b⟩ := h
    exact ⟨v, r, e, Rep.nor hF d n.1 a, RepF.nor hF ds n.2 b⟩
end
end
/-! ### what stands in the store, put in -/
mutual
def sub (f : Nat → Option D) : D → Option D
  | .lst ds => match subL f ds with
    | some ds' => some (.lst ds')
    | none => none
  | .tup ds => match subL f ds with
    | some ds' => some (.tup ds')
    | none => none
  | .dic ks => match subK f ks with
    | some ks' => some (.dic ks')
    | none => none
  | .obj c fs => match subF f fs with
    | some fs' => some (.obj c fs')
    | none => none
  | .exc c fs => if norF fs then some (.exc c fs) else none
  | .ref i => f i
  | .non => some .non | .bl b => some (.bl b) | .int i => some (.int i) | .str s => some (.str s) | .ty n => some (.ty n) | .cls c => some (.cls c)
def subL (f : Nat → Option D) : List D → Option (List D)
  | [] => some []
  | d :: ds => match sub f d, subL f ds with
    | some d', some ds' => some (d' :: ds')
    | _, _ => none
def subK (f : Nat → Option D) : List (Key × D) → Option (List (Key × D))
  | [] => some []
  | (k, d) :: ds => match sub f d, subK f ds with
    | some d', some ds' => some ((k, d') :: ds')
    | _, _ => none
def subF (f : Nat → Option D) : List (String × D) → Option (List (String × D))
  | [] => some []
  | (k, d) :: ds => match sub f d, subF f ds with
    | some d', some ds' => some ((k, d') :: ds')
    | _, _ => none
end
section
variable {io J : List Addr} {F H : Hp} {f : Nat → Option D}
mutual
theorem Rep.sub (hF : Le F H) (hf : ∀ i d' p, f i = some d' → io[i]? = some p → Rep K J H (.ref p) d') : ∀ (d : D) {v : V} {d' : D}, FW.sub f d = some d' → Rep K io F v d → Rep K J H v d'
  | .non, _, _, e, h => by simp only [FW.sub, Option.some.injEq] at e; subst e; simp only [Rep] at h ⊢; exact h
  | .bl _, _, _, e, h => by simp only [FW.sub, Option.some.injEq] at e; subst e; simp only [Rep] at h ⊢; exact h
  | .int _, _, _, e, h => by simp only [FW.sub, Option.some.injEq] at e; subst e; simp only [Rep] at h ⊢; exact h
  | .str _, _, _, e, h => by simp only [FW.sub, Option.some.injEq] at e; subst e; simp only [Rep] at h ⊢; exact h
  | .ty _, _, _, e, h => by simp only [FW.sub, Option.some.injEq] at e; subst e; simp only [Rep] at h ⊢; exact h
  | .cls _, _, _, e, h => by simp only [FW.sub, Option.some.injEq] at e; subst e; simp only [Rep] at h ⊢; exact h
  | .lst ds, _, _, e, h => by
    simp only [FW.sub] at e
    split at e
    · rename_i ds' q
      cases e
      simp only [Rep] at h ⊢
      obtain ⟨p, vs, e, r, l⟩ := h
      exact ⟨p, vs, e, FW.SqL.mono hF r, RepL.sub hF hf ds q l⟩
    · cases e
  | .tup ds, _, _, e, h => by
    simp only [FW.sub] at e
    split at e
    · rename_i ds' q
      cases e
      simp only [Rep] at h ⊢
      obtain ⟨p, vs, e, r, l⟩ := h
      exact ⟨p, vs, e, hF _ _ r, RepL.sub hF hf ds q l⟩
    · cases e
  | .dic ks, _, _, e, h => by
    simp only [FW.sub] at e
    split at e
    · rename_i ds' q
      cases e
      simp only [Rep] at h ⊢
      obtain ⟨p, vs, e, r, l⟩ := h
      exact ⟨p, vs, e, hF _ _ r, RepK.sub hF hf ks q l⟩
    · cases e
  | .obj c fs, _, _, e, h => by
    simp only [FW.sub] at e
    split at e
    · rename_i ds' q
      cases e
      simp only [Rep] at h ⊢
      obtain ⟨p, dx, vs, e, r, r2, l⟩ := h
      exact ⟨p, dx, vs, e, hF _ _ r, hF _ _ r2, RepF.sub hF hf fs q l⟩
    · cases e
  | .exc c fs, _, _, e, h => by
    simp only [FW.sub] at e
    split at e
    · rename_i q
      cases e
      exact Rep.nor hF (.exc c fs) (by simp only [FW.nor]; exact q) h
    · cases e
  | .ref i, _, _, e, h => by
    simp only [FW.sub] at e
    simp only [Rep] at h
    obtain ⟨p, e1, rfl⟩ := h
    exact hf i _ p e e1
theorem RepL.sub (hF : Le F H) (hf : ∀ i d' p, f i = some d' → io[i]? = some p → Rep K J H (.ref p) d') : ∀ (ds : List D) {vs : List V} {ds' : List D}, subL f ds = some ds' → RepL K io F vs ds → RepL K J H vs ds'
  | [], _, _, e, h => by simp only [subL, Option.some.injEq] at e; subst e; simp only [RepL] at h ⊢; exact h
  | d :: ds, _, _, e, h => by
    simp only [subL] at e
    split at e
    · rename_i q1 q2
      cases e
      simp only [RepL] at h ⊢
      obtain ⟨v, r, e, a, b⟩ := h
      exact ⟨v, r, e, Rep.sub hF hf d q1 a, RepL.sub hF hf ds q2 b⟩
    · cases e
theorem RepK.sub (hF : Le F H) (hf : ∀ i d' p, f i = some d' → io[i]? = some p → Rep K J H (.ref p) d') : ∀ (ds : List (Key × D)) {vs : List (Key × V)} {ds' : List (Key × D)}, subK f ds = some ds' → RepK K io F vs ds → RepK K J H vs ds'
  | [], _, _, e, h => by simp only [subK, Option.some.injEq] at e; subst e; simp only [RepK] at h ⊢; exact h
  | (k, d) :: ds, _, _, e, h => by
    simp only [subK] at e
    split at e
    · rename_i q1 q2
      cases e
      simp only [RepK] at h ⊢
      obtain ⟨v, r, e, a, b⟩ := h
      exact ⟨v, r, e, Rep.sub hF hf d q1 a, RepK.sub hF hf ds q2 b⟩
    · cases e
theorem RepF.sub (hF : Le F H) (hf : ∀ i d' p, f i = some d' → io[i]? = some p → Rep K J H (.ref p) d') : ∀ (ds : List (String × D)) {vs : List (Str × V)} {ds' : List (String × D)}, subF f ds = some ds' → RepF K io F vs ds → RepF K J H vs ds'
  | [], _, _, e, h => by simp only [subF, Option.some.injEq] at e; subst e; simp only [RepF] at h ⊢; exact h
  | (k, d) :: ds, _, _, e, h => by
    simp only [subF] at e
    split at e
    · rename_i q1 q2
      cases e
      simp only [RepF] at h ⊢
      obtain ⟨v, r, e, a, b⟩ := h
      exact ⟨v, r, e, Rep.sub hF hf d q1 a, RepF.sub hF hf ds q2 b⟩
    · cases e
end
end
def tabD (S : Sto) : Nat → Nat → Option D
  | 0, _ => none
  | n + 1, i => match S[i]? with
    | some (some c) => sub (tabD S n) c.d
    | _ => none
/-- a thing with what the store holds put in -/
def deref (S : Sto) (d : D) : Option D := if nor d then some d else sub (tabD S 6) d
theorem cell_sub {p : Addr} {c : Cell} {d' : D} {f : Nat → Option D} {J : List Addr} (le : Le g.F g.H) (hf : ∀ i d' p, f i = some d' → g.io[i]? = some p → Rep K J g.H (.ref p) d') (e : sub f c.d = some d') (r : CellRep K g p c) : Rep K J g.H (.ref p) d' := by
  cases c with
  | lst xs =>
    obtain ⟨vs, a, b⟩ := r
    simp only [Cell.d, sub] at e
    split at e
    · rename_i q
      cases e
      simp only [Rep]
      exact ⟨p, vs, rfl, .inl (.inl a), RepL.sub le hf _ q b⟩
    · cases e
  | dic xs =>
    obtain ⟨vs, a, b⟩ := r
    simp only [Cell.d, sub] at e
    split at e
    · rename_i q
      cases e
      simp only [Rep]
      exact ⟨p, vs, rfl, a, RepK.sub le hf _ q b⟩
    · cases e
  | obj c fs =>
    obtain ⟨dx, vs, a, a2, b⟩ := r
    simp only [Cell.d, sub] at e
    split at e
    · rename_i q
      cases e
      simp only [Rep]
      exact ⟨p, dx, vs, rfl, a, a2, RepF.sub le hf _ q b⟩
    · cases e
theorem tab_ok (ok : Ok K g) : ∀ (n i : Nat) (d' : D) (p : Addr), tabD g.S n i = some d' → g.io[i]? = some p → Rep K [] g.H (.ref p) d'
  | 0, _, _, _, e, _ => by cases e
  | n + 1, i, d', p, e, q => by
    simp only [tabD] at e
    split at e
    · rename_i c hc
      obtain ⟨p', e1, _, r⟩ := ok.cell i c hc
      rw [q] at e1; cases e1
      exact cell_sub ok.le (tab_ok ok n) e r
    · cases e
theorem deref_ok (ok : Ok K g) {v : V} {d d' : D} (e : deref g.S d = some d') (r : Rep K g.io g.F v d) : Rep K [] g.H v d' := by
  unfold deref at e
  split at e
  · rename_i n
    cases e
    exact Rep.nor ok.le d n r
  · exact Rep.sub ok.le (tab_ok ok 6) d e r
theorem deref_cell (ok : Ok K g) {p : Addr} {c : Cell} {d' : D} (e : deref g.S c.d = some d') (r : CellRep K g p c) : Rep K [] g.H (.ref p) d' := by
  unfold deref at e
  split at e
  · rename_i n
    cases e
    cases c with
    | lst xs =>
      obtain ⟨vs, a, b⟩ := r
      simp only [Cell.d, nor, Rep] at n ⊢
      exact ⟨p, vs, rfl, .inl (.inl a), RepL.nor ok.le _ n b⟩
    | dic xs =>
      obtain ⟨vs, a, b⟩ := r
      simp only [Cell.d, nor, Rep] at n ⊢
      exact ⟨p, vs, rfl, a, RepK.nor ok.le _ n b⟩
    | obj c fs =>
      obtain ⟨dx, vs, a, a2, b⟩ := r
      simp only [Cell.d, nor, Rep] at n ⊢
      exact ⟨p, dx, vs, rfl, a, a2, RepF.nor ok.le _ n b⟩
  · exact cell_sub ok.le (tab_ok ok 6) e r
/-- a slot as it is looked at -/
def Slot.vw (S : Sto) : Slot → Slot
  | .none => .none
  | .val d => match deref S d with
    | some d' => .val d'
    | Option.none => .none
  | .own c => match deref S c.d with
    | some d' => .val d'
    | Option.none => .none
/-- all that stands is frozen, no cell may change -/
def G.vw (g : G) : G := { F := g.H, H := g.H, io := [], S := [] }
theorem ok_vw (ok : Ok K g) : Ok K g.vw := { le := Le.refl _, len := rfl, nd := List.nodup_nil, noown := fun _ _ _ h => (by cases h), own := ok.own, iod := fun _ h => (by cases h), cell := fun i c e => by simp [G.vw] at e }
theorem rel_vw (h : RelS K g σ ρ) : RelS K g.vw σ (ρ.map (Slot.vw g.S)) where
  ok := ok_vw h.ok
  len := by simp [h.len]
  slot := fun i s e => by
    rw [List.getElem?_map] at e
    cases q : ρ[i]? with
    | none => rw [q] at e; cases e
    | some s0 =>
      rw [q] at e
      have e' : s0.vw g.S = s := Option.some.inj e
      subst e'
      have z := h.slot i s0 q
      cases s0 with
      | none => trivial
      | val d =>
        obtain ⟨v, e1, r⟩ := z
        cases y : deref g.S d with
        | none => simp only [Slot.vw, y]; trivial
        | some d' => simp only [Slot.vw, y]; exact ⟨v, e1, deref_ok h.ok y r⟩
      | own c =>
        obtain ⟨p, e1, e2, e3, r⟩ := z
        cases y : deref g.S c.d with
        | none => simp only [Slot.vw, y]; trivial
        | some d' => simp only [Slot.vw, y]; exact ⟨.ref p, e1, deref_cell h.ok y r⟩
  dist := fun i j c c' p e1 => by
    rw [List.getElem?_map] at e1
    cases q : ρ[i]? with
    | none => rw [q] at e1; cases e1
    | some s0 =>
      rw [q] at e1
      have e' : s0.vw g.S = .own c := Option.some.inj e1
      cases s0 with
      | none => cases e'
      | val d => cases y : deref g.S d <;> simp [Slot.vw, y] at e'
      | own c0 => cases y : deref g.S c0.d <;> simp [Slot.vw, y] at e'
/-- back from the look: nothing that stood has changed -/
def G.unvw (g g' : G) : G := { F := g.F, H := g'.H, io := g.io, S := g.S }
theorem post_unvw (ok : Ok K g) (p : Post K g.vw g') : Post K g (g.unvw g') := by
  have fr : ∀ a u, g.H a = some u → g'.H a = some u := fun a u e => p.fr a u e (by intro h; cases h)
  refine ⟨⟨fun a u e => fr a u (ok.le _ _ e), ok.len, ok.nd, fun a x e m => ?_, p.ok.own, fun a m => p.dom a (ok.iod a m), fun i c e => ?_⟩, Le.refl _, Pre.refl _, fun a u e _ => fr a u e, fun a u e => .inl e, fun a m => .inl m, p.dom⟩
  · cases q : g.H a with
    | none => exact ok.iod a m q
    | some u =>
      have z := fr a u q
      have e' : g'.H a = some (.own x) := e
      rw [e'] at z; cases z
      exact ok.noown a x q m
  · obtain ⟨q, e1, e2, r⟩ := ok.cell i c e
    refine ⟨q, e1, e2, ?_⟩
    cases c with
    | lst xs => obtain ⟨vs, a, b⟩ := r; exact ⟨vs, fr _ _ a, b⟩
    | dic xs => obtain ⟨vs, a, b⟩ := r; exact ⟨vs, fr _ _ a, b⟩
    | obj c fs => obtain ⟨dx, vs, a, a2, b⟩ := r; exact ⟨dx, vs, fr _ _ a, fr _ _ a2, b⟩
theorem flat_rep {io io' : List Addr} {F F' : Hp} {v : V} {d : D} (h : flat d = true) (r : Rep K io F v d) : Rep K io' F' v d := by
  cases d <;> first | (simp only [Rep] at r ⊢; exact r) | (simp [flat] at h)
def mLook (m : M D) : M D := fun ρ S => match m (ρ.map (Slot.vw S)) [] with
  | .ok d _ => if flat d then .ok d S else .bad
  | _ => .bad
def mLookT (m : M Bool) : M Bool := fun ρ S => match m (ρ.map (Slot.vw S)) [] with
  | .ok d _ => .ok d S
  | _ => .bad
section
variable {X : Cx} {e : Expr}
theorem dv_look {m : M D} (h : DV X e m) : DV X e (mLook m) := ⟨fun W tk => by
  obtain ⟨t, pe, rv⟩ := h.ex W tk
  refine ⟨t, pe, fun g σ ρ Q rel q => ?_⟩
  refine rv g.vw σ (ρ.map (Slot.vw g.S)) Q (rel_vw rel) ?_
  unfold mLook at q
  show (m (ρ.map (Slot.vw g.S)) []).post _ _
  cases z : m (ρ.map (Slot.vw g.S)) [] with
  | ok d S' =>
    rw [z] at q
    simp only at q
    split at q
    · rename_i fl
      exact fun g' v es p r => q (g.unvw g') v rfl (post_unvw rel.ok p) (flat_rep fl r)
    · exact q.elim
  | err e S' => rw [z] at q; exact q.elim
  | bad => rw [z] at q; exact q.elim⟩
theorem dt_look {m : M Bool} (h : DT X e m) : DT X e (mLookT m) := ⟨fun W tk => by
  obtain ⟨t, pe, rv⟩ := h.ex W tk
  refine ⟨t, pe, fun g σ ρ Q rel q => ?_⟩
  refine rv g.vw σ (ρ.map (Slot.vw g.S)) Q (rel_vw rel) ?_
  unfold mLookT at q
  show (m (ρ.map (Slot.vw g.S)) []).post _ _
  cases z : m (ρ.map (Slot.vw g.S)) [] with
  | ok d S' =>
    rw [z] at q
    exact fun g' es p => q (g.unvw g') rfl (post_unvw rel.ok p)
  | err e S' => rw [z] at q; exact q.elim
  | bad => rw [z] at q; exact q.elim⟩
end
/-! ### what was one's own is handed out, still changeable -/
def sRef (i : Nat) (m : MS) : MS := fun ρ S => match ρ[i]? with
  | some (.own c) => m (ρ.set i (.val (.ref S.length))) (S ++ [some c])
  | _ => m ρ S
theorem Rel.toRef {i : Nat} {c : Cell} (h : Rel K E g σ ρ) (e1 : ρ[i]? = some (.own c)) : ∃ g', g'.H = g.H ∧ g'.S = g.S ++ [some c] ∧ Rel K E g' σ (ρ.set i (.val (.ref g.S.length))) := by
  obtain ⟨p, f1, f2, f3, f4⟩ := h.s.slot i _ e1
  have e2 := sig_of f1
  have n := h.new i c p e1 e2
  have ok := h.s.ok
  have hl : i < ρ.length := (List.getElem?_eq_some_iff.mp e1).1
  have pre : Pre g.io (g.io ++ [p]) := ⟨[p], rfl⟩
  have iop : (g.io ++ [p])[g.S.length]? = some p := by rw [← ok.len]; simp
  have mono : ∀ q c1, CellRep K g q c1 → CellRep K { g with io := g.io ++ [p], S := g.S ++ [some c] } q c1 := fun q c1 r => by
    cases c1 with
    | lst xs => obtain ⟨vs, a, b⟩ := r; exact ⟨vs, a, RepL.mono (Le.refl _) pre _ b⟩
    | dic xs => obtain ⟨vs, a, b⟩ := r; exact ⟨vs, a, RepK.mono (Le.refl _) pre _ b⟩
    | obj c fs => obtain ⟨dx, vs, a, a2, b⟩ := r; exact ⟨dx, vs, a, a2, RepF.mono (Le.refl _) pre _ b⟩
  have notown : ∀ x, g.H p ≠ some (.own x) := fun x z => by
    cases c with
    | lst xs => obtain ⟨vs, a, b⟩ := f4; rw [a] at z; cases z
    | dic xs => obtain ⟨vs, a, b⟩ := f4; rw [a] at z; cases z
    | obj c fs => obtain ⟨dx, vs, a, a2, b⟩ := f4; rw [a] at z; cases z
  have ok' : Ok K { g with io := g.io ++ [p], S := g.S ++ [some c] } := {
    le := ok.le
    len := by simp [ok.len]
    nd := by
      rw [List.nodup_append]
      refine ⟨ok.nd, by simp, fun a ha b hb => ?_⟩
      have : b = p := by simpa using hb
      subst this
      exact fun z => f3 (z ▸ ha)
    noown := fun a x e m => by
      rcases List.mem_append.mp m with z | z
      · exact ok.noown a x e z
      · have : a = p := by simpa using z
        subst this
        exact notown x e
    own := ok.own
    iod := fun a m => by
      rcases List.mem_append.mp m with z | z
      · exact ok.iod a z
      · have : a = p := by simpa using z
        subst this
        exact f4.at_
    cell := fun j c1 e => by
      by_cases q : j < g.S.length
      · rw [List.getElem?_append_left q] at e
        obtain ⟨q', w1, w2, w3⟩ := ok.cell j c1 e
        exact ⟨q', pre.get w1, w2, mono q' c1 w3⟩
      · rw [List.getElem?_append_right (by omega)] at e
        have : j = g.S.length := by
          by_cases z : j - g.S.length = 0
          · omega
          · rw [List.getElem?_eq_none (by simp; omega)] at e; cases e
        subst this
        simp at e; subst e
        exact ⟨p, iop, f2, mono p c f4⟩ }
  have back : ∀ j c1, (ρ.set i (Slot.val (.ref g.S.length)))[j]? = some (Slot.own c1) → i ≠ j ∧ ρ[j]? = some (Slot.own c1) := fun j c1 w => by
    by_cases z : i = j
    · subst z; rw [List.getElem?_set_self hl] at w; cases w
    · rw [List.getElem?_set_ne z] at w; exact ⟨z, w⟩
  refine ⟨{ g with io := g.io ++ [p], S := g.S ++ [some c] }, rfl, rfl, ⟨⟨ok', by simp [h.s.len], fun j s e => ?_, fun j k c1 c2 q a1 a2 a3 a4 => ?_⟩, ⟨ok', h.p.leF, h.p.pre.trans pre, h.p.fr, h.p.fz, fun a m => ?_, h.p.dom⟩, fun j c1 q a1 a2 => ?_⟩⟩
  · by_cases z : i = j
    · subst z
      rw [List.getElem?_set_self hl] at e; cases e
      rw [e2]
      exact ⟨_, rfl, by simp only [Rep]; exact ⟨p, iop, rfl⟩⟩
    · rw [List.getElem?_set_ne z] at e
      have y := h.s.slot j s e
      cases s with
      | none => trivial
      | val d => obtain ⟨v, b1, b2⟩ := y; exact ⟨v, b1, Rep.mono (Le.refl _) pre d b2⟩
      | own c1 =>
        obtain ⟨q, b1, b2, b3, b4⟩ := y
        have nq : q ≠ p := fun w => by subst w; exact z (h.s.dist i j c c1 q e1 e e2 (sig_of b1))
        refine ⟨q, b1, b2, fun m => ?_, mono q c1 b4⟩
        rcases List.mem_append.mp m with w | w
        · exact b3 w
        · exact nq (by simpa using w)
  · obtain ⟨_, w1⟩ := back j c1 a1
    obtain ⟨_, w2⟩ := back k c2 a2
    exact h.s.dist j k c1 c2 q w1 w2 a3 a4
  · rcases List.mem_append.mp m with z | z
    · exact h.p.io a z
    · have : a = p := by simpa using z
      subst this
      exact .inr n.1
  · obtain ⟨_, w1⟩ := back j c1 a1
    obtain ⟨m1, m2⟩ := h.new j c1 q w1 a2
    exact ⟨m1, fun C dx fs w => m2 C dx fs w⟩
section
variable {X : Cx} {st : Stmt} {sts : List Stmt} {e : Expr} {pos : Pos}
theorem rs_ref {t : TS} {W : WX} {m : MS} (i : Nat) (h : RSt K t W m) : RSt K t W (sRef i m) := fun E g σ ρ Dn rel q => by
  unfold sRef at q
  split at q
  · rename_i c e
    obtain ⟨g', eH, eS, rel'⟩ := rel.toRef e
    have z := h E g' σ _ Dn rel' (by rw [eS]; exact q)
    rw [eH] at z; exact z
  · exact h E g σ ρ Dn rel q
theorem ds_ref {m : MS} (i : Nat) (h : DS X st m) : DS X st (sRef i m) := ⟨fun W tk => by
  obtain ⟨t, pe, ra⟩ := h.ex W tk; exact ⟨t, pe, rs_ref i ra⟩⟩
theorem dss_ref {m : MS} (i : Nat) (h : DSs X sts m) : DSs X sts (sRef i m) := ⟨fun W tk => by
  obtain ⟨t, pe, ra⟩ := h.ex W tk; exact ⟨t, pe, rs_ref i ra⟩⟩
/-- a cell of the store changes -/
theorem Post.cellSet {n : Nat} {p : Addr} {c c' : Cell} {u o : HO} (ok : Ok K g) (hS : g.S[n]? = some (some c)) (hp : g.io[n]? = some p) (hH : g.H p = some u) (hu : ∀ x, u ≠ .own x) (ho : ∀ x, o ≠ .own x)
    (hc : CellRep K { g with H := upd g.H p o, S := g.S.set n (some c') } p c') : Post K g { g with H := upd g.H p o, S := g.S.set n (some c') } := by
  obtain ⟨p', e1, e2, e3⟩ := ok.cell n c hS
  rw [hp] at e1; cases e1
  have hn : n < g.S.length := (List.getElem?_eq_some_iff.mp hS).1
  have mem : p ∈ g.io := List.mem_of_getElem? hp
  refine ⟨⟨fun a u e => ?_, by simp [ok.len], ok.nd, fun a x e => ok.noown a x (not_own_of ho e), fun a x e => upd_some_ne (ok.own a x (not_own_of ho e)), fun a m => ?_, fun i c1 e => ?_⟩, Le.refl _, Pre.refl _, fun a u e n => ?_, fun a u e => .inl e, fun a m => .inl m, fun a m => ?_⟩
  · have : a ≠ p := fun z => by subst z; rw [e2] at e; cases e
    exact (upd_ne this).trans (ok.le _ _ e)
  · show upd g.H p o a ≠ none
    unfold upd; split
    · simp
    · exact ok.iod a m
  · by_cases q : i = n
    · subst q
      rw [List.getElem?_set_self hn] at e
      cases e
      exact ⟨p, hp, e2, hc⟩
    · rw [List.getElem?_set_ne (Ne.symm q)] at e
      obtain ⟨r, w1, w2, w3⟩ := ok.cell i c1 e
      have nr : r ≠ p := fun z => by
        subst z
        obtain ⟨l1, x1⟩ := List.getElem?_eq_some_iff.mp w1
        obtain ⟨l2, x2⟩ := List.getElem?_eq_some_iff.mp hp
        exact q ((List.getElem_inj ok.nd).mp (x1.trans x2.symm))
      refine ⟨r, w1, w2, ?_⟩
      cases c1 with
      | lst xs => obtain ⟨vs, a, b⟩ := w3; exact ⟨vs, (upd_ne nr).trans a, b⟩
      | dic xs => obtain ⟨vs, a, b⟩ := w3; exact ⟨vs, (upd_ne nr).trans a, b⟩
      | obj c fs => obtain ⟨dx, vs, a, a2, b⟩ := w3; exact ⟨dx, vs, (upd_ne nr).trans a, (upd_ne (fun w => by subst w; rw [hH] at a2; exact hu _ (Option.some.inj a2))).trans a2, b⟩
  · have : a ≠ p := fun z => by subst z; exact n mem
    exact (upd_ne this).trans e
  · show upd g.H p o a ≠ none
    unfold upd; split
    · simp
    · exact m
/-- o.append(e), o a list of the store -/
def sAppR (mo m : M D) : MS := fun ρ S => rBind (mo ρ S) ρ fun o S1 => match o with
  | .ref n => (match S1[n]? with
    | some (some (.lst _)) => rBind (m ρ S1) ρ fun d S2 => (match S2[n]? with
      | some (some (.lst xs)) => if xs.length < 1000000 then .nx ρ (S2.set n (some (.lst (xs ++ [d])))) else .bad
      | _ => .bad)
    | _ => .bad)
  | _ => .bad
theorem ds_appR {o : Expr} {mo m : M D} {apos cpos : Pos} (po : DV X o mo) (h : DV X e m) (hs : starEach (e :: []) X.env = (false, eval e X.env) :: starEach [] X.env := by rfl)
    (pb : ∀ {to : TE} {ta : TA}, PE X o to → PA X [e] ta → PE X (.Call (.Attribute o "append" apos) [e] [] cpos) (tBM X.K "list" rAppend to ta)) (hw : swapsWith (.Call (.Attribute o "append" apos) [e] [] cpos) none pos.line X.env = pure false := by rfl) : DS X (.Expr (.Call (.Attribute o "append" apos) [e] [] cpos) pos) (sAppR mo m) := ⟨fun W tk => by
  obtain ⟨to, pto, rto⟩ := po.ex W tk
  obtain ⟨t, pe, ra⟩ := (da_cons h da_nil hs).ex W tk
  refine ⟨_, ps_expr (pb pto pe) hw, fun E g σ ρ Dn rel h => ?_⟩
  refine rto g σ ρ _ rel.s ((ends_bind rel h).imp (fun od S1 _ q g1 ov es1 p1 r1 => ?_) fun e S _ q => q)
  have rel1 := rel.post p1
  subst es1
  split at q
  · rename_i n _
    simp only [Rep] at r1
    obtain ⟨p, ip, rfl⟩ := r1
    split at q
    · rename_i xs0 hS1
      obtain ⟨p', ip', fp, vs0, hp0, r0⟩ := p1.ok.cell n _ hS1
      rw [ip] at ip'; cases ip'
      refine ⟨.inl ⟨rfl, _, SqL.of hp0⟩, ?_⟩
      refine ra g1 σ ρ _ rel1.s ?_
      unfold aCons
      rw [post_bind]
      refine (ends_bind rel1 q).imp (fun d S _ q => ?_) fun e S _ q => q
      show R.post (R.ok [d] S) _ _
      intro g2 us es p2 r
      obtain ⟨v, rfl, rv⟩ := repL1 r
      subst es
      have rel2 := rel1.post p2
      split at q
      · rename_i xs hS2
        split at q
        · rename_i hlen
          obtain ⟨p', ip', fp, vs, hp, r2⟩ := p2.ok.cell n _ hS2
          rw [p2.pre.get ip] at ip'; cases ip'
          have l := r2.length
          refine ⟨p, vs, v, rfl, rfl, hp, by rw [l, sizeLine_eq]; omega, ?_⟩
          have P := Post.cellSet (K := X.K) (c' := .lst (xs ++ [d])) (o := .lst (vs ++ [v])) p2.ok hS2 (p2.pre.get ip) hp (fun _ z => by cases z) (fun _ z => by cases z) ⟨_, upd_same, r2.append (.one rv)⟩
          exact q { g2 with H := upd g2.H p (.lst (vs ++ [v])), S := g2.S.set n (some (.lst (xs ++ [d]))) } σ rfl (rel2.post P)
        · exact q.elim
      · exact q.elim
    · exact q.elim
  · exact q.elim⟩
end
end
end FW
end
section
set_option maxHeartbeats 2000000
/-! FW12: small words for the printed texts. -/
namespace FW
open PySem PySem.Spec PyProof.Rows L2
section
variable {X : Cx} {e : Expr} {pos : Pos}
def sExpr (m : M D) : MS := fun ρ S => rBind (m ρ S) ρ fun _ S' => .nx ρ S'
theorem ds_expr {m : M D} (h : DV X e m) (hw : swapsWith e none pos.line X.env = pure false := by rfl) : DS X (.Expr e pos) (sExpr m) := ⟨fun W tk => by
  obtain ⟨t, pe, rv⟩ := h.ex W tk
  refine ⟨_, ps_expr pe hw, fun E g σ ρ Dn rel h => ?_⟩
  exact rv g σ ρ _ rel.s ((ends_bind rel h).imp (fun d S _ q g' v es p r => q g' σ es (rel.post p)) fun e S _ q => q)⟩
theorem nomark2 (b c : Expr) {op op' : CmpOp} (h : op' ≠ .In := by decide) (h2 : op' ≠ .NotIn := by decide) : lastMarks [op, op'] [b, c] = false := nomark c h h2
end
end FW
end
section
set_option maxHeartbeats 2000000
/-! FW13: the head's facts, one Bool more over the written part; the law's end. -/
namespace FW
open PySem PySem.Spec PyProof.Rows L2
/-! ### what the classes answer, as one Bool -/
def eqB (a b : Option Bool) : Bool := decide (a = b)
theorem eqB_ok {a b : Option Bool} (h : eqB a b = true) : a = b := of_decide_eq_true h
def clsB (K : PySem.W.Frag) (C : Addr) : Bool := PySem.W.plainGet K C Str.empty && (PySem.W.hasDictIn K C && (PySem.W.plainOver K C && He.eqO (PySem.W.findIn K (.ref C) "__setattr__") (some (some (.builtin "object.__setattr__")))))
theorem clsB_ok {K : PySem.W.Frag} {C : Addr} (c : clsB K C = true) : Cls K C := by
  obtain ⟨c1, c⟩ := He.ba c
  obtain ⟨c2, c⟩ := He.ba c
  obtain ⟨c3, c4⟩ := He.ba c
  exact ⟨c1, c2, c3, He.eqO_ok c4⟩
def insB (K : PySem.W.Frag) (C : Addr) : Bool := clsB K C && (He.eqO (PySem.W.findIn K (.ref C) "__class__") (some (some (.builtin "object.__class__"))) && (decide (PySem.W.specialIn K (.builtin "object.__class__") "__get__" = some (some (.builtin "getset_descriptor.__get__"))) && (eqB (PySem.W.takesIn K (.builtin "object.__class__")) (some true) && eqB (PySem.W.mroIn K C (.type "object")) (some true))))
theorem insB_ok {K : PySem.W.Frag} {C : Addr} (c : insB K C = true) : InsC K C := by
  obtain ⟨c1, c⟩ := He.ba c
  obtain ⟨c2, c⟩ := He.ba c
  obtain ⟨c3, c⟩ := He.ba c
  obtain ⟨c4, c5⟩ := He.ba c
  exact ⟨clsB_ok c1, He.eqO_ok c2, of_decide_eq_true c3, eqB_ok c4, eqB_ok c5⟩
def excB (K : PySem.W.Frag) (C : Addr) : Bool := He.eqO (PySem.W.findIn K (.ref C) "__getattribute__") (some (some (.builtin "BaseException.__getattribute__"))) && (He.eqO (PySem.W.findIn K (.ref C) "__getattr__") (some none) && (eqB (PySem.W.subIn K (.ref C) (.type "BaseException")) (some true) &&
  (PySem.W.hasDictIn K C && (He.eqO (PySem.W.findIn K (.ref C) "__class__") (some (some (.builtin "object.__class__"))) && (decide (PySem.W.specialIn K (.builtin "object.__class__") "__get__" = some (some (.builtin "getset_descriptor.__get__"))) && (eqB (PySem.W.takesIn K (.builtin "object.__class__")) (some true) && eqB (PySem.W.mroIn K C (.type "object")) (some true)))))))
theorem excB_ok {K : PySem.W.Frag} {C : Addr} (c : excB K C = true) : ExcC K C := by
  obtain ⟨c1, c⟩ := He.ba c
  obtain ⟨c2, c⟩ := He.ba c
  obtain ⟨c3, c⟩ := He.ba c
  obtain ⟨c4, c⟩ := He.ba c
  obtain ⟨c5, c⟩ := He.ba c
  obtain ⟨c6, c⟩ := He.ba c
  obtain ⟨c7, c8⟩ := He.ba c
  exact ⟨He.eqO_ok c1, He.eqO_ok c2, eqB_ok c3, c4, He.eqO_ok c5, of_decide_eq_true c6, eqB_ok c7, eqB_ok c8⟩
def gaS (K : PySem.W.Frag) (c : String) : Addr := He.ga K (Str.ofString c)
def kitB_ (T : CT) (K : PySem.W.Frag) : Bool := (T.ec.all fun c => excB K (gaS K c)) && ((T.ic.all fun c => insB K (gaS K c)) && (((T.ec ++ T.ic).all fun c => T.own.all fun t => eqB (PySem.W.kitOne K (.ref (gaS K c)) (.ref (gaS K t))) (some ((T.mro c).contains t))) &&
  (((T.ec ++ T.ic).all fun c => T.bt.all fun t => eqB (PySem.W.kitOne K (.ref (gaS K c)) (.type t)) (some ((T.mro c).contains t))) && ((["NoneType", "bool", "int", "str", "list", "tuple", "dict"].all fun b => T.own.all fun t => eqB (PySem.W.kitOne K (.type b) (.ref (gaS K t))) (some false)) &&
  (T.ec.all fun c => T.ec.all fun t => eqB (PySem.W.exmOne K (.ref (gaS K c)) (.ref (gaS K t))) (some ((T.mro c).contains t)))))))
theorem kitB_ok {T : CT} {K : PySem.W.Frag} (c : kitB_ T K = true) : T.ok K ∧ ExmOk T K := by
  obtain ⟨c1, c⟩ := He.ba c
  obtain ⟨c2, c⟩ := He.ba c
  obtain ⟨c3, c⟩ := He.ba c
  obtain ⟨c4, c⟩ := He.ba c
  obtain ⟨c5, c6⟩ := He.ba c
  have al := fun {α : Type} {l : List α} {p : α → Bool} (h : l.all p = true) => List.all_eq_true.mp h
  exact ⟨⟨fun x h => excB_ok (al c1 x h), fun x h => insB_ok (al c2 x h), fun x h t ht => eqB_ok (al (al c3 x h) t ht), fun x h t ht => eqB_ok (al (al c4 x h) t ht), fun x h t ht => eqB_ok (al (al c5 x h) t ht)⟩, ⟨fun x h t ht => eqB_ok (al (al c6 x h) t ht)⟩⟩

/-! ### the Hook -/
abbrev AlF : Type := Bool × He.AlD
def obsF (kb : PySem.W.Frag → Bool) (fa : List He.Fa) (fn : List He.DefD) (K : PySem.W.Frag) : AlF := (kb K, He.obsD fa fn K)
def obsFG (n : Nat) (kb : PySem.W.Frag → Bool) (fa : List He.Fa) (fn : List He.DefD) (g : Addr → Option Obj) : AlF := obsF kb fa fn (He.frG g (cStatics :: He.asD g n))
def hookF (n : Nat) (kb : PySem.W.Frag → Bool) (fa : List He.Fa) (fn : List He.DefD) : PySem.W.Hook where
  α := AlF
  obs := fun s => obsFG n kb fa fn s.heap.get?
  val := fun _ => (true, He.valD fn)
  says := fun _ h => ∃ K : PySem.W.Frag, K.In h ∧ kb K = true ∧ He.SaysD fa fn K
  of := fun _ _ e => ⟨_, He.frG_in, congrArg (fun z : AlF => z.1) e, congrArg (fun z : AlF => z.2) e⟩
  keeps := fun _ _ _ says more => says.elim fun K c => ⟨K, c.1.keeps more, c.2⟩
theorem obsFG_eq {n : Nat} {kb : PySem.W.Frag → Bool} {fa : List He.Fa} {fn : List He.DefD} {g : Addr → Option Obj} {s : Shared} (h : ∀ a, g a = s.heap.get? a) : obsFG n kb fa fn g = (hookF n kb fa fn).obs s := by
  obtain rfl : g = s.heap.get? := funext h
  rfl

/-! ### the end -/
theorem cx_none {P : Program} {w : World} {H : Hp} {s : Shared} {e : Value} {s' : Shared} (h : L2.CX P w [] H s (fun _ _ _ => False) e s') : False := by
  obtain ⟨a, B, H', cls, d, rfl, fl, hok, ub, na, os, ag, hE⟩ := h
  exact hE
/-- the same over whatever world -/
def CXW (P : Program) : CXT := fun outer H s E e s' => ∃ w, L2.CX P w outer H s E e s'
theorem FnOk.any {P : Program} {w : World} {K : PySem.W.Frag} {mg : Str → Option Value} {base : Heap} {k : Nat} {f : Addr} {fd : FuncData} {ps : List Str} {sp : Sp} (F : FnOk P w K mg base (L2.CX P w) k f fd ps sp) : FnOk P w K mg base (CXW P) k f fd ps sp where
  len := F.len
  run := fun A outer s H args us vs Q E room e0 bnd vals h => codeAny_mono (F.run A outer s H args us vs Q E room e0 bnd vals h) fun r s' out => match r, out with
    | .error _, out => ⟨w, out⟩
    | .ok (.ret _), out => out
theorem sp_law {K : PySem.W.Frag} {n : Nat} {mf : MF} (h : ∀ ns : List Int, ns.length ≤ n → ∃ S', mf [.lst (ns.map D.int)] [] = .ok (.val (.bl true)) S') (H : Hp) (a : Addr) (ns : List Int) (hl : ns.length ≤ n) (hO : Only H) (hS : SqL K H a (ns.map V.int)) :
    spD K 1 mf [.ref a] H (fun v _ => v = .bl true) fun _ _ _ => False := by
  obtain ⟨S', e⟩ := h ns hl
  refine ⟨⟨H, H, [], []⟩, [.lst (ns.map D.int)], rfl, { le := Le.refl _, len := rfl, nd := List.nodup_nil, noown := fun _ _ _ h => (by cases h), own := fun b x h => (by rcases hO b with z | ⟨o, xs, z⟩ <;> rw [show H b = some (.own x) from h] at z <;> cases z), iod := fun _ h => (by cases h), cell := fun i c e => by simp at e }, .one ?_, rfl, ?_⟩
  · simp only [Rep]
    exact ⟨a, _, rfl, hS, RepL.of_ints⟩
  · show (mf [.lst (ns.map D.int)] []).post _ _
    rw [e]
    intro g' v _ _ o
    simpa only [OutRep, Rep] using o
end FW
end
section
set_option maxHeartbeats 2000000
/-! FW14: list(x). -/
namespace FW
open PySem PySem.Spec PyProof.Rows L2
section
variable {X : Cx} {K : PySem.W.Frag}
def rListS (K : PySem.W.Frag) : List V → Hp → VK → Prop := fun xs H Q => ∃ p ys, xs = [.ref p] ∧ (SqL K H p ys ∨ SqT K H p ys) ∧ ∀ l, H l = none → Q (.ref l) (upd H l (.lst ys))
def fList (S : Sto) : List D → Option Slot
  | [d] => match lookD S d with
    | .lst xs => some (.own (.lst xs))
    | .tup xs => some (.own (.lst xs))
    | _ => none
  | _ => none
theorem r_list : RCall K (rListS K) fList := by
  intro g vs ds s Q ok r e h
  unfold fList at e
  split at e
  · rename_i d
    obtain ⟨v, rfl, r0⟩ := repL1 r
    split at e
    · rename_i xs q
      obtain ⟨p, ys, rfl, hp, l⟩ := look_lst ok r0 q
      cases e
      refine ⟨p, ys, rfl, .inl hp, fun a ha => ?_⟩
      obtain ⟨p1, o⟩ := out_lst ok ha l
      exact h (g.lay a (.lst ys)) _ rfl p1 o
    · rename_i xs q
      obtain ⟨p, ys, rfl, hp, l⟩ := look_tup ok r0 q
      cases e
      refine ⟨p, ys, rfl, .inr (SqT.of (ok.le _ _ hp)), fun a ha => ?_⟩
      obtain ⟨p1, o⟩ := out_lst ok ha l
      exact h (g.lay a (.lst ys)) _ rfl p1 o
    · cases e
  · cases e
/-- list(x), x one's own list -/
def mCopy (i : Nat) : M Slot := fun ρ S => match ρ[i]? with
  | some (.own (.lst xs)) => .ok (.own (.lst xs)) S
  | _ => .bad
theorem do_copy {i : Nat} {e : Expr} {p pos : Pos} (pe : PE X e (tVar i)) (hg : Gl X "list") (hm : X.mg "list" = none) (hv : bootBuiltins "list" = some (.type "list")) (ha : starEach (e :: []) X.env = (false, eval e X.env) :: starEach [] X.env := by rfl) :
    DO X (.Call (.Name "list" p) [e] [] pos) (mCopy i) := ⟨fun W tk => by
  refine ⟨_, pe_callTy call_list_of hg hm hv (pa_cons pe pa_nil ha) (by decide) (by decide) ha rfl, fun g σ ρ Q rel h => ?_⟩
  unfold mCopy at h
  split at h
  · rename_i xs q
    obtain ⟨a, e1, f1, f2, vs, f3, f4⟩ := rel.slot i _ q
    refine ⟨_, sig_of e1, a, vs, rfl, .inl (SqL.of f3), fun l hl => ?_⟩
    obtain ⟨p1, o⟩ := out_lst rel.ok hl f4
    exact h (g.lay l (.lst vs)) _ rfl p1 o
  · exact h.elim⟩
end
end FW
end
section
set_option maxHeartbeats 2000000
/-! FW15: int(x), str(x) of plain things. -/
namespace FW
open PySem PySem.Spec PyProof.Rows L2
section
variable {X : Cx} {K : PySem.W.Frag}
def rIntP : List V → Hp → VK → Prop := fun xs H Q => (∃ i, xs = [.int i] ∧ Q (.int i) H) ∨ ∃ k, xs = [.bl k] ∧ Q (.int (if k then 1 else 0)) H
def fInt (S : Sto) : List D → Option Slot
  | [.int i] => some (.val (.int i))
  | [.bl k] => some (.val (.int (if k then 1 else 0)))
  | _ => none
theorem r_int : RCall K rIntP fInt := by
  intro g vs ds s Q ok r e h
  unfold fInt at e
  split at e
  · rename_i i
    obtain ⟨v, rfl, r0⟩ := repL1 r
    simp only [Rep] at r0; subst r0; cases e
    exact .inl ⟨i, rfl, h g _ rfl (Post.refl ok) (by simp only [OutRep, Rep])⟩
  · rename_i k
    obtain ⟨v, rfl, r0⟩ := repL1 r
    simp only [Rep] at r0; subst r0; cases e
    exact .inr ⟨k, rfl, h g _ rfl (Post.refl ok) (by simp only [OutRep, Rep])⟩
  · cases e
def rStrP : List V → Hp → VK → Prop := fun xs H Q => (∃ i : Int, xs = [.int i] ∧ i.natAbs.log2 < 1920 ∧ Q (.str (toString i)) H) ∨ ∃ a, xs = [.str a] ∧ Q (.str a) H
theorem call_strP : CallR X (.type "str") rStrP := call_str_int.or SkE.call_str_str
def fStr (S : Sto) : List D → Option Slot
  | [.int i] => if i.natAbs.log2 < 1920 then some (.val (.str (toString i))) else none
  | [.str a] => some (.val (.str a))
  | _ => none
theorem r_str : RCall K rStrP fStr := by
  intro g vs ds s Q ok r e h
  unfold fStr at e
  split at e
  · rename_i i
    obtain ⟨v, rfl, r0⟩ := repL1 r
    simp only [Rep] at r0; subst r0
    split at e
    · rename_i small
      cases e
      exact .inl ⟨i, rfl, small, h g _ rfl (Post.refl ok) (by simp only [OutRep, Rep])⟩
    · cases e
  · rename_i a
    obtain ⟨v, rfl, r0⟩ := repL1 r
    simp only [Rep] at r0; subst r0; cases e
    exact .inr ⟨a, rfl, h g _ rfl (Post.refl ok) (by simp only [OutRep, Rep])⟩
  · cases e
def blsD : List D → Option (List Bool)
  | [] => some []
  | .bl b :: ds => (blsD ds).map (b :: ·)
  | _ :: _ => none
theorem blsD_eq : ∀ {ds : List D} {bs : List Bool}, blsD ds = some bs → ds = bs.map D.bl
  | [], _, h => by cases h; rfl
  | d :: ds, bs, h => by
    cases d with
    | bl b =>
      simp only [blsD] at h
      cases q : blsD ds with
      | none => rw [q] at h; exact nomatch h
      | some cs => rw [q] at h; cases h; rw [blsD_eq q]; rfl
    | _ => exact nomatch h
theorem blsD_map : ∀ bs : List Bool, blsD (bs.map D.bl) = some bs
  | [] => rfl
  | b :: bs => by simp only [List.map_cons, blsD, blsD_map bs, Option.map_some]
def fAll (S : Sto) : List D → Option Slot
  | [d] => match lookD S d with
    | .lst xs => (blsD xs).map fun bs => .val (.bl (bs.all id))
    | _ => none
  | _ => none
theorem r_all : RCall K (rAll K) fAll := by
  intro g vs ds s Q ok r e h
  unfold fAll at e
  split at e
  · rename_i d
    obtain ⟨v, rfl, r0⟩ := repL1 r
    split at e
    · rename_i xs q
      obtain ⟨p, us, rfl, hp, l⟩ := look_lst ok r0 q
      cases z : blsD xs with
      | none => rw [z] at e; exact nomatch e
      | some bs =>
        rw [z] at e; cases e
        rw [blsD_eq z] at l
        have := l.bls; subst this
        exact ⟨p, bs, rfl, hp, h g _ rfl (Post.refl ok) (by simp only [OutRep, Rep])⟩
    · cases e
  · cases e
end
end FW
end
section
set_option maxHeartbeats 2000000
/-! FW16: a field of an object is read. -/
namespace FW
open PySem PySem.Spec PyProof.Rows L2
section
variable {X : Cx} {K : PySem.W.Frag} {e : Expr} {pos : Pos}
theorem RepF.look {io : List Addr} {F : Hp} : ∀ {fs : List (String × D)} {vs : List (Str × V)} {k : String} {d : D}, RepF K io F vs fs → fs.lookup k = some d → ∃ v, vs.lookup (Str.ofString k) = some v ∧ Rep K io F v d
  | [], _, _, _, _, e => by cases e
  | (k0, d0) :: fs, vs, k, d, r, e => by
    simp only [RepF] at r
    obtain ⟨v, q, rfl, a, b⟩ := r
    by_cases z : k = k0
    · subst z
      simp only [List.lookup_cons, beq_self_eq_true, Option.some.injEq] at e
      subst e
      exact ⟨v, by simp [List.lookup_cons], a⟩
    · have z1 : (k == k0) = false := by simpa using z
      have z2 : (Str.ofString k == Str.ofString k0) = false := by
        cases y : (Str.ofString k == Str.ofString k0) with
        | false => rfl
        | true => exact absurd (ofString_inj.mp (eq_of_beq y)) z
      simp only [List.lookup_cons, z1] at e
      obtain ⟨w, h1, h2⟩ := RepF.look b e
      exact ⟨w, by simp only [List.lookup_cons, z2]; exact h1, h2⟩
def fFld (cs : List String) (f : String) (S : Sto) (x : D) : Option D := match lookD S x with
  | .obj c fs => if cs.contains c then fs.lookup f else none
  | _ => none
def mFld (cs : List String) (f : String) (m : M D) : M D := fun ρ S => (m ρ S).bind fun x S1 => match fFld cs f S1 x with
  | some d => .ok d S1
  | none => .bad
theorem dv_fld {cs : List String} {f : String} {m : M D} (h : DV X e m) (hc : ∀ c ∈ cs, Cls X.K (He.ga X.K (Str.ofString c)) ∧ NoAttr X.K (He.ga X.K (Str.ofString c)) (Str.ofString f)) (hb : attributeBase e (Str.ofString f) X.env (eval e X.env) = eval e X.env := by rfl) :
    DV X (.Attribute e (Str.ofString f) pos) (mFld cs f m) := ⟨fun W tk => by
  obtain ⟨t, pe, rv⟩ := h.ex W tk
  refine ⟨_, pe_fld pe hb, fun g σ ρ Q rel q => ?_⟩
  unfold mFld at q
  rw [post_bind] at q
  refine rv g σ ρ _ rel (q.imp (fun d S1 _ h1 g1 x es p1 r1 => ?_) fun e S1 _ h1 => h1)
  subst es
  unfold fFld at h1
  cases z : lookD g1.S d with
  | obj c fs =>
    rw [z] at h1
    simp only at h1
    by_cases y : cs.contains c = true
    · rw [if_pos y] at h1
      obtain ⟨p, dx, fvs, rfl, hp, hd, r⟩ := look_obj p1.ok r1 z
      obtain ⟨k1, k2⟩ := hc c (memS y)
      cases w : fs.lookup f with
      | none => rw [w] at h1; exact h1.elim
      | some d' =>
        rw [w] at h1
        obtain ⟨v, e1, e2⟩ := r.look w
        exact ⟨p, _, dx, fvs, v, rfl, hp, k1, k2, e1, h1 g1 v rfl p1 e2⟩
    · rw [if_neg y] at h1; exact h1.elim
  | _ => rw [z] at h1; exact h1.elim⟩
end
end FW
end
section
set_option maxHeartbeats 2000000
/-! FW17: a method is called, what it lets out wished for at the caller's slots. -/
namespace FW
open PySem PySem.Spec PyProof.Rows L2
section
variable {X : Cx} {k : Nat} {f C : Addr} {fd : FuncData} {ps : List Str} {sp : Sp} {E : L2.St → XK} {m : Str} {apos pos : Pos} {o e : Expr} {es : List Expr} {ta : TE} {t : TA}
def tMethS (C : Addr) (m : Str) (sp : Sp) (E : L2.St → XK) (ta : TE) (t : TA) : TE := fun σ H Q => ta σ H fun self H1 => ∃ a dx fs, self = .ref a ∧ H1 a = some (.ins C dx fs) ∧ fs.lookup m = none ∧ t σ H1 fun vs H2 => sp (.ref a :: vs) H2 Q (E σ)
theorem pe_methS {CX : CXT} {pl : Sem Bool} (obj : PE X o ta) (cls : Cls X.K C) (meth : Meth X.K C m f) (F : FnOk X.prog X.w X.K X.mg X.base CX k f fd ps sp) (room : Room k X.A) (bnd : Binds X.K fd ps []) (out : ∀ σ, PassesAt CX X σ (E σ)) (args : PA X (e :: es) t)
    (plain1 : starEach (e :: es) X.env = (false, eval e X.env) :: starEach es X.env := by rfl) (plain2 : (backTo pos (starEach es X.env)).any (·.1) = false := by rfl)
    (shape : eval (.Call (.Attribute o m apos) (e :: es) [] pos) X.env = (eval o X.env >>= fun ov => standAt apos.atName >>= fun _ => holding [ov] (getMethod ov m pl) >>= fun q => callWith pos q.1 q.2 (backTo pos (starEach (e :: es) X.env)) (backToKw pos (keywordEach [] X.env))) := by rfl) :
    PE X (.Call (.Attribute o m apos) (e :: es) [] pos) (tMethS C m sp E ta t) := ⟨fun pins s σ H Q I h => by
  refine PySem.W.methodCall_KW (pl := pl) (thn (obj.run pins s σ H _ I h) fun u s1 got => ?_) shape
  obtain ⟨_, H1, I1, ru, a, dx, fs, rfl, at_, free, go⟩ := got
  obtain rfl : u = Value.ref a := ru
  exact getmeth_ok I1 at_ cls meth free (PySem.W.callWith_K (first := [.ref a]) (h₀ := X.base) I.ok.mod.kin meth.kp (thn (args.run pos pins s1 σ H1 _ I1 go) fun us s2 ⟨vs, H2, I2, rv, then_⟩ => ⟨I2.kIn, run_fnS (us := .ref a :: us) (vs := .ref a :: vs) F room bnd (out σ) I2 (.cons rfl rv) then_⟩) plain1 plain2)⟩
end
end FW
end
section
set_option maxHeartbeats 2000000
/-! FW18: a method of plain data, chosen by the class. -/
namespace FW
open PySem PySem.Spec PyProof.Rows L2
section
variable {X : Cx} {K : PySem.W.Frag} {e o : Expr} {es : List Expr} {pos apos : Pos}
theorem RepF.look_none {io : List Addr} {F : Hp} : ∀ {fs : List (String × D)} {vs : List (Str × V)} {k : String}, RepF K io F vs fs → fs.lookup k = none → vs.lookup (Str.ofString k) = none
  | [], _, _, r, _ => by simp only [RepF] at r; subst r; rfl
  | (k0, d0) :: fs, vs, k, r, e => by
    simp only [RepF] at r
    obtain ⟨v, q, rfl, a, b⟩ := r
    by_cases z : k = k0
    · subst z; simp [List.lookup_cons] at e
    · have z1 : (k == k0) = false := by simpa using z
      have z2 : (Str.ofString k == Str.ofString k0) = false := by
        cases y : (Str.ofString k == Str.ofString k0) with
        | false => rfl
        | true => exact absurd (ofString_inj.mp (eq_of_beq y)) z
      simp only [List.lookup_cons, z1] at e
      simp only [List.lookup_cons, z2]
      exact RepF.look_none b e
/-- the method m of the class c, n arguments beside self -/
structure Mth (P : Program) (w : World) (K : PySem.W.Frag) (mg : Str → Option Value) (base : Heap) (k : Nat) (c m : String) (n : Nat) (mf : MF) : Prop where
  ex : ∃ (f : Addr) (fd : FuncData) (ps : List Str), FnOk P w K mg base (L2.CX P w) k f fd ps (spD K (n + 1) mf) ∧ Meth K (He.ga K (Str.ofString c)) (Str.ofString m) f ∧ Binds K fd ps [] ∧ Cls K (He.ga K (Str.ofString c))
def mMeth (m : String) (tbl : String → Option MF) (mo : M D) (ma : M (List D)) : M Slot := fun ρ S => (noErr (mo ρ S)).bind fun x S1 => match lookD S1 x with
  | .obj c fs => match tbl c, fs.lookup m with
    | some mf, none => (ma ρ S1).bind fun ds S2 => mf (x :: ds) S2
    | _, _ => .bad
  | _ => .bad
theorem pe_some {ι : Type} {T : ι → TE} (h : ∀ i, PE X e (T i)) : PE X e (fun σ H Q => ∃ i, T i σ H Q) := ⟨fun pins s σ H Q I q => q.elim fun i q => (h i).run pins s σ H Q I q⟩
/-- one class's half of the call -/
structure Half (X : Cx) (k : Nat) (m : String) (n : Nat) where
  c : String
  mf : MF
  f : Addr
  fd : FuncData
  ps : List Str
  fn : FnOk X.prog X.w X.K X.mg X.base (L2.CX X.prog X.w) k f fd ps (spD X.K (n + 1) mf)
  at_ : Meth X.K (He.ga X.K (Str.ofString c)) (Str.ofString m) f
  bnd : Binds X.K fd ps []
  cls : Cls X.K (He.ga X.K (Str.ofString c))
theorem do_meth {k n : Nat} {m : String} {tbl : String → Option MF} {mo : M D} {ma : M (List D)} {pl : Sem Bool} (h : ∀ c mf, tbl c = some mf → Mth X.prog X.w X.K X.mg X.base k c m n mf) (hr : Room k X.A) (ho : DV X o mo) (ha : DA X (e :: es) ma) (hn : (e :: es).length = n := by rfl)
    (plain1 : starEach (e :: es) X.env = (false, eval e X.env) :: starEach es X.env := by rfl) (plain2 : (backTo pos (starEach es X.env)).any (·.1) = false := by rfl)
    (shape : eval (.Call (.Attribute o (Str.ofString m) apos) (e :: es) [] pos) X.env = (eval o X.env >>= fun ov => standAt apos.atName >>= fun _ => holding [ov] (getMethod ov (Str.ofString m) pl) >>= fun q => callWith pos q.1 q.2 (backTo pos (starEach (e :: es) X.env)) (backToKw pos (keywordEach [] X.env))) := by rfl) :
    DO X (.Call (.Attribute o (Str.ofString m) apos) (e :: es) [] pos) (mMeth m tbl mo ma) := ⟨fun W tk => by
  obtain ⟨to, po, ro⟩ := ho.ex W tk
  obtain ⟨t, pa, ra⟩ := ha.ex W tk
  refine ⟨_, pe_some (ι := Half X k m n) fun q => pe_methS (pl := pl) po q.cls q.at_ q.fn hr q.bnd (fun σ => passAt tk σ) pa plain1 plain2 shape, fun g σ ρ Q rel q => ?_⟩
  unfold mMeth at q
  rw [post_bind] at q
  -- the class that the mirror tells of, if it tells of one
  cases z : mo ρ g.S with
  | bad => rw [z] at q; exact q.elim
  | err ex S1 => rw [z] at q; exact q.elim
  | ok x S1 =>
    rw [z] at q
    replace q : R.post (match lookD S1 x with
      | .obj c fs => match tbl c, fs.lookup m with
        | some mf, none => (ma ρ S1).bind fun ds S2 => mf (x :: ds) S2
        | _, _ => .bad
      | _ => .bad) _ _ := q
    cases y : lookD S1 x with
    | obj c fs =>
      rw [y] at q
      simp only at q
      cases w : tbl c with
      | none => rw [w] at q; exact q.elim
      | some mf =>
        cases l : fs.lookup m with
        | some _ => rw [w, l] at q; exact q.elim
        | none =>
          rw [w, l] at q
          simp only at q
          rw [post_bind] at q
          obtain ⟨f, fd, ps, fn, at_, bnd, cls⟩ := (h c mf w).ex
          refine ⟨⟨c, mf, f, fd, ps, fn, at_, bnd, cls⟩, ro g σ ρ _ rel ?_⟩
          rw [z]
          intro g1 v e1 p1 r1
          subst e1
          obtain ⟨a, dx, fvs, rfl, hp, hd, rf⟩ := look_obj p1.ok r1 y
          refine ⟨a, dx, fvs, rfl, hp, rf.look_none l, ra g1 σ ρ _ (rel.post p1) (q.imp (fun ds S2 zz q2 g2 vs e2 p2 r2 => ?_) fun ex S2 _ q2 g2 cc dd e2 p2 x2 => q2 g2 cc dd e2 (p1.trans p2) x2)⟩
          subst e2
          refine ⟨g2, x :: ds, rfl, p2.ok, .cons (p2.rep r1) r2, by rw [List.length_cons, ha.len _ _ _ _ zz, hn], ?_⟩
          exact q2.imp (fun s S3 _ q3 g3 v3 e3 p3 o3 => q3 g3 v3 e3 ((p1.trans p2).trans p3) (OutRep.back (p1.trans p2) o3)) fun ex S3 _ q3 g3 cc dd e3 p3 x3 => q3 g3 cc dd e3 ((p1.trans p2).trans p3) x3
    | _ => rw [y] at q; exact q.elim⟩
end
end FW
end
section
set_option maxHeartbeats 2000000
/-! FW19: a method without arguments. -/
namespace FW
open PySem PySem.Spec PyProof.Rows L2
section
variable {X : Cx} {k : Nat} {f C : Addr} {fd : FuncData} {ps : List Str} {sp : Sp} {E : L2.St → XK} {m : Str} {apos pos : Pos} {o : Expr} {ta : TE}
theorem pe_methS0 {CX : CXT} {pl : Sem Bool} (obj : PE X o ta) (cls : Cls X.K C) (meth : Meth X.K C m f) (F : FnOk X.prog X.w X.K X.mg X.base CX k f fd ps sp) (room : Room k X.A) (bnd : Binds X.K fd ps []) (out : ∀ σ, PassesAt CX X σ (E σ))
    (shape : eval (.Call (.Attribute o m apos) [] [] pos) X.env = (eval o X.env >>= fun ov => standAt apos.atName >>= fun _ => holding [ov] (getMethod ov m pl) >>= fun q => callWith pos q.1 q.2 (backTo pos (starEach [] X.env)) (backToKw pos (keywordEach [] X.env))) := by rfl) :
    PE X (.Call (.Attribute o m apos) [] [] pos) (tMethS C m sp E ta tNil) := ⟨fun pins s σ H Q I h => by
  refine PySem.W.methodCall_KW (pl := pl) (thn (obj.run pins s σ H _ I h) fun u s1 got => ?_) shape
  obtain ⟨_, H1, I1, ru, a, dx, fs, rfl, at_, free, go⟩ := got
  obtain rfl : u = Value.ref a := ru
  exact getmeth_ok I1 at_ cls meth free (PySem.W.callWith_K0 (first := [.ref a]) I1.kIn meth.kp (run_fnS (us := [.ref a]) (vs := [.ref a]) F room bnd (out σ) I1 (.cons rfl .nil) go))⟩
theorem do_meth0 {m : String} {tbl : String → Option MF} {mo : M D} {pl : Sem Bool} (h : ∀ c mf, tbl c = some mf → Mth X.prog X.w X.K X.mg X.base k c m 0 mf) (hr : Room k X.A) (ho : DV X o mo)
    (shape : eval (.Call (.Attribute o (Str.ofString m) apos) [] [] pos) X.env = (eval o X.env >>= fun ov => standAt apos.atName >>= fun _ => holding [ov] (getMethod ov (Str.ofString m) pl) >>= fun q => callWith pos q.1 q.2 (backTo pos (starEach [] X.env)) (backToKw pos (keywordEach [] X.env))) := by rfl) :
    DO X (.Call (.Attribute o (Str.ofString m) apos) [] [] pos) (mMeth m tbl mo aNil) := ⟨fun W tk => by
  obtain ⟨to, po, ro⟩ := ho.ex W tk
  refine ⟨_, pe_some (ι := Half X k m 0) fun q => pe_methS0 (pl := pl) po q.cls q.at_ q.fn hr q.bnd (fun σ => passAt tk σ) shape, fun g σ ρ Q rel q => ?_⟩
  unfold mMeth at q
  rw [post_bind] at q
  cases z : mo ρ g.S with
  | bad => rw [z] at q; exact q.elim
  | err ex S1 => rw [z] at q; exact q.elim
  | ok x S1 =>
    rw [z] at q
    replace q : R.post (match lookD S1 x with
      | .obj c fs => match tbl c, fs.lookup m with
        | some mf, none => mf [x] S1
        | _, _ => .bad
      | _ => .bad) _ _ := q
    cases y : lookD S1 x with
    | obj c fs =>
      rw [y] at q
      simp only at q
      cases w : tbl c with
      | none => rw [w] at q; exact q.elim
      | some mf =>
        cases l : fs.lookup m with
        | some _ => rw [w, l] at q; exact q.elim
        | none =>
          rw [w, l] at q
          simp only at q
          obtain ⟨f, fd, ps, fn, at_, bnd, cls⟩ := (h c mf w).ex
          refine ⟨⟨c, mf, f, fd, ps, fn, at_, bnd, cls⟩, ro g σ ρ _ rel ?_⟩
          rw [z]
          intro g1 v e1 p1 r1
          subst e1
          obtain ⟨a, dx, fvs, rfl, hp, hd, rf⟩ := look_obj p1.ok r1 y
          refine ⟨a, dx, fvs, rfl, hp, rf.look_none l, g1, [x], rfl, p1.ok, .one r1, rfl, ?_⟩
          exact q.imp (fun s S3 _ q3 g3 v3 e3 p3 o3 => q3 g3 v3 e3 (p1.trans p3) (OutRep.back p1 o3)) fun ex S3 _ q3 g3 cc dd e3 p3 x3 => q3 g3 cc dd e3 (p1.trans p3) x3
    | _ => rw [y] at q; exact q.elim⟩
end
end FW
end
section
set_option maxHeartbeats 2000000
/-! FW20: a call that leaves the store alone: what it lays is frozen behind it. -/
namespace FW
open PySem PySem.Spec PyProof.Rows L2
section
variable {K : PySem.W.Frag} {E g g' : G}
def G.cut (g : G) : G := { F := g.F, H := g.H, io := [], S := [] }
theorem ok_cut (ok : Ok K g) : Ok K g.cut := { le := ok.le, len := rfl, nd := List.nodup_nil, noown := fun _ _ _ h => (by cases h), own := ok.own, iod := fun _ h => (by cases h), cell := fun i c e => by simp [G.cut] at e }
open Classical in
noncomputable def frzF (g g' : G) : Hp := fun a => if a ∈ g'.io then g'.H a else if g.H a = none ∧ ∃ x, x ∈ g'.io ∧ g'.H a = some (.own x) then g'.H a else g'.F a
noncomputable def G.unc (g g' : G) : G := { F := frzF g g', H := g'.H, io := g.io, S := g.S }
theorem frzF_le (ok : Ok K g') : Le (frzF g g') g'.H := fun a u e => by
  unfold frzF at e
  split at e
  · exact e
  · split at e
    · exact e
    · exact ok.le _ _ e
theorem le_frzF (ok : Ok K g') : Le g'.F (frzF g g') := fun a u e => by
  unfold frzF
  split
  · exact ok.le _ _ e
  · split
    · exact ok.le _ _ e
    · exact e
theorem post_unc (ok : Ok K g) (p : Post K g.cut g') : Post K g (g.unc g') := by
  have fr : ∀ a u, g.H a = some u → g'.H a = some u := fun a u e => p.fr a u e (by intro h; cases h)
  have ion : ∀ a, a ∈ g'.io → g.H a = none := fun a m => by
    rcases p.io a m with z | z
    · cases z
    · exact z
  have same : ∀ a u, g.H a = some u → frzF g g' a = g'.F a := fun a u e => by
    unfold frzF
    rw [if_neg (fun m => by rw [ion a m] at e; cases e), if_neg (fun m => by rw [m.1] at e; cases e)]
  refine ⟨⟨frzF_le p.ok, ok.len, ok.nd, fun a x e m => ?_, p.ok.own, fun a m => p.dom a (ok.iod a m), fun i c e => ?_⟩, p.leF.trans (le_frzF p.ok), Pre.refl _, fun a u e _ => fr a u e, fun a u e => ?_, fun a m => .inl m, p.dom⟩
  · cases q : g.H a with
    | none => exact ok.iod a m q
    | some u =>
      have z := fr a u q
      have e' : g'.H a = some (.own x) := e
      rw [e'] at z; cases z
      exact ok.noown a x q m
  · obtain ⟨q, e1, e2, r⟩ := ok.cell i c e
    refine ⟨q, e1, ?_, ?_⟩
    · cases y : g.H q with
      | none => exact absurd y r.at_
      | some u =>
        show frzF g g' q = none
        rw [same q u y]
        cases w : g'.F q with
        | none => rfl
        | some u' =>
          rcases p.fz q u' w with z | z | z
          · have z' : g.F q = some u' := z
            rw [e2] at z'; cases z'
          · have z' : g.H q = none := z
            rw [y] at z'; cases z'
          · cases z
    · have l : Le g.F (frzF g g') := p.leF.trans (le_frzF p.ok)
      cases c with
      | lst xs => obtain ⟨vs, a, b⟩ := r; exact ⟨vs, fr _ _ a, RepL.mono l (Pre.refl _) _ b⟩
      | dic xs => obtain ⟨vs, a, b⟩ := r; exact ⟨vs, fr _ _ a, RepK.mono l (Pre.refl _) _ b⟩
      | obj c fs => obtain ⟨dx, vs, a, a2, b⟩ := r; exact ⟨dx, vs, fr _ _ a, fr _ _ a2, RepF.mono l (Pre.refl _) _ b⟩
  · have e' : frzF g g' a = some u := e
    unfold frzF at e'
    split at e'
    · rename_i m; exact .inr (.inl (ion a m))
    · split at e'
      · rename_i m; exact .inr (.inl m.1)
      · rcases p.fz a u e' with z | z | z
        · exact .inl z
        · exact .inr (.inl z)
        · cases z
/-! ### what is handed back -/
theorem tab_okF {g : G} (le : Le g.F g.H) (hc : ∀ (i : Nat) c, g.S[i]? = some (some c) → ∃ p, g.io[i]? = some p ∧ CellRep K g p c) : ∀ (n i : Nat) (d' : D) (p : Addr), tabD g.S n i = some d' → g.io[i]? = some p → Rep K [] g.H (.ref p) d'
  | 0, _, _, _, e, _ => by cases e
  | n + 1, i, d', p, e, q => by
    simp only [tabD] at e
    split at e
    · rename_i c hs
      obtain ⟨p', e1, r⟩ := hc i c hs
      rw [q] at e1; cases e1
      exact cell_sub le (tab_okF le hc n) e r
    · cases e
def derefL (S : Sto) (xs : List D) : Option (List D) := if norL xs then some xs else subL (tabD S 6) xs
def derefK (S : Sto) (xs : List (Key × D)) : Option (List (Key × D)) := if norK xs then some xs else subK (tabD S 6) xs
def derefF (S : Sto) (xs : List (String × D)) : Option (List (String × D)) := if norF xs then some xs else subF (tabD S 6) xs
def derefC (S : Sto) : Cell → Option Cell
  | .lst xs => (derefL S xs).map .lst
  | .dic xs => (derefK S xs).map .dic
  | .obj c fs => (derefF S fs).map (.obj c)
/-- the state behind, its own cells frozen, as a state to look at -/
noncomputable def G.eye (g g' : G) : G := { F := g'.F, H := frzF g g', io := g'.io, S := g'.S }
theorem eye_le (p : Post K g.cut g') : Le (g.eye g').F (g.eye g').H := le_frzF p.ok
theorem eye_cell (ok : Ok K g) (p : Post K g.cut g') : ∀ (i : Nat) c, (g.eye g').S[i]? = some (some c) → ∃ q, (g.eye g').io[i]? = some q ∧ CellRep K (g.eye g') q c := fun i c e => by
  obtain ⟨q, e1, e2, r⟩ := p.ok.cell i c e
  have mem : q ∈ g'.io := List.mem_of_getElem? e1
  have hq : frzF g g' q = g'.H q := by unfold frzF; rw [if_pos mem]
  refine ⟨q, e1, ?_⟩
  cases c with
  | lst xs => obtain ⟨vs, a, b⟩ := r; exact ⟨vs, hq.trans a, b⟩
  | dic xs => obtain ⟨vs, a, b⟩ := r; exact ⟨vs, hq.trans a, b⟩
  | obj c fs =>
    obtain ⟨dx, vs, a, a2, b⟩ := r
    refine ⟨dx, vs, hq.trans a, ?_, b⟩
    have hn : g.H dx = none := by
      cases y : g.H dx with
      | none => rfl
      | some u =>
        have z := p.fr dx u y (by intro h; cases h)
        rw [a2] at z; cases z
        rcases p.io q mem with z | z
        · cases z
        · exact absurd z (ok.own dx q y)
    show frzF g g' dx = some (.own q)
    unfold frzF
    split
    · exact a2
    · rw [if_pos ⟨hn, q, mem, a2⟩]; exact a2
theorem nil_pre {io : List Addr} : Pre [] io := ⟨io, by simp⟩
theorem rep_unc (ok : Ok K g) (p : Post K g.cut g') {v : V} {d d' : D} (e : deref g'.S d = some d') (r : Rep K g'.io g'.F v d) : Rep K g.io (frzF g g') v d' := by
  refine Rep.mono (Le.refl _) nil_pre d' ?_
  unfold deref at e
  split at e
  · rename_i n; cases e
    exact Rep.nor (le_frzF p.ok) d n r
  · exact Rep.sub (F := g'.F) (H := frzF g g') (io := g'.io) (le_frzF p.ok) (fun i d1 q h1 h2 => tab_okF (g := g.eye g') (eye_le p) (eye_cell ok p) 6 i d1 q h1 h2) d e r
theorem repL_unc (ok : Ok K g) (p : Post K g.cut g') {v : List V} {d d' : List D} (e : derefL g'.S d = some d') (r : RepL K g'.io g'.F v d) : RepL K g.io (frzF g g') v d' := by
  refine RepL.mono (Le.refl _) nil_pre d' ?_
  unfold derefL at e
  split at e
  · rename_i n; cases e
    exact RepL.nor (le_frzF p.ok) d n r
  · exact RepL.sub (F := g'.F) (H := frzF g g') (io := g'.io) (le_frzF p.ok) (fun i d1 q h1 h2 => tab_okF (g := g.eye g') (eye_le p) (eye_cell ok p) 6 i d1 q h1 h2) d e r
theorem repK_unc (ok : Ok K g) (p : Post K g.cut g') {v : List (Key × V)} {d d' : List (Key × D)} (e : derefK g'.S d = some d') (r : RepK K g'.io g'.F v d) : RepK K g.io (frzF g g') v d' := by
  refine RepK.mono (Le.refl _) nil_pre d' ?_
  unfold derefK at e
  split at e
  · rename_i n; cases e
    exact RepK.nor (le_frzF p.ok) d n r
  · exact RepK.sub (F := g'.F) (H := frzF g g') (io := g'.io) (le_frzF p.ok) (fun i d1 q h1 h2 => tab_okF (g := g.eye g') (eye_le p) (eye_cell ok p) 6 i d1 q h1 h2) d e r
theorem repF_unc (ok : Ok K g) (p : Post K g.cut g') {v : List (Str × V)} {d d' : List (String × D)} (e : derefF g'.S d = some d') (r : RepF K g'.io g'.F v d) : RepF K g.io (frzF g g') v d' := by
  refine RepF.mono (Le.refl _) nil_pre d' ?_
  unfold derefF at e
  split at e
  · rename_i n; cases e
    exact RepF.nor (le_frzF p.ok) d n r
  · exact RepF.sub (F := g'.F) (H := frzF g g') (io := g'.io) (le_frzF p.ok) (fun i d1 q h1 h2 => tab_okF (g := g.eye g') (eye_le p) (eye_cell ok p) 6 i d1 q h1 h2) d e r
def isoOut (S : Sto) (r : R Slot) : R Slot := match r with
  | .ok (.val d) S' => match deref S' d with
    | some d' => .ok (.val d') S
    | none => .bad
  | .ok (.own c) S' => match derefC S' c with
    | some c' => .ok (.own c') S
    | none => .bad
  | .ok .none _ => .bad
  | .err e S' => match derefF S' e.fs with
    | some fs => .err ⟨e.c, fs⟩ S
    | none => .bad
  | .bad => .bad
theorem subF_nil {f : Nat → Option D} {fs fs' : List (String × D)} (h : subF f fs = some fs') : (fs = [] ↔ fs' = []) := by
  cases fs with
  | nil => simp only [subF] at h; cases h; simp
  | cons a fs =>
    obtain ⟨k, d⟩ := a
    simp only [subF] at h
    split at h
    · cases h; simp
    · cases h
theorem derefF_nil {S : Sto} {fs fs' : List (String × D)} (h : derefF S fs = some fs') : (fs = [] ↔ fs' = []) := by
  unfold derefF at h
  split at h
  · cases h; exact Iff.rfl
  · exact subF_nil h
theorem out_unc (ok : Ok K g) (p : Post K g.cut g') {v : V} {c c' : Cell} (e : derefC g'.S c = some c') (o : OutRep K g.cut g' v (.own c)) : OutRep K g (g.unc g') v (.own c') := by
  obtain ⟨q, rfl, ⟨n1, n2⟩, hF, hio, r⟩ := o
  have hq : frzF g g' q = none := by
    unfold frzF
    rw [if_neg hio, if_neg (fun m => ?_)]
    · exact hF
    · obtain ⟨_, x, _, z⟩ := m
      cases c with
      | lst xs => obtain ⟨vs, a, b⟩ := r; rw [a] at z; cases z
      | dic xs => obtain ⟨vs, a, b⟩ := r; rw [a] at z; cases z
      | obj c fs => obtain ⟨dx, vs, a, a2, b⟩ := r; rw [a] at z; cases z
  refine ⟨q, rfl, ⟨n1, n2⟩, hq, fun m => ok.iod q m n1, ?_⟩
  cases c with
  | lst xs =>
    obtain ⟨vs, a, b⟩ := r
    simp only [derefC] at e
    cases y : derefL g'.S xs with
    | none => rw [y] at e; cases e
    | some ys => rw [y] at e; cases e; exact ⟨vs, a, repL_unc ok p y b⟩
  | dic xs =>
    obtain ⟨vs, a, b⟩ := r
    simp only [derefC] at e
    cases y : derefK g'.S xs with
    | none => rw [y] at e; cases e
    | some ys => rw [y] at e; cases e; exact ⟨vs, a, repK_unc ok p y b⟩
  | obj c fs =>
    obtain ⟨dx, vs, a, a2, b⟩ := r
    simp only [derefC] at e
    cases y : derefF g'.S fs with
    | none => rw [y] at e; cases e
    | some ys => rw [y] at e; cases e; exact ⟨dx, vs, a, a2, repF_unc ok p y b⟩
theorem repX_unc (ok : Ok K g) (p : Post K g.cut g') {cv : Value} {dd : Option Addr} {e : Exc} {fs : List (String × D)} (h : derefF g'.S e.fs = some fs) (x : RepX K g' cv dd e) : RepX K (g.unc g') cv dd ⟨e.c, fs⟩ := by
  obtain ⟨x1, x2⟩ := x
  refine ⟨x1, ?_⟩
  have nl := derefF_nil h
  rcases x2 with ⟨a, b⟩ | ⟨a, dx, fvs, b, c, d⟩
  · exact .inl ⟨nl.mp a, b⟩
  · exact .inr ⟨fun z => a (nl.mpr z), dx, fvs, b, le_frzF p.ok _ _ c, repF_unc ok p h d⟩
theorem iso_post (ok : Ok K g) {r : R Slot} {A : V → Hp → Prop} {B : Value → Option Addr → Hp → Prop}
    (h : (isoOut g.S r).post (fun s S' => ∀ g' v, g'.S = S' → Post K g g' → OutRep K g g' v s → A v g'.H) (fun e S' => ∀ g' c dd, g'.S = S' → Post K g g' → RepX K g' c dd e → B c dd g'.H)) :
    r.post (fun s S' => ∀ g' v, g'.S = S' → Post K g.cut g' → OutRep K g.cut g' v s → A v g'.H) (fun e S' => ∀ g' c dd, g'.S = S' → Post K g.cut g' → RepX K g' c dd e → B c dd g'.H) := by
  cases r with
  | bad => exact h.elim
  | err e S' =>
    intro g' c dd es p x
    subst es
    simp only [isoOut] at h
    cases y : derefF g'.S e.fs with
    | none => rw [y] at h; exact h.elim
    | some fs => rw [y] at h; exact h (g.unc g') c dd rfl (post_unc ok p) (repX_unc ok p y x)
  | ok s S' =>
    intro g' v es p o
    subst es
    cases s with
    | none => exact h.elim
    | val d =>
      simp only [isoOut] at h
      cases y : deref g'.S d with
      | none => rw [y] at h; exact h.elim
      | some d' => rw [y] at h; exact h (g.unc g') v rfl (post_unc ok p) (rep_unc ok p y o)
    | own c =>
      simp only [isoOut] at h
      cases y : derefC g'.S c with
      | none => rw [y] at h; exact h.elim
      | some c' => rw [y] at h; exact h (g.unc g') v rfl (post_unc ok p) (out_unc ok p y o)
def mIso (mf : MF) : MF := fun ds S => if norL ds then isoOut S (mf ds []) else .bad
theorem sp_iso {n : Nat} {mf : MF} {vs : List V} {H : Hp} {Q : VK} {E : XK} (h : spD K n (mIso mf) vs H Q E) : spD K n mf vs H Q E := by
  obtain ⟨g, ds, rfl, ok, r, l, q⟩ := h
  unfold mIso at q
  by_cases hn : norL ds = true
  · rw [if_pos hn] at q
    exact ⟨g.cut, ds, rfl, ok_cut ok, RepL.nor (Le.refl _) ds hn r, l, iso_post ok q⟩
  · rw [if_neg hn] at q; exact q.elim
end
section
variable {P : Program} {w : World} {K : PySem.W.Frag} {mg : Str → Option Value} {base : Heap}
theorem DFn.iso {k : Nat} {x : Str} {n : Nat} {mf : MF} (h : DFn P w K mg base k x n mf) : DFn P w K mg base k x n (mIso mf) := by
  obtain ⟨f, fd, ps, a, b⟩ := h.ex
  exact ⟨f, fd, ps, a.imp fun _ _ _ _ => sp_iso, b⟩
theorem Mth.iso {k : Nat} {c m : String} {n : Nat} {mf : MF} (h : Mth P w K mg base k c m n mf) : Mth P w K mg base k c m n (mIso mf) := by
  obtain ⟨f, fd, ps, a, b⟩ := h.ex
  exact ⟨f, fd, ps, a.imp fun _ _ _ _ => sp_iso, b⟩
end
end FW
end
section
set_option maxHeartbeats 2000000
/-! FW21: new instances of the own classes, fields stored, a class's function called by the class. -/
namespace FW
open PySem PySem.Spec PyProof.Rows L2
section
variable {K : PySem.W.Frag} {g g' : G}
/-- a new instance, a cell of the store -/
def G.obj (g : G) (K : PySem.W.Frag) (c : String) (x dx : Addr) : G := { F := g.F, H := upd (upd g.H dx (.own x)) x (.ins (He.ga K (Str.ofString c)) dx []), io := g.io ++ [x], S := g.S ++ [some (.obj c [])] }
theorem post_obj {c : String} {x dx : Addr} (ok : Ok K g) (hx : g.H x = none) (hd : g.H dx = none) (ne : dx ≠ x) : Post K g (g.obj K c x dx) := by
  have keep : ∀ a u, g.H a = some u → (g.obj K c x dx).H a = some u := fun a u e => by
    show upd (upd g.H dx _) x _ a = _
    rw [upd_ne (ne_of_none e hx), upd_ne (ne_of_none e hd)]; exact e
  have atx : (g.obj K c x dx).H x = some (.ins (He.ga K (Str.ofString c)) dx []) := upd_same
  have atd : (g.obj K c x dx).H dx = some (.own x) := (upd_ne ne).trans upd_same
  have back : ∀ a u, (g.obj K c x dx).H a = some u → (a = x ∧ u = .ins (He.ga K (Str.ofString c)) dx []) ∨ (a = dx ∧ u = .own x) ∨ g.H a = some u := fun a u e => by
    rcases upd_some e with ⟨a, b⟩ | ⟨_, e⟩
    · exact .inl ⟨a, b⟩
    · rcases upd_some e with ⟨a, b⟩ | ⟨_, e⟩
      · exact .inr (.inl ⟨a, b⟩)
      · exact .inr (.inr e)
  have dom : ∀ a, g.H a ≠ none → (g.obj K c x dx).H a ≠ none := fun a h => by
    cases q : g.H a with
    | none => exact absurd q h
    | some u => rw [keep a u q]; simp
  have xio := ok.nio' hx
  have dio := ok.nio' hd
  have pre : Pre g.io (g.io ++ [x]) := ⟨[x], rfl⟩
  refine ⟨⟨fun a u e => keep a u (ok.le a u e), by simp [G.obj, ok.len], ?_, fun a y e m => ?_, fun a y e => ?_, fun a m => ?_, fun i c1 e => ?_⟩, Le.refl _, pre, fun a u e _ => keep a u e, fun a u e => .inl e, fun a m => ?_, dom⟩
  · show (g.io ++ [x]).Nodup
    rw [List.nodup_append]
    refine ⟨ok.nd, by simp, fun a ha b hb z => ?_⟩
    have hb' : b = x := by simpa using hb
    subst hb' z
    exact xio ha
  · rcases back a _ e with ⟨rfl, z⟩ | ⟨rfl, z⟩ | z
    · cases z
    · rcases List.mem_append.mp m with y | y
      · exact dio y
      · exact ne (by simpa using y)
    · rcases List.mem_append.mp m with y | y
      · exact ok.noown _ _ z y
      · have : a = x := by simpa using y
        subst this
        rw [hx] at z; cases z
  · rcases back a _ e with ⟨rfl, z⟩ | ⟨rfl, z⟩ | z
    · cases z
    · cases z; rw [atx]; simp
    · exact dom _ (ok.own _ _ z)
  · rcases List.mem_append.mp m with y | y
    · exact dom _ (ok.iod _ y)
    · have : a = x := by simpa using y
      subst this
      rw [atx]; simp
  · have e' : (g.S ++ [some (Cell.obj c [])])[i]? = some (some c1) := e
    by_cases q : i < g.S.length
    · rw [List.getElem?_append_left q] at e'
      obtain ⟨q', w1, w2, w3⟩ := ok.cell i c1 e'
      refine ⟨q', pre.get w1, w2, ?_⟩
      cases c1 with
      | lst xs => obtain ⟨vs, a, b⟩ := w3; exact ⟨vs, keep _ _ a, RepL.mono (Le.refl _) pre _ b⟩
      | dic xs => obtain ⟨vs, a, b⟩ := w3; exact ⟨vs, keep _ _ a, RepK.mono (Le.refl _) pre _ b⟩
      | obj c fs => obtain ⟨d2, vs, a, a2, b⟩ := w3; exact ⟨d2, vs, keep _ _ a, keep _ _ a2, RepF.mono (Le.refl _) pre _ b⟩
    · rw [List.getElem?_append_right (by omega)] at e'
      have hi : i = g.S.length := by
        by_cases z : i - g.S.length = 0
        · omega
        · rw [List.getElem?_eq_none (by simp; omega)] at e'; cases e'
      subst hi
      simp at e'; subst e'
      exact ⟨x, by show (g.io ++ [x])[g.S.length]? = _; rw [← ok.len]; simp, ok.free hx, dx, [], atx, atd, by simp only [RepF]⟩
  · rcases List.mem_append.mp m with y | y
    · exact .inl y
    · have : a = x := by simpa using y
      subst this
      exact .inr hx
theorem rep_obj {c : String} {x dx : Addr} (ok : Ok K g) : Rep K (g.obj K c x dx).io (g.obj K c x dx).F (.ref x) (.ref g.S.length) := by
  simp only [Rep]
  exact ⟨x, by show (g.io ++ [x])[g.S.length]? = _; rw [← ok.len]; simp, rfl⟩
end

/-! ### C(..) -/
section
variable {X : Cx} {CX : CXT} {k : Nat} {f C : Addr} {fd : FuncData} {ps : List Str} {sp : Sp} {E : L2.St → XK} {x : Str} {p pos : Pos} {e : Expr} {es : List Expr} {t : TA}
def tMakeS (C : Addr) (sp : Sp) (E : L2.St → XK) (t : TA) : TE := fun σ H Q => t σ H fun ws J => ∀ x dx, J x = none → J dx = none → dx ≠ x → sp (.ref x :: ws) (upd (upd J dx (.own x)) x (.ins C dx [])) (fun v J2 => v = .non ∧ Q (.ref x) J2) (E σ)
theorem make_runs {pins : List (Addr × Obj)} {σ : L2.St} {J : Hp} {s : Shared} {Q : VK} {us : List Value} {ws : List V} (mk : Mk X.K C f) (fn : FnOk X.prog X.w X.K X.mg X.base CX k f fd ps sp) (room : Room (k + 1) X.A) (bnd : Binds X.K fd ps [])
    (out : PassesAt CX X σ (E σ)) (I : Inv X pins σ J s) (rel : Vals ws us) (h : ∀ x dx, J x = none → J dx = none → dx ≠ x → sp (.ref x :: ws) (upd (upd J dx (.own x)) x (.ins C dx [])) (fun v J2 => v = .non ∧ Q (.ref x) J2) (E σ)) :
    wpAny (model X.prog X.w) X.A (call (.ref C) us) (EP X pins σ Q) X.xe s := by
  have new1 : J (s.heap.objs.size + 1) = none := I.hok.fresh (Nat.le_succ _)
  have new0 : J s.heap.objs.size = none := I.hok.fresh (Nat.le_refl _)
  have go := h _ _ new1 new0 (Nat.ne_of_lt (Nat.lt_succ_self _))
  have laid := Inv.made (C := C) I
  have rel' : Vals (V.ref (s.heap.objs.size + 1) :: ws) (Value.ref (s.heap.objs.size + 1) :: us) := .cons rfl rel
  have len : (Value.ref (s.heap.objs.size + 1) :: us).length = ps.length := by rw [← rel'.length]; exact fn.len _ _ _ _ go
  have bound := bnd _ (Value.ref (s.heap.objs.size + 1) :: us) laid.kIn (by rw [List.append_nil]; exact len)
  rw [List.append_nil] at bound
  have runs := fn.run _ X.stack _ _ ⟨Value.ref (s.heap.objs.size + 1) :: us, []⟩ _ _ _ (E σ) (room.make C us []) (laid.env0.make C us []) bound rel' go
  refine wpAny_call (make_map (f := f) I.kIn mk.makes mk.init (beq_iff_eq.mp mk.fn) (codeAny_mono runs fun res s' end_ => ?_))
  match res, end_ with
  | .error e, end_ => exact out pins _ _ e s' laid end_
  | .ok (.ret u), end_ =>
    obtain ⟨v, J', I', rv, isNon, done⟩ := laid.after end_
    subst isNon
    exact ⟨rv, V.ref (s.heap.objs.size + 1), J', I', rfl, done⟩
theorem pe_makeS (mk : Mk X.K C f) (fn : FnOk X.prog X.w X.K X.mg X.base CX k f fd ps sp) (room : Room (k + 1) X.A) (glob : Gl X x) (here : X.mg x = some (.ref C)) (bnd : Binds X.K fd ps []) (out : ∀ σ, PassesAt CX X σ (E σ)) (args : PA X (e :: es) t)
    (nodbg : (x == ("__debug__" : Str)) = false := by decide) (plain1 : starEach (e :: es) X.env = (false, eval e X.env) :: starEach es X.env := by rfl) (plain2 : (backTo pos (starEach es X.env)).any (·.1) = false := by rfl) :
    PE X (.Call (.Name x p) (e :: es) [] pos) (tMakeS C sp E t) := ⟨fun pins s σ J Q I h =>
  wpAny_Call_Name_kw (ld_glob I glob here (PySem.W.callWith_K (h₀ := X.base) I.ok.mod.kin mk.kp (thn (args.run pos pins s σ J _ I h) fun us s1 ⟨ws, J1, I1, rel, go⟩ => ⟨I1.kIn, make_runs mk fn room bnd (out σ) I1 rel go⟩) plain1 plain2) nodbg)⟩
theorem pe_makeS0 (mk : Mk X.K C f) (fn : FnOk X.prog X.w X.K X.mg X.base CX k f fd ps sp) (room : Room (k + 1) X.A) (glob : Gl X x) (here : X.mg x = some (.ref C)) (bnd : Binds X.K fd ps []) (out : ∀ σ, PassesAt CX X σ (E σ))
    (nodbg : (x == ("__debug__" : Str)) = false := by decide) : PE X (.Call (.Name x p) [] [] pos) (tMakeS C sp E tNil) := ⟨fun pins s σ J Q I h =>
  wpAny_Call_Name_kw (ld_glob I glob here (PySem.W.callWith_K0 I.kIn mk.kp (make_runs (us := []) (ws := []) mk fn room bnd (out σ) I .nil h)) nodbg)⟩
end
/-- the class c is made with n arguments -/
structure Ini (P : Program) (w : World) (K : PySem.W.Frag) (mg : Str → Option Value) (base : Heap) (k : Nat) (c : String) (n : Nat) (mf : MF) : Prop where
  ex : ∃ (f : Addr) (fd : FuncData) (ps : List Str), FnOk P w K mg base (L2.CX P w) k f fd ps (spD K (n + 1) mf) ∧ Mk K (He.ga K (Str.ofString c)) f ∧ Binds K fd ps []
theorem Ini.mono {P : Program} {w : World} {K : PySem.W.Frag} {mg : Str → Option Value} {base : Heap} {k k' : Nat} {c : String} {n : Nat} {mf : MF} (h : Ini P w K mg base k c n mf) (l : k ≤ k') : Ini P w K mg base k' c n mf := by
  obtain ⟨f, fd, ps, a, b⟩ := h.ex
  exact ⟨f, fd, ps, a.mono l, b⟩
theorem Mth.mono {P : Program} {w : World} {K : PySem.W.Frag} {mg : Str → Option Value} {base : Heap} {k k' : Nat} {c m : String} {n : Nat} {mf : MF} (h : Mth P w K mg base k c m n mf) (l : k ≤ k') : Mth P w K mg base k' c m n mf := by
  obtain ⟨f, fd, ps, a, b⟩ := h.ex
  exact ⟨f, fd, ps, a.mono l, b⟩
/-- made, it stands in the store -/
def rMake (c : String) (mf : MF) (ds : List D) (S : Sto) : R Slot := match mf (.ref S.length :: ds) (S ++ [some (.obj c [])]) with
  | .ok (.val .non) S' => .ok (.val (.ref S.length)) S'
  | .err e S' => .err e S'
  | _ => .bad
def mMake (c : String) (mf : MF) (ma : M (List D)) : M Slot := fun ρ S => (ma ρ S).bind (rMake c mf)
/-- made, it is frozen -/
def mMakeI (c : String) (mf : MF) (ma : M (List D)) : M Slot := fun ρ S => (ma ρ S).bind fun ds S1 => if norL ds then isoOut S1 (rMake c mf ds []) else .bad
section
variable {X : Cx} {k n : Nat} {c : String} {x : Str} {p pos : Pos} {e : Expr} {es : List Expr} {mf : MF} {ma : M (List D)}
theorem make_sp {K : PySem.W.Frag} {g : G} {ds : List D} {ws : List V} {Q : VK} {E : XK} (ok : Ok K g) (r : RepL K g.io g.F ws ds) (l : ds.length = n)
    (q : (rMake c mf ds g.S).post (fun s S' => ∀ g' v, g'.S = S' → Post K g g' → OutRep K g g' v s → Q v g'.H) (fun e S' => ∀ g' c dd, g'.S = S' → Post K g g' → RepX K g' c dd e → E c dd g'.H))
    (x dx : Addr) (hx : g.H x = none) (hd : g.H dx = none) (ne : dx ≠ x) : spD K (n + 1) mf (.ref x :: ws) (upd (upd g.H dx (.own x)) x (.ins (He.ga K (Str.ofString c)) dx [])) (fun v J2 => v = .non ∧ Q (.ref x) J2) E := by
  have po := post_obj (c := c) ok hx hd ne
  refine ⟨g.obj K c x dx, .ref g.S.length :: ds, rfl, po.ok, .cons (rep_obj ok) (po.repL r), by simp [l], ?_⟩
  unfold rMake at q
  show (mf (.ref g.S.length :: ds) (g.S ++ [some (.obj c [])])).post _ _
  cases z : mf (.ref g.S.length :: ds) (g.S ++ [some (.obj c [])]) with
  | bad => rw [z] at q; exact q.elim
  | err e S' => rw [z] at q; exact fun g' cc dd es p2 x2 => q g' cc dd es (po.trans p2) x2
  | ok s S' =>
    rw [z] at q
    cases s with
    | none => exact q.elim
    | own c => exact q.elim
    | val d =>
      cases d <;> first | exact q.elim | skip
      intro g' v es p2 o
      refine ⟨by simpa only [OutRep, Rep] using o, q g' (.ref x) es (po.trans p2) ?_⟩
      exact p2.rep (rep_obj ok)
theorem do_make (h : Ini X.prog X.w X.K X.mg X.base k c n mf) (hr : Room (k + 1) X.A) (hg : Gl X x) (hm : X.mg x = some (.ref (He.ga X.K (Str.ofString c)))) (ha : DA X (e :: es) ma) (hn : (e :: es).length = n := by rfl)
    (nodbg : (x == ("__debug__" : Str)) = false := by decide) (plain1 : starEach (e :: es) X.env = (false, eval e X.env) :: starEach es X.env := by rfl) (plain2 : (backTo pos (starEach es X.env)).any (·.1) = false := by rfl) :
    DO X (.Call (.Name x p) (e :: es) [] pos) (mMake c mf ma) := ⟨fun W tk => by
  obtain ⟨f, fd, ps, fn, mk, bnd⟩ := h.ex
  obtain ⟨t, pa, ra⟩ := ha.ex W tk
  refine ⟨_, pe_makeS mk fn hr hg hm bnd (fun σ => passAt tk σ) pa nodbg plain1 plain2, fun g σ ρ Q rel q => ?_⟩
  unfold mMake at q
  rw [post_bind] at q
  refine ra g σ ρ _ rel (q.imp (fun ds S1 zz q1 g1 ws es1 p1 r1 => ?_) fun e S1 _ q1 => q1)
  subst es1
  exact make_sp p1.ok r1 ((ha.len _ _ _ _ zz).trans hn) (q1.imp (fun s S2 _ q2 g2 v es2 p2 o => q2 g2 v es2 (p1.trans p2) (o.back p1)) fun e S2 _ q2 g2 cc dd es2 p2 x2 => q2 g2 cc dd es2 (p1.trans p2) x2)⟩
theorem do_makeI (h : Ini X.prog X.w X.K X.mg X.base k c n mf) (hr : Room (k + 1) X.A) (hg : Gl X x) (hm : X.mg x = some (.ref (He.ga X.K (Str.ofString c)))) (ha : DA X (e :: es) ma) (hn : (e :: es).length = n := by rfl)
    (nodbg : (x == ("__debug__" : Str)) = false := by decide) (plain1 : starEach (e :: es) X.env = (false, eval e X.env) :: starEach es X.env := by rfl) (plain2 : (backTo pos (starEach es X.env)).any (·.1) = false := by rfl) :
    DO X (.Call (.Name x p) (e :: es) [] pos) (mMakeI c mf ma) := ⟨fun W tk => by
  obtain ⟨f, fd, ps, fn, mk, bnd⟩ := h.ex
  obtain ⟨t, pa, ra⟩ := ha.ex W tk
  refine ⟨_, pe_makeS mk fn hr hg hm bnd (fun σ => passAt tk σ) pa nodbg plain1 plain2, fun g σ ρ Q rel q => ?_⟩
  unfold mMakeI at q
  rw [post_bind] at q
  refine ra g σ ρ _ rel (q.imp (fun ds S1 zz q1 g1 ws es1 p1 r1 => ?_) fun e S1 _ q1 => q1)
  subst es1
  by_cases nn : norL ds = true
  · rw [if_pos nn] at q1
    refine make_sp (g := g1.cut) (ok_cut p1.ok) (RepL.nor (Le.refl _) ds nn r1) ((ha.len _ _ _ _ zz).trans hn) (iso_post p1.ok ?_)
    exact q1.imp (fun s S2 _ q2 g2 v es2 p2 o => q2 g2 v es2 (p1.trans p2) (o.back p1)) fun e S2 _ q2 g2 cc dd es2 p2 x2 => q2 g2 cc dd es2 (p1.trans p2) x2
  · rw [if_neg nn] at q1; exact q1.elim⟩
theorem do_make0 (h : Ini X.prog X.w X.K X.mg X.base k c 0 mf) (hr : Room (k + 1) X.A) (hg : Gl X x) (hm : X.mg x = some (.ref (He.ga X.K (Str.ofString c)))) (nodbg : (x == ("__debug__" : Str)) = false := by decide) :
    DO X (.Call (.Name x p) [] [] pos) (mMake c mf aNil) := ⟨fun W tk => by
  obtain ⟨f, fd, ps, fn, mk, bnd⟩ := h.ex
  refine ⟨_, pe_makeS0 mk fn hr hg hm bnd (fun σ => passAt tk σ) nodbg, fun g σ ρ Q rel q => ?_⟩
  unfold mMake aNil at q
  exact make_sp rel.ok RepL.nil rfl q⟩
end

/-! ### o.f = e, o a cell of the store -/
def putFD (f : String) (d : D) : List (String × D) → List (String × D)
  | [] => [(f, d)]
  | (k, x) :: fs => if k = f then (k, d) :: fs else (k, x) :: putFD f d fs
section
variable {X : Cx} {K : PySem.W.Frag} {o value : Expr} {pos pos' : Pos}
theorem RepF.put {io : List Addr} {F : Hp} {f : String} {v : V} {d : D} (r : Rep K io F v d) : ∀ {fs : List (String × D)} {vs : List (Str × V)}, RepF K io F vs fs → RepF K io F (putF (Str.ofString f) v vs) (putFD f d fs)
  | [], vs, h => by
    simp only [RepF] at h; subst h
    simp only [putF, putFD, RepF]
    exact ⟨v, [], rfl, r, rfl⟩
  | (k, x) :: fs, vs, h => by
    simp only [RepF] at h
    obtain ⟨u, q, rfl, a, b⟩ := h
    unfold putF putFD
    by_cases z : k = f
    · subst z
      rw [if_pos rfl, if_pos rfl]
      simp only [RepF]
      exact ⟨v, q, rfl, r, b⟩
    · rw [if_neg z, if_neg (fun w => z (ofString_inj.mp w))]
      simp only [RepF]
      exact ⟨u, _, rfl, a, RepF.put r b⟩
theorem RepF.length {io : List Addr} {F : Hp} : ∀ {ds : List (String × D)} {vs : List (Str × V)}, RepF K io F vs ds → vs.length = ds.length
  | [], _, h => by simp only [RepF] at h; subst h; rfl
  | (k, d) :: ds, _, h => by
    simp only [RepF] at h
    obtain ⟨v, r, rfl, a, b⟩ := h
    simp only [List.length_cons, RepF.length b]
def sFldR (cs : List String) (f : String) (mo m : M D) : MS := fun ρ S => rBind (m ρ S) ρ fun d S1 => rBind (mo ρ S1) ρ fun x S2 => match x with
  | .ref n => match S2[n]? with
    | some (some (.obj c fs)) => if cs.contains c && decide (fs.length < 1000) then .nx ρ (S2.set n (some (.obj c (putFD f d fs)))) else .bad
    | _ => .bad
  | _ => .bad
theorem ds_fldR {cs : List String} {f : String} {mo m : M D} (ho : DV X o mo) (h : DV X value m) (hc : ∀ c ∈ cs, Cls X.K (He.ga X.K (Str.ofString c)) ∧ NoAttr X.K (He.ga X.K (Str.ofString c)) (Str.ofString f))
    (hs : swapsWith value (some (.Attribute o (Str.ofString f) pos')) pos.line X.env = pure false := by rfl) : DS X (.Assign [.Attribute o (Str.ofString f) pos'] value pos) (sFldR cs f mo m) := ⟨fun W tk => by
  obtain ⟨to, po, ro⟩ := ho.ex W tk
  obtain ⟨tv, pv, rv⟩ := h.ex W tk
  refine ⟨_, ps_fld po pv hs, fun E g σ ρ Dn rel q => ?_⟩
  unfold sFldR at q
  refine rv g σ ρ _ rel.s ((ends_bind rel q).imp (fun d S1 _ q1 g1 v es1 p1 r1 => ?_) fun e S1 _ q1 => q1)
  subst es1
  have rel1 := rel.post p1
  refine ro g1 σ ρ _ rel1.s ((ends_bind rel1 q1).imp (fun y S2 _ q2 g2 u es2 p2 r2 => ?_) fun e S2 _ q2 => q2)
  subst es2
  have rel2 := rel1.post p2
  have q3 := q2
  cases y with
  | ref n =>
    simp only at q3
    cases hn : g2.S[n]? with
    | none => rw [hn] at q3; exact q3.elim
    | some oc =>
      cases oc with
      | none => rw [hn] at q3; exact q3.elim
      | some cell =>
        cases cell with
        | lst _ => rw [hn] at q3; exact q3.elim
        | dic _ => rw [hn] at q3; exact q3.elim
        | obj c fs =>
          rw [hn] at q3
          simp only at q3
          by_cases cond : (cs.contains c && decide (fs.length < 1000)) = true
          · rw [if_pos cond] at q3
            rw [Bool.and_eq_true] at cond
            obtain ⟨a, e1, _, r⟩ := rel2.ok.cell n _ hn
            simp only [Rep] at r2
            obtain ⟨a', e2, rfl⟩ := r2
            rw [e1] at e2; cases e2
            obtain ⟨dx, fvs, hp, hd, rf⟩ := r
            obtain ⟨k1, k2⟩ := hc c (memS cond.1)
            refine ⟨a, _, dx, fvs, rfl, hp, k1, k2, by rw [rf.length]; exact of_decide_eq_true cond.2, ?_⟩
            have nd : dx ≠ a := fun z => by subst z; rw [hp] at hd; cases hd
            have p3 := Post.cellSet (c' := .obj c (putFD f d fs)) (o := .ins (He.ga X.K (Str.ofString c)) dx (putF (Str.ofString f) v fvs)) rel2.ok hn e1 hp (fun x z => by cases z) (fun x z => by cases z)
              ⟨dx, _, upd_same, (upd_ne nd).trans hd, RepF.put (p2.rep r1) rf⟩
            exact q3 _ σ rfl (rel2.post p3)
          · rw [if_neg cond] at q3; exact q3.elim
  | _ => exact q3.elim⟩
end
end FW
end
section
set_option maxHeartbeats 2000000
/-! FW22: a class's function called by the class, C.m(self, ..). -/
namespace FW
open PySem PySem.Spec PyProof.Rows L2
section
variable {X : Cx} {k n : Nat} {f C : Addr} {fd : FuncData} {ps : List Str} {sp : Sp} {E : L2.St → XK} {m : Str} {mc : Value} {apos pos : Pos} {o e : Expr} {es : List Expr} {to : TE} {t : TA}
def tClsFn (C : Addr) (sp : Sp) (E : L2.St → XK) (to : TE) (t : TA) : TE := fun σ H Q => to σ H fun x H1 => x = .ref C ∧ t σ H1 fun ws H2 => sp ws H2 Q (E σ)
theorem pe_clsfn {CX : CXT} {pl : Sem Bool} (po : PE X o to) (rd : ClX.CRead X.K C mc) (at_ : ClX.CVal X.K C mc m (.ref f) (.ref f)) (kp : PySem.W.keepIn X.K (.ref f) = true) (fn : FnOk X.prog X.w X.K X.mg X.base CX k f fd ps sp) (room : Room k X.A) (bnd : Binds X.K fd ps [])
    (out : ∀ σ, PassesAt CX X σ (E σ)) (args : PA X (e :: es) t) (plain1 : starEach (e :: es) X.env = (false, eval e X.env) :: starEach es X.env := by rfl) (plain2 : (backTo pos (starEach es X.env)).any (·.1) = false := by rfl)
    (shape : eval (.Call (.Attribute o m apos) (e :: es) [] pos) X.env = (eval o X.env >>= fun ov => standAt apos.atName >>= fun _ => holding [ov] (getMethod ov m pl) >>= fun q => callWith pos q.1 q.2 (backTo pos (starEach (e :: es) X.env)) (backToKw pos (keywordEach [] X.env))) := by rfl) :
    PE X (.Call (.Attribute o m apos) (e :: es) [] pos) (tClsFn C sp E to t) := ⟨fun pins s σ H Q I h => by
  refine PySem.W.methodCall_KW (pl := pl) (thn (po.run pins s σ H _ I h) fun u s1 got => ?_) shape
  obtain ⟨_, H1, I1, ru, rfl, go⟩ := got
  obtain rfl : u = Value.ref C := ru
  refine PySem.W.method_cls I1.kIn rd.ga (ClX.getcval_ok I1 rd at_ fun s2 I2 => ?_)
  exact PySem.W.callWith_K (first := []) (h₀ := X.base) I2.ok.mod.kin kp (thn (args.run pos pins s2 σ H1 _ I2 go) fun us s3 ⟨ws, H2, I3, rv, then_⟩ => ⟨I3.kIn, run_fnS fn room bnd (out σ) I3 rv then_⟩) plain1 plain2⟩
end
/-- the function m of the class c as c tells it, of n arguments -/
structure CFn (P : Program) (w : World) (K : PySem.W.Frag) (mg : Str → Option Value) (base : Heap) (k : Nat) (c m : String) (n : Nat) (mf : MF) : Prop where
  ex : ∃ (f : Addr) (fd : FuncData) (ps : List Str) (mc : Value), FnOk P w K mg base (L2.CX P w) k f fd ps (spD K n mf) ∧ ClX.CRead K (He.ga K (Str.ofString c)) mc ∧ ClX.CVal K (He.ga K (Str.ofString c)) mc (Str.ofString m) (.ref f) (.ref f) ∧ PySem.W.keepIn K (.ref f) = true ∧ Binds K fd ps []
theorem CFn.mono {P : Program} {w : World} {K : PySem.W.Frag} {mg : Str → Option Value} {base : Heap} {k k' : Nat} {c m : String} {n : Nat} {mf : MF} (h : CFn P w K mg base k c m n mf) (l : k ≤ k') : CFn P w K mg base k' c m n mf := by
  obtain ⟨f, fd, ps, mc, a, b⟩ := h.ex
  exact ⟨f, fd, ps, mc, a.mono l, b⟩
theorem do_clsfn {X : Cx} {k n : Nat} {c m : String} {x : Str} {p apos pos : Pos} {e : Expr} {es : List Expr} {mf : MF} {ma : M (List D)} {pl : Sem Bool} (h : CFn X.prog X.w X.K X.mg X.base k c m n mf) (hr : Room k X.A) (hg : Gl X x) (hm : X.mg x = some (.ref (He.ga X.K (Str.ofString c)))) (ha : DA X (e :: es) ma) (hn : (e :: es).length = n := by rfl)
    (hd : (x == ("__debug__" : Str)) = false := by decide) (plain1 : starEach (e :: es) X.env = (false, eval e X.env) :: starEach es X.env := by rfl) (plain2 : (backTo pos (starEach es X.env)).any (·.1) = false := by rfl)
    (shape : eval (.Call (.Attribute (.Name x p) (Str.ofString m) apos) (e :: es) [] pos) X.env = (eval (.Name x p) X.env >>= fun ov => standAt apos.atName >>= fun _ => holding [ov] (getMethod ov (Str.ofString m) pl) >>= fun q => callWith pos q.1 q.2 (backTo pos (starEach (e :: es) X.env)) (backToKw pos (keywordEach [] X.env))) := by rfl) :
    DO X (.Call (.Attribute (.Name x p) (Str.ofString m) apos) (e :: es) [] pos) (mFn mf ma) := ⟨fun W tk => by
  obtain ⟨f, fd, ps, mc, fn, rd, at_, kp, bnd⟩ := h.ex
  obtain ⟨t, pa, ra⟩ := ha.ex W tk
  refine ⟨_, pe_clsfn (pl := pl) (pe_glob (u := .ref (He.ga X.K (Str.ofString c))) (v := .ref (He.ga X.K (Str.ofString c))) hg hm rfl hd) rd at_ kp fn hr bnd (fun σ => passAt tk σ) pa plain1 plain2 shape, fun g σ ρ Q rel q => ⟨rfl, ?_⟩⟩
  unfold mFn at q
  rw [post_bind] at q
  refine ra g σ ρ _ rel (q.imp (fun ds S1 zz q1 g1 ws es1 p1 r1 => ?_) fun e S1 _ q1 => q1)
  subst es1
  exact ⟨g1, ds, rfl, p1.ok, r1, (ha.len _ _ _ _ zz).trans hn, q1.imp (fun s S2 _ q2 g2 v es2 p2 o => q2 g2 v es2 (p1.trans p2) (o.back p1)) fun e S2 _ q2 g2 cc dd es2 p2 x2 => q2 g2 cc dd es2 (p1.trans p2) x2⟩⟩
/-- what is asked of the head for it -/
def cfnB (K : PySem.W.Frag) (c m : String) : Bool := PySem.W.readsIn K (gaS K c) (.type "type") && (decide (PySem.W.specialIn K (.ref (gaS K c)) "__getattribute__" = some (some (.builtin "type.__getattribute__"))) &&
  (match PySem.W.findCls K (.ref (gaS K c)) (.type "type") (Str.ofString m) with
   | some (.val (.ref f)) => decide (f = He.ma K (gaS K c) (Str.ofString m))
   | _ => false))
theorem cfnB_ok {K : PySem.W.Frag} {c m : String} (h : cfnB K c m = true) : ClX.CRead K (He.ga K (Str.ofString c)) (.type "type") ∧ ClX.CVal K (He.ga K (Str.ofString c)) (.type "type") (Str.ofString m) (.ref (He.ma K (He.ga K (Str.ofString c)) (Str.ofString m))) (.ref (He.ma K (He.ga K (Str.ofString c)) (Str.ofString m))) := by
  unfold cfnB at h
  rw [Bool.and_eq_true, Bool.and_eq_true] at h
  obtain ⟨h1, h2, h3⟩ := h
  refine ⟨⟨h1, of_decide_eq_true h2⟩, ?_, rfl⟩
  split at h3
  · rename_i f z
    have := of_decide_eq_true h3
    rw [← show gaS K c = He.ga K (Str.ofString c) from rfl, ← this]; exact z
  · cases h3
end FW
end
section
set_option maxHeartbeats 2000000
/-! FW23: what is one's own goes into the store as a value; dicts read; in; slices; products of texts and lists. -/
namespace FW
open PySem PySem.Spec PyProof.Rows L2
section
variable {K : PySem.W.Frag} {g g' : G}
theorem CellRep.notown {p : Addr} {c : Cell} (r : CellRep K g p c) (x : Addr) : g.H p ≠ some (.own x) := fun z => by
  cases c with
  | lst xs => obtain ⟨vs, a, b⟩ := r; rw [a] at z; cases z
  | dic xs => obtain ⟨vs, a, b⟩ := r; rw [a] at z; cases z
  | obj c fs => obtain ⟨dx, vs, a, a2, b⟩ := r; rw [a] at z; cases z
theorem CellRep.more {g g2 : G} {p : Addr} {c : Cell} (hH : g2.H = g.H) (hF : g2.F = g.F) (pre : Pre g.io g2.io) (r : CellRep K g p c) : CellRep K g2 p c := by
  cases c with
  | lst xs => obtain ⟨vs, a, b⟩ := r; exact ⟨vs, by rw [hH]; exact a, by rw [hF]; exact RepL.mono (Le.refl _) pre _ b⟩
  | dic xs => obtain ⟨vs, a, b⟩ := r; exact ⟨vs, by rw [hH]; exact a, by rw [hF]; exact RepK.mono (Le.refl _) pre _ b⟩
  | obj c fs => obtain ⟨dx, vs, a, a2, b⟩ := r; exact ⟨dx, vs, by rw [hH]; exact a, by rw [hH]; exact a2, by rw [hF]; exact RepF.mono (Le.refl _) pre _ b⟩
def G.more (g : G) (p : Addr) (c : Cell) : G := { F := g.F, H := g.H, io := g.io ++ [p], S := g.S ++ [some c] }
theorem post_more {p : Addr} {c : Cell} (b : Post K g g') (n : NewAt g g' p) (hF : g'.F p = none) (hio : p ∉ g'.io) (r : CellRep K g' p c) : Post K g (g'.more p c) := by
  have pre : Pre g'.io (g'.io ++ [p]) := ⟨[p], rfl⟩
  have ok := b.ok
  refine ⟨⟨ok.le, by simp [G.more, ok.len], ?_, fun a x e m => ?_, ok.own, fun a m => ?_, fun i c1 e => ?_⟩, b.leF, b.pre.trans pre, b.fr, b.fz, fun a m => ?_, b.dom⟩
  · show (g'.io ++ [p]).Nodup
    rw [List.nodup_append]
    refine ⟨ok.nd, by simp, fun a ha b hb z => ?_⟩
    have hb' : b = p := by simpa using hb
    subst hb' z
    exact hio ha
  · rcases List.mem_append.mp m with z | z
    · exact ok.noown a x e z
    · have : a = p := by simpa using z
      subst this
      exact r.notown x e
  · rcases List.mem_append.mp m with z | z
    · exact ok.iod a z
    · have : a = p := by simpa using z
      subst this
      exact r.at_
  · have e' : (g'.S ++ [some c])[i]? = some (some c1) := e
    by_cases q : i < g'.S.length
    · rw [List.getElem?_append_left q] at e'
      obtain ⟨q', w1, w2, w3⟩ := ok.cell i c1 e'
      exact ⟨q', pre.get w1, w2, CellRep.more (g := g') (g2 := g'.more p c) rfl rfl pre w3⟩
    · rw [List.getElem?_append_right (by omega)] at e'
      have hi : i = g'.S.length := by
        by_cases z : i - g'.S.length = 0
        · omega
        · rw [List.getElem?_eq_none (by simp; omega)] at e'; cases e'
      subst hi
      simp at e'; subst e'
      exact ⟨p, by show (g'.io ++ [p])[g'.S.length]? = _; rw [← ok.len]; simp, hF, CellRep.more (g := g') (g2 := g'.more p c) rfl rfl pre r⟩
  · rcases List.mem_append.mp m with z | z
    · exact b.io a z
    · have : a = p := by simpa using z
      subst this
      exact .inr n.1
/-- what is one's own becomes a cell of the store -/
def toRef (s : Slot) (S : Sto) : R D := match s with
  | .own c => .ok (.ref S.length) (S ++ [some c])
  | .val d => .ok d S
  | .none => .bad
def mRef (m : M Slot) : M D := fun ρ S => (m ρ S).bind toRef
theorem dv_ref {X : Cx} {e : Expr} {m : M Slot} (h : DO X e m) : DV X e (mRef m) := ⟨fun W tk => by
  obtain ⟨t, pe, ro⟩ := h.ex W tk
  refine ⟨t, pe, fun g σ ρ Q rel q => ro g σ ρ Q rel ?_⟩
  unfold mRef at q
  rw [post_bind] at q
  refine q.imp (fun s S _ q g' v es p o => ?_) fun e S _ q => q
  subst es
  cases s with
  | none => exact o.elim
  | val d => exact q g' v rfl p o
  | own c =>
    obtain ⟨a, rfl, n, hF, hio, r⟩ := o
    refine q (g'.more a c) (.ref a) rfl (post_more p n hF hio r) ?_
    simp only [Rep]
    exact ⟨a, by show (g'.io ++ [a])[g'.S.length]? = _; rw [← p.ok.len]; simp, rfl⟩⟩
end

/-! ### dicts of plain data -/
def keyD : D → Option Key
  | .int i => some (.inl i)
  | .str s => some (.inr s)
  | _ => none
def valD : List (Key × D) → Key → Option D
  | [], _ => none
  | (k, d) :: r, x => if k = x then some d else valD r x
def putD : List (Key × D) → Key → D → List (Key × D)
  | [], x, d => [(x, d)]
  | (k, d0) :: r, x, d => if k = x then (k, d) :: r else (k, d0) :: putD r x d
def hasD : List (Key × D) → Key → Bool
  | [], _ => false
  | (k, _) :: r, x => decide (k = x) || hasD r x
/-- no key stands twice -/
def keysD : List (Key × D) → Bool
  | [] => true
  | (k, _) :: r => !hasD r k && keysD r
def dropD : List (Key × D) → Key → List (Key × D)
  | [], _ => []
  | (k, d) :: r, x => if k = x then dropD r x else (k, d) :: dropD r x
def mergeD : List (Key × D) → List (Key × D) → List (Key × D)
  | ks, [] => ks
  | ks, (k, d) :: r => mergeD (putD ks k d) r
section
variable {K : PySem.W.Frag} {io : List Addr} {F : Hp}
theorem key_rep {v : V} {d : D} {k : Key} (h : keyD d = some k) (r : Rep K io F v d) : v = kV k := by
  cases d with
  | int i => simp only [keyD, Option.some.injEq] at h; subst h; simp only [Rep] at r; exact r
  | str s => simp only [keyD, Option.some.injEq] at h; subst h; simp only [Rep] at r; exact r
  | _ => cases h
theorem RepK.val_some : ∀ {ds : List (Key × D)} {vs : List (Key × V)} {k : Key} {d : D}, RepK K io F vs ds → valD ds k = some d → ∃ v, valV vs k = some v ∧ Rep K io F v d
  | [], _, _, _, _, e => by cases e
  | (k0, d0) :: ds, vs, k, d, r, e => by
    simp only [RepK] at r
    obtain ⟨v, q, rfl, a, b⟩ := r
    simp only [valD] at e
    split at e
    · rename_i z; cases e
      exact ⟨v, valV_pos z, a⟩
    · rename_i z
      obtain ⟨w, h1, h2⟩ := RepK.val_some b e
      exact ⟨w, by rw [valV_neg z]; exact h1, h2⟩
theorem RepK.val_none : ∀ {ds : List (Key × D)} {vs : List (Key × V)} {k : Key}, RepK K io F vs ds → valD ds k = none → valV vs k = none
  | [], _, _, r, _ => by simp only [RepK] at r; subst r; rfl
  | (k0, d0) :: ds, vs, k, r, e => by
    simp only [RepK] at r
    obtain ⟨v, q, rfl, a, b⟩ := r
    simp only [valD] at e
    split at e
    · cases e
    · rename_i z
      rw [valV_neg z]; exact RepK.val_none b e
theorem RepK.has : ∀ {ds : List (Key × D)} {vs : List (Key × V)} (k : Key), RepK K io F vs ds → (vs.any fun kv => decide (kv.1 = k)) = hasD ds k
  | [], _, _, r => by simp only [RepK] at r; subst r; rfl
  | (k0, d0) :: ds, vs, k, r => by
    simp only [RepK] at r
    obtain ⟨v, q, rfl, a, b⟩ := r
    simp only [List.any_cons, hasD, RepK.has k b]
theorem RepK.map_none : ∀ {ds : List (Key × D)} {vs : List (Key × V)} {k : Key} (w : V), RepK K io F vs ds → hasD ds k = false → vs.map (fun kv => if kv.1 = k then (kv.1, w) else kv) = vs
  | [], _, _, _, r, _ => by simp only [RepK] at r; subst r; rfl
  | (k0, d0) :: ds, vs, k, w, r, e => by
    simp only [RepK] at r
    obtain ⟨v, q, rfl, a, b⟩ := r
    simp only [hasD, Bool.or_eq_false_iff, decide_eq_false_iff_not] at e
    simp only [List.map_cons, if_neg e.1, RepK.map_none w b e.2]
theorem RepK.putAll : ∀ {ds : List (Key × D)} {vs : List (Key × V)} {k : Key} {w : V} {d : D}, RepK K io F vs ds → keysD ds = true → hasD ds k = true → Rep K io F w d → RepK K io F (vs.map (fun kv => if kv.1 = k then (kv.1, w) else kv)) (putD ds k d)
  | [], _, _, _, _, _, _, h, _ => by cases h
  | (k0, d0) :: ds, vs, k, w, d, r, n, h, rw' => by
    simp only [RepK] at r
    obtain ⟨v, q, rfl, a, b⟩ := r
    simp only [keysD, Bool.and_eq_true, Bool.not_eq_true'] at n
    simp only [List.map_cons, putD]
    by_cases z : k0 = k
    · subst z
      rw [if_pos rfl, if_pos rfl, RepK.map_none w b n.1]
      simp only [RepK]
      exact ⟨w, q, rfl, rw', b⟩
    · rw [if_neg z, if_neg z]
      simp only [hasD, z, decide_false, Bool.false_or] at h
      simp only [RepK]
      exact ⟨v, _, rfl, a, RepK.putAll b n.2 h rw'⟩
theorem RepK.snoc : ∀ {ds : List (Key × D)} {vs : List (Key × V)} {k : Key} {w : V} {d : D}, RepK K io F vs ds → hasD ds k = false → Rep K io F w d → RepK K io F (vs ++ [(k, w)]) (putD ds k d)
  | [], _, k, w, d, r, _, h => by
    simp only [RepK] at r; subst r
    simp only [List.nil_append, putD, RepK]
    exact ⟨w, [], rfl, h, rfl⟩
  | (k0, d0) :: ds, vs, k, w, d, r, n, h => by
    simp only [RepK] at r
    obtain ⟨v, q, rfl, a, b⟩ := r
    simp only [hasD, Bool.or_eq_false_iff, decide_eq_false_iff_not] at n
    simp only [List.cons_append, putD, if_neg n.1, RepK]
    exact ⟨v, _, rfl, a, RepK.snoc b n.2 h⟩
theorem RepK.put {ds : List (Key × D)} {vs : List (Key × V)} {k : Key} {w : V} {d : D} (r : RepK K io F vs ds) (n : keysD ds = true) (h : Rep K io F w d) : RepK K io F (putK vs k w) (putD ds k d) := by
  unfold putK
  rw [r.has k]
  cases z : hasD ds k with
  | true => rw [if_pos rfl]; exact r.putAll n z h
  | false => rw [if_neg Bool.false_ne_true]; exact r.snoc z h
theorem RepK.drop : ∀ {ds : List (Key × D)} {vs : List (Key × V)} (k : Key), RepK K io F vs ds → RepK K io F (dropK vs k) (dropD ds k)
  | [], _, _, r => by simp only [RepK] at r; subst r; simp [dropK, dropD, RepK]
  | (k0, d0) :: ds, vs, k, r => by
    simp only [RepK] at r
    obtain ⟨v, q, rfl, a, b⟩ := r
    have t := RepK.drop k b
    unfold dropK at t ⊢
    simp only [dropD]
    by_cases z : k0 = k
    · subst z
      rw [if_pos rfl]
      simpa [List.filter_cons] using t
    · rw [if_neg z]
      simp only [List.filter_cons, ne_eq, z, not_false_eq_true, decide_true, if_true, RepK]
      exact ⟨v, _, rfl, a, t⟩
theorem hasD_put : ∀ (ds : List (Key × D)) (k : Key) (d : D) (x : Key), hasD (putD ds k d) x = (hasD ds x || decide (k = x))
  | [], k, d, x => by simp [putD, hasD]
  | (k0, d0) :: ds, k, d, x => by
    simp only [putD]
    split
    · rename_i z; subst z; simp only [hasD]; cases decide (k0 = x) <;> simp
    · simp only [hasD, hasD_put ds k d x, Bool.or_assoc]
theorem keysD_put : ∀ (ds : List (Key × D)) (k : Key) (d : D), keysD ds = true → keysD (putD ds k d) = true
  | [], k, d, _ => by simp [putD, keysD, hasD]
  | (k0, d0) :: ds, k, d, h => by
    simp only [keysD, Bool.and_eq_true, Bool.not_eq_true'] at h
    simp only [putD]
    split
    · simp only [keysD, Bool.and_eq_true, Bool.not_eq_true']; exact h
    · rename_i z
      simp only [keysD, Bool.and_eq_true, Bool.not_eq_true', hasD_put, Bool.or_eq_false_iff, decide_eq_false_iff_not]
      exact ⟨⟨h.1, fun w => z w.symm⟩, keysD_put ds k d h.2⟩
theorem length_putD : ∀ (ds : List (Key × D)) (k : Key) (d : D), (putD ds k d).length ≤ ds.length + 1
  | [], k, d => by simp [putD]
  | (k0, d0) :: ds, k, d => by
    simp only [putD]
    split
    · simp
    · have := length_putD ds k d
      simp only [List.length_cons]; omega
end

/-! ### o[i], o a dict, a list, a tuple, a text -/
def opSb (S : Sto) (x i : D) : Option Slot := match lookD S x with
  | .dic ks => match keyD i with
    | some k => (valD ks k).map .val
    | none => none
  | _ => opIx S x i
section
variable {X : Cx} {e a b c : Expr} {ma mb mc : M D} {pos : Pos} {K : PySem.W.Frag}
theorem pe_or {t u : TE} (h : PE X e t) (h2 : PE X e u) : PE X e (fun σ H Q => t σ H Q ∨ u σ H Q) := ⟨fun pins s σ H Q I q => q.elim (h.run pins s σ H Q I) (h2.run pins s σ H Q I)⟩
theorem do_sub (hu : X.A.units + 64 < cLine) (hs : PlainIx b) (hs2 : NoSl b) (ha : DV X a ma) (hb : DV X b mb) : DO X (.Subscript a b pos) (mBin opSb ma mb) := ⟨fun W tk => by
  obtain ⟨ta, pa, ra⟩ := ha.ex W tk
  obtain ⟨tb, pb, rb⟩ := hb.ex W tk
  refine ⟨_, pe_or (pe_ix ix_seq pa pb hs) (pe_dget (by omega) pa pb hs2), fun g σ ρ Q rel q => ?_⟩
  by_cases hd : ∃ x S1 y S2 ks, ma ρ g.S = .ok x S1 ∧ mb ρ S1 = .ok y S2 ∧ lookD S2 x = .dic ks
  · refine .inr ?_
    obtain ⟨x, S1, y, S2, ks, h1, h2, h3⟩ := hd
    unfold mBin at q
    rw [h1] at q
    refine ra g σ ρ _ rel ?_
    rw [h1]
    intro g1 u es p1 r1
    subst es
    simp only [R.bind] at q
    rw [h2] at q
    refine rb g1 σ ρ _ (rel.post p1) ?_
    rw [h2]
    intro g2 w es p2 r2
    subst es
    simp only [R.bind, lift2, opSb, h3] at q
    obtain ⟨p, kvs, rfl, hp, rk⟩ := look_dic p2.ok (p2.rep r1) h3
    cases z : keyD y with
    | none => rw [z] at q; exact q.elim
    | some k =>
      rw [z] at q
      simp only at q
      cases z2 : valD ks k with
      | none => rw [z2] at q; exact q.elim
      | some d =>
        rw [z2] at q
        obtain ⟨v, e1, e2⟩ := rk.val_some z2
        have hk := key_rep z r2
        subst hk
        exact ⟨p, v, rfl, by rw [← e1]; exact DGet.k hp, q g2 v rfl (p1.trans p2) e2⟩
  · refine .inl (ro_op r_ix ra rb g σ ρ Q rel ?_)
    have e : mBin opIx ma mb ρ g.S = mBin opSb ma mb ρ g.S := by
      unfold mBin
      cases h1 : ma ρ g.S with
      | bad => rfl
      | err _ _ => rfl
      | ok x S1 =>
        simp only [R.bind]
        cases h2 : mb ρ S1 with
        | bad => rfl
        | err _ _ => rfl
        | ok y S2 =>
          simp only [lift2]
          have : opSb S2 x y = opIx S2 x y := by
            unfold opSb
            split
            · rename_i ks h3; exact absurd ⟨x, S1, y, S2, ks, h1, h2, h3⟩ hd
            · rfl
          rw [this]
    rw [e]; exact q⟩

/-! ### in, not in -/
def flatD : D → Bool
  | .non => true | .bl _ => true | .int _ => true | .str _ => true
  | _ => false
def cIn (S : Sto) (x y : D) : Option Bool := match lookD S y with
  | .dic ks => (keyD x).map fun k => (valD ks k).isSome
  | .lst ys => if flatD x && ys.all flatD then some (ys.any fun z => eqD z x) else none
  | .tup ys => if flatD x && ys.all flatD then some (ys.any fun z => eqD z x) else none
  | .str z => match x with
    | .str s => match s.cps.toList with
      | [c] => some (decide (c ∈ z.cps.toList))
      | _ => some (!(Builtin.Str.occurrences z s 0 z.length 1).isEmpty)
    | _ => none
  | _ => none
def cNotIn (S : Sto) (x y : D) : Option Bool := (cIn S x y).map not
theorem flat_V {io F} {v : V} {d : D} (h : flatD d = true) (r : Rep K io F v d) : flatV v = true := by
  cases d <;> simp [flatD] at h <;> (simp only [Rep] at r; subst r; rfl)
theorem flat_all {io F} : ∀ {ds : List D} {vs : List V}, ds.all flatD = true → RepL K io F vs ds → vs.all flatV = true
  | [], _, _, r => by simp only [RepL] at r; subst r; rfl
  | d :: ds, _, h, r => by
    simp only [RepL] at r
    obtain ⟨v, q, rfl, a, b⟩ := r
    simp only [List.all_cons, Bool.and_eq_true] at h ⊢
    exact ⟨flat_V h.1 a, flat_all h.2 b⟩
theorem flat_eq {io F} {u v : V} {d e : D} (h : flatD d = true) (h2 : flatD e = true) (r : Rep K io F u d) (r2 : Rep K io F v e) : eqV u v = eqD d e := by
  cases d <;> simp [flatD] at h <;> cases e <;> simp [flatD] at h2 <;> (simp only [Rep] at r r2; subst r r2; simp [eqV, eqD, Bool.beq_eq_decide_eq])
theorem flat_in {io F} {v : V} {e : D} (h2 : flatD e = true) (r2 : Rep K io F v e) : ∀ {ds : List D} {vs : List V}, ds.all flatD = true → RepL K io F vs ds → inV v vs = ds.any fun z => eqD z e
  | [], _, _, r => by simp only [RepL] at r; subst r; rfl
  | d :: ds, _, h, r => by
    simp only [RepL] at r
    obtain ⟨v, q, rfl, a, b⟩ := r
    simp only [List.all_cons, Bool.and_eq_true] at h
    unfold inV
    simp only [List.any_cons, flat_eq h.1 h2 a r2]
    have := flat_in h2 r2 h.2 b
    unfold inV at this
    rw [this]
def rDIn : R2 := fun x y H Q => ∃ (p : Addr) (o : Option V), y = .ref p ∧ DGet H p x o ∧ Q (.bl o.isSome) H
def rDNot : R2 := fun x y H Q => ∃ (p : Addr) (o : Option V), y = .ref p ∧ DGet H p x o ∧ Q (.bl (!o.isSome)) H
theorem op_dIn (hu : X.A.units + 64 < cLine) : OpR X (compareOp .In) rDIn := fun pins s σ H x y v u Q I rx ry ⟨p, o, ey, dg, q⟩ => by
  subst ey
  obtain rfl : u = Value.ref p := ry
  exact d_in (by omega) I dg rx fun s3 I3 => ⟨.bl o.isSome, H, I3, rfl, q⟩
theorem op_dNot (hu : X.A.units + 64 < cLine) : OpR X (compareOp .NotIn) rDNot := fun pins s σ H x y v u Q I rx ry ⟨p, o, ey, dg, q⟩ => by
  subst ey
  obtain rfl : u = Value.ref p := ry
  exact d_notIn (by omega) I dg rx fun s3 I3 => ⟨.bl (!o.isSome), H, I3, rfl, q⟩
abbrev rSgnIn : R2 := fun x y H Q => ∃ (c : Nat) (z : Str), x = .str ⟨#[c]⟩ ∧ y = .str z ∧ Q (.bl (decide (c ∈ z.cps.toList))) H
abbrev rSgnNot : R2 := fun x y H Q => ∃ (c : Nat) (z : Str), x = .str ⟨#[c]⟩ ∧ y = .str z ∧ Q (.bl (!decide (c ∈ z.cps.toList))) H
abbrev rTxtIn : R2 := fun x y H Q => ∃ i j, x = .str i ∧ y = .str j ∧ Q (.bl (!(Builtin.Str.occurrences j i 0 j.length 1).isEmpty)) H
abbrev rTxtNot : R2 := fun x y H Q => ∃ i j, x = .str i ∧ y = .str j ∧ Q (.bl (!(!(Builtin.Str.occurrences j i 0 j.length 1).isEmpty))) H
abbrev rInAll (K : PySem.W.Frag) : R2 := fun x y H Q => rIn K false x y H Q ∨ rDIn x y H Q ∨ rSgnIn x y H Q ∨ rTxtIn x y H Q
abbrev rNotAll (K : PySem.W.Frag) : R2 := fun x y H Q => rIn K true x y H Q ∨ rDNot x y H Q ∨ rSgnNot x y H Q ∨ rTxtNot x y H Q
theorem op_inAll (hu : X.A.units + 64 < cLine) : OpR X (compareOp .In) (rInAll X.K) := op_in_seq.or ((op_dIn hu).or (op_in_sign.or op_in_str))
theorem op_notAll (hu : X.A.units + 64 < cLine) : OpR X (compareOp .NotIn) (rNotAll X.K) := op_notIn_seq.or ((op_dNot hu).or (op_notIn_sign.or op_notin_str))
theorem sgn_of {s : Str} {c : Nat} (h : s.cps.toList = [c]) : s = ⟨#[c]⟩ := by
  cases s with
  | mk a => simp only at h; congr 1; apply Array.toList_inj.mp; rw [h]
theorem DGet.fz {H : Hp} {a : Addr} {kvs : List (Key × V)} {k : Key} (e : H a = some (.dK kvs)) : DGet H a (kV k) (valV kvs k) := .inl ⟨kvs, k, .inl e, rfl, rfl⟩
theorem r_in : RCmp K (rInAll K) cIn := by
  intro g x y dx dy s Q ok rx ry e q
  unfold cIn at e
  split at e
  · rename_i ks h
    obtain ⟨p, kvs, rfl, hp, rk⟩ := look_dic ok ry h
    cases z : keyD dx with
    | none => rw [z] at e; cases e
    | some k =>
      rw [z] at e; cases e
      have hk := key_rep z rx
      subst hk
      refine .inr (.inl ⟨p, valV kvs k, rfl, DGet.fz hp, ?_⟩)
      have : (valV kvs k).isSome = (valD ks k).isSome := by
        cases w : valD ks k with
        | none => rw [rk.val_none w]; rfl
        | some d => obtain ⟨v, e1, _⟩ := rk.val_some w; rw [e1]; rfl
      rw [this]; exact q
  · rename_i ys h
    obtain ⟨p, vs, rfl, hp, rl⟩ := look_lst ok ry h
    split at e
    · rename_i c
      rw [Bool.and_eq_true] at c
      cases e
      refine .inl ⟨p, vs, rfl, .inl hp, flat_V c.1 rx, flat_all c.2 rl, ?_⟩
      rw [if_neg Bool.false_ne_true, flat_in c.1 rx c.2 rl]; exact q
    · cases e
  · rename_i ys h
    obtain ⟨p, vs, rfl, hp, rl⟩ := look_tup ok ry h
    split at e
    · rename_i c
      rw [Bool.and_eq_true] at c
      cases e
      refine .inl ⟨p, vs, rfl, .inr (SqT.of (ok.le _ _ hp)), flat_V c.1 rx, flat_all c.2 rl, ?_⟩
      rw [if_neg Bool.false_ne_true, flat_in c.1 rx c.2 rl]; exact q
    · cases e
  · rename_i z h
    have := look_str h; subst this
    simp only [Rep] at ry; subst ry
    split at e
    · rename_i w
      simp only [Rep] at rx; subst rx
      split at e
      · rename_i c h1
        cases e
        exact .inr (.inr (.inl ⟨c, z, by rw [sgn_of h1], rfl, q⟩))
      · cases e
        exact .inr (.inr (.inr ⟨w, z, rfl, rfl, q⟩))
    · cases e
  · cases e
theorem r_notin : RCmp K (rNotAll K) cNotIn := by
  intro g x y dx dy s Q ok rx ry e q
  unfold cNotIn cIn at e
  split at e
  · rename_i ks h
    obtain ⟨p, kvs, rfl, hp, rk⟩ := look_dic ok ry h
    cases z : keyD dx with
    | none => rw [z] at e; cases e
    | some k =>
      rw [z] at e; cases e
      have hk := key_rep z rx
      subst hk
      refine .inr (.inl ⟨p, valV kvs k, rfl, DGet.fz hp, ?_⟩)
      have : (valV kvs k).isSome = (valD ks k).isSome := by
        cases w : valD ks k with
        | none => rw [rk.val_none w]; rfl
        | some d => obtain ⟨v, e1, _⟩ := rk.val_some w; rw [e1]; rfl
      rw [this]; exact q
  · rename_i ys h
    obtain ⟨p, vs, rfl, hp, rl⟩ := look_lst ok ry h
    split at e
    · rename_i c
      rw [Bool.and_eq_true] at c
      cases e
      refine .inl ⟨p, vs, rfl, .inl hp, flat_V c.1 rx, flat_all c.2 rl, ?_⟩
      rw [if_pos rfl, flat_in c.1 rx c.2 rl]; exact q
    · cases e
  · rename_i ys h
    obtain ⟨p, vs, rfl, hp, rl⟩ := look_tup ok ry h
    split at e
    · rename_i c
      rw [Bool.and_eq_true] at c
      cases e
      refine .inl ⟨p, vs, rfl, .inr (SqT.of (ok.le _ _ hp)), flat_V c.1 rx, flat_all c.2 rl, ?_⟩
      rw [if_pos rfl, flat_in c.1 rx c.2 rl]; exact q
    · cases e
  · rename_i z h
    have := look_str h; subst this
    simp only [Rep] at ry; subst ry
    split at e
    · rename_i w
      simp only [Rep] at rx; subst rx
      split at e
      · rename_i c h1
        cases e
        exact .inr (.inr (.inl ⟨c, z, by rw [sgn_of h1], rfl, q⟩))
      · cases e
        exact .inr (.inr (.inr ⟨w, z, rfl, rfl, q⟩))
    · cases e
  · cases e
end
end FW
end
section
set_option maxHeartbeats 2000000
/-! FW24: slices, products, texts, displays of dicts, dict(..), tuple(..), get, greatest and least of lists. -/
namespace FW
open PySem PySem.Spec PyProof.Rows L2
section
variable {X : Cx} {e a b c : Expr} {es : List Expr} {ma mb mc : M D} {pos apos : Pos} {K : PySem.W.Frag}

/-! ### slices -/
def RP (K : PySem.W.Frag) (t : TO) (W : WX) (m : M (Option Int)) : Prop := ∀ (g : G) (σ : L2.St) (ρ : List Slot) (Q : Option Int → Hp → Prop), RelS K g σ ρ →
  (m ρ g.S).post (fun o S' => ∀ g', g'.S = S' → Post K g g' → Q o g'.H) (fun e S' => ∀ g' c dd, g'.S = S' → Post K g g' → RepX K g' c dd e → W c dd σ g'.H) → t σ g.H Q
structure DP (X : Cx) (e : Option Expr) (m : M (Option Int)) : Prop where
  ex : ∀ W, Takes X W → ∃ t, PO X e t ∧ RP X.K t W m
def pNo : M (Option Int) := fun _ S => .ok none S
def pAt (m : M D) : M (Option Int) := fun ρ S => (m ρ S).bind fun d S1 => match d with
  | .int i => .ok (some i) S1
  | _ => .bad
theorem dp_no : DP X none pNo := ⟨fun W tk => ⟨_, po_none, fun g σ ρ Q rel q => q g rfl (Post.refl rel.ok)⟩⟩
theorem dp_at (ha : DV X a ma) : DP X (some a) (pAt ma) := ⟨fun W tk => by
  obtain ⟨t, pa, ra⟩ := ha.ex W tk
  refine ⟨_, po_some pa, fun g σ ρ Q rel q => ?_⟩
  unfold pAt at q
  rw [post_bind] at q
  refine ra g σ ρ _ rel (q.imp (fun d S1 _ q1 g1 v es p1 r1 => ?_) fun e S1 _ q1 => q1)
  cases d with
  | int i => simp only [Rep] at r1; exact ⟨i, r1, q1 g1 es p1⟩
  | _ => exact q1.elim⟩
def cutD (xs : List D) (lo hi : Option Int) : List D := (xs.drop (HT.sIx xs.length 0 lo)).take (HT.sIx xs.length xs.length hi - HT.sIx xs.length 0 lo)
theorem RepL.cut {io F} {vs : List V} {ds : List D} (r : RepL K io F vs ds) (lo hi : Option Int) : RepL K io F (cutV vs lo hi) (cutD ds lo hi) := by
  unfold cutV cutD
  rw [r.length]
  exact RepL.take _ (RepL.drop _ r)
def opSl (S : Sto) (x : D) (lo hi : Option Int) : Option Slot := match lookD S x with
  | .lst xs => some (.own (.lst (cutD xs lo hi)))
  | .str z => if z.length ≤ 1000000 then some (.val (.str (cutS z lo hi))) else none
  | _ => none
def mSl (m : M D) (l h : M (Option Int)) : M Slot := fun ρ S => (m ρ S).bind fun x S1 => (l ρ S1).bind fun lo S2 => (h ρ S2).bind fun hi S3 => match opSl S3 x lo hi with
  | some s => .ok s S3
  | none => .bad
theorem do_sl {lo hi : Option Expr} {ml mh : M (Option Int)} {p2 : Pos} (ha : DV X a ma) (hl : DP X lo ml) (hh : DP X hi mh) : DO X (.Subscript a (.Slice lo hi none p2) pos) (mSl ma ml mh) := ⟨fun W tk => by
  obtain ⟨ta, pa, ra⟩ := ha.ex W tk
  obtain ⟨tl, pl, rl⟩ := hl.ex W tk
  obtain ⟨th, ph, rh⟩ := hh.ex W tk
  refine ⟨_, pe_slice (sl_list.or sl_str) pa pl ph, fun g σ ρ Q rel q => ?_⟩
  unfold mSl at q
  rw [post_bind] at q
  refine ra g σ ρ _ rel (q.imp (fun dx S1 e1 q1 g1 x es p1 r1 => ?_) fun e S1 _ q1 => q1)
  subst es
  rw [post_bind] at q1
  refine rl g1 σ ρ _ (rel.post p1) (q1.imp (fun l S2 e2 q2 g2 es2 p2 => ?_) fun e S2 _ q2 => err_on (x := fun _ _ => True) p1 q2)
  subst es2
  rw [post_bind] at q2
  refine rh g2 σ ρ _ ((rel.post p1).post p2) (q2.imp (fun h S3 e3 q3 g3 es3 p3 => ?_) fun e S3 _ q3 => err_on (x := fun _ _ => True) (p1.trans p2) q3)
  subst es3
  have r3 := p3.rep (p2.rep r1)
  unfold opSl at q3
  split at q3
  · rename_i s hs
    split at hs
    · rename_i xs hx
      cases hs
      obtain ⟨p, vs, rfl, hp, rl⟩ := look_lst p3.ok r3 hx
      refine .inl ⟨p, vs, rfl, hp, fun l' hl' => ?_⟩
      obtain ⟨p4, o⟩ := out_lst p3.ok hl' (rl.cut l h)
      exact q3 (g3.lay l' _) _ rfl (((p1.trans p2).trans p3).trans p4) (OutRep.back ((p1.trans p2).trans p3) o)
    · rename_i z hx
      have := look_str hx; subst this
      simp only [Rep] at r3; subst r3
      split at hs
      · rename_i hz
        cases hs
        exact .inr ⟨z, rfl, lim_ok hz, q3 g3 _ rfl ((p1.trans p2).trans p3) (by simp only [OutRep, Rep])⟩
      · cases hs
    · cases hs
  · exact q3.elim⟩

/-! ### products -/
def mulOk (x : Str) (n : Int) : Bool := decide (0 ≤ n) && (decide (n ≤ 1000) && decide (x.length ≤ 1000))
theorem tooShort {n : Nat} (h : n ≤ sizeLine) : Builtin.Str.tooLong n = false := by
  unfold Builtin.Str.tooLong
  simp; omega
theorem mulOk_ok {x : Str} {n : Int} (h : mulOk x n = true) : MulOk x n := by
  unfold mulOk at h
  simp only [Bool.and_eq_true, decide_eq_true_eq] at h
  obtain ⟨h1, h2, h3⟩ := h
  refine ⟨?_, fun hn _ => ?_, fun hn _ => ?_⟩
  · have a : decide (n < -(2 ^ 63 : Int)) = false := decide_eq_false (by omega)
    have b : decide (n ≥ (2 ^ 63 : Int)) = false := decide_eq_false (by omega)
    rw [a, b]; rfl
  · have : (1000 : Int) ≤ (2 ^ 63 - 1) / n := by
      rw [Int.le_ediv_iff_mul_le (by omega)]
      have : 1000 * n ≤ 1000 * 1000 := by omega
      omega
    omega
  · have : x.length * n.toNat ≤ 1000 * 1000 := Nat.mul_le_mul h3 (by omega)
    exact tooShort (lim_ok this)
abbrev rTxtMul : R2 := fun x y H Q => ∃ i n, x = .str i ∧ y = .int n ∧ MulOk i n ∧ Q (.str (Txt.mul i n)) H
theorem op_mul_txt : OpR X (binaryOp .Mult) rTxtMul := fun pins s σ H x y v u Q I rx ry ⟨i, n, ex, ey, ok, then_⟩ => by
  subst ex ey
  obtain ⟨t, rfl⟩ := rx
  obtain ⟨t', rfl⟩ := ry
  exact PySem.SB.mul ok fun tk k => ⟨.str (Txt.mul i n), H, I.tok k, ⟨_, rfl⟩, then_⟩
/-- products of whole numbers: one of them small, or both of them not too great -/
def fMulA (i j : Int) : Option Int := if (-(2 ^ 64) < j ∧ j < 2 ^ 64) ∨ (-(2 ^ 600) < i ∧ i < 2 ^ 600 ∧ -(2 ^ 600) < j ∧ j < 2 ^ 600) then some (i * j) else none
def opMul (S : Sto) (x y : D) : Option Slot := match x with
  | .str z => match y with
    | .int n => if mulOk z n then some (.val (.str (Txt.mul z n))) else none
    | _ => none
  | _ => opI2 fMulA S x y
abbrev CMulA (i j : Int) : Prop := CMul i j ∨ CMulW i j
theorem r_mulB : ROp K (rI CMulA fun i j => .int (i * j)) (opI2 fMulA) := r_i2 fun i j k z => by
  unfold fMulA at z
  split at z
  · rename_i h
    refine ⟨?_, by simpa using z⟩
    rcases h with h | ⟨h1, h2, h3, h4⟩
    · exact .inl (.inr h)
    · exact .inr (wide_mul (nat_lt_of_int h1 h2) (nat_lt_of_int h3 h4) (by decide) (by decide) (by decide))
  · cases z
theorem r_mulA : ROp K (fun x y H Q => (rI CMulA fun i j => .int (i * j)) x y H Q ∨ rTxtMul x y H Q) opMul := by
  intro g x y dx dy s Q ok rx ry e h
  unfold opMul at e
  split at e
  · split at e
    · split at e
      · rename_i hz
        cases e
        simp only [Rep] at rx ry
        exact .inr ⟨_, _, rx, ry, mulOk_ok hz, h g _ rfl (Post.refl ok) (by simp only [OutRep, Rep])⟩
      · cases e
    · cases e
  · exact .inl (r_mulB g x y dx dy s Q ok rx ry e h)
theorem op_mulI : OpR X (binaryOp .Mult) (rI CMulA fun i j => .int (i * j)) := opI fun _ _ _ _ _ _ _ hc q => mul_int q (hc.elim CMul.ok CMulW.ok)
theorem op_mulA : OpR X (binaryOp .Mult) (fun x y H Q => (rI CMulA fun i j => .int (i * j)) x y H Q ∨ rTxtMul x y H Q) := op_mulI.or op_mul_txt
/-- [..] * n -/
def mRep (ma : M Slot) (mb : M D) : M Slot := fun ρ S => (ma ρ S).bind fun s S1 => match s with
  | .own (.lst xs) => (mb ρ S1).bind fun y S2 => match y with
    | .int n => if -1000000 ≤ n ∧ n ≤ 1000000 ∧ xs.length * n.toNat ≤ 1000000 then .ok (.own (.lst (List.replicate n.toNat xs).flatten)) S2 else .bad
    | _ => .bad
  | _ => .bad
theorem RepL.rep {io F} {vs : List V} {ds : List D} (r : RepL K io F vs ds) : ∀ n : Nat, RepL K io F (List.replicate n vs).flatten (List.replicate n ds).flatten
  | 0 => by simpa using RepL.nil
  | n + 1 => by
    simp only [List.replicate_succ, List.flatten_cons]
    exact r.append (RepL.rep r n)
theorem do_rep {ma : M Slot} (ha : DO X a ma) (hb : DV X b mb) : DO X (.BinOp a .Mult b pos) (mRep ma mb) := ⟨fun W tk => by
  obtain ⟨ta, pa, ra⟩ := ha.ex W tk
  obtain ⟨tb, pb, rb⟩ := hb.ex W tk
  refine ⟨_, pe_op op_rep pa pb, fun g σ ρ Q rel q => ?_⟩
  unfold mRep at q
  rw [post_bind] at q
  refine ra g σ ρ _ rel (q.imp (fun s S1 e1 q1 g1 x es p1 o1 => ?_) fun e S1 _ q1 => q1)
  subst es
  cases s with
  | none => exact q1.elim
  | val d => exact q1.elim
  | own cc =>
    cases cc with
    | dic _ => exact q1.elim
    | obj _ _ => exact q1.elim
    | lst xs =>
      simp only at q1
      rw [post_bind] at q1
      obtain ⟨p, rfl, n1, hF, hio, r⟩ := o1
      refine rb g1 σ ρ _ (rel.post p1) (q1.imp (fun y S2 e2 q2 g2 v es2 p2 r2 => ?_) fun e S2 _ q2 => err_on (x := fun _ _ => True) p1 q2)
      subst es2
      cases y with
      | int n =>
        simp only at q2
        split at q2
        · rename_i hn
          obtain ⟨_, _, vs, hv, rl⟩ := p2.own p1.ok hF hio r
          simp only [Rep] at r2; subst r2
          refine ⟨p, n, vs, rfl, rfl, hv, by omega, by omega, by rw [rl.length]; exact lim_ok hn.2.2, fun l' hl' => ?_⟩
          obtain ⟨p4, o⟩ := out_lst p2.ok hl' (rl.rep n.toNat)
          exact q2 (g2.lay l' _) _ rfl ((p1.trans p2).trans p4) (OutRep.back (p1.trans p2) o)
        · exact q2.elim
      | _ => exact q2.elim⟩

/-! ### methods of texts, with one argument -/
def RTM (K : PySem.W.Frag) (r : V → List V → Hp → VK → Prop) (f : Sto → Str → D → Option Slot) : Prop := ∀ (g : G) (z : Str) (y : V) (dy : D) (s : Slot) (Q : VK), Ok K g → Rep K g.io g.F y dy → f g.S z dy = some s →
  (∀ g' v, g'.S = g.S → Post K g g' → OutRep K g g' v s → Q v g'.H) → r (.str z) [y] g.H Q
def mTM (f : Sto → Str → D → Option Slot) (mo me : M D) : M Slot := fun ρ S => (mo ρ S).bind fun x S1 => match x with
  | .str z => (me ρ S1).bind fun y S2 => match f S2 z y with
    | some s => .ok s S2
    | none => .bad
  | _ => .bad
theorem do_tm {id : String} {name : Str} {r : V → List V → Hp → VK → Prop} {f : Sto → Str → D → Option Slot} (slot : PySem.Slot "str" name id) (ty : typeOf (.builtin id) = pure (.type "method_descriptor")) (rule : MtR X id r) (hr : RTM X.K r f) (ha : DV X a ma) (hb : DV X b mb)
    (hs : starEach [b] X.env = [(false, eval b X.env)] := by rfl) (hbase : attributeBase a name X.env (eval a X.env) = eval a X.env := by rfl) (hline : (apos.endLine == pos.line) = true := by rfl) : DO X (.Call (.Attribute a name apos) [b] [] pos) (mTM f ma mb) := ⟨fun W tk => by
  obtain ⟨ta, pa, ra⟩ := ha.ex W tk
  obtain ⟨tb, pb, rb⟩ := hb.ex W tk
  refine ⟨_, pe_m1 slot ty rule pa pb hs hbase hline, fun g σ ρ Q rel q => ?_⟩
  unfold mTM at q
  rw [post_bind] at q
  refine ra g σ ρ _ rel (q.imp (fun dx S1 e1 q1 g1 x es p1 r1 => ?_) fun e S1 _ q1 => q1)
  subst es
  cases dx with
  | str z =>
    simp only [Rep] at r1; subst r1
    refine ⟨⟨z, rfl⟩, ?_⟩
    simp only at q1
    rw [post_bind] at q1
    refine rb g1 σ ρ _ (rel.post p1) (q1.imp (fun dy S2 e2 q2 g2 y es2 p2 r2 => ?_) fun e S2 _ q2 => err_on (x := fun _ _ => True) p1 q2)
    subst es2
    cases h : f g2.S z dy with
    | none => rw [h] at q2; exact q2.elim
    | some s => rw [h] at q2; exact hr g2 z y dy s _ p2.ok r2 h fun g3 v es p3 o => q2 g3 v es ((p1.trans p2).trans p3) (OutRep.back (p1.trans p2) o)
  | _ => exact q1.elim⟩
def strsD : List D → Option (List Str)
  | [] => some []
  | .str i :: ds => (strsD ds).map (i :: ·)
  | _ :: _ => none
theorem strsD_eq : ∀ {ds : List D} {ns : List Str}, strsD ds = some ns → ds = ns.map D.str
  | [], _, h => by cases h; rfl
  | d :: ds, ns, h => by
    cases d <;> first | (cases h; done) | skip
    simp only [strsD] at h
    cases q : strsD ds with
    | none => rw [q] at h; cases h
    | some ms => rw [q] at h; cases h; rw [strsD_eq q]; rfl
theorem strsD_map : ∀ ns : List Str, strsD (ns.map D.str) = some ns
  | [] => rfl
  | n :: ns => by simp only [List.map_cons, strsD, strsD_map ns, Option.map_some]
def joinOk (a : Str) (ss : List Str) : Bool := decide ((ss.map (·.length)).sum + ss.length * a.length ≤ 1000000)
def fJoin (S : Sto) (a : Str) (y : D) : Option Slot := match lookD S y with
  | .lst ys => match strsD ys with
    | some ss => if joinOk a ss then some (.val (.str (Txt.join a ss))) else none
    | none => none
  | _ => none
abbrev rJoin (K : PySem.W.Frag) : V → List V → Hp → VK → Prop := fun x xs H Q => ∃ a p, ∃ ys : List Str, x = .str a ∧ xs = [.ref p] ∧ (SqL K H p (ys.map V.str) ∨ SqT K H p (ys.map V.str)) ∧ (ys.map (·.length)).sum + ys.length * a.length ≤ 16777216 ∧ Q (.str (Txt.join a ys)) H
theorem r_join : RTM K (rJoin K) fJoin := by
  intro g z y dy s Q ok ry e h
  unfold fJoin at e
  split at e
  · rename_i ys hy
    obtain ⟨p, vs, rfl, hp, rl⟩ := look_lst ok ry hy
    split at e
    · rename_i ss hs
      split at e
      · rename_i hz
        cases e
        rw [strsD_eq hs] at rl
        have := rl.strs; subst this
        have := of_decide_eq_true hz
        exact ⟨z, p, ss, rfl, rfl, .inl hp, by omega, h g _ rfl (Post.refl ok) (by simp only [OutRep, Rep])⟩
      · cases e
    · cases e
  · cases e
def fSplit (S : Sto) (a : Str) (y : D) : Option Slot := match y with
  | .str b => if b.length ≠ 0 ∧ a.length ≤ 900000 then some (.own (.lst ((Txt.split a b).map D.str))) else none
  | _ => none
abbrev rSplit : V → List V → Hp → VK → Prop := fun x xs H Q => ∃ a b, x = .str a ∧ xs = [.str b] ∧ (b.length == 0) = false ∧ a.length + 2 ≤ sizeLine ∧ rNewStrs (Txt.split a b) H Q
theorem r_split : RTM K rSplit fSplit := by
  intro g z y dy s Q ok ry e h
  unfold fSplit at e
  split at e
  · rename_i b
    simp only [Rep] at ry; subst ry
    split at e
    · rename_i hz
      cases e
      refine ⟨z, b, rfl, rfl, by simpa using hz.1, lim_ok (by omega), fun p hp => ?_⟩
      obtain ⟨p1, o⟩ := out_lst ok hp (RepL.of_strs (ns := Txt.split z b))
      exact h (g.lay p _) _ rfl p1 o
    · cases e
  · cases e
def fStarts (S : Sto) (a : Str) (y : D) : Option Slot := match y with
  | .str b => some (.val (.bl (Txt.startswith a b)))
  | _ => none
theorem r_starts : RTM K (fun x xs H Q => ∃ a b, x = .str a ∧ xs = [.str b] ∧ Q (.bl (Txt.startswith a b)) H) fStarts := by
  intro g z y dy s Q ok ry e h
  unfold fStarts at e
  split at e
  · simp only [Rep] at ry; subst ry; cases e
    exact ⟨z, _, rfl, rfl, h g _ rfl (Post.refl ok) (by simp only [OutRep, Rep])⟩
  · cases e
def fPart (S : Sto) (a : Str) (y : D) : Option Slot := match y with
  | .str b => if b.length ≠ 0 ∧ a.length ≤ 900000 then some (.val (.tup [.str (Txt.partition a b).1, .str (Txt.partition a b).2.1, .str (Txt.partition a b).2.2])) else none
  | _ => none
abbrev rPart : V → List V → Hp → VK → Prop := fun x xs H Q => ∃ a b, x = .str a ∧ xs = [.str b] ∧ (b.length == 0) = false ∧ a.length ≤ sizeLine ∧ ∀ p, H p = none → Q (.ref p) (upd H p (.tup [.str (Txt.partition a b).1, .str (Txt.partition a b).2.1, .str (Txt.partition a b).2.2]))
theorem r_part : RTM K rPart fPart := by
  intro g z y dy s Q ok ry e h
  unfold fPart at e
  split at e
  · rename_i b
    simp only [Rep] at ry; subst ry
    split at e
    · rename_i hz
      cases e
      refine ⟨z, b, rfl, rfl, by simpa using hz.1, lim_ok (by omega), fun p hp => ?_⟩
      obtain ⟨p1, r1⟩ := out_tup (ds := [.str (Txt.partition z b).1, .str (Txt.partition z b).2.1, .str (Txt.partition z b).2.2]) ok hp (RepL.of_strs (ns := [(Txt.partition z b).1, (Txt.partition z b).2.1, (Txt.partition z b).2.2]))
      exact h (g.frz p _) _ rfl p1 r1
    · cases e
  · cases e

/-! ### dict(..), tuple(..), greatest, least, any -/
def pairsD : List D → Option (List (Key × D))
  | [] => some []
  | .tup [x, d] :: ds => match keyD x, pairsD ds with
    | some k, some r => some ((k, d) :: r)
    | _, _ => none
  | _ :: _ => none
def fDict (S : Sto) : List D → Option Slot
  | [d] => match lookD S d with
    | .dic ks => some (.own (.dic ks))
    | .lst ps => (pairsD ps).map fun ks => .own (.dic (mergeD [] ks))
    | _ => none
  | _ => none
abbrev rDictC : List V → Hp → VK → Prop := fun xs H Q => ∃ (p : Addr) (kvs : List (Key × V)), xs = [.ref p] ∧ Rd H p (.dK kvs) ∧ ∀ q, H q = none → Q (.ref q) (upd H q (.dK kvs))
abbrev rDictP (K : PySem.W.Frag) : List V → Hp → VK → Prop := fun xs H Q => ∃ (l : Addr) (ps : List Addr) (kvs : List (Key × V)), xs = [.ref l] ∧ SqL K H l (ps.map V.ref) ∧ Paired (fun p kv => SqT K H p [kV kv.1, kv.2]) ps kvs ∧ ∀ p, H p = none → Q (.ref p) (upd H p (.dK (mergeK [] kvs)))
theorem RepK.merge {io F} : ∀ {es : List (Key × D)} {us : List (Key × V)} {ds : List (Key × D)} {vs : List (Key × V)}, RepK K io F us es → RepK K io F vs ds → keysD ds = true → RepK K io F (mergeK vs us) (mergeD ds es) ∧ keysD (mergeD ds es) = true
  | [], us, ds, vs, r, r2, n => by simp only [RepK] at r; subst r; exact ⟨r2, n⟩
  | (k, d) :: es, us, ds, vs, r, r2, n => by
    simp only [RepK] at r
    obtain ⟨v, q, rfl, a, b⟩ := r
    exact RepK.merge (es := es) (vs := putK vs k v) b (r2.put n a) (keysD_put ds k d n)
theorem pairs_ok {g : G} (ok : Ok K g) : ∀ {ds : List D} {vs : List V} {ks : List (Key × D)}, pairsD ds = some ks → RepL K g.io g.F vs ds → ∃ (ps : List Addr) (kvs : List (Key × V)), vs = ps.map V.ref ∧ Paired (fun p kv => SqT K g.H p [kV kv.1, kv.2]) ps kvs ∧ RepK K g.io g.F kvs ks
  | [], vs, ks, h, r => by
    simp only [RepL] at r; subst r; cases h
    exact ⟨[], [], rfl, .nil, by simp only [RepK]⟩
  | d :: ds, vs, ks, h, r => by
    unfold pairsD at h
    split at h
    · rename_i e; cases e
    · rename_i x d' ds' e
      cases e
      split at h
      · rename_i k r' hk hp
        cases h
        simp only [RepL] at r
        obtain ⟨v, q, rfl, a, b⟩ := r
        simp only [Rep] at a
        obtain ⟨p, us, rfl, hus, l⟩ := a
        obtain ⟨u, w, rfl, r1, r2⟩ := repL2 (g := g) l
        obtain ⟨ps, kvs, rfl, h2, h3⟩ := pairs_ok ok hp b
        have := key_rep hk r1; subst this
        exact ⟨p :: ps, (k, w) :: kvs, rfl, .cons (SqT.of (ok.le _ _ hus)) h2, by simp only [RepK]; exact ⟨w, kvs, rfl, r2, h3⟩⟩
      · cases h
    · cases h
theorem call_dictA (hc : X.calm = true) : CallR X (.type "dict") (fun xs H Q => rDictC xs H Q ∨ rDictP X.K xs H Q) := call_dictD.or (call_dictP hc)
theorem r_dict : RCall K (fun xs H Q => rDictC xs H Q ∨ rDictP K xs H Q) fDict := by
  intro g vs ds s Q ok r e h
  unfold fDict at e
  split at e
  · rename_i d
    obtain ⟨v, rfl, r0⟩ := repL1 r
    split at e
    · rename_i ks q
      obtain ⟨p, us, rfl, hp, l⟩ := look_dic ok r0 q
      cases e
      refine .inl ⟨p, us, rfl, .inl hp, fun q' hq => ?_⟩
      obtain ⟨p1, o⟩ := out_dic ok hq l
      exact h (g.lay q' _) _ rfl p1 o
    · rename_i xs q
      obtain ⟨p, us, rfl, hp, l⟩ := look_lst ok r0 q
      cases z : pairsD xs with
      | none => rw [z] at e; cases e
      | some ks =>
        rw [z] at e; cases e
        obtain ⟨ps, kvs, rfl, h2, h3⟩ := pairs_ok ok z l
        refine .inr ⟨p, ps, kvs, rfl, hp, h2, fun q' hq => ?_⟩
        obtain ⟨p1, o⟩ := out_dic ok hq (RepK.merge (vs := []) (ds := []) h3 (by simp only [RepK]) rfl).1
        exact h (g.lay q' _) _ rfl p1 o
    · cases e
  · cases e
def fTuple (S : Sto) : List D → Option Slot
  | [d] => match lookD S d with
    | .lst xs => some (.val (.tup xs))
    | .tup xs => some (.val d)
    | _ => none
  | _ => none
abbrev rTuple (K : PySem.W.Frag) : List V → Hp → VK → Prop := fun xs H Q => ∃ p ys, xs = [.ref p] ∧ ((SqL K H p ys ∧ ∀ l, H l = none → Q (.ref l) (upd H l (.tup ys))) ∨ (SqT K H p ys ∧ Q (.ref p) H))
theorem r_tuple : RCall K (rTuple K) fTuple := by
  intro g vs ds s Q ok r e h
  unfold fTuple at e
  split at e
  · rename_i d
    obtain ⟨v, rfl, r0⟩ := repL1 r
    split at e
    · rename_i xs q
      obtain ⟨p, us, rfl, hp, l⟩ := look_lst ok r0 q
      cases e
      refine ⟨p, us, rfl, .inl ⟨hp, fun q' hq => ?_⟩⟩
      obtain ⟨p1, r1⟩ := out_tup ok hq l
      exact h (g.frz q' _) _ rfl p1 r1
    · rename_i xs q
      obtain ⟨p, us, rfl, hp, l⟩ := look_tup ok r0 q
      cases e
      exact ⟨p, us, rfl, .inr ⟨SqT.of (ok.le _ _ hp), h g _ rfl (Post.refl ok) r0⟩⟩
    · cases e
  · cases e
def maxL : List Int → Int
  | [] => 0
  | [n] => n
  | n :: ns => max n (maxL ns)
def minL : List Int → Int
  | [] => 0
  | [n] => n
  | n :: ns => min n (minL ns)
theorem maxL_mem : ∀ {ns : List Int}, ns ≠ [] → maxL ns ∈ ns ∧ ∀ y ∈ ns, y ≤ maxL ns
  | [], h => absurd rfl h
  | [n], _ => by simp [maxL]
  | n :: m :: ns, _ => by
    obtain ⟨a, b⟩ := maxL_mem (ns := m :: ns) (by simp)
    simp only [maxL] at a b ⊢
    constructor
    · by_cases z : n ≤ maxL (m :: ns)
      · rw [Int.max_eq_right z]; exact List.mem_cons_of_mem _ a
      · rw [Int.max_eq_left (by omega)]; exact List.mem_cons_self
    · intro y hy
      rcases List.mem_cons.mp hy with rfl | hy
      · exact Int.le_max_left _ _
      · exact Int.le_trans (b y hy) (Int.le_max_right _ _)
theorem minL_mem : ∀ {ns : List Int}, ns ≠ [] → minL ns ∈ ns ∧ ∀ y ∈ ns, minL ns ≤ y
  | [], h => absurd rfl h
  | [n], _ => by simp [minL]
  | n :: m :: ns, _ => by
    obtain ⟨a, b⟩ := minL_mem (ns := m :: ns) (by simp)
    simp only [minL] at a b ⊢
    constructor
    · by_cases z : n ≤ minL (m :: ns)
      · rw [Int.min_eq_left z]; exact List.mem_cons_self
      · rw [Int.min_eq_right (by omega)]; exact List.mem_cons_of_mem _ a
    · intro y hy
      rcases List.mem_cons.mp hy with rfl | hy
      · exact Int.min_le_left _ _
      · exact Int.le_trans (Int.min_le_right _ _) (b y hy)
def fMaxA (S : Sto) : List D → Option Slot
  | [d] => match lookD S d with
    | .lst xs => match intsD xs with
      | some (n :: ns) => some (.val (.int (maxL (n :: ns))))
      | _ => none
    | _ => none
  | ds => fMax S ds
def fMinA (S : Sto) : List D → Option Slot
  | [d] => match lookD S d with
    | .lst xs => match intsD xs with
      | some (n :: ns) => some (.val (.int (minL (n :: ns))))
      | _ => none
    | _ => none
  | ds => fMin S ds
abbrev rMaxAll (K : PySem.W.Frag) : List V → Hp → VK → Prop := fun xs H Q => (rMax2 xs H Q ∨ rMax3 xs H Q) ∨ rMax K xs H Q
abbrev rMinAll (K : PySem.W.Frag) : List V → Hp → VK → Prop := fun xs H Q => (rMin2 xs H Q ∨ rMin3 xs H Q) ∨ rMin K xs H Q
theorem call_maxA (hc : X.calm = true) : CallR X (.builtin "max") (rMaxAll X.K) := (call_max hc).or (cr_max hc)
theorem call_minA (hc : X.calm = true) : CallR X (.builtin "min") (rMinAll X.K) := (call_min hc).or (cr_min hc)
theorem r_maxA : RCall K (rMaxAll K) fMaxA := by
  intro g vs ds s Q ok r e h
  unfold fMaxA at e
  split at e
  · rename_i d
    obtain ⟨v, rfl, r0⟩ := repL1 r
    split at e
    · rename_i xs q
      obtain ⟨p, us, rfl, hp, l⟩ := look_lst ok r0 q
      split at e
      · rename_i n ns hi
        cases e
        rw [intsD_eq hi] at l
        have := l.ints; subst this
        refine .inr ⟨p, n :: ns, rfl, hp, by simp, fun m hm hle => ?_⟩
        obtain ⟨a, b⟩ := maxL_mem (ns := n :: ns) (by simp)
        have : m = maxL (n :: ns) := Int.le_antisymm (b m hm) (hle _ a)
        subst this
        exact h g _ rfl (Post.refl ok) (by simp only [OutRep, Rep])
      · cases e
    · cases e
  · exact .inl (r_max g vs _ s Q ok r e h)
theorem r_minA : RCall K (rMinAll K) fMinA := by
  intro g vs ds s Q ok r e h
  unfold fMinA at e
  split at e
  · rename_i d
    obtain ⟨v, rfl, r0⟩ := repL1 r
    split at e
    · rename_i xs q
      obtain ⟨p, us, rfl, hp, l⟩ := look_lst ok r0 q
      split at e
      · rename_i n ns hi
        cases e
        rw [intsD_eq hi] at l
        have := l.ints; subst this
        refine .inr ⟨p, n :: ns, rfl, hp, by simp, fun m hm hle => ?_⟩
        obtain ⟨a, b⟩ := minL_mem (ns := n :: ns) (by simp)
        have : m = minL (n :: ns) := Int.le_antisymm (hle _ a) (b m hm)
        subst this
        exact h g _ rfl (Post.refl ok) (by simp only [OutRep, Rep])
      · cases e
    · cases e
  · exact .inl (r_min g vs _ s Q ok r e h)
def fAny (S : Sto) : List D → Option Slot
  | [d] => match lookD S d with
    | .lst xs => (blsD xs).map fun bs => .val (.bl (bs.any id))
    | _ => none
  | _ => none
theorem r_any : RCall K (rAny K) fAny := by
  intro g vs ds s Q ok r e h
  unfold fAny at e
  split at e
  · rename_i d
    obtain ⟨v, rfl, r0⟩ := repL1 r
    split at e
    · rename_i xs q
      obtain ⟨p, us, rfl, hp, l⟩ := look_lst ok r0 q
      cases z : blsD xs with
      | none => rw [z] at e; cases e
      | some bs =>
        rw [z] at e; cases e
        rw [blsD_eq z] at l
        have := l.bls; subst this
        exact ⟨p, bs, rfl, hp, h g _ rfl (Post.refl ok) (by simp only [OutRep, Rep])⟩
    · cases e
  · cases e
end
end FW
end
section
set_option maxHeartbeats 2000000
/-! FW25: what a call has laid into the store is frozen behind it; the store's older cells may be read by it, not changed. -/
namespace FW
open PySem PySem.Spec PyProof.Rows L2
section
variable {K : PySem.W.Frag} {io io' : List Addr} {F F' : Hp}
mutual
/-- what is told in a longer store and was told in a shorter one is told there -/
theorem Rep.down (hi : Pre io io') : ∀ (d : D) {u v : V}, Rep K io' F' v d → Rep K io F u d → Rep K io F' v d
  | .non, _, _, h, _ => by simp only [Rep] at h ⊢; exact h
  | .bl _, _, _, h, _ => by simp only [Rep] at h ⊢; exact h
  | .int _, _, _, h, _ => by simp only [Rep] at h ⊢; exact h
  | .str _, _, _, h, _ => by simp only [Rep] at h ⊢; exact h
  | .ty _, _, _, h, _ => by simp only [Rep] at h ⊢; exact h
  | .cls _, _, _, h, _ => by simp only [Rep] at h ⊢; exact h
  | .lst ds, _, _, h, h2 => by
    simp only [Rep] at h h2 ⊢
    obtain ⟨p, vs, e, r, l⟩ := h
    obtain ⟨_, _, _, _, l2⟩ := h2
    exact ⟨p, vs, e, r, RepL.down hi ds l l2⟩
  | .tup ds, _, _, h, h2 => by
    simp only [Rep] at h h2 ⊢
    obtain ⟨p, vs, e, r, l⟩ := h
    obtain ⟨_, _, _, _, l2⟩ := h2
    exact ⟨p, vs, e, r, RepL.down hi ds l l2⟩
  | .dic ks, _, _, h, h2 => by
    simp only [Rep] at h h2 ⊢
    obtain ⟨p, vs, e, r, l⟩ := h
    obtain ⟨_, _, _, _, l2⟩ := h2
    exact ⟨p, vs, e, r, RepK.down hi ks l l2⟩
  | .obj c fs, _, _, h, h2 => by
    simp only [Rep] at h h2 ⊢
    obtain ⟨p, dx, vs, e, r, r2, l⟩ := h
    obtain ⟨_, _, _, _, _, _, l2⟩ := h2
    exact ⟨p, dx, vs, e, r, r2, RepF.down hi fs l l2⟩
  | .exc c fs, _, _, h, h2 => by
    simp only [Rep] at h h2 ⊢
    obtain ⟨p, d, e, r, l⟩ := h
    obtain ⟨_, _, _, _, l2⟩ := h2
    refine ⟨p, d, e, r, ?_⟩
    rcases l with l | ⟨n, dx, vs, e1, e2, l⟩
    · exact .inl l
    · rcases l2 with l2 | ⟨_, _, _, _, _, l2⟩
      · exact absurd l2.1 n
      · exact .inr ⟨n, dx, vs, e1, e2, RepF.down hi fs l l2⟩
  | .ref i, _, _, h, h2 => by
    simp only [Rep] at h h2 ⊢
    obtain ⟨p, e, q⟩ := h
    obtain ⟨p2, e2, _⟩ := h2
    have := hi.get e2
    rw [e] at this; cases this
    exact ⟨p, e2, q⟩
theorem RepL.down (hi : Pre io io') : ∀ (ds : List D) {us vs : List V}, RepL K io' F' vs ds → RepL K io F us ds → RepL K io F' vs ds
  | [], _, _, h, _ => by simp only [RepL] at h ⊢; exact h
  | d :: ds, _, _, h, h2 => by
    simp only [RepL] at h h2 ⊢
    obtain ⟨v, r, e, a, b⟩ := h
    obtain ⟨_, _, _, a2, b2⟩ := h2
    exact ⟨v, r, e, Rep.down hi d a a2, RepL.down hi ds b b2⟩
theorem RepK.down (hi : Pre io io') : ∀ (ds : List (Key × D)) {us vs : List (Key × V)}, RepK K io' F' vs ds → RepK K io F us ds → RepK K io F' vs ds
  | [], _, _, h, _ => by simp only [RepK] at h ⊢; exact h
  | (k, d) :: ds, _, _, h, h2 => by
    simp only [RepK] at h h2 ⊢
    obtain ⟨v, r, e, a, b⟩ := h
    obtain ⟨_, _, _, a2, b2⟩ := h2
    exact ⟨v, r, e, Rep.down hi d a a2, RepK.down hi ds b b2⟩
theorem RepF.down (hi : Pre io io') : ∀ (ds : List (String × D)) {us vs : List (Str × V)}, RepF K io' F' vs ds → RepF K io F us ds → RepF K io F' vs ds
  | [], _, _, h, _ => by simp only [RepF] at h ⊢; exact h
  | (k, d) :: ds, _, _, h, h2 => by
    simp only [RepF] at h h2 ⊢
    obtain ⟨v, r, e, a, b⟩ := h
    obtain ⟨_, _, _, a2, b2⟩ := h2
    exact ⟨v, r, e, Rep.down hi d a a2, RepF.down hi ds b b2⟩
end
end
section
variable {K : PySem.W.Frag} {E g g' : G}
open Classical in
noncomputable def frzN (g g' : G) : Hp := fun a => if a ∈ g'.io ∧ a ∉ g.io then g'.H a else if g.H a = none ∧ ∃ x, x ∈ g'.io ∧ x ∉ g.io ∧ g'.H a = some (.own x) then g'.H a else g'.F a
noncomputable def G.fin (g g' : G) : G := { F := frzN g g', H := g'.H, io := g.io, S := g.S }
theorem frzN_le (ok : Ok K g') : Le (frzN g g') g'.H := fun a u e => by
  unfold frzN at e
  split at e
  · exact e
  · split at e
    · exact e
    · exact ok.le _ _ e
theorem le_frzN (ok : Ok K g') : Le g'.F (frzN g g') := fun a u e => by
  unfold frzN
  split
  · exact ok.le _ _ e
  · split
    · exact ok.le _ _ e
    · exact e
theorem same_S {S S' : Sto} (h : S'.take S.length = S) {i : Nat} {c : Option Cell} (e : S[i]? = some c) : S'[i]? = some c := by
  have hi := (List.getElem?_eq_some_iff.mp e).1
  have := congrArg (fun l => l[i]?) h
  simp only [List.getElem?_take, if_pos hi] at this
  rw [this]; exact e
theorem post_fin (ok : Ok K g) (p : Post K g g') (hS : g'.S.take g.S.length = g.S) : Post K g (g.fin g') := by
  have fr : ∀ a u, g.H a = some u → a ∉ g.io → g'.H a = some u := fun a u e n => p.fr a u e n
  have same : ∀ a, a ∈ g.io → frzN g g' a = g'.F a := fun a m => by
    unfold frzN
    rw [if_neg (fun z => z.2 m), if_neg (fun z => ok.iod a m z.1)]
  have lF : Le g.F (frzN g g') := p.leF.trans (le_frzN p.ok)
  refine ⟨⟨frzN_le p.ok, ok.len, ok.nd, fun a x e m => p.ok.noown a x e (p.pre.mem m), p.ok.own, fun a m => p.ok.iod a (p.pre.mem m), fun i c e => ?_⟩, lF, Pre.refl _, fr, fun a u e => ?_, fun a m => .inl m, p.dom⟩
  · obtain ⟨q0, a1, a2, a3⟩ := ok.cell i c e
    obtain ⟨q, e1, e2, r⟩ := p.ok.cell i c (same_S hS e)
    have hq := p.pre.get a1
    have eq : q0 = q := by rw [e1] at hq; exact (Option.some.inj hq).symm
    subst eq
    refine ⟨q0, a1, (same q0 (List.mem_of_getElem? a1)).trans e2, ?_⟩
    have l := le_frzN (g := g) p.ok
    cases c with
    | lst xs => obtain ⟨vs, a, b⟩ := r; obtain ⟨us, _, b0⟩ := a3; exact ⟨vs, a, RepL.mono l (Pre.refl _) _ (RepL.down p.pre _ b b0)⟩
    | dic xs => obtain ⟨vs, a, b⟩ := r; obtain ⟨us, _, b0⟩ := a3; exact ⟨vs, a, RepK.mono l (Pre.refl _) _ (RepK.down p.pre _ b b0)⟩
    | obj c fs => obtain ⟨dx, vs, a, a2, b⟩ := r; obtain ⟨_, us, _, _, b0⟩ := a3; exact ⟨dx, vs, a, a2, RepF.mono l (Pre.refl _) _ (RepF.down p.pre _ b b0)⟩
  · have e' : frzN g g' a = some u := e
    unfold frzN at e'
    split at e'
    · rename_i m
      rcases p.io a m.1 with z | z
      · exact absurd z m.2
      · exact .inr (.inl z)
    · split at e'
      · rename_i m; exact .inr (.inl m.1)
      · exact p.fz a u e'
/-- what stands at a new cell, older ones left as they are -/
def tabN (n : Nat) (S : Sto) : Nat → Nat → Option D
  | 0, _ => none
  | k + 1, i => if i < n then some (.ref i) else match S[i]? with
    | some (some c) => sub (tabN n S k) c.d
    | _ => none
def finD (n : Nat) (S : Sto) (d : D) : Option D := if nor d then some d else sub (tabN n S 6) d
def finL (n : Nat) (S : Sto) (xs : List D) : Option (List D) := if norL xs then some xs else subL (tabN n S 6) xs
def finK (n : Nat) (S : Sto) (xs : List (Key × D)) : Option (List (Key × D)) := if norK xs then some xs else subK (tabN n S 6) xs
def finF (n : Nat) (S : Sto) (xs : List (String × D)) : Option (List (String × D)) := if norF xs then some xs else subF (tabN n S 6) xs
def finC (n : Nat) (S : Sto) : Cell → Option Cell
  | .lst xs => (finL n S xs).map .lst
  | .dic xs => (finK n S xs).map .dic
  | .obj c fs => (finF n S fs).map (.obj c)
noncomputable def G.eyeN (g g' : G) : G := { F := g'.F, H := frzN g g', io := g'.io, S := g'.S }
theorem eyeN_cell (ok : Ok K g) (p : Post K g g') {i : Nat} {c : Cell} (hi : ¬ i < g.S.length) (e : g'.S[i]? = some (some c)) : ∃ q, g'.io[i]? = some q ∧ CellRep K (g.eyeN g') q c := by
  obtain ⟨q, e1, e2, r⟩ := p.ok.cell i c e
  have mem : q ∈ g'.io := List.mem_of_getElem? e1
  have nm : q ∉ g.io := fun m => by
    obtain ⟨j, hj⟩ := List.mem_iff_getElem?.mp m
    have := p.pre.get hj
    have lj := (List.getElem?_eq_some_iff.mp hj).1
    obtain ⟨l1, x1⟩ := List.getElem?_eq_some_iff.mp e1
    obtain ⟨l2, x2⟩ := List.getElem?_eq_some_iff.mp this
    have := (List.getElem_inj p.ok.nd).mp (x1.trans x2.symm)
    rw [ok.len] at lj
    omega
  have gn : g.H q = none := by
    rcases p.io q mem with z | z
    · exact absurd z nm
    · exact z
  have hq : frzN g g' q = g'.H q := by unfold frzN; rw [if_pos ⟨mem, nm⟩]
  refine ⟨q, e1, ?_⟩
  cases c with
  | lst xs => obtain ⟨vs, a, b⟩ := r; exact ⟨vs, hq.trans a, b⟩
  | dic xs => obtain ⟨vs, a, b⟩ := r; exact ⟨vs, hq.trans a, b⟩
  | obj c fs =>
    obtain ⟨dx, vs, a, a2, b⟩ := r
    refine ⟨dx, vs, hq.trans a, ?_, b⟩
    have hn : g.H dx = none := by
      cases y : g.H dx with
      | none => rfl
      | some u =>
        have z := p.fr dx u y (fun m => p.ok.noown dx q a2 (p.pre.mem m))
        rw [a2] at z; cases z
        exact absurd gn (ok.own dx q y)
    show frzN g g' dx = some (.own q)
    unfold frzN
    split
    · exact a2
    · rw [if_pos ⟨hn, q, mem, nm, a2⟩]; exact a2
theorem tabN_ok (ok : Ok K g) (p : Post K g g') : ∀ (k i : Nat) (d' : D) (q : Addr), tabN g.S.length g'.S k i = some d' → g'.io[i]? = some q → Rep K g.io (frzN g g') (.ref q) d'
  | 0, _, _, _, e, _ => by cases e
  | k + 1, i, d', q, e, hq => by
    simp only [tabN] at e
    split at e
    · rename_i hi
      cases e
      simp only [Rep]
      have hi' : i < g.io.length := by rw [ok.len]; exact hi
      obtain ⟨q', hq'⟩ : ∃ q', g.io[i]? = some q' := ⟨g.io[i], by simp [hi']⟩
      have := p.pre.get hq'
      rw [hq] at this; cases this
      exact ⟨q, hq', rfl⟩
    · rename_i hi
      split at e
      · rename_i c hc
        obtain ⟨q', e1, r⟩ := eyeN_cell ok p hi hc
        rw [hq] at e1; cases e1
        exact cell_sub (g := g.eyeN g') (J := g.io) (le_frzN p.ok) (fun i d1 q h1 h2 => tabN_ok ok p k i d1 q h1 h2) e r
      · cases e
theorem rep_fin (ok : Ok K g) (p : Post K g g') {v : V} {d d' : D} (e : finD g.S.length g'.S d = some d') (r : Rep K g'.io g'.F v d) : Rep K g.io (frzN g g') v d' := by
  unfold finD at e
  split at e
  · rename_i n; cases e
    exact Rep.nor (le_frzN p.ok) d n r
  · exact Rep.sub (le_frzN p.ok) (fun i d1 q h1 h2 => tabN_ok ok p 6 i d1 q h1 h2) d e r
theorem repL_fin (ok : Ok K g) (p : Post K g g') {v : List V} {d d' : List D} (e : finL g.S.length g'.S d = some d') (r : RepL K g'.io g'.F v d) : RepL K g.io (frzN g g') v d' := by
  unfold finL at e
  split at e
  · rename_i n; cases e
    exact RepL.nor (le_frzN p.ok) d n r
  · exact RepL.sub (le_frzN p.ok) (fun i d1 q h1 h2 => tabN_ok ok p 6 i d1 q h1 h2) d e r
theorem repK_fin (ok : Ok K g) (p : Post K g g') {v : List (Key × V)} {d d' : List (Key × D)} (e : finK g.S.length g'.S d = some d') (r : RepK K g'.io g'.F v d) : RepK K g.io (frzN g g') v d' := by
  unfold finK at e
  split at e
  · rename_i n; cases e
    exact RepK.nor (le_frzN p.ok) d n r
  · exact RepK.sub (le_frzN p.ok) (fun i d1 q h1 h2 => tabN_ok ok p 6 i d1 q h1 h2) d e r
theorem repF_fin (ok : Ok K g) (p : Post K g g') {v : List (Str × V)} {d d' : List (String × D)} (e : finF g.S.length g'.S d = some d') (r : RepF K g'.io g'.F v d) : RepF K g.io (frzN g g') v d' := by
  unfold finF at e
  split at e
  · rename_i n; cases e
    exact RepF.nor (le_frzN p.ok) d n r
  · exact RepF.sub (le_frzN p.ok) (fun i d1 q h1 h2 => tabN_ok ok p 6 i d1 q h1 h2) d e r
open Classical in
/-- the store as it was, what is handed back frozen -/
noncomputable def finOut (S : Sto) (r : R Slot) : R Slot := match r with
  | .ok (.val d) S' => if S'.take S.length = S then (match finD S.length S' d with
    | some d' => .ok (.val d') S
    | none => .bad) else .bad
  | .ok (.own c) S' => if S'.take S.length = S then (match finC S.length S' c with
    | some c' => .ok (.own c') S
    | none => .bad) else .bad
  | .ok .none _ => .bad
  | .err e S' => if S'.take S.length = S then (match finF S.length S' e.fs with
    | some fs => .err ⟨e.c, fs⟩ S
    | none => .bad) else .bad
  | .bad => .bad
theorem finF_nil {n : Nat} {S : Sto} {fs fs' : List (String × D)} (h : finF n S fs = some fs') : (fs = [] ↔ fs' = []) := by
  unfold finF at h
  split at h
  · cases h; exact Iff.rfl
  · exact subF_nil h
theorem out_fin (ok : Ok K g) (p : Post K g g') {v : V} {c c' : Cell} (e : finC g.S.length g'.S c = some c') (o : OutRep K g g' v (.own c)) : OutRep K g (g.fin g') v (.own c') := by
  obtain ⟨q, rfl, ⟨n1, n2⟩, hF, hio, r⟩ := o
  have hq : frzN g g' q = none := by
    unfold frzN
    rw [if_neg (fun m => hio m.1), if_neg (fun m => ?_)]
    · exact hF
    · obtain ⟨_, x, _, _, z⟩ := m
      exact r.notown x z
  refine ⟨q, rfl, ⟨n1, n2⟩, hq, fun m => hio (p.pre.mem m), ?_⟩
  cases c with
  | lst xs =>
    obtain ⟨vs, a, b⟩ := r
    simp only [finC] at e
    cases y : finL g.S.length g'.S xs with
    | none => rw [y] at e; cases e
    | some ys => rw [y] at e; cases e; exact ⟨vs, a, repL_fin ok p y b⟩
  | dic xs =>
    obtain ⟨vs, a, b⟩ := r
    simp only [finC] at e
    cases y : finK g.S.length g'.S xs with
    | none => rw [y] at e; cases e
    | some ys => rw [y] at e; cases e; exact ⟨vs, a, repK_fin ok p y b⟩
  | obj c fs =>
    obtain ⟨dx, vs, a, a2, b⟩ := r
    simp only [finC] at e
    cases y : finF g.S.length g'.S fs with
    | none => rw [y] at e; cases e
    | some ys => rw [y] at e; cases e; exact ⟨dx, vs, a, a2, repF_fin ok p y b⟩
theorem repX_fin (ok : Ok K g) (p : Post K g g') {cv : Value} {dd : Option Addr} {e : Exc} {fs : List (String × D)} (h : finF g.S.length g'.S e.fs = some fs) (x : RepX K g' cv dd e) : RepX K (g.fin g') cv dd ⟨e.c, fs⟩ := by
  obtain ⟨x1, x2⟩ := x
  refine ⟨x1, ?_⟩
  have nl := finF_nil h
  rcases x2 with ⟨a, b⟩ | ⟨a, dx, fvs, b, c, d⟩
  · exact .inl ⟨nl.mp a, b⟩
  · exact .inr ⟨fun z => a (nl.mpr z), dx, fvs, b, le_frzN p.ok _ _ c, repF_fin ok p h d⟩
theorem fin_post (ok : Ok K g) {r : R Slot} {A : V → Hp → Prop} {B : Value → Option Addr → Hp → Prop}
    (h : (finOut g.S r).post (fun s S' => ∀ g' v, g'.S = S' → Post K g g' → OutRep K g g' v s → A v g'.H) (fun e S' => ∀ g' c dd, g'.S = S' → Post K g g' → RepX K g' c dd e → B c dd g'.H)) :
    r.post (fun s S' => ∀ g' v, g'.S = S' → Post K g g' → OutRep K g g' v s → A v g'.H) (fun e S' => ∀ g' c dd, g'.S = S' → Post K g g' → RepX K g' c dd e → B c dd g'.H) := by
  cases r with
  | bad => exact h.elim
  | err e S' =>
    intro g' c dd es p x
    subst es
    simp only [finOut] at h
    by_cases hS : g'.S.take g.S.length = g.S
    · rw [if_pos hS] at h
      cases y : finF g.S.length g'.S e.fs with
      | none => rw [y] at h; exact h.elim
      | some fs => rw [y] at h; exact h (g.fin g') c dd rfl (post_fin ok p hS) (repX_fin ok p y x)
    · rw [if_neg hS] at h; exact h.elim
  | ok s S' =>
    intro g' v es p o
    subst es
    cases s with
    | none => exact h.elim
    | val d =>
      simp only [finOut] at h
      by_cases hS : g'.S.take g.S.length = g.S
      · rw [if_pos hS] at h
        cases y : finD g.S.length g'.S d with
        | none => rw [y] at h; exact h.elim
        | some d' => rw [y] at h; exact h (g.fin g') v rfl (post_fin ok p hS) (rep_fin ok p y o)
      · rw [if_neg hS] at h; exact h.elim
    | own c =>
      simp only [finOut] at h
      by_cases hS : g'.S.take g.S.length = g.S
      · rw [if_pos hS] at h
        cases y : finC g.S.length g'.S c with
        | none => rw [y] at h; exact h.elim
        | some c' => rw [y] at h; exact h (g.fin g') v rfl (post_fin ok p hS) (out_fin ok p y o)
      · rw [if_neg hS] at h; exact h.elim
noncomputable def mFin (mf : MF) : MF := fun ds S => finOut S (mf ds S)
theorem sp_fin {n : Nat} {mf : MF} {vs : List V} {H : Hp} {Q : VK} {E : XK} (h : spD K n (mFin mf) vs H Q E) : spD K n mf vs H Q E := by
  obtain ⟨g, ds, rfl, ok, r, l, q⟩ := h
  exact ⟨g, ds, rfl, ok, r, l, fin_post ok q⟩
end
section
variable {P : Program} {w : World} {K : PySem.W.Frag} {mg : Str → Option Value} {base : Heap}
theorem DFn.fin {k : Nat} {x : Str} {n : Nat} {mf : MF} (h : DFn P w K mg base k x n mf) : DFn P w K mg base k x n (mFin mf) := by
  obtain ⟨f, fd, ps, a, b⟩ := h.ex
  exact ⟨f, fd, ps, a.imp fun _ _ _ _ => sp_fin, b⟩
theorem Mth.fin {k : Nat} {c m : String} {n : Nat} {mf : MF} (h : Mth P w K mg base k c m n mf) : Mth P w K mg base k c m n (mFin mf) := by
  obtain ⟨f, fd, ps, a, b⟩ := h.ex
  exact ⟨f, fd, ps, a.imp fun _ _ _ _ => sp_fin, b⟩
end
/-- made, it is frozen -/
noncomputable def mMakeF (c : String) (mf : MF) (ma : M (List D)) : M Slot := fun ρ S => (ma ρ S).bind fun ds S1 => finOut S1 (rMake c mf ds S1)
section
variable {X : Cx} {k n : Nat} {c : String} {x : Str} {p pos : Pos} {e : Expr} {es : List Expr} {mf : MF} {ma : M (List D)}
theorem do_makeF (h : Ini X.prog X.w X.K X.mg X.base k c n mf) (hr : Room (k + 1) X.A) (hg : Gl X x) (hm : X.mg x = some (.ref (He.ga X.K (Str.ofString c)))) (ha : DA X (e :: es) ma) (hn : (e :: es).length = n := by rfl)
    (nodbg : (x == ("__debug__" : Str)) = false := by decide) (plain1 : starEach (e :: es) X.env = (false, eval e X.env) :: starEach es X.env := by rfl) (plain2 : (backTo pos (starEach es X.env)).any (·.1) = false := by rfl) :
    DO X (.Call (.Name x p) (e :: es) [] pos) (mMakeF c mf ma) := ⟨fun W tk => by
  obtain ⟨f, fd, ps, fn, mk, bnd⟩ := h.ex
  obtain ⟨t, pa, ra⟩ := ha.ex W tk
  refine ⟨_, pe_makeS mk fn hr hg hm bnd (fun σ => passAt tk σ) pa nodbg plain1 plain2, fun g σ ρ Q rel q => ?_⟩
  unfold mMakeF at q
  rw [post_bind] at q
  refine ra g σ ρ _ rel (q.imp (fun ds S1 zz q1 g1 ws es1 p1 r1 => ?_) fun e S1 _ q1 => q1)
  subst es1
  refine make_sp p1.ok r1 ((ha.len _ _ _ _ zz).trans hn) (fin_post p1.ok ?_)
  exact q1.imp (fun s S2 _ q2 g2 v es2 p2 o => q2 g2 v es2 (p1.trans p2) (o.back p1)) fun e S2 _ q2 g2 cc dd es2 p2 x2 => q2 g2 cc dd es2 (p1.trans p2) x2⟩
end
end FW
end
section
set_option maxHeartbeats 2000000
/-! FW26: dicts displayed, asked, written; lists of the store written; texts walked. -/
namespace FW
open PySem PySem.Spec PyProof.Rows L2
section
variable {X : Cx} {e a b c o i value : Expr} {es : List Expr} {ma mb mc mo mi mv : M D} {pos pos' apos cpos : Pos} {K : PySem.W.Frag}

/-! ### {k: v, ..} -/
def RepP (K : PySem.W.Frag) (io : List Addr) (F : Hp) : List (V × V) → List (D × D) → Prop
  | vs, [] => vs = []
  | vs, (a, b) :: ds => ∃ x y r, vs = (x, y) :: r ∧ Rep K io F x a ∧ Rep K io F y b ∧ RepP K io F r ds
def RPP (K : PySem.W.Frag) (trs : List (TE × TE)) (W : WX) (m : M (List (D × D))) : Prop := ∀ (g : G) (σ : L2.St) (ρ : List Slot) (Q : List (V × V) → Hp → Prop), RelS K g σ ρ →
  (m ρ g.S).post (fun ps S' => ∀ g' vs, g'.S = S' → Post K g g' → RepP K g'.io g'.F vs ps → Q vs g'.H) (fun e S' => ∀ g' c dd, g'.S = S' → Post K g g' → RepX K g' c dd e → W c dd σ g'.H) → tPairs trs σ g.H Q
structure DPP (X : Cx) (pos : Pos) (ks : List (Option Expr)) (vs : List Expr) (m : M (List (D × D))) : Prop where
  ex : ∀ W, Takes X W → ∃ trs, PPs X pos ks vs trs ∧ RPP X.K trs W m
theorem dpp_nil : DPP X pos [] [] (eC []) := ⟨fun W tk => ⟨[], pps_nil, fun g σ ρ Q rel q => q g [] rfl (Post.refl rel.ok) (by simp only [RepP])⟩⟩
def ppC (ma mb : M D) (mr : M (List (D × D))) : M (List (D × D)) := fun ρ S => (ma ρ S).bind fun x S1 => (mb ρ S1).bind fun y S2 => (mr ρ S2).bind fun ps S3 => .ok ((x, y) :: ps) S3
theorem dpp_cons {ks : List (Option Expr)} {vs : List Expr} {mr : M (List (D × D))} (ha : DV X a ma) (hb : DV X b mb) (hr : DPP X pos ks vs mr) : DPP X pos (some a :: ks) (b :: vs) (ppC ma mb mr) := ⟨fun W tk => by
  obtain ⟨ta, pa, ra⟩ := ha.ex W tk
  obtain ⟨tb, pb, rb⟩ := hb.ex W tk
  obtain ⟨tr, pr, rr⟩ := hr.ex W tk
  refine ⟨_, pps_cons pa pb pr, fun g σ ρ Q rel q => ?_⟩
  unfold ppC at q
  rw [post_bind] at q
  refine ra g σ ρ _ rel (q.imp (fun dx S1 e1 q1 g1 x es p1 r1 => ?_) fun e S1 _ q1 => q1)
  subst es
  rw [post_bind] at q1
  refine rb g1 σ ρ _ (rel.post p1) (q1.imp (fun dy S2 e2 q2 g2 y es2 p2 r2 => ?_) fun e S2 _ q2 => err_on (x := fun _ _ => True) p1 q2)
  subst es2
  rw [post_bind] at q2
  refine rr g2 σ ρ _ ((rel.post p1).post p2) (q2.imp (fun ps S3 e3 q3 g3 ws es3 p3 r3 => ?_) fun e S3 _ q3 => err_on (x := fun _ _ => True) (p1.trans p2) q3)
  refine q3 g3 _ es3 ((p1.trans p2).trans p3) ?_
  simp only [RepP]
  exact ⟨x, y, ws, rfl, p3.rep (p2.rep r1), p3.rep r2, r3⟩⟩
def keysOf : List (D × D) → Option (List (Key × D))
  | [] => some []
  | (x, d) :: ps => match keyD x, keysOf ps with
    | some k, some r => some ((k, d) :: r)
    | _, _ => none
theorem keysOf_ok {io F} : ∀ {ps : List (D × D)} {ks : List (Key × D)} {vs : List (V × V)}, keysOf ps = some ks → RepP K io F vs ps → ∃ kvs : List (Key × V), vs = kvs.map (fun kv => (kV kv.1, kv.2)) ∧ RepK K io F kvs ks ∧ kvs.length = ks.length
  | [], ks, vs, h, r => by
    simp only [RepP] at r; subst r; cases h
    exact ⟨[], rfl, by simp only [RepK], rfl⟩
  | (x, d) :: ps, ks, vs, h, r => by
    simp only [keysOf] at h
    split at h
    · rename_i k r' hk hp
      cases h
      simp only [RepP] at r
      obtain ⟨u, w, q, rfl, r1, r2, r3⟩ := r
      obtain ⟨kvs, rfl, h2, h3⟩ := keysOf_ok hp r3
      have := key_rep hk r1; subst this
      refine ⟨(k, w) :: kvs, rfl, ?_, by simp [h3]⟩
      simp only [RepK]
      exact ⟨w, kvs, rfl, r2, h2⟩
    · cases h
def mDisp (m : M (List (D × D))) : M Slot := fun ρ S => (m ρ S).bind fun ps S1 => match keysOf ps with
  | some ks => if ks.length ≤ 15 then .ok (.own (.dic (mergeD [] ks))) S1 else .bad
  | none => .bad
theorem do_disp {ks : List (Option Expr)} {vs : List Expr} {m : M (List (D × D))} (h : DPP X pos ks vs m) (hall : ks.all (·.isSome) = true := by rfl) (hl : ks.length = vs.length := by rfl) (h0 : ks ≠ [] := by simp) (h15 : ks.length ≤ 15 := by decide) :
    DO X (.Dict ks vs pos) (mDisp m) := ⟨fun W tk => by
  obtain ⟨trs, pp, rp⟩ := h.ex W tk
  refine ⟨_, pe_disp pp hall hl h0 h15, fun g σ ρ Q rel q p hp => ?_⟩
  have p0 := Post.lay (o := .dK []) rel.ok hp (fun _ z => by cases z)
  unfold mDisp at q
  rw [post_bind] at q
  refine rp (g.lay p (.dK [])) σ ρ _ (rel.post p0) (q.imp (fun ps S1 e1 q1 g1 ws es p1 r1 => ?_) fun e S1 _ q1 => err_on (x := fun _ _ => True) p0 q1)
  have own := p1.own (c := .dic []) p0.ok (rel.ok.free hp) (rel.ok.nio' hp) ⟨[], upd_same, by simp only [RepK]⟩
  obtain ⟨f1, f2, vs0, f3, f4⟩ := own
  simp only [RepK] at f4; subst f4
  refine ⟨f3, ?_⟩
  split at q1
  · rename_i kk hk
    split at q1
    · rename_i hlen
      obtain ⟨kvs, rfl, rk, lk⟩ := keysOf_ok hk r1
      have rm := (RepK.merge (vs := []) (ds := []) rk (by simp only [RepK]) rfl).1
      refine ⟨kvs, rfl, by omega, ?_⟩
      have p2 := (p0.trans p1).mut (o := .dK (mergeK [] kvs)) hp f3 (fun _ z => by cases z) f1 f2 (fun _ z => by cases z)
      exact q1 { g1 with H := upd g1.H p (.dK (mergeK [] kvs)) } (.ref p) es p2 ⟨p, rfl, ⟨hp, fun C dx fs z => by
        have z' : upd g1.H p (.dK (mergeK [] kvs)) p = some (.ins C dx fs) := z
        rw [upd_same] at z'; cases z'⟩, f1, f2, _, upd_same, rm⟩
    · exact q1.elim
  · exact q1.elim⟩

/-! ### d.get(k), d.get(k, x) -/
def getD_ (S : Sto) (x y z : D) : Option D := match lookD S x with
  | .dic ks => match keyD y with
    | some k => match valD ks k with
      | some d => some d
      | none => some z
    | none => none
  | _ => none
def isDic (S : Sto) (x : D) : Bool := match lookD S x with
  | .dic _ => true
  | _ => false
def mGet1 (mo me : M D) : M D := fun ρ S => (mo ρ S).bind fun x S1 => if isDic S1 x then (me ρ S1).bind fun y S2 => (match getD_ S2 x y .non with
  | some d => .ok d S2
  | none => .bad) else .bad
def mGet2 (mo me mz : M D) : M D := fun ρ S => (mo ρ S).bind fun x S1 => if isDic S1 x then (me ρ S1).bind fun y S2 => (mz ρ S2).bind fun z S3 => (match getD_ S3 x y z with
  | some d => .ok d S3
  | none => .bad) else .bad
theorem get_ok {g : G} {x y z : D} {v u w : V} {d : D} (ok : Ok K g) (rx : Rep K g.io g.F v x) (ry : Rep K g.io g.F u y) (rz : Rep K g.io g.F w z) (h : getD_ g.S x y z = some d) : ∃ p o, v = .ref p ∧ DGet g.H p u o ∧ Rep K g.io g.F (o.getD w) d := by
  unfold getD_ at h
  split at h
  · rename_i ks hx
    obtain ⟨p, kvs, rfl, hp, rk⟩ := look_dic ok rx hx
    split at h
    · rename_i k hk
      have := key_rep hk ry; subst this
      refine ⟨p, valV kvs k, rfl, DGet.k hp, ?_⟩
      cases hv : valD ks k with
      | none => rw [hv] at h; cases h; rw [rk.val_none hv]; exact rz
      | some d0 => rw [hv] at h; cases h; obtain ⟨v0, e1, e2⟩ := rk.val_some hv; rw [e1]; exact e2
    · cases h
  · cases h
theorem isDic_ok {g : G} {x : D} {v : V} (ok : Ok K g) (rx : Rep K g.io g.F v x) (h : isDic g.S x = true) : ∃ p, v = .ref p ∧ IsD g.H p := by
  unfold isDic at h
  split at h
  · rename_i ks hx
    obtain ⟨p, kvs, rfl, hp, rk⟩ := look_dic ok rx hx
    exact ⟨p, rfl, .inl ⟨kvs, .inl hp⟩⟩
  · cases h
theorem dv_get1 (hu : X.A.units + 64 < cLine) (ho : DV X o mo) (hi : DV X i mi) (m : M1 X o "get" apos i cpos) : DV X (.Call (.Attribute o "get" apos) [i] [] cpos) (mGet1 mo mi) := ⟨fun W tk => by
  obtain ⟨to, po, ro⟩ := ho.ex W tk
  obtain ⟨ti, pi, ri⟩ := hi.ex W tk
  refine ⟨_, pe_dget1 (by omega) po pi m, fun g σ ρ Q rel q => ?_⟩
  unfold mGet1 at q
  rw [post_bind] at q
  refine ro g σ ρ _ rel (q.imp (fun dx S1 e1 q1 g1 x es p1 r1 => ?_) fun e S1 _ q1 => q1)
  subst es
  by_cases hd : isDic g1.S dx = true
  · rw [if_pos hd] at q1
    obtain ⟨p, rfl, hp⟩ := isDic_ok p1.ok r1 hd
    refine ⟨p, rfl, hp, ?_⟩
    rw [post_bind] at q1
    refine ri g1 σ ρ _ (rel.post p1) (q1.imp (fun dy S2 e2 q2 g2 y es2 p2 r2 => ?_) fun e S2 _ q2 => err_on (x := fun _ _ => True) p1 q2)
    subst es2
    cases h : getD_ g2.S dx dy .non with
    | none => rw [h] at q2; exact q2.elim
    | some d =>
      rw [h] at q2
      obtain ⟨p', ov, ep, dg, r⟩ := get_ok (w := .non) p2.ok (p2.rep r1) r2 (by simp only [Rep]) h
      cases ep
      exact ⟨ov, dg, q2 g2 _ rfl (p1.trans p2) r⟩
  · rw [if_neg hd] at q1; exact q1.elim⟩
theorem dv_get2 {z : Expr} {mz : M D} (hu : X.A.units + 64 < cLine) (ho : DV X o mo) (hi : DV X i mi) (hz : DV X z mz) (m : M2 X o "get" apos i z cpos) : DV X (.Call (.Attribute o "get" apos) [i, z] [] cpos) (mGet2 mo mi mz) := ⟨fun W tk => by
  obtain ⟨to, po, ro⟩ := ho.ex W tk
  obtain ⟨ti, pi, ri⟩ := hi.ex W tk
  obtain ⟨tz, pz, rz⟩ := hz.ex W tk
  refine ⟨_, pe_dget2 (by omega) po pi pz m, fun g σ ρ Q rel q => ?_⟩
  unfold mGet2 at q
  rw [post_bind] at q
  refine ro g σ ρ _ rel (q.imp (fun dx S1 e1 q1 g1 x es p1 r1 => ?_) fun e S1 _ q1 => q1)
  subst es
  by_cases hd : isDic g1.S dx = true
  · rw [if_pos hd] at q1
    obtain ⟨p, rfl, hp⟩ := isDic_ok p1.ok r1 hd
    refine ⟨p, rfl, hp, ?_⟩
    rw [post_bind] at q1
    refine ri g1 σ ρ _ (rel.post p1) (q1.imp (fun dy S2 e2 q2 g2 y es2 p2 r2 => ?_) fun e S2 _ q2 => err_on (x := fun _ _ => True) p1 q2)
    subst es2
    rw [post_bind] at q2
    refine rz g2 σ ρ _ ((rel.post p1).post p2) (q2.imp (fun dz S3 e3 q3 g3 w es3 p3 r3 => ?_) fun e S3 _ q3 => err_on (x := fun _ _ => True) (p1.trans p2) q3)
    subst es3
    cases h : getD_ g3.S dx dy dz with
    | none => rw [h] at q3; exact q3.elim
    | some d =>
      rw [h] at q3
      obtain ⟨p', ov, ep, dg, r⟩ := get_ok p3.ok (p3.rep (p2.rep r1)) (p3.rep r2) r3 h
      cases ep
      exact ⟨ov, dg, q3 g3 _ rfl ((p1.trans p2).trans p3) r⟩
  · rw [if_neg hd] at q1; exact q1.elim⟩

/-! ### o[i] = e, o a list or a dict of the store -/
def ixD (n : Nat) (i : Int) : Option Nat := if 0 ≤ i then (if i.toNat < n then some i.toNat else none) else if -(n : Int) ≤ i then some (i + n).toNat else none
def putAt (S : Sto) (x i d : D) : Option Sto := match x with
  | .ref n => match S[n]? with
    | some (some (.dic ks)) => match keyD i with
      | some k => if keysD ks && decide (ks.length < 1000000) then some (S.set n (some (.dic (putD ks k d)))) else none
      | none => none
    | some (some (.lst xs)) => match i with
      | .int j => (L2.ixN xs.length j).map fun l => S.set n (some (.lst (xs.set l d)))
      | _ => none
    | _ => none
  | _ => none
def sPut (mo mi m : M D) : MS := fun ρ S => rBind (m ρ S) ρ fun d S1 => rBind (mo ρ S1) ρ fun x S2 => rBind (mi ρ S2) ρ fun j S3 => match putAt S3 x j d with
  | some S4 => .nx ρ S4
  | none => .bad
theorem ps_or {st : Stmt} {t u : TS} (h : PS X st t) (h2 : PS X st u) : PS X st (fun D σ H => t D σ H ∨ u D σ H) := ⟨fun pins s σ H D I q => q.elim (h.run pins s σ H D I) (h2.run pins s σ H D I)⟩
theorem ds_put (hu : X.A.units + 64 < cLine) (ho : DV X o mo) (hi : DV X i mi) (h : DV X value mv) (hsw : swapsWithSole [.Subscript o i pos'] value pos.line X.env = pure false := by rfl) (hsw2 : swapsWith value (some (.Subscript o i pos')) pos.line X.env = pure false := by rfl) (hst : swappedStores [.Subscript o i pos'] value X.env = pure none := by rfl)
    (pg : ∀ {to ti : TE}, PE X o to → PE X i ti → PG X (.Subscript o i pos') (gSub to ti rSetL)) :
    DS X (.Assign [.Subscript o i pos'] value pos) (sPut mo mi mv) := ⟨fun W tk => by
  obtain ⟨to, po, ro⟩ := ho.ex W tk
  obtain ⟨ti, pi, ri⟩ := hi.ex W tk
  obtain ⟨tv, pv, rv⟩ := h.ex W tk
  refine ⟨_, ps_or (ps_asg pv (pg po pi) hsw hst) (ps_dput (by omega) po pi pv hsw2), fun E g σ ρ Dn rel q => ?_⟩
  unfold sPut at q
  -- which it is, told by the mirror
  by_cases isd : ∃ d S1 n S2 j S3 ks, mv ρ g.S = .ok d S1 ∧ mo ρ S1 = .ok (.ref n) S2 ∧ mi ρ S2 = .ok j S3 ∧ S3[n]? = some (some (.dic ks))
  · refine .inr ?_
    obtain ⟨d, S1, n, S2, j, S3, ks, h1, h2, h3, h4⟩ := isd
    rw [h1] at q
    refine rv g σ ρ _ rel.s ?_
    rw [h1]
    intro g1 v es1 p1 r1
    subst es1
    simp only [rBind] at q
    rw [h2] at q
    have rel1 := rel.post p1
    refine ro g1 σ ρ _ rel1.s ?_
    rw [h2]
    intro g2 u es2 p2 r2
    subst es2
    simp only [rBind] at q
    rw [h3] at q
    have rel2 := rel1.post p2
    refine ri g2 σ ρ _ rel2.s ?_
    rw [h3]
    intro g3 y es3 p3 r3
    subst es3
    have rel3 := rel2.post p3
    simp only [rBind, putAt, h4] at q
    cases hk : keyD j with
    | none => rw [hk] at q; exact q.elim
    | some k =>
      rw [hk] at q
      simp only at q
      by_cases cond : (keysD ks && decide (ks.length < 1000000)) = true
      · rw [if_pos cond] at q
        rw [Bool.and_eq_true] at cond
        have r2' := p3.rep r2
        simp only [Rep] at r2'
        obtain ⟨a', e2, rfl⟩ := r2'
        obtain ⟨p, e1, _, kvs, hp, rk⟩ := rel3.ok.cell n _ h4
        rw [e1] at e2; cases e2
        have := key_rep hk r3; subst this
        have l := rk.length
        have hl := of_decide_eq_true cond.2
        refine ⟨a', _, rfl, DPut.k hp (by rw [l, sizeLine_eq]; omega), ?_⟩
        have p4 := Post.cellSet (c' := .dic (putD ks k d)) (o := .dK (putK kvs k v)) rel3.ok h4 e1 hp (fun x z => by cases z) (fun x z => by cases z) ⟨_, upd_same, rk.put cond.1 ((p2.trans p3).rep r1)⟩
        exact q _ σ rfl (rel3.post p4)
      · rw [if_neg cond] at q; exact q.elim
  · refine .inl ?_
    refine rv g σ ρ _ rel.s ((ends_bind rel q).imp (fun d S1 hv q1 g1 v es1 p1 r1 => ?_) fun e S1 _ q1 => q1)
    subst es1
    have rel1 := rel.post p1
    refine ro g1 σ ρ _ rel1.s ((ends_bind rel1 q1).imp (fun x S2 hx q2 g2 u es2 p2 r2 => ?_) fun e S2 _ q2 => q2)
    subst es2
    have rel2 := rel1.post p2
    refine ri g2 σ ρ _ rel2.s ((ends_bind rel2 q2).imp (fun j S3 hj q3 g3 y es3 p3 r3 => ?_) fun e S3 _ q3 => q3)
    subst es3
    have rel3 := rel2.post p3
    cases x with
    | ref n =>
      simp only [putAt] at q3
      cases hn : g3.S[n]? with
      | none => rw [hn] at q3; exact q3.elim
      | some oc =>
        cases oc with
        | none => rw [hn] at q3; exact q3.elim
        | some cell =>
          cases cell with
          | obj _ _ => rw [hn] at q3; exact q3.elim
          | dic ks => exact absurd ⟨d, _, n, _, j, _, ks, hv, hx, hj, hn⟩ isd
          | lst xs =>
            rw [hn] at q3
            cases j with
            | int jj =>
              simp only at q3
              cases hl : L2.ixN xs.length jj with
              | none => rw [hl] at q3; exact q3.elim
              | some l =>
                rw [hl] at q3
                have r2' := p3.rep r2
                simp only [Rep] at r2' r3
                obtain ⟨a', e2, rfl⟩ := r2'
                subst r3
                obtain ⟨p, e1, _, vs, hp, rl⟩ := rel3.ok.cell n _ hn
                rw [e1] at e2; cases e2
                refine ⟨a', vs, jj, l, rfl, rfl, hp, by rw [rl.length]; exact hl, ?_⟩
                have p4 := Post.cellSet (c' := .lst (xs.set l d)) (o := .lst (vs.set l v)) rel3.ok hn e1 hp (fun x z => by cases z) (fun x z => by cases z) ⟨_, upd_same, rl.set l ((p2.trans p3).rep r1)⟩
                exact q3 _ σ rfl (rel3.post p4)
            | _ => exact q3.elim
    | _ => exact q3.elim⟩

/-! ### methods of lists and dicts of the store, as statements -/
/-- o.clear() -/
def sClear (mo : M D) : MS := fun ρ S => rBind (mo ρ S) ρ fun x S1 => match x with
  | .ref n => (match S1[n]? with
    | some (some (.lst _)) => .nx ρ (S1.set n (some (.lst [])))
    | _ => .bad)
  | _ => .bad
theorem ds_clear (ho : DV X o mo) (pb : ∀ {to : TE}, PE X o to → PE X (.Call (.Attribute o "clear" apos) [] [] cpos) (tBM0 X.K "list" rClear to)) (hw : swapsWith (.Call (.Attribute o "clear" apos) [] [] cpos) none pos.line X.env = pure false := by rfl) :
    DS X (.Expr (.Call (.Attribute o "clear" apos) [] [] cpos) pos) (sClear mo) := ⟨fun W tk => by
  obtain ⟨to, po, ro⟩ := ho.ex W tk
  refine ⟨_, ps_expr (pb po) hw, fun E g σ ρ Dn rel q => ?_⟩
  refine ro g σ ρ _ rel.s ((ends_bind rel q).imp (fun x S1 _ q1 g1 u es1 p1 r1 => ?_) fun e S1 _ q1 => q1)
  subst es1
  have rel1 := rel.post p1
  cases x with
  | ref n =>
    simp only at q1
    cases hn : g1.S[n]? with
    | none => rw [hn] at q1; exact q1.elim
    | some oc =>
      cases oc with
      | none => rw [hn] at q1; exact q1.elim
      | some cell =>
        cases cell with
        | obj _ _ => rw [hn] at q1; exact q1.elim
        | dic ks => rw [hn] at q1; exact q1.elim
        | lst xs =>
          rw [hn] at q1
          simp only [Rep] at r1
          obtain ⟨a', e2, rfl⟩ := r1
          obtain ⟨p, e1, _, vs, hp, rl⟩ := rel1.ok.cell n _ hn
          rw [e1] at e2; cases e2
          refine ⟨.inl ⟨rfl, _, SqL.of hp⟩, a', vs, rfl, rfl, hp, ?_⟩
          have p4 := Post.cellSet (c' := .lst []) (o := .lst []) rel1.ok hn e1 hp (fun x z => by cases z) (fun x z => by cases z) ⟨_, upd_same, RepL.nil⟩
          exact q1 _ σ rfl (rel1.post p4)
  | _ => exact q1.elim⟩
/-- d.update(e) -/
def rUpd : V → List V → Hp → VK → Prop := fun x vs H Q => ∃ p q kvs more, x = .ref p ∧ vs = [.ref q] ∧ p ≠ q ∧ H p = some (.dK kvs) ∧ H q = some (.dK more) ∧ kvs.length + more.length ≤ sizeLine ∧ Q .non (upd H p (.dK (mergeK kvs more)))
theorem mt_update : MtR X "dict.update" rUpd := fun pins s σ H x xs v us Q I rx rs ⟨p, q, kvs, more, ex, evs, ne, hp, hq, hz, then_⟩ => by
  subst ex evs
  obtain rfl : v = Value.ref p := rx
  obtain ⟨u, rfl, ru⟩ := rs.one
  obtain rfl : u = Value.ref q := ru
  obtain ⟨_, lo1, ws1, kv1, dd1⟩ := dk_of I.hok hp
  obtain ⟨_, lo2, ws2, kv2, dd2⟩ := dk_of I.hok hq
  have l1 := Paired.length kv1
  have l2 := Paired.length kv2
  refine call_meetsIn PySem.F.slot_dict_update dd1.typeIs PySem.F.entry_dict_update (PySem.F.args_dict_update_2 _ _) (meets_dict_update (mixKind X.prog X.w) p q ne lo2) ⟨ws1, ws2, dd1, dd2, by rw [← l1, ← l2]; exact hz, fun h' dd' _ same => ?_⟩
  have there : ∃ ob, h'.get? p = some ob := let ⟨ob, _, _, ho, _⟩ := dd'; ⟨ob, ho⟩
  have size : (mergeK kvs more).length ≤ sizeLine := Nat.le_trans (length_mergeK more kvs) hz
  exact ⟨.non, _, d_write I (by rw [hp]; exact True.intro) same there (dk_new size lo1 (kv2.merge kv1) dd'), rfl, then_⟩
def sUpd (mo m : M D) : MS := fun ρ S => rBind (mo ρ S) ρ fun x S1 => match x with
  | .ref n => (match S1[n]? with
    | some (some (.dic _)) => rBind (m ρ S1) ρ fun y S2 => (match S2[n]?, y with
      | some (some (.dic ks)), .dic more => if keysD ks && decide (ks.length + more.length ≤ 1000000) then .nx ρ (S2.set n (some (.dic (mergeD ks more)))) else .bad
      | _, _ => .bad)
    | _ => .bad)
  | _ => .bad
theorem ds_upd (ho : DV X o mo) (h : DV X e mv) (hs : starEach (e :: []) X.env = (false, eval e X.env) :: starEach [] X.env := by rfl) (pb : ∀ {to : TE} {ta : TA}, PE X o to → PA X [e] ta → PE X (.Call (.Attribute o "update" apos) [e] [] cpos) (tBM X.K "dict" rUpd to ta)) (hw : swapsWith (.Call (.Attribute o "update" apos) [e] [] cpos) none pos.line X.env = pure false := by rfl) :
    DS X (.Expr (.Call (.Attribute o "update" apos) [e] [] cpos) pos) (sUpd mo mv) := ⟨fun W tk => by
  obtain ⟨to, po, ro⟩ := ho.ex W tk
  obtain ⟨t, pe, ra⟩ := (da_cons h da_nil hs).ex W tk
  refine ⟨_, ps_expr (pb po pe) hw, fun E g σ ρ Dn rel q => ?_⟩
  refine ro g σ ρ _ rel.s ((ends_bind rel q).imp (fun x S1 _ q1 g1 u es1 p1 r1 => ?_) fun e S1 _ q1 => q1)
  subst es1
  have rel1 := rel.post p1
  cases x with
  | ref n =>
    simp only at q1
    split at q1
    · rename_i ks0 hS1
      simp only [Rep] at r1
      obtain ⟨p, ip, rfl⟩ := r1
      obtain ⟨p', ip', fp, vs0, hp0, r0⟩ := p1.ok.cell n _ hS1
      rw [ip] at ip'; cases ip'
      refine ⟨.inr (.inr (.inl ⟨rfl, .inl ⟨_, hp0⟩⟩)), ?_⟩
      refine ra g1 σ ρ _ rel1.s ?_
      unfold aCons
      rw [post_bind]
      refine (ends_bind rel1 q1).imp (fun d S hd q2 => ?_) fun e S _ q2 => q2
      show R.post (R.ok [d] S) _ _
      intro g2 us es p2 r
      obtain ⟨v, rfl, rv⟩ := repL1 r
      subst es
      have rel2 := rel1.post p2
      split at q2
      · rename_i ks more hS2
        split at q2
        · rename_i cond
          rw [Bool.and_eq_true] at cond
          obtain ⟨p', ip', fp, vs, hp, r2⟩ := p2.ok.cell n _ hS2
          rw [p2.pre.get ip] at ip'; cases ip'
          simp only [Rep] at rv
          obtain ⟨q', us, rfl, hq, r3⟩ := rv
          have hqH := p2.ok.le _ _ hq
          have ne : p ≠ q' := fun z => by subst z; rw [fp] at hq; cases hq
          have hl := of_decide_eq_true cond.2
          refine ⟨p, q', vs, us, rfl, rfl, ne, hp, hqH, by rw [r2.length, r3.length]; exact lim_ok hl, ?_⟩
          have P := Post.cellSet (K := X.K) (c' := .dic (mergeD ks more)) (o := .dK (mergeK vs us)) p2.ok hS2 (p2.pre.get ip) hp (fun _ z => by cases z) (fun _ z => by cases z) ⟨_, upd_same, (RepK.merge r3 r2 cond.1).1⟩
          exact q2 _ σ rfl (rel2.post P)
        · exact q2.elim
      · exact q2.elim
    · exact q1.elim
  | _ => exact q1.elim⟩

/-! ### the signs of a text -/
def signsD (x : Str) : List D := x.cps.toList.map fun c => D.str ⟨#[c]⟩
theorem iter_str {g : G} {x : Str} : Iter K g (Its x) (signsD x) [] := by
  have l : (signsD x).length = x.cps.size := by simp [signsD]
  refine ⟨fun g' ok le pr _ i hi => by rw [l] at hi; exact hi, fun g' ok le pr _ i v H' hi y => ?_, fun g' ok le pr _ i hi => by rw [l] at hi; exact hi⟩
  obtain ⟨rfl, c, hc, rfl⟩ := y
  refine ⟨g', rfl, rfl, Post.refl ok, .str ⟨#[c]⟩, ?_, by simp only [Rep]⟩
  simp only [signsD, List.getElem?_map, Array.getElem?_toList, hc, Option.map_some]
def fSigns : D → Option (List D × Gds)
  | .str x => some (signsD x, [])
  | _ => none
theorem di_str {tg l : Expr} {m : M D} (h : DV X l m) : DI X tg l (mThen fSigns m) := ⟨fun W tk => by
  obtain ⟨t, pe, rv⟩ := h.ex W tk
  refine ⟨_, pi_str pe, fun g σ ρ R rel q => ?_⟩
  unfold mThen at q
  rw [post_bind] at q
  refine rv g σ ρ _ rel (q.imp (fun d S1 e1 h1 g1 x es p1 r1 => ?_) fun e S1 _ h1 => h1)
  cases d with
  | str z => simp only [Rep] at r1; exact ⟨z, r1, h1 g1 _ es p1 iter_str⟩
  | _ => exact h1.elim⟩
end
end FW
end
section
set_option maxHeartbeats 2000000
/-! FW27: small words for what gen2.py prints. -/
namespace FW
open PySem PySem.Spec PyProof.Rows L2
theorem blk_nofree {N : List Str} {sc scope : Scope} {own : List (Str × Nat)} (k : scope.kind = .function) (u : ∀ y ∈ scope.names, scope.names.lookup y.1 = some y.2) (i : ∀ p ∈ own, N[p.2]? = some p.1) (nf : ∀ y ∈ scope.names, y.2 ≠ .free)
    (o : ∀ y ∈ scope.names, y.2 = .local ∨ y.2 = .cell → y.1 ∈ own.map (·.1) ∨ y.1 ∉ N) : BlkOk N sc scope own := ⟨k, u, i, fun y hy e => absurd e (nf y hy), o⟩
end FW
end
section
set_option maxHeartbeats 2000000
/-! FW28: names from the items of a list or a tuple. -/
namespace FW
open PySem PySem.Spec PyProof.Rows L2
section
variable {X : Cx} {K : PySem.W.Frag} {tg : Expr}
theorem pg_or {t u : TG} (h : PG X tg t) (h2 : PG X tg u) : PG X tg (fun v σ H Q => t v σ H Q ∨ u v σ H Q) := ⟨fun pins s σ H v w Q I r q => q.elim (h.run pins s σ H v w Q I r) (h2.run pins s σ H v w Q I r)⟩
def gTL (is : List Nat) (d : D) (ρ : List Slot) : Option (List Slot) := match d with
  | .tup ds => if ds.length = is.length then some (gSets is ds ρ) else none
  | .lst ds => if ds.length = is.length then some (gSets is ds ρ) else none
  | _ => none
theorem rg_tl (is : List Nat) : RG K (fun v σ H Q => gTup K is.length (gTups is) v σ H Q ∨ gUnl K is.length (gTups is) v σ H Q) is (gTL is) := .mk (len := fun d ρ ρ' e => by
  unfold gTL at e
  split at e
  · split at e
    · cases e; exact gSets_length _ _ _
    · cases e
  · split at e
    · cases e; exact gSets_length _ _ _
    · cases e
  · cases e) (run := fun g σ ρ v d ρ' Q rel r e q => by
  unfold gTL at e
  split at e
  · rename_i ds
    split at e
    · rename_i hl
      cases e
      simp only [Rep] at r
      obtain ⟨p, vs, rfl, hp, l⟩ := r
      exact .inl ⟨p, vs, rfl, SqT.of (rel.ok.le _ _ hp), by rw [l.length, hl], rg_sets is vs ds g σ ρ Q rel l hl q⟩
    · cases e
  · rename_i ds
    split at e
    · rename_i hl
      cases e
      simp only [Rep] at r
      obtain ⟨p, vs, rfl, hp, l⟩ := r
      exact .inr ⟨p, vs, rfl, FW.SqL.mono rel.ok.le hp, by rw [l.length, hl], rg_sets is vs ds g σ ρ Q rel l hl q⟩
    · cases e
  · cases e)
end
end FW
end
section
set_option maxHeartbeats 4000000
/-! printed by gen2.py: the defs of k04_machines_and_boxes as plain functions. -/
namespace FW
open PySem PySem.Spec PyProof.Rows L2
def top (i : Nat) : Stmt := PySem.Challenge.pw_flywright_k04_machines_and_boxes.main.body.getD i (.Pass ⟨0, 0, 0, 0⟩)
def inCls (s : Stmt) (j : Nat) : Stmt := match s with
  | .ClassDef (body := b) .. => b.getD j (.Pass ⟨0, 0, 0, 0⟩)
  | _ => .Pass ⟨0, 0, 0, 0⟩
def T : CT := ⟨fun c => match c with | "StageError" => ["StageError", "ValueError", "Exception", "BaseException", "object"] | "BadNumber" => ["BadNumber", "StageError", "ValueError", "Exception", "BaseException", "object"] | "BadName" => ["BadName", "StageError", "ValueError", "Exception", "BaseException", "object"] | "BadStage" => ["BadStage", "StageError", "ValueError", "Exception", "BaseException", "object"] | "BadSheet" => ["BadSheet", "StageError", "ValueError", "Exception", "BaseException", "object"] | "TooLong" => ["TooLong", "StageError", "ValueError", "Exception", "BaseException", "object"] | "Busy" => ["Busy", "StageError", "ValueError", "Exception", "BaseException", "object"] | "TooNear" => ["TooNear", "StageError", "ValueError", "Exception", "BaseException", "object"] | "Stopped" => ["Stopped", "StageError", "ValueError", "Exception", "BaseException", "object"] | "NotStopped" => ["NotStopped", "StageError", "ValueError", "Exception", "BaseException", "object"] | "Moving" => ["Moving", "StageError", "ValueError", "Exception", "BaseException", "object"] | "NoCue" => ["NoCue", "StageError", "ValueError", "Exception", "BaseException", "object"] | "BadRow" => ["BadRow", "StageError", "ValueError", "Exception", "BaseException", "object"] | "Machine" => ["Machine", "object"] | "Line" => ["Line", "Machine", "object"] | "Wagon" => ["Wagon", "Machine", "object"] | "Floor" => ["Floor", "Machine", "object"] | "Trap" => ["Trap", "Machine", "object"] | _ => [], ["StageError", "BadNumber", "BadName", "BadStage", "BadSheet", "TooLong", "Busy", "TooNear", "Stopped", "NotStopped", "Moving", "NoCue", "BadRow", "Machine", "Line", "Wagon", "Floor", "Trap"], ["StageError", "BadNumber", "BadName", "BadStage", "BadSheet", "TooLong", "Stopped", "NotStopped", "Moving", "NoCue"], ["Machine", "Line", "Wagon", "Floor", "Trap"], ["ValueError", "int", "bool", "str", "list", "tuple", "dict"]⟩
def cs_gain : List String := ["Machine", "Line", "Wagon", "Floor", "Trap"]
def cs_greatest : List String := ["Machine", "Line", "Wagon", "Floor", "Trap"]
def cs_high : List String := ["Line", "Wagon"]
def cs_least : List String := ["Machine", "Line", "Wagon", "Floor", "Trap"]
def cs_long : List String := ["Machine", "Line", "Wagon", "Floor", "Trap"]
def cs_name : List String := ["Machine", "Line", "Wagon", "Floor", "Trap"]
def cs_pace : List String := ["Machine", "Line", "Wagon", "Floor", "Trap"]
def cs_place : List String := ["Machine", "Line", "Wagon", "Floor", "Trap"]
def cs_rail : List String := ["Machine", "Line", "Wagon", "Floor", "Trap"]
def cs_spot : List String := ["Line", "Trap"]
def cs_walls : List String := ["Floor"]
structure Ev (K : PySem.W.Frag) (mg : Str → Option Value) : Prop where
  ct : T.ok K
  xm : ExmOk T K
  f_ValueError : mg "ValueError" = none
  f_all : mg "all" = none
  f_bool : mg "bool" = none
  f_dict : mg "dict" = none
  f_enumerate : mg "enumerate" = none
  f_int : mg "int" = none
  f_isinstance : mg "isinstance" = none
  f_len : mg "len" = none
  f_list : mg "list" = none
  f_max : mg "max" = none
  f_min : mg "min" = none
  f_range : mg "range" = none
  f_str : mg "str" = none
  f_tuple : mg "tuple" = none
  i_MOST_LANE : ∃ t, mg "MOST_LANE" = some (.int (9) t)
  i_MOST_LETTERS : ∃ t, mg "MOST_LETTERS" = some (.int (8) t)
  i_MOST_OFFSET : ∃ t, mg "MOST_OFFSET" = some (.int (719) t)
  i_MOST_PACE : ∃ t, mg "MOST_PACE" = some (.int (1000000000) t)
  i_MOST_PLACE : ∃ t, mg "MOST_PLACE" = some (.int (1000000000) t)
  i_MOST_SIZE : ∃ t, mg "MOST_SIZE" = some (.int (1000000) t)
  i_MOST_WALLS : ∃ t, mg "MOST_WALLS" = some (.int (4) t)
  s_LETTERS : ∃ t, mg "LETTERS" = some (.str (Str.ofString "abcdefghijklmnopqrstuvwxyz") t)
  c_BadName : mg "BadName" = some (.ref (He.ga K (Str.ofString "BadName")))
  c_BadNumber : mg "BadNumber" = some (.ref (He.ga K (Str.ofString "BadNumber")))
  c_BadRow : mg "BadRow" = some (.ref (He.ga K (Str.ofString "BadRow")))
  c_BadSheet : mg "BadSheet" = some (.ref (He.ga K (Str.ofString "BadSheet")))
  c_BadStage : mg "BadStage" = some (.ref (He.ga K (Str.ofString "BadStage")))
  c_Busy : mg "Busy" = some (.ref (He.ga K (Str.ofString "Busy")))
  c_Floor : mg "Floor" = some (.ref (He.ga K (Str.ofString "Floor")))
  c_Line : mg "Line" = some (.ref (He.ga K (Str.ofString "Line")))
  c_Machine : mg "Machine" = some (.ref (He.ga K (Str.ofString "Machine")))
  c_Moving : mg "Moving" = some (.ref (He.ga K (Str.ofString "Moving")))
  c_NoCue : mg "NoCue" = some (.ref (He.ga K (Str.ofString "NoCue")))
  c_NotStopped : mg "NotStopped" = some (.ref (He.ga K (Str.ofString "NotStopped")))
  c_StageError : mg "StageError" = some (.ref (He.ga K (Str.ofString "StageError")))
  c_Stopped : mg "Stopped" = some (.ref (He.ga K (Str.ofString "Stopped")))
  c_TooLong : mg "TooLong" = some (.ref (He.ga K (Str.ofString "TooLong")))
  c_TooNear : mg "TooNear" = some (.ref (He.ga K (Str.ofString "TooNear")))
  c_Trap : mg "Trap" = some (.ref (He.ga K (Str.ofString "Trap")))
  c_Wagon : mg "Wagon" = some (.ref (He.ga K (Str.ofString "Wagon")))
  x_BadName : (He.Fa.exc (Str.ofString "BadName")).ok K = true
  x_BadNumber : (He.Fa.exc (Str.ofString "BadNumber")).ok K = true
  fl_gain : ∀ c ∈ cs_gain, Cls K (He.ga K (Str.ofString c)) ∧ NoAttr K (He.ga K (Str.ofString c)) (Str.ofString "gain")
  fl_greatest : ∀ c ∈ cs_greatest, Cls K (He.ga K (Str.ofString c)) ∧ NoAttr K (He.ga K (Str.ofString c)) (Str.ofString "greatest")
  fl_high : ∀ c ∈ cs_high, Cls K (He.ga K (Str.ofString c)) ∧ NoAttr K (He.ga K (Str.ofString c)) (Str.ofString "high")
  fl_least : ∀ c ∈ cs_least, Cls K (He.ga K (Str.ofString c)) ∧ NoAttr K (He.ga K (Str.ofString c)) (Str.ofString "least")
  fl_long : ∀ c ∈ cs_long, Cls K (He.ga K (Str.ofString c)) ∧ NoAttr K (He.ga K (Str.ofString c)) (Str.ofString "long")
  fl_name : ∀ c ∈ cs_name, Cls K (He.ga K (Str.ofString c)) ∧ NoAttr K (He.ga K (Str.ofString c)) (Str.ofString "name")
  fl_pace : ∀ c ∈ cs_pace, Cls K (He.ga K (Str.ofString c)) ∧ NoAttr K (He.ga K (Str.ofString c)) (Str.ofString "pace")
  fl_place : ∀ c ∈ cs_place, Cls K (He.ga K (Str.ofString c)) ∧ NoAttr K (He.ga K (Str.ofString c)) (Str.ofString "place")
  fl_rail : ∀ c ∈ cs_rail, Cls K (He.ga K (Str.ofString c)) ∧ NoAttr K (He.ga K (Str.ofString c)) (Str.ofString "rail")
  fl_spot : ∀ c ∈ cs_spot, Cls K (He.ga K (Str.ofString c)) ∧ NoAttr K (He.ga K (Str.ofString c)) (Str.ofString "spot")
  fl_walls : ∀ c ∈ cs_walls, Cls K (He.ga K (Str.ofString c)) ∧ NoAttr K (He.ga K (Str.ofString c)) (Str.ofString "walls")
section
variable {P : Program} {w : World} {K : PySem.W.Frag} {mg : Str → Option Value} {base : Heap}
/-! is_whole -/
abbrev st_is_whole : Stmt := top 16
def N_is_whole : List Str := ["thing", "least", "most"]
theorem sc_is_whole : FnScope N_is_whole ["thing", "least", "most"] (defScope st_is_whole) := ⟨rfl, rfl, rfl, by decide +kernel, rfl, by decide +kernel, by decide +kernel⟩
noncomputable def b_is_whole : MS := (sSeq (sRet (mMap Slot.val (mAndV (mMap Slot.d (mCall (fIsi T) (aCons (eVar 0) (aCons (eC (.ty "int")) aNil)))) (mAndV (mNotV (mMap Slot.d (mCall (fIsi T) (aCons (eVar 0) (aCons (eC (.ty "bool")) aNil))))) (mMap D.bl (mChain cLe cLe (eVar 1) (eVar 0) (eVar 2))))))) sNext)
noncomputable def m_is_whole : MF := mDef N_is_whole b_is_whole
noncomputable def c_is_whole : MF := m_is_whole
theorem d_is_whole (ev : Ev K mg) (f : Addr) (cdv : Value) (A : Around) (outer : List Env) (s : Shared) (H : Hp) (E : XK) (hr : Room 0 (A.deeper (envOfC "is_whole" (defScope st_is_whole) s.heap.objs.size f cdv))) :
    DSs (cxOf (L2.CX P w) P w K mg base N_is_whole "is_whole" (defScope st_is_whole) f cdv A outer s H E) (defBody st_is_whole) b_is_whole := by
  have hN := sc_is_whole.nd
  have hu := hr.units
  have hc : (cxOf (L2.CX P w) P w K mg base N_is_whole "is_whole" (defScope st_is_whole) f cdv A outer s H E).calm = true := rfl
  have po := passes_of (X := (cxOf (L2.CX P w) P w K mg base N_is_whole "is_whole" (defScope st_is_whole) f cdv A outer s H E)) rfl
  have hr1 := hr
  exact (dss_cons (ds_ret (do_val (dv_and (dv_of (do_callB call_isiAll (r_isi ev.ct) rfl ev.f_isinstance (by decide +kernel) (da_cons (dv_var (pv 0)) (da_cons (dv_ty rfl ev.f_int (by decide +kernel)) da_nil)))) (dv_and (dv_not (dv_of (do_callB call_isiAll (r_isi ev.ct) rfl ev.f_isinstance (by decide +kernel) (da_cons (dv_var (pv 0)) (da_cons (dv_ty rfl ev.f_bool (by decide +kernel)) da_nil))))) (dv_one (dv_chain op_le op_le (r_cI : RCmp _ _ cLe) (r_cI : RCmp _ _ cLe) (dv_var (pv 1)) (dv_var (pv 0)) (dv_var (pv 2)) (nomark2 _ _))))))) dss_nil)
theorem G_is_whole {f : Addr} {fd : FuncData} (ev : Ev K mg) (F : FunD K "is_whole" "is_whole" (defArgs st_is_whole) (defBody st_is_whole) (defScope st_is_whole) [] [] f fd) : FnOk P w K mg base (L2.CX P w) 1 f fd ["thing", "least", "most"] (spD K 3 m_is_whole) ∧ Binds K fd ["thing", "least", "most"] [] :=
  ⟨fn_def F sc_is_whole (fun cdv A outer s H E hr => d_is_whole ev f cdv A outer s H E hr), F.bindsN fun _ _ _ _ _ _ us hl => match us, hl with | [_, _, _], _ => rfl⟩
/-! need_whole -/
abbrev st_need_whole : Stmt := top 17
def N_need_whole : List Str := ["thing", "least", "most"]
theorem sc_need_whole : FnScope N_need_whole ["thing", "least", "most"] (defScope st_need_whole) := ⟨rfl, rfl, rfl, by decide +kernel, rfl, by decide +kernel, by decide +kernel⟩
noncomputable def b_need_whole : MS := (sSeq (sIf (mNot (mTru (mMap Slot.d (mFn c_is_whole (aCons (eVar 0) (aCons (eVar 1) (aCons (eVar 2) aNil))))))) (sSeq (sRaise "BadNumber") sNext) sNext) sNext)
noncomputable def m_need_whole : MF := mDef N_need_whole b_need_whole
noncomputable def c_need_whole : MF := m_need_whole
theorem d_need_whole (ev : Ev K mg) (F_is_whole : DFn P w K mg base 1 "is_whole" 3 c_is_whole) (f : Addr) (cdv : Value) (A : Around) (outer : List Env) (s : Shared) (H : Hp) (E : XK) (hr : Room 1 (A.deeper (envOfC "need_whole" (defScope st_need_whole) s.heap.objs.size f cdv))) :
    DSs (cxOf (L2.CX P w) P w K mg base N_need_whole "need_whole" (defScope st_need_whole) f cdv A outer s H E) (defBody st_need_whole) b_need_whole := by
  have hN := sc_need_whole.nd
  have hu := hr.units
  have hc : (cxOf (L2.CX P w) P w K mg base N_need_whole "need_whole" (defScope st_need_whole) f cdv A outer s H E).calm = true := rfl
  have po := passes_of (X := (cxOf (L2.CX P w) P w K mg base N_need_whole "need_whole" (defScope st_need_whole) f cdv A outer s H E)) rfl
  have hr1 := hr
  exact (dss_cons (ds_if (dt_not (dt_tru (dv_of (do_call F_is_whole hr rfl (da_cons (dv_var (pv 0)) (da_cons (dv_var (pv 1)) (da_cons (dv_var (pv 2)) da_nil))))))) (dss_cons (ds_raise rfl ev.x_BadNumber ev.c_BadNumber rfl) dss_nil) dss_nil) dss_nil)
theorem G_need_whole {f : Addr} {fd : FuncData} (ev : Ev K mg) (F_is_whole : DFn P w K mg base 1 "is_whole" 3 c_is_whole) (F : FunD K "need_whole" "need_whole" (defArgs st_need_whole) (defBody st_need_whole) (defScope st_need_whole) [] [] f fd) : FnOk P w K mg base (L2.CX P w) 2 f fd ["thing", "least", "most"] (spD K 3 m_need_whole) ∧ Binds K fd ["thing", "least", "most"] [] :=
  ⟨fn_def F sc_need_whole (fun cdv A outer s H E hr => d_need_whole ev F_is_whole f cdv A outer s H E hr), F.bindsN fun _ _ _ _ _ _ us hl => match us, hl with | [_, _, _], _ => rfl⟩
/-! is_name -/
abbrev st_is_name : Stmt := top 26
def N_is_name : List Str := ["thing", "sign"]
theorem sc_is_name : FnScope N_is_name ["thing"] (defScope st_is_name) := ⟨rfl, rfl, rfl, by decide +kernel, rfl, by decide +kernel, by decide +kernel⟩
noncomputable def b_is_name_0 : MS := (sIf (mOr (mNot (mTru (mMap Slot.d (mCall (fIsi T) (aCons (eVar 0) (aCons (eC (.ty "str")) aNil)))))) (mNot (mChain cLe cLe (eC (.int (1))) (mMap Slot.d (mCall fLen (aCons (eVar 0) aNil))) (eC (.int (8)))))) (sSeq (sRet (mMap Slot.val (eC (.bl false)))) sNext) sNext)
noncomputable def b_is_name_1 : MS := (sRet (mCall fAll (aCons (mMap Slot.d (mLc (mThen fSigns (eVar 0)) (gN 1) [1] (eC true) (mMap D.bl (mCmp cIn (eVar 1) (eC (.str (Str.ofString "abcdefghijklmnopqrstuvwxyz"))))))) aNil)))
noncomputable def b_is_name : MS := (sSeq b_is_name_0 (sSeq b_is_name_1 sNext))
noncomputable def m_is_name : MF := mDef N_is_name b_is_name
noncomputable def c_is_name : MF := m_is_name
theorem d_is_name (ev : Ev K mg) (f : Addr) (cdv : Value) (A : Around) (outer : List Env) (s : Shared) (H : Hp) (E : XK) (hr : Room 0 (A.deeper (envOfC "is_name" (defScope st_is_name) s.heap.objs.size f cdv))) :
    DSs (cxOf (L2.CX P w) P w K mg base N_is_name "is_name" (defScope st_is_name) f cdv A outer s H E) (defBody st_is_name) b_is_name := by
  have hN := sc_is_name.nd
  have hu := hr.units
  have hc : (cxOf (L2.CX P w) P w K mg base N_is_name "is_name" (defScope st_is_name) f cdv A outer s H E).calm = true := rfl
  have po := passes_of (X := (cxOf (L2.CX P w) P w K mg base N_is_name "is_name" (defScope st_is_name) f cdv A outer s H E)) rfl
  have hr1 := hr
  exact (dss_cons (ds_if (dt_w (dw_or (dt_not (dt_tru (dv_of (do_callB call_isiAll (r_isi ev.ct) rfl ev.f_isinstance (by decide +kernel) (da_cons (dv_var (pv 0)) (da_cons (dv_ty rfl ev.f_str (by decide +kernel)) da_nil)))))) (dw_or1 (dt_not (dt_chain op_le op_le (r_cI : RCmp _ _ cLe) (r_cI : RCmp _ _ cLe) dv_int (dv_of (do_callB call_len r_len rfl ev.f_len (by decide +kernel) (da_cons (dv_var (pv 0)) da_nil))) (dv_gint rfl ev.i_MOST_LETTERS) (nomark2 _ _)))))) (dss_cons (ds_ret (do_val dv_bl)) dss_nil) dss_nil) (dss_cons (ds_ret (do_callB (cr_all hc) r_all rfl ev.f_all (by decide +kernel) (da_cons (dv_of (do_lc (own := [("sign", 1)]) rfl hN (di_str (dv_var (pv 0))) (by show BlkOk N_is_name (defScope st_is_name) _ _; exact ⟨rfl, by decide +kernel, by decide +kernel, by decide +kernel, by decide +kernel⟩) (rg_name 1) (fun _ _ _ _ _ => (pg_name hN rfl (by first | exact .inl rfl | exact .inr rfl))) (fun _ _ _ _ _ => dts_nil) (fun _ _ _ _ _ => (dv_cmp (op_inAll hu) (r_in : RCmp _ _ cIn) (dv_var (pv 1)) (dv_gstr rfl ev.s_LETTERS) rfl)))) da_nil))) dss_nil))
theorem G_is_name {f : Addr} {fd : FuncData} (ev : Ev K mg) (F : FunD K "is_name" "is_name" (defArgs st_is_name) (defBody st_is_name) (defScope st_is_name) [] [] f fd) : FnOk P w K mg base (L2.CX P w) 1 f fd ["thing"] (spD K 1 m_is_name) ∧ Binds K fd ["thing"] [] :=
  ⟨fn_def F sc_is_name (fun cdv A outer s H E hr => d_is_name ev f cdv A outer s H E hr), F.bindsN fun _ _ _ _ _ _ us hl => match us, hl with | [_], _ => rfl⟩
/-! need_place -/
abbrev st_need_place : Stmt := top 27
def N_need_place : List Str := ["thing"]
theorem sc_need_place : FnScope N_need_place ["thing"] (defScope st_need_place) := ⟨rfl, rfl, rfl, by decide +kernel, rfl, by decide +kernel, by decide +kernel⟩
noncomputable def b_need_place : MS := (sSeq (sExpr (mMap Slot.d (mFn c_need_whole (aCons (eVar 0) (aCons (mUn fNeg (eC (.int (1000000000)))) (aCons (eC (.int (1000000000))) aNil)))))) sNext)
noncomputable def m_need_place : MF := mDef N_need_place b_need_place
noncomputable def c_need_place : MF := m_need_place
theorem d_need_place (ev : Ev K mg) (F_need_whole : DFn P w K mg base 2 "need_whole" 3 c_need_whole) (f : Addr) (cdv : Value) (A : Around) (outer : List Env) (s : Shared) (H : Hp) (E : XK) (hr : Room 2 (A.deeper (envOfC "need_place" (defScope st_need_place) s.heap.objs.size f cdv))) :
    DSs (cxOf (L2.CX P w) P w K mg base N_need_place "need_place" (defScope st_need_place) f cdv A outer s H E) (defBody st_need_place) b_need_place := by
  have hN := sc_need_place.nd
  have hu := hr.units
  have hc : (cxOf (L2.CX P w) P w K mg base N_need_place "need_place" (defScope st_need_place) f cdv A outer s H E).calm = true := rfl
  have po := passes_of (X := (cxOf (L2.CX P w) P w K mg base N_need_place "need_place" (defScope st_need_place) f cdv A outer s H E)) rfl
  have hr1 := hr
  exact (dss_cons (ds_expr (dv_of (do_call F_need_whole hr rfl (da_cons (dv_var (pv 0)) (da_cons (dv_neg (dv_gint rfl ev.i_MOST_PLACE)) (da_cons (dv_gint rfl ev.i_MOST_PLACE) da_nil)))))) dss_nil)
theorem G_need_place {f : Addr} {fd : FuncData} (ev : Ev K mg) (F_need_whole : DFn P w K mg base 2 "need_whole" 3 c_need_whole) (F : FunD K "need_place" "need_place" (defArgs st_need_place) (defBody st_need_place) (defScope st_need_place) [] [] f fd) : FnOk P w K mg base (L2.CX P w) 3 f fd ["thing"] (spD K 1 m_need_place) ∧ Binds K fd ["thing"] [] :=
  ⟨fn_def F sc_need_place (fun cdv A outer s H E hr => d_need_place ev F_need_whole f cdv A outer s H E hr), F.bindsN fun _ _ _ _ _ _ us hl => match us, hl with | [_], _ => rfl⟩
/-! need_sizes -/
abbrev st_need_sizes : Stmt := top 28
def N_need_sizes : List Str := ["wide", "tall"]
theorem sc_need_sizes : FnScope N_need_sizes ["wide", "tall"] (defScope st_need_sizes) := ⟨rfl, rfl, rfl, by decide +kernel, rfl, by decide +kernel, by decide +kernel⟩
noncomputable def b_need_sizes_0 : MS := (sExpr (mMap Slot.d (mFn c_need_whole (aCons (eVar 0) (aCons (eC (.int (1))) (aCons (eC (.int (1000000))) aNil))))))
noncomputable def b_need_sizes_1 : MS := (sExpr (mMap Slot.d (mFn c_need_whole (aCons (eVar 1) (aCons (eC (.int (1))) (aCons (eC (.int (1000000))) aNil))))))
noncomputable def b_need_sizes : MS := (sSeq b_need_sizes_0 (sSeq b_need_sizes_1 sNext))
noncomputable def m_need_sizes : MF := mDef N_need_sizes b_need_sizes
noncomputable def c_need_sizes : MF := m_need_sizes
theorem d_need_sizes (ev : Ev K mg) (F_need_whole : DFn P w K mg base 2 "need_whole" 3 c_need_whole) (f : Addr) (cdv : Value) (A : Around) (outer : List Env) (s : Shared) (H : Hp) (E : XK) (hr : Room 2 (A.deeper (envOfC "need_sizes" (defScope st_need_sizes) s.heap.objs.size f cdv))) :
    DSs (cxOf (L2.CX P w) P w K mg base N_need_sizes "need_sizes" (defScope st_need_sizes) f cdv A outer s H E) (defBody st_need_sizes) b_need_sizes := by
  have hN := sc_need_sizes.nd
  have hu := hr.units
  have hc : (cxOf (L2.CX P w) P w K mg base N_need_sizes "need_sizes" (defScope st_need_sizes) f cdv A outer s H E).calm = true := rfl
  have po := passes_of (X := (cxOf (L2.CX P w) P w K mg base N_need_sizes "need_sizes" (defScope st_need_sizes) f cdv A outer s H E)) rfl
  have hr1 := hr
  exact (dss_cons (ds_expr (dv_of (do_call F_need_whole hr rfl (da_cons (dv_var (pv 0)) (da_cons dv_int (da_cons (dv_gint rfl ev.i_MOST_SIZE) da_nil)))))) (dss_cons (ds_expr (dv_of (do_call F_need_whole hr rfl (da_cons (dv_var (pv 1)) (da_cons dv_int (da_cons (dv_gint rfl ev.i_MOST_SIZE) da_nil)))))) dss_nil))
theorem G_need_sizes {f : Addr} {fd : FuncData} (ev : Ev K mg) (F_need_whole : DFn P w K mg base 2 "need_whole" 3 c_need_whole) (F : FunD K "need_sizes" "need_sizes" (defArgs st_need_sizes) (defBody st_need_sizes) (defScope st_need_sizes) [] [] f fd) : FnOk P w K mg base (L2.CX P w) 3 f fd ["wide", "tall"] (spD K 2 m_need_sizes) ∧ Binds K fd ["wide", "tall"] [] :=
  ⟨fn_def F sc_need_sizes (fun cdv A outer s H E hr => d_need_sizes ev F_need_whole f cdv A outer s H E hr), F.bindsN fun _ _ _ _ _ _ us hl => match us, hl with | [_, _], _ => rfl⟩
/-! _law_draw -/
abbrev st__law_draw : Stmt := top 35
def N__law_draw : List Str := ["_law_script", "_law_k"]
theorem sc__law_draw : FnScope N__law_draw ["_law_script", "_law_k"] (defScope st__law_draw) := ⟨rfl, rfl, rfl, by decide +kernel, rfl, by decide +kernel, by decide +kernel⟩
noncomputable def b__law_draw : MS := (sSeq (sRet (mIf (mCmp cGt (mMap Slot.d (mCall fLen (aCons (eVar 0) aNil))) (eVar 1)) (mBin opSb (eVar 0) (eVar 1)) (mMap Slot.val (eC (.int (0)))))) sNext)
noncomputable def m__law_draw : MF := mDef N__law_draw b__law_draw
noncomputable def c__law_draw : MF := m__law_draw
theorem d__law_draw (ev : Ev K mg) (f : Addr) (cdv : Value) (A : Around) (outer : List Env) (s : Shared) (H : Hp) (E : XK) (hr : Room 0 (A.deeper (envOfC "_law_draw" (defScope st__law_draw) s.heap.objs.size f cdv))) :
    DSs (cxOf (L2.CX P w) P w K mg base N__law_draw "_law_draw" (defScope st__law_draw) f cdv A outer s H E) (defBody st__law_draw) b__law_draw := by
  have hN := sc__law_draw.nd
  have hu := hr.units
  have hc : (cxOf (L2.CX P w) P w K mg base N__law_draw "_law_draw" (defScope st__law_draw) f cdv A outer s H E).calm = true := rfl
  have po := passes_of (X := (cxOf (L2.CX P w) P w K mg base N__law_draw "_law_draw" (defScope st__law_draw) f cdv A outer s H E)) rfl
  have hr1 := hr
  exact (dss_cons (ds_ret (do_if (dt_cmp op_gt (r_cI : RCmp _ _ cGt) (dv_of (do_callB call_len r_len rfl ev.f_len (by decide +kernel) (da_cons (dv_var (pv 0)) da_nil))) (dv_var (pv 1)) (nomark _)) (do_sub hu (fun _ _ => rfl) (fun _ _ => rfl) (dv_var (pv 0)) (dv_var (pv 1))) (do_val dv_int))) dss_nil)
theorem G__law_draw {f : Addr} {fd : FuncData} (ev : Ev K mg) (F : FunD K "_law_draw" "_law_draw" (defArgs st__law_draw) (defBody st__law_draw) (defScope st__law_draw) [] [] f fd) : FnOk P w K mg base (L2.CX P w) 1 f fd ["_law_script", "_law_k"] (spD K 2 m__law_draw) ∧ Binds K fd ["_law_script", "_law_k"] [] :=
  ⟨fn_def F sc__law_draw (fun cdv A outer s H E hr => d__law_draw ev f cdv A outer s H E hr), F.bindsN fun _ _ _ _ _ _ us hl => match us, hl with | [_, _], _ => rfl⟩
/-! _law_spread -/
abbrev st__law_spread : Stmt := top 36
def N__law_spread : List Str := ["_law_cell", "_law_k"]
theorem sc__law_spread : FnScope N__law_spread ["_law_cell", "_law_k"] (defScope st__law_spread) := ⟨rfl, rfl, rfl, by decide +kernel, rfl, by decide +kernel, by decide +kernel⟩
noncomputable def b__law_spread : MS := (sSeq (sRet (mBin (opI2 fMod) (mMap Slot.d (mBin opMul (mMap Slot.d (mBin opAdd (eVar 0) (eC (.int (3))))) (mMap Slot.d (mBin opAdd (mMap Slot.d (mBin opAdd (eC (.int (48271))) (mMap Slot.d (mBin opMul (mMap Slot.d (mBin opMul (eC (.int (2))) (eVar 1))) (eVar 1))))) (eVar 1))))) (eC (.int (2147483647))))) sNext)
noncomputable def m__law_spread : MF := mDef N__law_spread b__law_spread
noncomputable def c__law_spread : MF := m__law_spread
theorem d__law_spread (ev : Ev K mg) (f : Addr) (cdv : Value) (A : Around) (outer : List Env) (s : Shared) (H : Hp) (E : XK) (hr : Room 0 (A.deeper (envOfC "_law_spread" (defScope st__law_spread) s.heap.objs.size f cdv))) :
    DSs (cxOf (L2.CX P w) P w K mg base N__law_spread "_law_spread" (defScope st__law_spread) f cdv A outer s H E) (defBody st__law_spread) b__law_spread := by
  have hN := sc__law_spread.nd
  have hu := hr.units
  have hc : (cxOf (L2.CX P w) P w K mg base N__law_spread "_law_spread" (defScope st__law_spread) f cdv A outer s H E).calm = true := rfl
  have po := passes_of (X := (cxOf (L2.CX P w) P w K mg base N__law_spread "_law_spread" (defScope st__law_spread) f cdv A outer s H E)) rfl
  have hr1 := hr
  exact (dss_cons (ds_ret (do_bin op_mod r_mod (dv_of (do_bin op_mulA r_mulA (dv_of (do_bin op_addAll r_add (dv_var (pv 0)) dv_int)) (dv_of (do_bin op_addAll r_add (dv_of (do_bin op_addAll r_add dv_int (dv_of (do_bin op_mulA r_mulA (dv_of (do_bin op_mulA r_mulA dv_int (dv_var (pv 1)))) (dv_var (pv 1)))))) (dv_var (pv 1)))))) dv_int)) dss_nil)
theorem G__law_spread {f : Addr} {fd : FuncData} (ev : Ev K mg) (F : FunD K "_law_spread" "_law_spread" (defArgs st__law_spread) (defBody st__law_spread) (defScope st__law_spread) [] [] f fd) : FnOk P w K mg base (L2.CX P w) 1 f fd ["_law_cell", "_law_k"] (spD K 2 m__law_spread) ∧ Binds K fd ["_law_cell", "_law_k"] [] :=
  ⟨fn_def F sc__law_spread (fun cdv A outer s H E hr => d__law_spread ev f cdv A outer s H E hr), F.bindsN fun _ _ _ _ _ _ us hl => match us, hl with | [_, _], _ => rfl⟩
/-! _law_takes -/
abbrev st__law_takes : Stmt := top 37
def N__law_takes : List Str := ["_law_own", "_law_low", "_law_high", "_law_shut"]
theorem sc__law_takes : FnScope N__law_takes ["_law_own", "_law_low", "_law_high"] (defScope st__law_takes) := ⟨rfl, rfl, rfl, by decide +kernel, rfl, by decide +kernel, by decide +kernel⟩
noncomputable def b__law_takes_0 : MS := (sIf (mCmp cEq (mMap Slot.d (mBin opSb (eVar 0) (eC (.str (Str.ofString "kind"))))) (eC (.str (Str.ofString "line")))) (sSeq (sRet (oLst (aCons (mMap D.tup (aCons (mMap Slot.d (mBin opSb (eVar 0) (eC (.str (Str.ofString "lane"))))) (aCons (mMap Slot.d (mBin opSb (eVar 0) (eC (.str (Str.ofString "at"))))) (aCons (mMap Slot.d (mBin opSb (eVar 0) (eC (.str (Str.ofString "wide"))))) (aCons (eVar 1) (aCons (mMap Slot.d (mBin opSub (mMap Slot.d (mBin opAdd (mMap Slot.d (mBin opSb (eVar 0) (eC (.str (Str.ofString "tall"))))) (eVar 2))) (eVar 1))) aNil)))))) aNil))) sNext) sNext)
noncomputable def b__law_takes_1 : MS := (sIf (mCmp cEq (mMap Slot.d (mBin opSb (eVar 0) (eC (.str (Str.ofString "kind"))))) (eC (.str (Str.ofString "wagon")))) (sSeq (sRet (oLst (aCons (mMap D.tup (aCons (mMap Slot.d (mBin opSb (eVar 0) (eC (.str (Str.ofString "lane"))))) (aCons (eVar 1) (aCons (mMap Slot.d (mBin opSub (mMap Slot.d (mBin opAdd (mMap Slot.d (mBin opSb (eVar 0) (eC (.str (Str.ofString "wide"))))) (eVar 2))) (eVar 1))) (aCons (eC (.int (0))) (aCons (mMap Slot.d (mBin opSb (eVar 0) (eC (.str (Str.ofString "tall"))))) aNil)))))) aNil))) sNext) sNext)
noncomputable def b__law_takes_2 : MS := (sIf (mCmp cEq (mMap Slot.d (mBin opSb (eVar 0) (eC (.str (Str.ofString "kind"))))) (eC (.str (Str.ofString "trap")))) (sSeq (sRet (mRep (oLst (aCons (mMap D.tup (aCons (mMap Slot.d (mBin opSb (eVar 0) (eC (.str (Str.ofString "lane"))))) (aCons (mMap Slot.d (mBin opSb (eVar 0) (eC (.str (Str.ofString "at"))))) (aCons (mMap Slot.d (mBin opSb (eVar 0) (eC (.str (Str.ofString "wide"))))) (aCons (eC (.int (0))) (aCons (eC (.int (1))) aNil)))))) aNil)) (mMap Slot.d (mCall fInt (aCons (mMap D.bl (mCmp cLt (eVar 1) (eC (.int (0))))) aNil))))) sNext) sNext)
noncomputable def b__law_takes_3 : MS := (sRet (mLc (mSeq (mMap Slot.d (mBin opSb (eVar 0) (eC (.str (Str.ofString "walls")))))) (gN 3) [3] (eC true) (mMap D.tup (aCons (mMap Slot.d (mBin opSb (eVar 0) (eC (.str (Str.ofString "lane"))))) (aCons (mMap Slot.d (mBin opAdd (mMap Slot.d (mBin opSb (eVar 3) (eC (.int (0))))) (eVar 1))) (aCons (mMap Slot.d (mBin opSub (mMap Slot.d (mBin opAdd (mMap Slot.d (mBin opSb (eVar 3) (eC (.int (1))))) (eVar 2))) (eVar 1))) (aCons (eC (.int (0))) (aCons (mMap Slot.d (mBin opSb (eVar 3) (eC (.int (2))))) aNil))))))))
noncomputable def b__law_takes : MS := (sSeq b__law_takes_0 (sSeq b__law_takes_1 (sSeq b__law_takes_2 (sSeq b__law_takes_3 sNext))))
noncomputable def m__law_takes : MF := mDef N__law_takes b__law_takes
noncomputable def c__law_takes : MF := m__law_takes
theorem d__law_takes (ev : Ev K mg) (f : Addr) (cdv : Value) (A : Around) (outer : List Env) (s : Shared) (H : Hp) (E : XK) (hr : Room 0 (A.deeper (envOfC "_law_takes" (defScope st__law_takes) s.heap.objs.size f cdv))) :
    DSs (cxOf (L2.CX P w) P w K mg base N__law_takes "_law_takes" (defScope st__law_takes) f cdv A outer s H E) (defBody st__law_takes) b__law_takes := by
  have hN := sc__law_takes.nd
  have hu := hr.units
  have hc : (cxOf (L2.CX P w) P w K mg base N__law_takes "_law_takes" (defScope st__law_takes) f cdv A outer s H E).calm = true := rfl
  have po := passes_of (X := (cxOf (L2.CX P w) P w K mg base N__law_takes "_law_takes" (defScope st__law_takes) f cdv A outer s H E)) rfl
  have hr1 := hr
  exact (dss_cons (ds_if (dt_cmp (op_eqAll hu) (r_eq : RCmp _ _ cEq) (dv_of (do_sub hu (fun _ _ => rfl) (fun _ _ => rfl) (dv_var (pv 0)) dv_str)) dv_str (nomark _)) (dss_cons (ds_ret (do_lst (da_cons (dv_tup (da_cons (dv_of (do_sub hu (fun _ _ => rfl) (fun _ _ => rfl) (dv_var (pv 0)) dv_str)) (da_cons (dv_of (do_sub hu (fun _ _ => rfl) (fun _ _ => rfl) (dv_var (pv 0)) dv_str)) (da_cons (dv_of (do_sub hu (fun _ _ => rfl) (fun _ _ => rfl) (dv_var (pv 0)) dv_str)) (da_cons (dv_var (pv 1)) (da_cons (dv_of (do_bin op_sub r_sub (dv_of (do_bin op_addAll r_add (dv_of (do_sub hu (fun _ _ => rfl) (fun _ _ => rfl) (dv_var (pv 0)) dv_str)) (dv_var (pv 2)))) (dv_var (pv 1)))) da_nil)))))) da_nil))) dss_nil) dss_nil) (dss_cons (ds_if (dt_cmp (op_eqAll hu) (r_eq : RCmp _ _ cEq) (dv_of (do_sub hu (fun _ _ => rfl) (fun _ _ => rfl) (dv_var (pv 0)) dv_str)) dv_str (nomark _)) (dss_cons (ds_ret (do_lst (da_cons (dv_tup (da_cons (dv_of (do_sub hu (fun _ _ => rfl) (fun _ _ => rfl) (dv_var (pv 0)) dv_str)) (da_cons (dv_var (pv 1)) (da_cons (dv_of (do_bin op_sub r_sub (dv_of (do_bin op_addAll r_add (dv_of (do_sub hu (fun _ _ => rfl) (fun _ _ => rfl) (dv_var (pv 0)) dv_str)) (dv_var (pv 2)))) (dv_var (pv 1)))) (da_cons dv_int (da_cons (dv_of (do_sub hu (fun _ _ => rfl) (fun _ _ => rfl) (dv_var (pv 0)) dv_str)) da_nil)))))) da_nil))) dss_nil) dss_nil) (dss_cons (ds_if (dt_cmp (op_eqAll hu) (r_eq : RCmp _ _ cEq) (dv_of (do_sub hu (fun _ _ => rfl) (fun _ _ => rfl) (dv_var (pv 0)) dv_str)) dv_str (nomark _)) (dss_cons (ds_ret (do_rep (do_lst (da_cons (dv_tup (da_cons (dv_of (do_sub hu (fun _ _ => rfl) (fun _ _ => rfl) (dv_var (pv 0)) dv_str)) (da_cons (dv_of (do_sub hu (fun _ _ => rfl) (fun _ _ => rfl) (dv_var (pv 0)) dv_str)) (da_cons (dv_of (do_sub hu (fun _ _ => rfl) (fun _ _ => rfl) (dv_var (pv 0)) dv_str)) (da_cons dv_int (da_cons dv_int da_nil)))))) da_nil)) (dv_of (do_callTy call_int1 r_int rfl ev.f_int (by decide +kernel) (da_cons (dv_cmp op_lt (r_cI : RCmp _ _ cLt) (dv_var (pv 1)) dv_int (nomark _)) da_nil))))) dss_nil) dss_nil) (dss_cons (ds_ret (do_lc (own := [("_law_shut", 3)]) rfl hN (di_seq (dv_of (do_sub hu (fun _ _ => rfl) (fun _ _ => rfl) (dv_var (pv 0)) dv_str))) (by show BlkOk N__law_takes (defScope st__law_takes) _ _; exact ⟨rfl, by decide +kernel, by decide +kernel, by decide +kernel, by decide +kernel⟩) (rg_name 3) (fun _ _ _ _ _ => (pg_name hN rfl (by first | exact .inl rfl | exact .inr rfl))) (fun _ _ _ _ _ => dts_nil) (fun _ _ _ _ _ => (dv_tup (da_cons (dv_of (do_sub hu (fun _ _ => rfl) (fun _ _ => rfl) (dv_var (pv 0)) dv_str)) (da_cons (dv_of (do_bin op_addAll r_add (dv_of (do_sub hu (fun _ _ => rfl) (fun _ _ => rfl) (dv_var (pv 3)) dv_int)) (dv_var (pv 1)))) (da_cons (dv_of (do_bin op_sub r_sub (dv_of (do_bin op_addAll r_add (dv_of (do_sub hu (fun _ _ => rfl) (fun _ _ => rfl) (dv_var (pv 3)) dv_int)) (dv_var (pv 2)))) (dv_var (pv 1)))) (da_cons dv_int (da_cons (dv_of (do_sub hu (fun _ _ => rfl) (fun _ _ => rfl) (dv_var (pv 3)) dv_int)) da_nil))))))))) dss_nil))))
theorem G__law_takes {f : Addr} {fd : FuncData} (ev : Ev K mg) (F : FunD K "_law_takes" "_law_takes" (defArgs st__law_takes) (defBody st__law_takes) (defScope st__law_takes) [] [] f fd) : FnOk P w K mg base (L2.CX P w) 1 f fd ["_law_own", "_law_low", "_law_high"] (spD K 3 m__law_takes) ∧ Binds K fd ["_law_own", "_law_low", "_law_high"] [] :=
  ⟨fn_def F sc__law_takes (fun cdv A outer s H E hr => d__law_takes ev f cdv A outer s H E hr), F.bindsN fun _ _ _ _ _ _ us hl => match us, hl with | [_, _, _], _ => rfl⟩
/-! Machine.__init__ -/
abbrev st_Machine_init : Stmt := inCls (top 29) 0
def N_Machine_init : List Str := ["self", "name", "least", "greatest", "pace", "gain", "place"]
theorem sc_Machine_init : FnScope N_Machine_init ["self", "name", "least", "greatest", "pace", "gain", "place"] (defScope st_Machine_init) := ⟨rfl, rfl, rfl, by decide +kernel, rfl, by decide +kernel, by decide +kernel⟩
noncomputable def b_Machine_init_0 : MS := (sIf (mNot (mTru (mMap Slot.d (mFn c_is_name (aCons (eVar 1) aNil))))) (sSeq (sRaise "BadName") sNext) sNext)
noncomputable def b_Machine_init_1 : MS := (sExpr (mMap Slot.d (mFn c_need_place (aCons (eVar 2) aNil))))
noncomputable def b_Machine_init_2 : MS := (sExpr (mMap Slot.d (mFn c_need_whole (aCons (eVar 3) (aCons (eVar 2) (aCons (eC (.int (1000000000))) aNil))))))
noncomputable def b_Machine_init_3 : MS := (sExpr (mMap Slot.d (mFn c_need_whole (aCons (eVar 4) (aCons (eC (.int (1))) (aCons (eC (.int (1000000000))) aNil))))))
noncomputable def b_Machine_init_4 : MS := (sExpr (mMap Slot.d (mFn c_need_whole (aCons (eVar 5) (aCons (eC (.int (1))) (aCons (eC (.int (1000000000))) aNil))))))
noncomputable def b_Machine_init_5 : MS := (sExpr (mMap Slot.d (mFn c_need_whole (aCons (eVar 6) (aCons (eVar 2) (aCons (eVar 3) aNil))))))
noncomputable def b_Machine_init_6 : MS := (sFldR cs_name "name" (eVar 0) (eVar 1))
noncomputable def b_Machine_init_7 : MS := (sFldR cs_least "least" (eVar 0) (eVar 2))
noncomputable def b_Machine_init_8 : MS := (sFldR cs_greatest "greatest" (eVar 0) (eVar 3))
noncomputable def b_Machine_init_9 : MS := (sFldR cs_pace "pace" (eVar 0) (eVar 4))
noncomputable def b_Machine_init_10 : MS := (sFldR cs_gain "gain" (eVar 0) (eVar 5))
noncomputable def b_Machine_init_11 : MS := (sFldR cs_place "place" (eVar 0) (eVar 6))
noncomputable def b_Machine_init_12 : MS := (sFldR cs_rail "rail" (eVar 0) (eC (.int (0))))
noncomputable def b_Machine_init_13 : MS := (sFldR cs_long "long" (eVar 0) (eC (.int (1))))
noncomputable def b_Machine_init : MS := (sSeq b_Machine_init_0 (sSeq b_Machine_init_1 (sSeq b_Machine_init_2 (sSeq b_Machine_init_3 (sSeq b_Machine_init_4 (sSeq b_Machine_init_5 (sSeq b_Machine_init_6 (sSeq b_Machine_init_7 (sSeq b_Machine_init_8 (sSeq b_Machine_init_9 (sSeq b_Machine_init_10 (sSeq b_Machine_init_11 (sSeq b_Machine_init_12 (sSeq b_Machine_init_13 sNext))))))))))))))
noncomputable def m_Machine_init : MF := mDef N_Machine_init b_Machine_init
noncomputable def c_Machine_init : MF := m_Machine_init
theorem d_Machine_init (ev : Ev K mg) (F_is_name : DFn P w K mg base 3 "is_name" 1 c_is_name) (F_need_place : DFn P w K mg base 3 "need_place" 1 c_need_place) (F_need_whole : DFn P w K mg base 3 "need_whole" 3 c_need_whole) (f : Addr) (cdv : Value) (A : Around) (outer : List Env) (s : Shared) (H : Hp) (E : XK) (hr : Room 3 (A.deeper (envOfC "Machine.__init__" (defScope st_Machine_init) s.heap.objs.size f cdv))) :
    DSs (cxOf (L2.CX P w) P w K mg base N_Machine_init "Machine.__init__" (defScope st_Machine_init) f cdv A outer s H E) (defBody st_Machine_init) b_Machine_init := by
  have hN := sc_Machine_init.nd
  have hu := hr.units
  have hc : (cxOf (L2.CX P w) P w K mg base N_Machine_init "Machine.__init__" (defScope st_Machine_init) f cdv A outer s H E).calm = true := rfl
  have po := passes_of (X := (cxOf (L2.CX P w) P w K mg base N_Machine_init "Machine.__init__" (defScope st_Machine_init) f cdv A outer s H E)) rfl
  have hr1 := hr
  exact (dss_cons (ds_if (dt_not (dt_tru (dv_of (do_call F_is_name hr rfl (da_cons (dv_var (pv 1)) da_nil))))) (dss_cons (ds_raise rfl ev.x_BadName ev.c_BadName rfl) dss_nil) dss_nil) (dss_cons (ds_expr (dv_of (do_call F_need_place hr rfl (da_cons (dv_var (pv 2)) da_nil)))) (dss_cons (ds_expr (dv_of (do_call F_need_whole hr rfl (da_cons (dv_var (pv 3)) (da_cons (dv_var (pv 2)) (da_cons (dv_gint rfl ev.i_MOST_PLACE) da_nil)))))) (dss_cons (ds_expr (dv_of (do_call F_need_whole hr rfl (da_cons (dv_var (pv 4)) (da_cons dv_int (da_cons (dv_gint rfl ev.i_MOST_PACE) da_nil)))))) (dss_cons (ds_expr (dv_of (do_call F_need_whole hr rfl (da_cons (dv_var (pv 5)) (da_cons dv_int (da_cons (dv_gint rfl ev.i_MOST_PACE) da_nil)))))) (dss_cons (ds_expr (dv_of (do_call F_need_whole hr rfl (da_cons (dv_var (pv 6)) (da_cons (dv_var (pv 2)) (da_cons (dv_var (pv 3)) da_nil)))))) (dss_cons (ds_fldR (f := "name") (dv_var (pv 0)) (dv_var (pv 1)) ev.fl_name) (dss_cons (ds_fldR (f := "least") (dv_var (pv 0)) (dv_var (pv 2)) ev.fl_least) (dss_cons (ds_fldR (f := "greatest") (dv_var (pv 0)) (dv_var (pv 3)) ev.fl_greatest) (dss_cons (ds_fldR (f := "pace") (dv_var (pv 0)) (dv_var (pv 4)) ev.fl_pace) (dss_cons (ds_fldR (f := "gain") (dv_var (pv 0)) (dv_var (pv 5)) ev.fl_gain) (dss_cons (ds_fldR (f := "place") (dv_var (pv 0)) (dv_var (pv 6)) ev.fl_place) (dss_cons (ds_fldR (f := "rail") (dv_var (pv 0)) dv_int ev.fl_rail) (dss_cons (ds_fldR (f := "long") (dv_var (pv 0)) dv_int ev.fl_long) dss_nil))))))))))))))
theorem G_Machine_init {f : Addr} {fd : FuncData} (ev : Ev K mg) (F_is_name : DFn P w K mg base 3 "is_name" 1 c_is_name) (F_need_place : DFn P w K mg base 3 "need_place" 1 c_need_place) (F_need_whole : DFn P w K mg base 3 "need_whole" 3 c_need_whole) (F : FunD K "__init__" "Machine.__init__" (defArgs st_Machine_init) (defBody st_Machine_init) (defScope st_Machine_init) [] [] f fd) : FnOk P w K mg base (L2.CX P w) 4 f fd ["self", "name", "least", "greatest", "pace", "gain", "place"] (spD K 7 m_Machine_init) ∧ Binds K fd ["self", "name", "least", "greatest", "pace", "gain", "place"] [] :=
  ⟨fn_def F sc_Machine_init (fun cdv A outer s H E hr => d_Machine_init ev F_is_name F_need_place F_need_whole f cdv A outer s H E hr), F.bindsN fun _ _ _ _ _ _ us hl => match us, hl with | [_, _, _, _, _, _, _], _ => rfl⟩
/-! Line.__init__ -/
abbrev st_Line_init : Stmt := inCls (top 30) 0
def N_Line_init : List Str := ["self", "name", "least", "greatest", "pace", "gain", "place", "lane", "at", "wide", "tall"]
theorem sc_Line_init : FnScope N_Line_init ["self", "name", "least", "greatest", "pace", "gain", "place", "lane", "at", "wide", "tall"] (defScope st_Line_init) := ⟨rfl, rfl, rfl, by decide +kernel, rfl, by decide +kernel, by decide +kernel⟩
noncomputable def b_Line_init_0 : MS := (sExpr (mMap Slot.d (mFn m_Machine_init (aCons (eVar 0) (aCons (eVar 1) (aCons (eVar 2) (aCons (eVar 3) (aCons (eVar 4) (aCons (eVar 5) (aCons (eVar 6) aNil))))))))))
noncomputable def b_Line_init_1 : MS := (sExpr (mMap Slot.d (mFn c_need_whole (aCons (eVar 7) (aCons (eC (.int (0))) (aCons (eC (.int (9))) aNil))))))
noncomputable def b_Line_init_2 : MS := (sExpr (mMap Slot.d (mFn c_need_place (aCons (eVar 8) aNil))))
noncomputable def b_Line_init_3 : MS := (sExpr (mMap Slot.d (mFn c_need_sizes (aCons (eVar 9) (aCons (eVar 10) aNil)))))
noncomputable def b_Line_init_4 : MS := (sFldR cs_rail "rail" (eVar 0) (eVar 7))
noncomputable def b_Line_init_5 : MS := (sFldR cs_long "long" (eVar 0) (eVar 9))
noncomputable def b_Line_init_6 : MS := (sFldR cs_spot "spot" (eVar 0) (eVar 8))
noncomputable def b_Line_init_7 : MS := (sFldR cs_high "high" (eVar 0) (eVar 10))
noncomputable def b_Line_init : MS := (sSeq b_Line_init_0 (sSeq b_Line_init_1 (sSeq b_Line_init_2 (sSeq b_Line_init_3 (sSeq b_Line_init_4 (sSeq b_Line_init_5 (sSeq b_Line_init_6 (sSeq b_Line_init_7 sNext))))))))
noncomputable def m_Line_init : MF := mDef N_Line_init b_Line_init
noncomputable def c_Line_init : MF := m_Line_init
theorem d_Line_init (ev : Ev K mg) (K_Machine_init : CFn P w K mg base 4 "Machine" "__init__" 7 m_Machine_init) (F_need_whole : DFn P w K mg base 4 "need_whole" 3 c_need_whole) (F_need_place : DFn P w K mg base 4 "need_place" 1 c_need_place) (F_need_sizes : DFn P w K mg base 4 "need_sizes" 2 c_need_sizes) (f : Addr) (cdv : Value) (A : Around) (outer : List Env) (s : Shared) (H : Hp) (E : XK) (hr : Room 4 (A.deeper (envOfC "Line.__init__" (defScope st_Line_init) s.heap.objs.size f cdv))) :
    DSs (cxOf (L2.CX P w) P w K mg base N_Line_init "Line.__init__" (defScope st_Line_init) f cdv A outer s H E) (defBody st_Line_init) b_Line_init := by
  have hN := sc_Line_init.nd
  have hu := hr.units
  have hc : (cxOf (L2.CX P w) P w K mg base N_Line_init "Line.__init__" (defScope st_Line_init) f cdv A outer s H E).calm = true := rfl
  have po := passes_of (X := (cxOf (L2.CX P w) P w K mg base N_Line_init "Line.__init__" (defScope st_Line_init) f cdv A outer s H E)) rfl
  have hr1 := hr
  exact (dss_cons (ds_expr (dv_of (do_clsfn (c := "Machine") (m := "__init__") K_Machine_init hr rfl ev.c_Machine (da_cons (dv_var (pv 0)) (da_cons (dv_var (pv 1)) (da_cons (dv_var (pv 2)) (da_cons (dv_var (pv 3)) (da_cons (dv_var (pv 4)) (da_cons (dv_var (pv 5)) (da_cons (dv_var (pv 6)) da_nil)))))))))) (dss_cons (ds_expr (dv_of (do_call F_need_whole hr rfl (da_cons (dv_var (pv 7)) (da_cons dv_int (da_cons (dv_gint rfl ev.i_MOST_LANE) da_nil)))))) (dss_cons (ds_expr (dv_of (do_call F_need_place hr rfl (da_cons (dv_var (pv 8)) da_nil)))) (dss_cons (ds_expr (dv_of (do_call F_need_sizes hr rfl (da_cons (dv_var (pv 9)) (da_cons (dv_var (pv 10)) da_nil))))) (dss_cons (ds_fldR (f := "rail") (dv_var (pv 0)) (dv_var (pv 7)) ev.fl_rail) (dss_cons (ds_fldR (f := "long") (dv_var (pv 0)) (dv_var (pv 9)) ev.fl_long) (dss_cons (ds_fldR (f := "spot") (dv_var (pv 0)) (dv_var (pv 8)) ev.fl_spot) (dss_cons (ds_fldR (f := "high") (dv_var (pv 0)) (dv_var (pv 10)) ev.fl_high) dss_nil))))))))
theorem G_Line_init {f : Addr} {fd : FuncData} (ev : Ev K mg) (K_Machine_init : CFn P w K mg base 4 "Machine" "__init__" 7 m_Machine_init) (F_need_whole : DFn P w K mg base 4 "need_whole" 3 c_need_whole) (F_need_place : DFn P w K mg base 4 "need_place" 1 c_need_place) (F_need_sizes : DFn P w K mg base 4 "need_sizes" 2 c_need_sizes) (F : FunD K "__init__" "Line.__init__" (defArgs st_Line_init) (defBody st_Line_init) (defScope st_Line_init) [] [] f fd) : FnOk P w K mg base (L2.CX P w) 5 f fd ["self", "name", "least", "greatest", "pace", "gain", "place", "lane", "at", "wide", "tall"] (spD K 11 m_Line_init) ∧ Binds K fd ["self", "name", "least", "greatest", "pace", "gain", "place", "lane", "at", "wide", "tall"] [] :=
  ⟨fn_def F sc_Line_init (fun cdv A outer s H E hr => d_Line_init ev K_Machine_init F_need_whole F_need_place F_need_sizes f cdv A outer s H E hr), F.bindsN fun _ _ _ _ _ _ us hl => match us, hl with | [_, _, _, _, _, _, _, _, _, _, _], _ => rfl⟩
/-! Wagon.__init__ -/
abbrev st_Wagon_init : Stmt := inCls (top 31) 0
def N_Wagon_init : List Str := ["self", "name", "least", "greatest", "pace", "gain", "place", "lane", "wide", "tall"]
theorem sc_Wagon_init : FnScope N_Wagon_init ["self", "name", "least", "greatest", "pace", "gain", "place", "lane", "wide", "tall"] (defScope st_Wagon_init) := ⟨rfl, rfl, rfl, by decide +kernel, rfl, by decide +kernel, by decide +kernel⟩
noncomputable def b_Wagon_init_0 : MS := (sExpr (mMap Slot.d (mFn m_Machine_init (aCons (eVar 0) (aCons (eVar 1) (aCons (eVar 2) (aCons (eVar 3) (aCons (eVar 4) (aCons (eVar 5) (aCons (eVar 6) aNil))))))))))
noncomputable def b_Wagon_init_1 : MS := (sExpr (mMap Slot.d (mFn c_need_whole (aCons (eVar 7) (aCons (eC (.int (0))) (aCons (eC (.int (9))) aNil))))))
noncomputable def b_Wagon_init_2 : MS := (sExpr (mMap Slot.d (mFn c_need_sizes (aCons (eVar 8) (aCons (eVar 9) aNil)))))
noncomputable def b_Wagon_init_3 : MS := (sFldR cs_rail "rail" (eVar 0) (eVar 7))
noncomputable def b_Wagon_init_4 : MS := (sFldR cs_long "long" (eVar 0) (eVar 8))
noncomputable def b_Wagon_init_5 : MS := (sFldR cs_high "high" (eVar 0) (eVar 9))
noncomputable def b_Wagon_init : MS := (sSeq b_Wagon_init_0 (sSeq b_Wagon_init_1 (sSeq b_Wagon_init_2 (sSeq b_Wagon_init_3 (sSeq b_Wagon_init_4 (sSeq b_Wagon_init_5 sNext))))))
noncomputable def m_Wagon_init : MF := mDef N_Wagon_init b_Wagon_init
noncomputable def c_Wagon_init : MF := m_Wagon_init
theorem d_Wagon_init (ev : Ev K mg) (K_Machine_init : CFn P w K mg base 4 "Machine" "__init__" 7 m_Machine_init) (F_need_whole : DFn P w K mg base 4 "need_whole" 3 c_need_whole) (F_need_sizes : DFn P w K mg base 4 "need_sizes" 2 c_need_sizes) (f : Addr) (cdv : Value) (A : Around) (outer : List Env) (s : Shared) (H : Hp) (E : XK) (hr : Room 4 (A.deeper (envOfC "Wagon.__init__" (defScope st_Wagon_init) s.heap.objs.size f cdv))) :
    DSs (cxOf (L2.CX P w) P w K mg base N_Wagon_init "Wagon.__init__" (defScope st_Wagon_init) f cdv A outer s H E) (defBody st_Wagon_init) b_Wagon_init := by
  have hN := sc_Wagon_init.nd
  have hu := hr.units
  have hc : (cxOf (L2.CX P w) P w K mg base N_Wagon_init "Wagon.__init__" (defScope st_Wagon_init) f cdv A outer s H E).calm = true := rfl
  have po := passes_of (X := (cxOf (L2.CX P w) P w K mg base N_Wagon_init "Wagon.__init__" (defScope st_Wagon_init) f cdv A outer s H E)) rfl
  have hr1 := hr
  exact (dss_cons (ds_expr (dv_of (do_clsfn (c := "Machine") (m := "__init__") K_Machine_init hr rfl ev.c_Machine (da_cons (dv_var (pv 0)) (da_cons (dv_var (pv 1)) (da_cons (dv_var (pv 2)) (da_cons (dv_var (pv 3)) (da_cons (dv_var (pv 4)) (da_cons (dv_var (pv 5)) (da_cons (dv_var (pv 6)) da_nil)))))))))) (dss_cons (ds_expr (dv_of (do_call F_need_whole hr rfl (da_cons (dv_var (pv 7)) (da_cons dv_int (da_cons (dv_gint rfl ev.i_MOST_LANE) da_nil)))))) (dss_cons (ds_expr (dv_of (do_call F_need_sizes hr rfl (da_cons (dv_var (pv 8)) (da_cons (dv_var (pv 9)) da_nil))))) (dss_cons (ds_fldR (f := "rail") (dv_var (pv 0)) (dv_var (pv 7)) ev.fl_rail) (dss_cons (ds_fldR (f := "long") (dv_var (pv 0)) (dv_var (pv 8)) ev.fl_long) (dss_cons (ds_fldR (f := "high") (dv_var (pv 0)) (dv_var (pv 9)) ev.fl_high) dss_nil))))))
theorem G_Wagon_init {f : Addr} {fd : FuncData} (ev : Ev K mg) (K_Machine_init : CFn P w K mg base 4 "Machine" "__init__" 7 m_Machine_init) (F_need_whole : DFn P w K mg base 4 "need_whole" 3 c_need_whole) (F_need_sizes : DFn P w K mg base 4 "need_sizes" 2 c_need_sizes) (F : FunD K "__init__" "Wagon.__init__" (defArgs st_Wagon_init) (defBody st_Wagon_init) (defScope st_Wagon_init) [] [] f fd) : FnOk P w K mg base (L2.CX P w) 5 f fd ["self", "name", "least", "greatest", "pace", "gain", "place", "lane", "wide", "tall"] (spD K 10 m_Wagon_init) ∧ Binds K fd ["self", "name", "least", "greatest", "pace", "gain", "place", "lane", "wide", "tall"] [] :=
  ⟨fn_def F sc_Wagon_init (fun cdv A outer s H E hr => d_Wagon_init ev K_Machine_init F_need_whole F_need_sizes f cdv A outer s H E hr), F.bindsN fun _ _ _ _ _ _ us hl => match us, hl with | [_, _, _, _, _, _, _, _, _, _], _ => rfl⟩
/-! Trap.__init__ -/
abbrev st_Trap_init : Stmt := inCls (top 33) 0
def N_Trap_init : List Str := ["self", "name", "least", "greatest", "pace", "gain", "place", "lane", "at", "wide"]
theorem sc_Trap_init : FnScope N_Trap_init ["self", "name", "least", "greatest", "pace", "gain", "place", "lane", "at", "wide"] (defScope st_Trap_init) := ⟨rfl, rfl, rfl, by decide +kernel, rfl, by decide +kernel, by decide +kernel⟩
noncomputable def b_Trap_init_0 : MS := (sExpr (mMap Slot.d (mFn m_Machine_init (aCons (eVar 0) (aCons (eVar 1) (aCons (eVar 2) (aCons (eVar 3) (aCons (eVar 4) (aCons (eVar 5) (aCons (eVar 6) aNil))))))))))
noncomputable def b_Trap_init_1 : MS := (sExpr (mMap Slot.d (mFn c_need_whole (aCons (eVar 7) (aCons (eC (.int (0))) (aCons (eC (.int (9))) aNil))))))
noncomputable def b_Trap_init_2 : MS := (sExpr (mMap Slot.d (mFn c_need_place (aCons (eVar 8) aNil))))
noncomputable def b_Trap_init_3 : MS := (sExpr (mMap Slot.d (mFn c_need_whole (aCons (eVar 9) (aCons (eC (.int (1))) (aCons (eC (.int (1000000))) aNil))))))
noncomputable def b_Trap_init_4 : MS := (sFldR cs_rail "rail" (eVar 0) (eVar 7))
noncomputable def b_Trap_init_5 : MS := (sFldR cs_long "long" (eVar 0) (eVar 9))
noncomputable def b_Trap_init_6 : MS := (sFldR cs_spot "spot" (eVar 0) (eVar 8))
noncomputable def b_Trap_init : MS := (sSeq b_Trap_init_0 (sSeq b_Trap_init_1 (sSeq b_Trap_init_2 (sSeq b_Trap_init_3 (sSeq b_Trap_init_4 (sSeq b_Trap_init_5 (sSeq b_Trap_init_6 sNext)))))))
noncomputable def m_Trap_init : MF := mDef N_Trap_init b_Trap_init
noncomputable def c_Trap_init : MF := m_Trap_init
theorem d_Trap_init (ev : Ev K mg) (K_Machine_init : CFn P w K mg base 4 "Machine" "__init__" 7 m_Machine_init) (F_need_whole : DFn P w K mg base 4 "need_whole" 3 c_need_whole) (F_need_place : DFn P w K mg base 4 "need_place" 1 c_need_place) (f : Addr) (cdv : Value) (A : Around) (outer : List Env) (s : Shared) (H : Hp) (E : XK) (hr : Room 4 (A.deeper (envOfC "Trap.__init__" (defScope st_Trap_init) s.heap.objs.size f cdv))) :
    DSs (cxOf (L2.CX P w) P w K mg base N_Trap_init "Trap.__init__" (defScope st_Trap_init) f cdv A outer s H E) (defBody st_Trap_init) b_Trap_init := by
  have hN := sc_Trap_init.nd
  have hu := hr.units
  have hc : (cxOf (L2.CX P w) P w K mg base N_Trap_init "Trap.__init__" (defScope st_Trap_init) f cdv A outer s H E).calm = true := rfl
  have po := passes_of (X := (cxOf (L2.CX P w) P w K mg base N_Trap_init "Trap.__init__" (defScope st_Trap_init) f cdv A outer s H E)) rfl
  have hr1 := hr
  exact (dss_cons (ds_expr (dv_of (do_clsfn (c := "Machine") (m := "__init__") K_Machine_init hr rfl ev.c_Machine (da_cons (dv_var (pv 0)) (da_cons (dv_var (pv 1)) (da_cons (dv_var (pv 2)) (da_cons (dv_var (pv 3)) (da_cons (dv_var (pv 4)) (da_cons (dv_var (pv 5)) (da_cons (dv_var (pv 6)) da_nil)))))))))) (dss_cons (ds_expr (dv_of (do_call F_need_whole hr rfl (da_cons (dv_var (pv 7)) (da_cons dv_int (da_cons (dv_gint rfl ev.i_MOST_LANE) da_nil)))))) (dss_cons (ds_expr (dv_of (do_call F_need_place hr rfl (da_cons (dv_var (pv 8)) da_nil)))) (dss_cons (ds_expr (dv_of (do_call F_need_whole hr rfl (da_cons (dv_var (pv 9)) (da_cons dv_int (da_cons (dv_gint rfl ev.i_MOST_SIZE) da_nil)))))) (dss_cons (ds_fldR (f := "rail") (dv_var (pv 0)) (dv_var (pv 7)) ev.fl_rail) (dss_cons (ds_fldR (f := "long") (dv_var (pv 0)) (dv_var (pv 9)) ev.fl_long) (dss_cons (ds_fldR (f := "spot") (dv_var (pv 0)) (dv_var (pv 8)) ev.fl_spot) dss_nil)))))))
theorem G_Trap_init {f : Addr} {fd : FuncData} (ev : Ev K mg) (K_Machine_init : CFn P w K mg base 4 "Machine" "__init__" 7 m_Machine_init) (F_need_whole : DFn P w K mg base 4 "need_whole" 3 c_need_whole) (F_need_place : DFn P w K mg base 4 "need_place" 1 c_need_place) (F : FunD K "__init__" "Trap.__init__" (defArgs st_Trap_init) (defBody st_Trap_init) (defScope st_Trap_init) [] [] f fd) : FnOk P w K mg base (L2.CX P w) 5 f fd ["self", "name", "least", "greatest", "pace", "gain", "place", "lane", "at", "wide"] (spD K 10 m_Trap_init) ∧ Binds K fd ["self", "name", "least", "greatest", "pace", "gain", "place", "lane", "at", "wide"] [] :=
  ⟨fn_def F sc_Trap_init (fun cdv A outer s H E hr => d_Trap_init ev K_Machine_init F_need_whole F_need_place f cdv A outer s H E hr), F.bindsN fun _ _ _ _ _ _ us hl => match us, hl with | [_, _, _, _, _, _, _, _, _, _], _ => rfl⟩
/-! Floor.__init__ -/
abbrev st_Floor_init : Stmt := inCls (top 32) 0
def N_Floor_init : List Str := ["self", "name", "least", "greatest", "pace", "gain", "place", "lane", "walls", "wall"]
theorem sc_Floor_init : FnScope N_Floor_init ["self", "name", "least", "greatest", "pace", "gain", "place", "lane", "walls"] (defScope st_Floor_init) := ⟨rfl, rfl, rfl, by decide +kernel, rfl, by decide +kernel, by decide +kernel⟩
noncomputable def b_Floor_init_0 : MS := (sExpr (mMap Slot.d (mFn m_Machine_init (aCons (eVar 0) (aCons (eVar 1) (aCons (eVar 2) (aCons (eVar 3) (aCons (eVar 4) (aCons (eVar 5) (aCons (eVar 6) aNil))))))))))
noncomputable def b_Floor_init_1 : MS := (sExpr (mMap Slot.d (mFn c_need_whole (aCons (eVar 7) (aCons (eC (.int (0))) (aCons (eC (.int (9))) aNil))))))
noncomputable def b_Floor_init_2 : MS := (sIf (mOr (mNot (mTru (mMap Slot.d (mCall (fIsi T) (aCons (eVar 8) (aCons (eC (.ty "list")) aNil)))))) (mNot (mChain cLe cLe (eC (.int (1))) (mMap Slot.d (mCall fLen (aCons (eVar 8) aNil))) (eC (.int (4)))))) (sSeq (sRaise "BadNumber") sNext) sNext)
noncomputable def b_Floor_init_L1 : MS := (sSeq (sIf (mOr (mNot (mTru (mMap Slot.d (mCall (fIsi T) (aCons (eVar 9) (aCons (eC (.ty "tuple")) aNil)))))) (mCmp cNe (mMap Slot.d (mCall fLen (aCons (eVar 9) aNil))) (eC (.int (3))))) (sSeq (sRaise "BadNumber") sNext) sNext) (sSeq (sExpr (mMap Slot.d (mFn c_need_whole (aCons (mMap Slot.d (mBin opSb (eVar 9) (eC (.int (0))))) (aCons (eC (.int (0))) (aCons (eC (.int (719))) aNil)))))) (sSeq (sExpr (mMap Slot.d (mFn c_need_sizes (aCons (mMap Slot.d (mBin opSb (eVar 9) (eC (.int (1))))) (aCons (mMap Slot.d (mBin opSb (eVar 9) (eC (.int (2))))) aNil))))) sNext)))
noncomputable def b_Floor_init_3 : MS := (sFor (mSeq (eVar 8)) (gN 9) b_Floor_init_L1)
noncomputable def b_Floor_init_4 : MS := (sFldR cs_rail "rail" (eVar 0) (eVar 7))
noncomputable def b_Floor_init_5 : MS := (sFldR cs_long "long" (eVar 0) (mMap Slot.d (mCall fMaxA (aCons (mMap Slot.d (mLc (mSeq (eVar 8)) (gN 9) [9] (eC true) (mMap Slot.d (mBin opSb (eVar 9) (eC (.int (1))))))) aNil))))
noncomputable def b_Floor_init_6 : MS := (sFldR cs_walls "walls" (eVar 0) (mMap Slot.d (mCall fList (aCons (eVar 8) aNil))))
noncomputable def b_Floor_init : MS := (sSeq b_Floor_init_0 (sSeq b_Floor_init_1 (sSeq b_Floor_init_2 (sSeq b_Floor_init_3 (sSeq b_Floor_init_4 (sSeq b_Floor_init_5 (sSeq b_Floor_init_6 sNext)))))))
noncomputable def m_Floor_init : MF := mDef N_Floor_init b_Floor_init
noncomputable def c_Floor_init : MF := m_Floor_init
theorem d_Floor_init (ev : Ev K mg) (K_Machine_init : CFn P w K mg base 4 "Machine" "__init__" 7 m_Machine_init) (F_need_whole : DFn P w K mg base 4 "need_whole" 3 c_need_whole) (F_need_sizes : DFn P w K mg base 4 "need_sizes" 2 c_need_sizes) (f : Addr) (cdv : Value) (A : Around) (outer : List Env) (s : Shared) (H : Hp) (E : XK) (hr : Room 4 (A.deeper (envOfC "Floor.__init__" (defScope st_Floor_init) s.heap.objs.size f cdv))) :
    DSs (cxOf (L2.CX P w) P w K mg base N_Floor_init "Floor.__init__" (defScope st_Floor_init) f cdv A outer s H E) (defBody st_Floor_init) b_Floor_init := by
  have hN := sc_Floor_init.nd
  have hu := hr.units
  have hc : (cxOf (L2.CX P w) P w K mg base N_Floor_init "Floor.__init__" (defScope st_Floor_init) f cdv A outer s H E).calm = true := rfl
  have po := passes_of (X := (cxOf (L2.CX P w) P w K mg base N_Floor_init "Floor.__init__" (defScope st_Floor_init) f cdv A outer s H E)) rfl
  have hr1 := hr
  exact (dss_cons (ds_expr (dv_of (do_clsfn (c := "Machine") (m := "__init__") K_Machine_init hr rfl ev.c_Machine (da_cons (dv_var (pv 0)) (da_cons (dv_var (pv 1)) (da_cons (dv_var (pv 2)) (da_cons (dv_var (pv 3)) (da_cons (dv_var (pv 4)) (da_cons (dv_var (pv 5)) (da_cons (dv_var (pv 6)) da_nil)))))))))) (dss_cons (ds_expr (dv_of (do_call F_need_whole hr rfl (da_cons (dv_var (pv 7)) (da_cons dv_int (da_cons (dv_gint rfl ev.i_MOST_LANE) da_nil)))))) (dss_cons (ds_if (dt_w (dw_or (dt_not (dt_tru (dv_of (do_callB call_isiAll (r_isi ev.ct) rfl ev.f_isinstance (by decide +kernel) (da_cons (dv_var (pv 8)) (da_cons (dv_ty rfl ev.f_list (by decide +kernel)) da_nil)))))) (dw_or1 (dt_not (dt_chain op_le op_le (r_cI : RCmp _ _ cLe) (r_cI : RCmp _ _ cLe) dv_int (dv_of (do_callB call_len r_len rfl ev.f_len (by decide +kernel) (da_cons (dv_var (pv 8)) da_nil))) (dv_gint rfl ev.i_MOST_WALLS) (nomark2 _ _)))))) (dss_cons (ds_raise rfl ev.x_BadNumber ev.c_BadNumber rfl) dss_nil) dss_nil) (dss_cons (ds_for po rfl (di_seq (dv_var (pv 8))) (pg_name hN rfl (by first | exact .inl rfl | exact .inr rfl)) (RG.rel (rg_name 9)) (dss_cons (ds_if (dt_w (dw_or (dt_not (dt_tru (dv_of (do_callB call_isiAll (r_isi ev.ct) rfl ev.f_isinstance (by decide +kernel) (da_cons (dv_var (pv 9)) (da_cons (dv_ty rfl ev.f_tuple (by decide +kernel)) da_nil)))))) (dw_or1 (dt_cmp (op_neAll hu) (r_ne : RCmp _ _ cNe) (dv_of (do_callB call_len r_len rfl ev.f_len (by decide +kernel) (da_cons (dv_var (pv 9)) da_nil))) dv_int (nomark _))))) (dss_cons (ds_raise rfl ev.x_BadNumber ev.c_BadNumber rfl) dss_nil) dss_nil) (dss_cons (ds_expr (dv_of (do_call F_need_whole hr rfl (da_cons (dv_of (do_sub hu (fun _ _ => rfl) (fun _ _ => rfl) (dv_var (pv 9)) dv_int)) (da_cons dv_int (da_cons (dv_gint rfl ev.i_MOST_OFFSET) da_nil)))))) (dss_cons (ds_expr (dv_of (do_call F_need_sizes hr rfl (da_cons (dv_of (do_sub hu (fun _ _ => rfl) (fun _ _ => rfl) (dv_var (pv 9)) dv_int)) (da_cons (dv_of (do_sub hu (fun _ _ => rfl) (fun _ _ => rfl) (dv_var (pv 9)) dv_int)) da_nil))))) dss_nil)))) (dss_cons (ds_fldR (f := "rail") (dv_var (pv 0)) (dv_var (pv 7)) ev.fl_rail) (dss_cons (ds_fldR (f := "long") (dv_var (pv 0)) (dv_of (do_callB (call_maxA hc) r_maxA rfl ev.f_max (by decide +kernel) (da_cons (dv_of (do_lc (own := [("wall", 9)]) rfl hN (di_seq (dv_var (pv 8))) (by show BlkOk N_Floor_init (defScope st_Floor_init) _ _; exact ⟨rfl, by decide +kernel, by decide +kernel, by decide +kernel, by decide +kernel⟩) (rg_name 9) (fun _ _ _ _ _ => (pg_name hN rfl (by first | exact .inl rfl | exact .inr rfl))) (fun _ _ _ _ _ => dts_nil) (fun _ _ _ _ _ => (dv_of (do_sub hu (fun _ _ => rfl) (fun _ _ => rfl) (dv_var (pv 9)) dv_int))))) da_nil))) ev.fl_long) (dss_cons (ds_fldR (f := "walls") (dv_var (pv 0)) (dv_of (do_callTy call_list_of r_list rfl ev.f_list (by decide +kernel) (da_cons (dv_var (pv 8)) da_nil))) ev.fl_walls) dss_nil)))))))
theorem G_Floor_init {f : Addr} {fd : FuncData} (ev : Ev K mg) (K_Machine_init : CFn P w K mg base 4 "Machine" "__init__" 7 m_Machine_init) (F_need_whole : DFn P w K mg base 4 "need_whole" 3 c_need_whole) (F_need_sizes : DFn P w K mg base 4 "need_sizes" 2 c_need_sizes) (F : FunD K "__init__" "Floor.__init__" (defArgs st_Floor_init) (defBody st_Floor_init) (defScope st_Floor_init) [] [] f fd) : FnOk P w K mg base (L2.CX P w) 5 f fd ["self", "name", "least", "greatest", "pace", "gain", "place", "lane", "walls"] (spD K 9 m_Floor_init) ∧ Binds K fd ["self", "name", "least", "greatest", "pace", "gain", "place", "lane", "walls"] [] :=
  ⟨fn_def F sc_Floor_init (fun cdv A outer s H E hr => d_Floor_init ev K_Machine_init F_need_whole F_need_sizes f cdv A outer s H E hr), F.bindsN fun _ _ _ _ _ _ us hl => match us, hl with | [_, _, _, _, _, _, _, _, _], _ => rfl⟩
/-! _law_machine -/
abbrev st__law_machine : Stmt := top 38
def N__law_machine : List Str := ["_law_own", "_law_common", "_law_name", "_law_least", "_law_greatest", "_law_pace", "_law_gain", "_law_place", "_law_lane", "_law_word"]
theorem sc__law_machine : FnScope N__law_machine ["_law_own"] (defScope st__law_machine) := ⟨rfl, rfl, rfl, by decide +kernel, rfl, by decide +kernel, by decide +kernel⟩
noncomputable def b__law_machine_0 : MS := (sSet 1 (mLc (mSeq (mMap D.tup (aCons (eC (.str (Str.ofString "name"))) (aCons (eC (.str (Str.ofString "least"))) (aCons (eC (.str (Str.ofString "greatest"))) (aCons (eC (.str (Str.ofString "pace"))) (aCons (eC (.str (Str.ofString "gain"))) (aCons (eC (.str (Str.ofString "place"))) (aCons (eC (.str (Str.ofString "lane"))) aNil))))))))) (gN 9) [9] (eC true) (mMap Slot.d (mBin opSb (eVar 0) (eVar 9)))))
noncomputable def b__law_machine_1 : MS := (sTgt (gTL [2, 3, 4, 5, 6, 7, 8]) (eVar 1))
noncomputable def b__law_machine_2 : MS := (sIf (mCmp cEq (mMap Slot.d (mBin opSb (eVar 0) (eC (.str (Str.ofString "kind"))))) (eC (.str (Str.ofString "line")))) (sSeq (sRet (mMakeF "Line" m_Line_init (aCons (eVar 2) (aCons (eVar 3) (aCons (eVar 4) (aCons (eVar 5) (aCons (eVar 6) (aCons (eVar 7) (aCons (eVar 8) (aCons (mMap Slot.d (mBin opSb (eVar 0) (eC (.str (Str.ofString "at"))))) (aCons (mMap Slot.d (mBin opSb (eVar 0) (eC (.str (Str.ofString "wide"))))) (aCons (mMap Slot.d (mBin opSb (eVar 0) (eC (.str (Str.ofString "tall"))))) aNil)))))))))))) sNext) sNext)
noncomputable def b__law_machine_3 : MS := (sIf (mCmp cEq (mMap Slot.d (mBin opSb (eVar 0) (eC (.str (Str.ofString "kind"))))) (eC (.str (Str.ofString "wagon")))) (sSeq (sRet (mMakeF "Wagon" m_Wagon_init (aCons (eVar 2) (aCons (eVar 3) (aCons (eVar 4) (aCons (eVar 5) (aCons (eVar 6) (aCons (eVar 7) (aCons (eVar 8) (aCons (mMap Slot.d (mBin opSb (eVar 0) (eC (.str (Str.ofString "wide"))))) (aCons (mMap Slot.d (mBin opSb (eVar 0) (eC (.str (Str.ofString "tall"))))) aNil))))))))))) sNext) sNext)
noncomputable def b__law_machine_4 : MS := (sIf (mCmp cEq (mMap Slot.d (mBin opSb (eVar 0) (eC (.str (Str.ofString "kind"))))) (eC (.str (Str.ofString "trap")))) (sSeq (sRet (mMakeF "Trap" m_Trap_init (aCons (eVar 2) (aCons (eVar 3) (aCons (eVar 4) (aCons (eVar 5) (aCons (eVar 6) (aCons (eVar 7) (aCons (eVar 8) (aCons (mMap Slot.d (mBin opSb (eVar 0) (eC (.str (Str.ofString "at"))))) (aCons (mMap Slot.d (mBin opSb (eVar 0) (eC (.str (Str.ofString "wide"))))) aNil))))))))))) sNext) sNext)
noncomputable def b__law_machine_5 : MS := (sRet (mMakeF "Floor" m_Floor_init (aCons (eVar 2) (aCons (eVar 3) (aCons (eVar 4) (aCons (eVar 5) (aCons (eVar 6) (aCons (eVar 7) (aCons (eVar 8) (aCons (mMap Slot.d (mBin opSb (eVar 0) (eC (.str (Str.ofString "walls"))))) aNil))))))))))
noncomputable def b__law_machine : MS := (sSeq b__law_machine_0 (sFrz 1 (sSeq b__law_machine_1 (sSeq b__law_machine_2 (sSeq b__law_machine_3 (sSeq b__law_machine_4 (sSeq b__law_machine_5 sNext)))))))
noncomputable def m__law_machine : MF := mDef N__law_machine b__law_machine
noncomputable def c__law_machine : MF := m__law_machine
theorem d__law_machine (ev : Ev K mg) (I_Line : Ini P w K mg base 5 "Line" 10 m_Line_init) (I_Wagon : Ini P w K mg base 5 "Wagon" 9 m_Wagon_init) (I_Trap : Ini P w K mg base 5 "Trap" 9 m_Trap_init) (I_Floor : Ini P w K mg base 5 "Floor" 8 m_Floor_init) (f : Addr) (cdv : Value) (A : Around) (outer : List Env) (s : Shared) (H : Hp) (E : XK) (hr : Room 6 (A.deeper (envOfC "_law_machine" (defScope st__law_machine) s.heap.objs.size f cdv))) :
    DSs (cxOf (L2.CX P w) P w K mg base N__law_machine "_law_machine" (defScope st__law_machine) f cdv A outer s H E) (defBody st__law_machine) b__law_machine := by
  have hN := sc__law_machine.nd
  have hu := hr.units
  have hc : (cxOf (L2.CX P w) P w K mg base N__law_machine "_law_machine" (defScope st__law_machine) f cdv A outer s H E).calm = true := rfl
  have po := passes_of (X := (cxOf (L2.CX P w) P w K mg base N__law_machine "_law_machine" (defScope st__law_machine) f cdv A outer s H E)) rfl
  have hr1 := hr
  exact (dss_cons (ds_setLc (own := [("_law_word", 9)]) rfl hN rfl rfl rfl (di_seq (dv_tup (da_cons dv_str (da_cons dv_str (da_cons dv_str (da_cons dv_str (da_cons dv_str (da_cons dv_str (da_cons dv_str da_nil))))))))) (by show BlkOk N__law_machine (defScope st__law_machine) _ _; exact ⟨rfl, by decide +kernel, by decide +kernel, by decide +kernel, by decide +kernel⟩) (rg_name 9) (fun _ _ _ _ _ => (pg_name hN rfl (by first | exact .inl rfl | exact .inr rfl))) (fun _ _ _ _ _ => dts_nil) (fun _ _ _ _ _ => (dv_of (do_sub hu (fun _ _ => rfl) (fun _ _ => rfl) (dv_var (pv 0)) (dv_var (pv 9)))))) (dss_frz 1 (dss_cons (ds_tgt (dv_var (pv 1)) (pg_or (pg_tup rfl (pgs_cons (pg_name hN rfl (by first | exact .inl rfl | exact .inr rfl)) (pgs_cons (pg_name hN rfl (by first | exact .inl rfl | exact .inr rfl)) (pgs_cons (pg_name hN rfl (by first | exact .inl rfl | exact .inr rfl)) (pgs_cons (pg_name hN rfl (by first | exact .inl rfl | exact .inr rfl)) (pgs_cons (pg_name hN rfl (by first | exact .inl rfl | exact .inr rfl)) (pgs_cons (pg_name hN rfl (by first | exact .inl rfl | exact .inr rfl)) (pgs_cons (pg_name hN rfl (by first | exact .inl rfl | exact .inr rfl)) pgs_nil)))))))) (pg_unl rfl (pgs_cons (pg_name hN rfl (by first | exact .inl rfl | exact .inr rfl)) (pgs_cons (pg_name hN rfl (by first | exact .inl rfl | exact .inr rfl)) (pgs_cons (pg_name hN rfl (by first | exact .inl rfl | exact .inr rfl)) (pgs_cons (pg_name hN rfl (by first | exact .inl rfl | exact .inr rfl)) (pgs_cons (pg_name hN rfl (by first | exact .inl rfl | exact .inr rfl)) (pgs_cons (pg_name hN rfl (by first | exact .inl rfl | exact .inr rfl)) (pgs_cons (pg_name hN rfl (by first | exact .inl rfl | exact .inr rfl)) pgs_nil))))))))) (RG.rel (rg_tl [2, 3, 4, 5, 6, 7, 8]))) (dss_cons (ds_if (dt_cmp (op_eqAll hu) (r_eq : RCmp _ _ cEq) (dv_of (do_sub hu (fun _ _ => rfl) (fun _ _ => rfl) (dv_var (pv 0)) dv_str)) dv_str (nomark _)) (dss_cons (ds_ret (do_makeF (c := "Line") I_Line hr1 rfl ev.c_Line (da_cons (dv_var (pv 2)) (da_cons (dv_var (pv 3)) (da_cons (dv_var (pv 4)) (da_cons (dv_var (pv 5)) (da_cons (dv_var (pv 6)) (da_cons (dv_var (pv 7)) (da_cons (dv_var (pv 8)) (da_cons (dv_of (do_sub hu (fun _ _ => rfl) (fun _ _ => rfl) (dv_var (pv 0)) dv_str)) (da_cons (dv_of (do_sub hu (fun _ _ => rfl) (fun _ _ => rfl) (dv_var (pv 0)) dv_str)) (da_cons (dv_of (do_sub hu (fun _ _ => rfl) (fun _ _ => rfl) (dv_var (pv 0)) dv_str)) da_nil)))))))))))) dss_nil) dss_nil) (dss_cons (ds_if (dt_cmp (op_eqAll hu) (r_eq : RCmp _ _ cEq) (dv_of (do_sub hu (fun _ _ => rfl) (fun _ _ => rfl) (dv_var (pv 0)) dv_str)) dv_str (nomark _)) (dss_cons (ds_ret (do_makeF (c := "Wagon") I_Wagon hr1 rfl ev.c_Wagon (da_cons (dv_var (pv 2)) (da_cons (dv_var (pv 3)) (da_cons (dv_var (pv 4)) (da_cons (dv_var (pv 5)) (da_cons (dv_var (pv 6)) (da_cons (dv_var (pv 7)) (da_cons (dv_var (pv 8)) (da_cons (dv_of (do_sub hu (fun _ _ => rfl) (fun _ _ => rfl) (dv_var (pv 0)) dv_str)) (da_cons (dv_of (do_sub hu (fun _ _ => rfl) (fun _ _ => rfl) (dv_var (pv 0)) dv_str)) da_nil))))))))))) dss_nil) dss_nil) (dss_cons (ds_if (dt_cmp (op_eqAll hu) (r_eq : RCmp _ _ cEq) (dv_of (do_sub hu (fun _ _ => rfl) (fun _ _ => rfl) (dv_var (pv 0)) dv_str)) dv_str (nomark _)) (dss_cons (ds_ret (do_makeF (c := "Trap") I_Trap hr1 rfl ev.c_Trap (da_cons (dv_var (pv 2)) (da_cons (dv_var (pv 3)) (da_cons (dv_var (pv 4)) (da_cons (dv_var (pv 5)) (da_cons (dv_var (pv 6)) (da_cons (dv_var (pv 7)) (da_cons (dv_var (pv 8)) (da_cons (dv_of (do_sub hu (fun _ _ => rfl) (fun _ _ => rfl) (dv_var (pv 0)) dv_str)) (da_cons (dv_of (do_sub hu (fun _ _ => rfl) (fun _ _ => rfl) (dv_var (pv 0)) dv_str)) da_nil))))))))))) dss_nil) dss_nil) (dss_cons (ds_ret (do_makeF (c := "Floor") I_Floor hr1 rfl ev.c_Floor (da_cons (dv_var (pv 2)) (da_cons (dv_var (pv 3)) (da_cons (dv_var (pv 4)) (da_cons (dv_var (pv 5)) (da_cons (dv_var (pv 6)) (da_cons (dv_var (pv 7)) (da_cons (dv_var (pv 8)) (da_cons (dv_of (do_sub hu (fun _ _ => rfl) (fun _ _ => rfl) (dv_var (pv 0)) dv_str)) da_nil)))))))))) dss_nil)))))))
theorem G__law_machine {f : Addr} {fd : FuncData} (ev : Ev K mg) (I_Line : Ini P w K mg base 5 "Line" 10 m_Line_init) (I_Wagon : Ini P w K mg base 5 "Wagon" 9 m_Wagon_init) (I_Trap : Ini P w K mg base 5 "Trap" 9 m_Trap_init) (I_Floor : Ini P w K mg base 5 "Floor" 8 m_Floor_init) (F : FunD K "_law_machine" "_law_machine" (defArgs st__law_machine) (defBody st__law_machine) (defScope st__law_machine) [] [] f fd) : FnOk P w K mg base (L2.CX P w) 7 f fd ["_law_own"] (spD K 1 m__law_machine) ∧ Binds K fd ["_law_own"] [] :=
  ⟨fn_def F sc__law_machine (fun cdv A outer s H E hr => d__law_machine ev I_Line I_Wagon I_Trap I_Floor f cdv A outer s H E hr), F.bindsN fun _ _ _ _ _ _ us hl => match us, hl with | [_], _ => rfl⟩
/-! _law_classes -/
abbrev st__law_classes : Stmt := top 39
def N__law_classes : List Str := ["_law_caught", "_law_found", "_law_others"]
theorem sc__law_classes : FnScope N__law_classes ["_law_caught"] (defScope st__law_classes) := ⟨rfl, rfl, rfl, by decide +kernel, rfl, by decide +kernel, by decide +kernel⟩
noncomputable def b__law_classes_0 : MS := (sIf (mOr (mCmp cIsN (eVar 0) (eC .non)) (mNot (mTru (mMap Slot.d (mCall (fIsi T) (aCons (eVar 0) (aCons (eC (.ty "ValueError")) aNil))))))) (sSeq (sRet (mMap Slot.val (eC (.str (Str.ofString "none"))))) sNext) sNext)
noncomputable def b__law_classes_1 : MS := (sSet 1 (mMap Slot.val (mMap Slot.d (mBin opAdd (mMap Slot.d (mBin opMul (eC (.str (Str.ofString "number "))) (mMap Slot.d (mCall fInt (aCons (mMap Slot.d (mCall (fIsi T) (aCons (eVar 0) (aCons (eC (.cls "BadNumber")) aNil)))) aNil))))) (mMap Slot.d (mBin opMul (eC (.str (Str.ofString "name "))) (mMap Slot.d (mCall fInt (aCons (mMap Slot.d (mCall (fIsi T) (aCons (eVar 0) (aCons (eC (.cls "BadName")) aNil)))) aNil)))))))))
noncomputable def b__law_classes_2 : MS := (sSet 1 (mMap Slot.val (mMap Slot.d (mBin opAdd (mMap Slot.d (mBin opAdd (eVar 1) (mMap Slot.d (mBin opMul (eC (.str (Str.ofString "stage "))) (mMap Slot.d (mCall fInt (aCons (mMap Slot.d (mCall (fIsi T) (aCons (eVar 0) (aCons (eC (.cls "BadStage")) aNil)))) aNil))))))) (mMap Slot.d (mBin opMul (eC (.str (Str.ofString "near "))) (mMap Slot.d (mCall fInt (aCons (mMap Slot.d (mCall (fIsi T) (aCons (eVar 0) (aCons (eC (.cls "TooNear")) aNil)))) aNil)))))))))
noncomputable def b__law_classes_3 : MS := (sSet 2 (mMap Slot.val (mMap Slot.d (mCall (fIsi T) (aCons (eVar 0) (aCons (mMap D.tup (aCons (eC (.cls "BadSheet")) (aCons (eC (.cls "TooLong")) (aCons (eC (.cls "Busy")) (aCons (eC (.cls "Stopped")) (aCons (eC (.cls "NotStopped")) (aCons (eC (.cls "Moving")) (aCons (eC (.cls "NoCue")) (aCons (eC (.cls "BadRow")) aNil))))))))) aNil))))))
noncomputable def b__law_classes_4 : MS := (sRet (mBin opAdd (eVar 1) (mMap Slot.d (mBin opMul (eC (.str (Str.ofString "other "))) (mMap Slot.d (mCall fInt (aCons (eVar 2) aNil)))))))
noncomputable def b__law_classes : MS := (sSeq b__law_classes_0 (sSeq b__law_classes_1 (sSeq b__law_classes_2 (sSeq b__law_classes_3 (sSeq b__law_classes_4 sNext)))))
noncomputable def m__law_classes : MF := mDef N__law_classes b__law_classes
noncomputable def c__law_classes : MF := m__law_classes
theorem d__law_classes (ev : Ev K mg) (f : Addr) (cdv : Value) (A : Around) (outer : List Env) (s : Shared) (H : Hp) (E : XK) (hr : Room 0 (A.deeper (envOfC "_law_classes" (defScope st__law_classes) s.heap.objs.size f cdv))) :
    DSs (cxOf (L2.CX P w) P w K mg base N__law_classes "_law_classes" (defScope st__law_classes) f cdv A outer s H E) (defBody st__law_classes) b__law_classes := by
  have hN := sc__law_classes.nd
  have hu := hr.units
  have hc : (cxOf (L2.CX P w) P w K mg base N__law_classes "_law_classes" (defScope st__law_classes) f cdv A outer s H E).calm = true := rfl
  have po := passes_of (X := (cxOf (L2.CX P w) P w K mg base N__law_classes "_law_classes" (defScope st__law_classes) f cdv A outer s H E)) rfl
  have hr1 := hr
  exact (dss_cons (ds_if (dt_w (dw_or (dt_cmp op_isN (r_isN : RCmp _ _ cIsN) (dv_var (pv 0)) dv_non (nomark _)) (dw_or1 (dt_not (dt_tru (dv_of (do_callB call_isiAll (r_isi ev.ct) rfl ev.f_isinstance (by decide +kernel) (da_cons (dv_var (pv 0)) (da_cons (dv_ty rfl ev.f_ValueError (by decide +kernel)) da_nil))))))))) (dss_cons (ds_ret (do_val dv_str)) dss_nil) dss_nil) (dss_cons (ds_set (i := 1) hN rfl (by first | exact .inl rfl | exact .inr rfl) (do_val (dv_of (do_bin op_addAll r_add (dv_of (do_bin op_mulA r_mulA dv_str (dv_of (do_callTy call_int1 r_int rfl ev.f_int (by decide +kernel) (da_cons (dv_of (do_callB call_isiAll (r_isi ev.ct) rfl ev.f_isinstance (by decide +kernel) (da_cons (dv_var (pv 0)) (da_cons (dv_cls rfl ev.c_BadNumber) da_nil)))) da_nil))))) (dv_of (do_bin op_mulA r_mulA dv_str (dv_of (do_callTy call_int1 r_int rfl ev.f_int (by decide +kernel) (da_cons (dv_of (do_callB call_isiAll (r_isi ev.ct) rfl ev.f_isinstance (by decide +kernel) (da_cons (dv_var (pv 0)) (da_cons (dv_cls rfl ev.c_BadName) da_nil)))) da_nil))))))))) (dss_cons (ds_set (i := 1) hN rfl (by first | exact .inl rfl | exact .inr rfl) (do_val (dv_of (do_bin op_addAll r_add (dv_of (do_bin op_addAll r_add (dv_var (pv 1)) (dv_of (do_bin op_mulA r_mulA dv_str (dv_of (do_callTy call_int1 r_int rfl ev.f_int (by decide +kernel) (da_cons (dv_of (do_callB call_isiAll (r_isi ev.ct) rfl ev.f_isinstance (by decide +kernel) (da_cons (dv_var (pv 0)) (da_cons (dv_cls rfl ev.c_BadStage) da_nil)))) da_nil))))))) (dv_of (do_bin op_mulA r_mulA dv_str (dv_of (do_callTy call_int1 r_int rfl ev.f_int (by decide +kernel) (da_cons (dv_of (do_callB call_isiAll (r_isi ev.ct) rfl ev.f_isinstance (by decide +kernel) (da_cons (dv_var (pv 0)) (da_cons (dv_cls rfl ev.c_TooNear) da_nil)))) da_nil))))))))) (dss_cons (ds_set (i := 2) hN rfl (by first | exact .inl rfl | exact .inr rfl) (do_val (dv_of (do_callB call_isiAll (r_isi ev.ct) rfl ev.f_isinstance (by decide +kernel) (da_cons (dv_var (pv 0)) (da_cons (dv_tup (da_cons (dv_cls rfl ev.c_BadSheet) (da_cons (dv_cls rfl ev.c_TooLong) (da_cons (dv_cls rfl ev.c_Busy) (da_cons (dv_cls rfl ev.c_Stopped) (da_cons (dv_cls rfl ev.c_NotStopped) (da_cons (dv_cls rfl ev.c_Moving) (da_cons (dv_cls rfl ev.c_NoCue) (da_cons (dv_cls rfl ev.c_BadRow) da_nil))))))))) da_nil)))))) (dss_cons (ds_ret (do_bin op_addAll r_add (dv_var (pv 1)) (dv_of (do_bin op_mulA r_mulA dv_str (dv_of (do_callTy call_int1 r_int rfl ev.f_int (by decide +kernel) (da_cons (dv_var (pv 2)) da_nil))))))) dss_nil)))))
theorem G__law_classes {f : Addr} {fd : FuncData} (ev : Ev K mg) (F : FunD K "_law_classes" "_law_classes" (defArgs st__law_classes) (defBody st__law_classes) (defScope st__law_classes) [] [] f fd) : FnOk P w K mg base (L2.CX P w) 1 f fd ["_law_caught"] (spD K 1 m__law_classes) ∧ Binds K fd ["_law_caught"] [] :=
  ⟨fn_def F sc__law_classes (fun cdv A outer s H E hr => d__law_classes ev f cdv A outer s H E hr), F.bindsN fun _ _ _ _ _ _ us hl => match us, hl with | [_], _ => rfl⟩
/-! _law_drawn -/
abbrev st__law_drawn : Stmt := top 40
def N__law_drawn : List Str := ["_law_draw_here", "_law_k", "_law_great", "_law_lows", "_law_least", "_law_greatest", "_law_own", "_law_j", "_law_more"]
theorem sc__law_drawn : FnScope N__law_drawn ["_law_draw_here", "_law_k"] (defScope st__law_drawn) := ⟨rfl, rfl, rfl, by decide +kernel, rfl, by decide +kernel, by decide +kernel⟩
noncomputable def b__law_drawn_0 : MS := (sSet 2 (mMap Slot.val (mMap Slot.d (mBin (opI2 fMod) (mMap Slot.d (mBin (opI2 fDiv) (eVar 0) (eC (.int (7))))) (eC (.int (3)))))))
noncomputable def b__law_drawn_1 : MS := (sSet 3 (mMap Slot.val (mMap Slot.d (oLst (aCons (mMap Slot.d (mBin opSub (mMap Slot.d (mBin (opI2 fMod) (eVar 0) (eC (.int (41))))) (eC (.int (20))))) (aCons (mUn fNeg (mMap Slot.d (mBin (opI2 fPow) (eC (.int (10))) (eC (.int (9)))))) (aCons (mMap Slot.d (mBin opSub (mMap Slot.d (mBin (opI2 fMod) (eVar 0) (mMap Slot.d (mBin (opI2 fPow) (eC (.int (10))) (eC (.int (9))))))) (mMap Slot.d (mBin opMul (eC (.int (5))) (mMap Slot.d (mBin (opI2 fPow) (eC (.int (10))) (eC (.int (8))))))))) aNil)))))))
noncomputable def b__law_drawn_2 : MS := (sSet 4 (mMap Slot.val (mMap Slot.d (mBin opSb (eVar 3) (eVar 2)))))
noncomputable def b__law_drawn_3 : MS := (sSet 5 (mMap Slot.val (mMap Slot.d (mBin opAdd (eVar 4) (mMap Slot.d (mBin opSb (mMap Slot.d (oLst (aCons (mMap Slot.d (mBin (opI2 fMod) (mMap Slot.d (mBin (opI2 fDiv) (eVar 0) (eC (.int (41))))) (eC (.int (60))))) (aCons (mMap Slot.d (mBin (opI2 fPow) (eC (.int (10))) (eC (.int (9))))) (aCons (mMap Slot.d (mBin (opI2 fMod) (mMap Slot.d (mBin (opI2 fDiv) (eVar 0) (eC (.int (9))))) (mMap Slot.d (mBin (opI2 fPow) (eC (.int (10))) (eC (.int (8))))))) aNil))))) (eVar 2)))))))
noncomputable def b__law_drawn_4 : MS := (sSet 6 (mMap Slot.val (mRef (mDisp (ppC (eC (.str (Str.ofString "name"))) (mMap Slot.d (mSl (mMap Slot.d (mSl (eC (.str (Str.ofString "abcdefgh"))) (pAt (mMap Slot.d (mBin (opI2 fMod) (mMap Slot.d (mBin (opI2 fDiv) (eVar 0) (eC (.int (3))))) (eC (.int (8)))))) pNo)) pNo (pAt (mMap Slot.d (mBin opAdd (eC (.int (1))) (mMap Slot.d (mBin (opI2 fMod) (mMap Slot.d (mBin (opI2 fDiv) (eVar 0) (eC (.int (24))))) (eC (.int (8)))))))))) (ppC (eC (.str (Str.ofString "least"))) (eVar 4) (ppC (eC (.str (Str.ofString "greatest"))) (eVar 5) (eC []))))))))
noncomputable def b__law_drawn_5 : MS := (sPut (eVar 6) (eC (.str (Str.ofString "place"))) (mMap Slot.d (mBin opAdd (eVar 4) (mMap Slot.d (mBin (opI2 fMod) (mMap Slot.d (mBin (opI2 fDiv) (eVar 0) (eC (.int (5))))) (mMap Slot.d (mBin opAdd (mMap Slot.d (mBin opSub (eVar 5) (eVar 4))) (eC (.int (1))))))))))
noncomputable def b__law_drawn_6 : MS := (sPut (eVar 6) (eC (.str (Str.ofString "pace"))) (mMap Slot.d (mBin opSb (mMap Slot.d (oLst (aCons (mMap Slot.d (mBin opAdd (eC (.int (1))) (mMap Slot.d (mBin (opI2 fMod) (mMap Slot.d (mBin (opI2 fDiv) (eVar 0) (eC (.int (11))))) (eC (.int (30))))))) (aCons (mMap Slot.d (mBin (opI2 fPow) (eC (.int (10))) (eC (.int (9))))) (aCons (mMap Slot.d (mBin opAdd (eC (.int (1))) (mMap Slot.d (mBin (opI2 fMod) (eVar 0) (mMap Slot.d (mBin (opI2 fPow) (eC (.int (10))) (eC (.int (9))))))))) aNil))))) (eVar 2))))
noncomputable def b__law_drawn_7 : MS := (sPut (eVar 6) (eC (.str (Str.ofString "gain"))) (mMap Slot.d (mBin opSb (mMap Slot.d (oLst (aCons (mMap Slot.d (mBin opAdd (eC (.int (1))) (mMap Slot.d (mBin (opI2 fMod) (mMap Slot.d (mBin (opI2 fDiv) (eVar 0) (eC (.int (13))))) (eC (.int (9))))))) (aCons (mMap Slot.d (mBin (opI2 fPow) (eC (.int (10))) (eC (.int (9))))) (aCons (mMap Slot.d (mBin opAdd (eC (.int (1))) (mMap Slot.d (mBin (opI2 fMod) (mMap Slot.d (mBin (opI2 fDiv) (eVar 0) (eC (.int (3))))) (mMap Slot.d (mBin (opI2 fPow) (eC (.int (10))) (eC (.int (9))))))))) aNil))))) (eVar 2))))
noncomputable def b__law_drawn_8 : MS := (sPut (eVar 6) (eC (.str (Str.ofString "kind"))) (mMap Slot.d (mBin opSb (mMap Slot.d (oLst (aCons (eC (.str (Str.ofString "line"))) (aCons (eC (.str (Str.ofString "wagon"))) (aCons (eC (.str (Str.ofString "floor"))) (aCons (eC (.str (Str.ofString "trap"))) aNil)))))) (mMap Slot.d (mBin (opI2 fMod) (eVar 1) (eC (.int (4))))))))
noncomputable def b__law_drawn_9 : MS := (sPut (eVar 6) (eC (.str (Str.ofString "lane"))) (mMap Slot.d (mBin (opI2 fMod) (mMap Slot.d (mBin (opI2 fDiv) (eVar 0) (eC (.int (17))))) (eC (.int (10))))))
noncomputable def b__law_drawn_10 : MS := (sPut (eVar 6) (eC (.str (Str.ofString "at"))) (mMap Slot.d (mBin opSb (mMap Slot.d (oLst (aCons (mMap Slot.d (mBin opSub (mMap Slot.d (mBin (opI2 fMod) (mMap Slot.d (mBin (opI2 fDiv) (eVar 0) (eC (.int (19))))) (eC (.int (101))))) (eC (.int (50))))) (aCons (mUn fNeg (mMap Slot.d (mBin (opI2 fPow) (eC (.int (10))) (eC (.int (9)))))) (aCons (mMap Slot.d (mBin (opI2 fPow) (eC (.int (10))) (eC (.int (9))))) aNil))))) (eVar 2))))
noncomputable def b__law_drawn_11 : MS := (sPut (eVar 6) (eC (.str (Str.ofString "wide"))) (mMap Slot.d (mBin opSb (mMap Slot.d (oLst (aCons (mMap Slot.d (mBin opAdd (eC (.int (1))) (mMap Slot.d (mBin (opI2 fMod) (mMap Slot.d (mBin (opI2 fDiv) (eVar 0) (eC (.int (23))))) (eC (.int (20))))))) (aCons (mMap Slot.d (mBin (opI2 fPow) (eC (.int (10))) (eC (.int (6))))) (aCons (mMap Slot.d (mBin opAdd (eC (.int (1))) (mMap Slot.d (mBin (opI2 fMod) (eVar 0) (mMap Slot.d (mBin (opI2 fPow) (eC (.int (10))) (eC (.int (6))))))))) aNil))))) (eVar 2))))
noncomputable def b__law_drawn_12 : MS := (sPut (eVar 6) (eC (.str (Str.ofString "tall"))) (mMap Slot.d (mBin opSb (mMap Slot.d (oLst (aCons (mMap Slot.d (mBin opAdd (eC (.int (1))) (mMap Slot.d (mBin (opI2 fMod) (mMap Slot.d (mBin (opI2 fDiv) (eVar 0) (eC (.int (29))))) (eC (.int (20))))))) (aCons (mMap Slot.d (mBin opAdd (eC (.int (1))) (mMap Slot.d (mBin (opI2 fMod) (mMap Slot.d (mBin (opI2 fDiv) (eVar 0) (eC (.int (5))))) (mMap Slot.d (mBin (opI2 fPow) (eC (.int (10))) (eC (.int (6))))))))) (aCons (mMap Slot.d (mBin (opI2 fPow) (eC (.int (10))) (eC (.int (6))))) aNil))))) (eVar 2))))
noncomputable def b__law_drawn_13 : MS := (sPut (eVar 6) (eC (.str (Str.ofString "walls"))) (mRef (oLst aNil)))
noncomputable def b__law_drawn_L1 : MS := (sSeq (sSet 8 (mMap Slot.val (mMap Slot.d (mFn c__law_spread (aCons (eVar 0) (aCons (eVar 7) aNil)))))) (sSeq (sAppR (mMap Slot.d (mBin opSb (eVar 6) (eC (.str (Str.ofString "walls"))))) (mMap D.tup (aCons (mMap Slot.d (mBin opSb (mMap Slot.d (oLst (aCons (mMap Slot.d (mBin (opI2 fMod) (eVar 8) (eC (.int (720))))) (aCons (eC (.int (719))) aNil)))) (mMap Slot.d (mBin (opI2 fMod) (mMap Slot.d (mBin (opI2 fDiv) (eVar 8) (eC (.int (720))))) (eC (.int (2))))))) (aCons (mMap Slot.d (mBin opAdd (eC (.int (1))) (mMap Slot.d (mBin (opI2 fMod) (mMap Slot.d (mBin (opI2 fDiv) (eVar 8) (eC (.int (1440))))) (eC (.int (30))))))) (aCons (mMap Slot.d (mBin opAdd (eC (.int (1))) (mMap Slot.d (mBin (opI2 fMod) (mMap Slot.d (mBin (opI2 fDiv) (eVar 8) (eC (.int (43200))))) (eC (.int (9))))))) aNil))))) sNext))
noncomputable def b__law_drawn_14 : MS := (sFor (mRange (aCons (mMap Slot.d (mBin opAdd (eC (.int (1))) (mMap Slot.d (mBin (opI2 fMod) (mMap Slot.d (mBin (opI2 fDiv) (eVar 0) (eC (.int (31))))) (eC (.int (4))))))) aNil)) (gN 7) b__law_drawn_L1)
noncomputable def b__law_drawn_15 : MS := (sRetV 6)
noncomputable def b__law_drawn : MS := (sSeq b__law_drawn_0 (sSeq b__law_drawn_1 (sSeq b__law_drawn_2 (sSeq b__law_drawn_3 (sSeq b__law_drawn_4 (sSeq b__law_drawn_5 (sSeq b__law_drawn_6 (sSeq b__law_drawn_7 (sSeq b__law_drawn_8 (sSeq b__law_drawn_9 (sSeq b__law_drawn_10 (sSeq b__law_drawn_11 (sSeq b__law_drawn_12 (sSeq b__law_drawn_13 (sSeq b__law_drawn_14 (sSeq b__law_drawn_15 sNext))))))))))))))))
noncomputable def m__law_drawn : MF := mDef N__law_drawn b__law_drawn
noncomputable def c__law_drawn : MF := mFin m__law_drawn
theorem d__law_drawn (ev : Ev K mg) (F__law_spread : DFn P w K mg base 1 "_law_spread" 2 c__law_spread) (f : Addr) (cdv : Value) (A : Around) (outer : List Env) (s : Shared) (H : Hp) (E : XK) (hr : Room 1 (A.deeper (envOfC "_law_drawn" (defScope st__law_drawn) s.heap.objs.size f cdv))) :
    DSs (cxOf (L2.CX P w) P w K mg base N__law_drawn "_law_drawn" (defScope st__law_drawn) f cdv A outer s H E) (defBody st__law_drawn) b__law_drawn := by
  have hN := sc__law_drawn.nd
  have hu := hr.units
  have hc : (cxOf (L2.CX P w) P w K mg base N__law_drawn "_law_drawn" (defScope st__law_drawn) f cdv A outer s H E).calm = true := rfl
  have po := passes_of (X := (cxOf (L2.CX P w) P w K mg base N__law_drawn "_law_drawn" (defScope st__law_drawn) f cdv A outer s H E)) rfl
  have hr1 := hr
  exact (dss_cons (ds_set (i := 2) hN rfl (by first | exact .inl rfl | exact .inr rfl) (do_val (dv_of (do_bin op_mod r_mod (dv_of (do_bin op_fdivW r_div (dv_var (pv 0)) dv_int)) dv_int)))) (dss_cons (ds_set (i := 3) hN rfl (by first | exact .inl rfl | exact .inr rfl) (do_val (dv_of (do_lst (da_cons (dv_of (do_bin op_sub r_sub (dv_of (do_bin op_mod r_mod (dv_var (pv 0)) dv_int)) dv_int)) (da_cons (dv_neg (dv_of (do_bin op_pow r_pow dv_int dv_int))) (da_cons (dv_of (do_bin op_sub r_sub (dv_of (do_bin op_mod r_mod (dv_var (pv 0)) (dv_of (do_bin op_pow r_pow dv_int dv_int)))) (dv_of (do_bin op_mulA r_mulA dv_int (dv_of (do_bin op_pow r_pow dv_int dv_int)))))) da_nil))))))) (dss_cons (ds_set (i := 4) hN rfl (by first | exact .inl rfl | exact .inr rfl) (do_val (dv_of (do_sub hu (fun _ _ => rfl) (fun _ _ => rfl) (dv_var (pv 3)) (dv_var (pv 2)))))) (dss_cons (ds_set (i := 5) hN rfl (by first | exact .inl rfl | exact .inr rfl) (do_val (dv_of (do_bin op_addAll r_add (dv_var (pv 4)) (dv_of (do_sub hu (fun _ _ => rfl) (fun _ _ => rfl) (dv_of (do_lst (da_cons (dv_of (do_bin op_mod r_mod (dv_of (do_bin op_fdivW r_div (dv_var (pv 0)) dv_int)) dv_int)) (da_cons (dv_of (do_bin op_pow r_pow dv_int dv_int)) (da_cons (dv_of (do_bin op_mod r_mod (dv_of (do_bin op_fdivW r_div (dv_var (pv 0)) dv_int)) (dv_of (do_bin op_pow r_pow dv_int dv_int)))) da_nil))))) (dv_var (pv 2)))))))) (dss_cons (ds_set (i := 6) hN rfl (by first | exact .inl rfl | exact .inr rfl) (do_val (dv_ref (do_disp (dpp_cons dv_str (dv_of (do_sl (dv_of (do_sl dv_str (dp_at (dv_of (do_bin op_mod r_mod (dv_of (do_bin op_fdivW r_div (dv_var (pv 0)) dv_int)) dv_int))) dp_no)) dp_no (dp_at (dv_of (do_bin op_addAll r_add dv_int (dv_of (do_bin op_mod r_mod (dv_of (do_bin op_fdivW r_div (dv_var (pv 0)) dv_int)) dv_int))))))) (dpp_cons dv_str (dv_var (pv 4)) (dpp_cons dv_str (dv_var (pv 5)) dpp_nil))))))) (dss_cons (ds_put hu (dv_var (pv 6)) dv_str (dv_of (do_bin op_addAll r_add (dv_var (pv 4)) (dv_of (do_bin op_mod r_mod (dv_of (do_bin op_fdivW r_div (dv_var (pv 0)) dv_int)) (dv_of (do_bin op_addAll r_add (dv_of (do_bin op_sub r_sub (dv_var (pv 5)) (dv_var (pv 4)))) dv_int)))))) rfl rfl rfl (fun po pi => pg_sub po pi set_list (fun _ => rfl))) (dss_cons (ds_put hu (dv_var (pv 6)) dv_str (dv_of (do_sub hu (fun _ _ => rfl) (fun _ _ => rfl) (dv_of (do_lst (da_cons (dv_of (do_bin op_addAll r_add dv_int (dv_of (do_bin op_mod r_mod (dv_of (do_bin op_fdivW r_div (dv_var (pv 0)) dv_int)) dv_int)))) (da_cons (dv_of (do_bin op_pow r_pow dv_int dv_int)) (da_cons (dv_of (do_bin op_addAll r_add dv_int (dv_of (do_bin op_mod r_mod (dv_var (pv 0)) (dv_of (do_bin op_pow r_pow dv_int dv_int)))))) da_nil))))) (dv_var (pv 2)))) rfl rfl rfl (fun po pi => pg_sub po pi set_list (fun _ => rfl))) (dss_cons (ds_put hu (dv_var (pv 6)) dv_str (dv_of (do_sub hu (fun _ _ => rfl) (fun _ _ => rfl) (dv_of (do_lst (da_cons (dv_of (do_bin op_addAll r_add dv_int (dv_of (do_bin op_mod r_mod (dv_of (do_bin op_fdivW r_div (dv_var (pv 0)) dv_int)) dv_int)))) (da_cons (dv_of (do_bin op_pow r_pow dv_int dv_int)) (da_cons (dv_of (do_bin op_addAll r_add dv_int (dv_of (do_bin op_mod r_mod (dv_of (do_bin op_fdivW r_div (dv_var (pv 0)) dv_int)) (dv_of (do_bin op_pow r_pow dv_int dv_int)))))) da_nil))))) (dv_var (pv 2)))) rfl rfl rfl (fun po pi => pg_sub po pi set_list (fun _ => rfl))) (dss_cons (ds_put hu (dv_var (pv 6)) dv_str (dv_of (do_sub hu (fun _ _ => rfl) (fun _ _ => rfl) (dv_of (do_lst (da_cons dv_str (da_cons dv_str (da_cons dv_str (da_cons dv_str da_nil)))))) (dv_of (do_bin op_mod r_mod (dv_var (pv 1)) dv_int)))) rfl rfl rfl (fun po pi => pg_sub po pi set_list (fun _ => rfl))) (dss_cons (ds_put hu (dv_var (pv 6)) dv_str (dv_of (do_bin op_mod r_mod (dv_of (do_bin op_fdivW r_div (dv_var (pv 0)) dv_int)) dv_int)) rfl rfl rfl (fun po pi => pg_sub po pi set_list (fun _ => rfl))) (dss_cons (ds_put hu (dv_var (pv 6)) dv_str (dv_of (do_sub hu (fun _ _ => rfl) (fun _ _ => rfl) (dv_of (do_lst (da_cons (dv_of (do_bin op_sub r_sub (dv_of (do_bin op_mod r_mod (dv_of (do_bin op_fdivW r_div (dv_var (pv 0)) dv_int)) dv_int)) dv_int)) (da_cons (dv_neg (dv_of (do_bin op_pow r_pow dv_int dv_int))) (da_cons (dv_of (do_bin op_pow r_pow dv_int dv_int)) da_nil))))) (dv_var (pv 2)))) rfl rfl rfl (fun po pi => pg_sub po pi set_list (fun _ => rfl))) (dss_cons (ds_put hu (dv_var (pv 6)) dv_str (dv_of (do_sub hu (fun _ _ => rfl) (fun _ _ => rfl) (dv_of (do_lst (da_cons (dv_of (do_bin op_addAll r_add dv_int (dv_of (do_bin op_mod r_mod (dv_of (do_bin op_fdivW r_div (dv_var (pv 0)) dv_int)) dv_int)))) (da_cons (dv_of (do_bin op_pow r_pow dv_int dv_int)) (da_cons (dv_of (do_bin op_addAll r_add dv_int (dv_of (do_bin op_mod r_mod (dv_var (pv 0)) (dv_of (do_bin op_pow r_pow dv_int dv_int)))))) da_nil))))) (dv_var (pv 2)))) rfl rfl rfl (fun po pi => pg_sub po pi set_list (fun _ => rfl))) (dss_cons (ds_put hu (dv_var (pv 6)) dv_str (dv_of (do_sub hu (fun _ _ => rfl) (fun _ _ => rfl) (dv_of (do_lst (da_cons (dv_of (do_bin op_addAll r_add dv_int (dv_of (do_bin op_mod r_mod (dv_of (do_bin op_fdivW r_div (dv_var (pv 0)) dv_int)) dv_int)))) (da_cons (dv_of (do_bin op_addAll r_add dv_int (dv_of (do_bin op_mod r_mod (dv_of (do_bin op_fdivW r_div (dv_var (pv 0)) dv_int)) (dv_of (do_bin op_pow r_pow dv_int dv_int)))))) (da_cons (dv_of (do_bin op_pow r_pow dv_int dv_int)) da_nil))))) (dv_var (pv 2)))) rfl rfl rfl (fun po pi => pg_sub po pi set_list (fun _ => rfl))) (dss_cons (ds_put hu (dv_var (pv 6)) dv_str (dv_ref (do_lst da_nil)) rfl rfl rfl (fun po pi => pg_sub po pi set_list (fun _ => rfl))) (dss_cons (ds_for po rfl (di_range1 rfl ev.f_range (da_cons (dv_of (do_bin op_addAll r_add dv_int (dv_of (do_bin op_mod r_mod (dv_of (do_bin op_fdivW r_div (dv_var (pv 0)) dv_int)) dv_int)))) da_nil)) (pg_name hN rfl (by first | exact .inl rfl | exact .inr rfl)) (RG.rel (rg_name 7)) (dss_cons (ds_set (i := 8) hN rfl (by first | exact .inl rfl | exact .inr rfl) (do_val (dv_of (do_call F__law_spread hr rfl (da_cons (dv_var (pv 0)) (da_cons (dv_var (pv 7)) da_nil)))))) (dss_cons (ds_appR (dv_of (do_sub hu (fun _ _ => rfl) (fun _ _ => rfl) (dv_var (pv 6)) dv_str)) (dv_tup (da_cons (dv_of (do_sub hu (fun _ _ => rfl) (fun _ _ => rfl) (dv_of (do_lst (da_cons (dv_of (do_bin op_mod r_mod (dv_var (pv 8)) dv_int)) (da_cons dv_int da_nil)))) (dv_of (do_bin op_mod r_mod (dv_of (do_bin op_fdivW r_div (dv_var (pv 8)) dv_int)) dv_int)))) (da_cons (dv_of (do_bin op_addAll r_add dv_int (dv_of (do_bin op_mod r_mod (dv_of (do_bin op_fdivW r_div (dv_var (pv 8)) dv_int)) dv_int)))) (da_cons (dv_of (do_bin op_addAll r_add dv_int (dv_of (do_bin op_mod r_mod (dv_of (do_bin op_fdivW r_div (dv_var (pv 8)) dv_int)) dv_int)))) da_nil)))) rfl (fun po pa => pe_bm PySem.F.plainAttrs_list PySem.F.slot_list_append PySem.F.type_list_append mt_append po pa)) dss_nil))) (dss_cons (ds_retV (pv 6)) dss_nil))))))))))))))))
theorem G__law_drawn {f : Addr} {fd : FuncData} (ev : Ev K mg) (F__law_spread : DFn P w K mg base 1 "_law_spread" 2 c__law_spread) (F : FunD K "_law_drawn" "_law_drawn" (defArgs st__law_drawn) (defBody st__law_drawn) (defScope st__law_drawn) [] [] f fd) : FnOk P w K mg base (L2.CX P w) 2 f fd ["_law_draw_here", "_law_k"] (spD K 2 m__law_drawn) ∧ Binds K fd ["_law_draw_here", "_law_k"] [] :=
  ⟨fn_def F sc__law_drawn (fun cdv A outer s H E hr => d__law_drawn ev F__law_spread f cdv A outer s H E hr), F.bindsN fun _ _ _ _ _ _ us hl => match us, hl with | [_, _], _ => rfl⟩
/-! _law_tail -/
abbrev st__law_tail : Stmt := top 41
def N__law_tail : List Str := ["_law_own", "_law_shut"]
theorem sc__law_tail : FnScope N__law_tail ["_law_own"] (defScope st__law_tail) := ⟨rfl, rfl, rfl, by decide +kernel, rfl, by decide +kernel, by decide +kernel⟩
noncomputable def b__law_tail_0 : MS := (sIf (mCmp cEq (mMap Slot.d (mBin opSb (eVar 0) (eC (.str (Str.ofString "kind"))))) (eC (.str (Str.ofString "line")))) (sSeq (sRet (oLst (aCons (mMap Slot.d (mBin opSb (eVar 0) (eC (.str (Str.ofString "lane"))))) (aCons (mMap Slot.d (mBin opSb (eVar 0) (eC (.str (Str.ofString "at"))))) (aCons (mMap Slot.d (mBin opSb (eVar 0) (eC (.str (Str.ofString "wide"))))) (aCons (mMap Slot.d (mBin opSb (eVar 0) (eC (.str (Str.ofString "tall"))))) aNil)))))) sNext) sNext)
noncomputable def b__law_tail_1 : MS := (sIf (mCmp cEq (mMap Slot.d (mBin opSb (eVar 0) (eC (.str (Str.ofString "kind"))))) (eC (.str (Str.ofString "wagon")))) (sSeq (sRet (oLst (aCons (mMap Slot.d (mBin opSb (eVar 0) (eC (.str (Str.ofString "lane"))))) (aCons (mMap Slot.d (mBin opSb (eVar 0) (eC (.str (Str.ofString "wide"))))) (aCons (mMap Slot.d (mBin opSb (eVar 0) (eC (.str (Str.ofString "tall"))))) aNil))))) sNext) sNext)
noncomputable def b__law_tail_2 : MS := (sIf (mCmp cEq (mMap Slot.d (mBin opSb (eVar 0) (eC (.str (Str.ofString "kind"))))) (eC (.str (Str.ofString "trap")))) (sSeq (sRet (oLst (aCons (mMap Slot.d (mBin opSb (eVar 0) (eC (.str (Str.ofString "lane"))))) (aCons (mMap Slot.d (mBin opSb (eVar 0) (eC (.str (Str.ofString "at"))))) (aCons (mMap Slot.d (mBin opSb (eVar 0) (eC (.str (Str.ofString "wide"))))) aNil))))) sNext) sNext)
noncomputable def b__law_tail_3 : MS := (sRet (mBin opAdd (mMap Slot.d (oLst (aCons (mMap Slot.d (mBin opSb (eVar 0) (eC (.str (Str.ofString "lane"))))) aNil))) (mMap Slot.d (mLc (mSeq (mMap Slot.d (mBin opSb (eVar 0) (eC (.str (Str.ofString "walls")))))) (gN 1) [1] (eC true) (mMap Slot.d (mBin opAdd (mMap Slot.d (mBin opAdd (mMap Slot.d (mBin opAdd (mMap Slot.d (mBin opAdd (mMap Slot.d (mCall fStr (aCons (mMap Slot.d (mBin opSb (eVar 1) (eC (.int (0))))) aNil))) (eC (.str (Str.ofString ":"))))) (mMap Slot.d (mCall fStr (aCons (mMap Slot.d (mBin opSb (eVar 1) (eC (.int (1))))) aNil))))) (eC (.str (Str.ofString ":"))))) (mMap Slot.d (mCall fStr (aCons (mMap Slot.d (mBin opSb (eVar 1) (eC (.int (2))))) aNil)))))))))
noncomputable def b__law_tail : MS := (sSeq b__law_tail_0 (sSeq b__law_tail_1 (sSeq b__law_tail_2 (sSeq b__law_tail_3 sNext))))
noncomputable def m__law_tail : MF := mDef N__law_tail b__law_tail
noncomputable def c__law_tail : MF := m__law_tail
theorem d__law_tail (ev : Ev K mg) (f : Addr) (cdv : Value) (A : Around) (outer : List Env) (s : Shared) (H : Hp) (E : XK) (hr : Room 0 (A.deeper (envOfC "_law_tail" (defScope st__law_tail) s.heap.objs.size f cdv))) :
    DSs (cxOf (L2.CX P w) P w K mg base N__law_tail "_law_tail" (defScope st__law_tail) f cdv A outer s H E) (defBody st__law_tail) b__law_tail := by
  have hN := sc__law_tail.nd
  have hu := hr.units
  have hc : (cxOf (L2.CX P w) P w K mg base N__law_tail "_law_tail" (defScope st__law_tail) f cdv A outer s H E).calm = true := rfl
  have po := passes_of (X := (cxOf (L2.CX P w) P w K mg base N__law_tail "_law_tail" (defScope st__law_tail) f cdv A outer s H E)) rfl
  have hr1 := hr
  exact (dss_cons (ds_if (dt_cmp (op_eqAll hu) (r_eq : RCmp _ _ cEq) (dv_of (do_sub hu (fun _ _ => rfl) (fun _ _ => rfl) (dv_var (pv 0)) dv_str)) dv_str (nomark _)) (dss_cons (ds_ret (do_lst (da_cons (dv_of (do_sub hu (fun _ _ => rfl) (fun _ _ => rfl) (dv_var (pv 0)) dv_str)) (da_cons (dv_of (do_sub hu (fun _ _ => rfl) (fun _ _ => rfl) (dv_var (pv 0)) dv_str)) (da_cons (dv_of (do_sub hu (fun _ _ => rfl) (fun _ _ => rfl) (dv_var (pv 0)) dv_str)) (da_cons (dv_of (do_sub hu (fun _ _ => rfl) (fun _ _ => rfl) (dv_var (pv 0)) dv_str)) da_nil)))))) dss_nil) dss_nil) (dss_cons (ds_if (dt_cmp (op_eqAll hu) (r_eq : RCmp _ _ cEq) (dv_of (do_sub hu (fun _ _ => rfl) (fun _ _ => rfl) (dv_var (pv 0)) dv_str)) dv_str (nomark _)) (dss_cons (ds_ret (do_lst (da_cons (dv_of (do_sub hu (fun _ _ => rfl) (fun _ _ => rfl) (dv_var (pv 0)) dv_str)) (da_cons (dv_of (do_sub hu (fun _ _ => rfl) (fun _ _ => rfl) (dv_var (pv 0)) dv_str)) (da_cons (dv_of (do_sub hu (fun _ _ => rfl) (fun _ _ => rfl) (dv_var (pv 0)) dv_str)) da_nil))))) dss_nil) dss_nil) (dss_cons (ds_if (dt_cmp (op_eqAll hu) (r_eq : RCmp _ _ cEq) (dv_of (do_sub hu (fun _ _ => rfl) (fun _ _ => rfl) (dv_var (pv 0)) dv_str)) dv_str (nomark _)) (dss_cons (ds_ret (do_lst (da_cons (dv_of (do_sub hu (fun _ _ => rfl) (fun _ _ => rfl) (dv_var (pv 0)) dv_str)) (da_cons (dv_of (do_sub hu (fun _ _ => rfl) (fun _ _ => rfl) (dv_var (pv 0)) dv_str)) (da_cons (dv_of (do_sub hu (fun _ _ => rfl) (fun _ _ => rfl) (dv_var (pv 0)) dv_str)) da_nil))))) dss_nil) dss_nil) (dss_cons (ds_ret (do_bin op_addAll r_add (dv_of (do_lst (da_cons (dv_of (do_sub hu (fun _ _ => rfl) (fun _ _ => rfl) (dv_var (pv 0)) dv_str)) da_nil))) (dv_of (do_lc (own := [("_law_shut", 1)]) rfl hN (di_seq (dv_of (do_sub hu (fun _ _ => rfl) (fun _ _ => rfl) (dv_var (pv 0)) dv_str))) (by show BlkOk N__law_tail (defScope st__law_tail) _ _; exact ⟨rfl, by decide +kernel, by decide +kernel, by decide +kernel, by decide +kernel⟩) (rg_name 1) (fun _ _ _ _ _ => (pg_name hN rfl (by first | exact .inl rfl | exact .inr rfl))) (fun _ _ _ _ _ => dts_nil) (fun _ _ _ _ _ => (dv_of (do_bin op_addAll r_add (dv_of (do_bin op_addAll r_add (dv_of (do_bin op_addAll r_add (dv_of (do_bin op_addAll r_add (dv_of (do_callTy call_strP r_str rfl ev.f_str (by decide +kernel) (da_cons (dv_of (do_sub hu (fun _ _ => rfl) (fun _ _ => rfl) (dv_var (pv 1)) dv_int)) da_nil))) dv_str)) (dv_of (do_callTy call_strP r_str rfl ev.f_str (by decide +kernel) (da_cons (dv_of (do_sub hu (fun _ _ => rfl) (fun _ _ => rfl) (dv_var (pv 1)) dv_int)) da_nil))))) dv_str)) (dv_of (do_callTy call_strP r_str rfl ev.f_str (by decide +kernel) (da_cons (dv_of (do_sub hu (fun _ _ => rfl) (fun _ _ => rfl) (dv_var (pv 1)) dv_int)) da_nil)))))))))) dss_nil))))
theorem G__law_tail {f : Addr} {fd : FuncData} (ev : Ev K mg) (F : FunD K "_law_tail" "_law_tail" (defArgs st__law_tail) (defBody st__law_tail) (defScope st__law_tail) [] [] f fd) : FnOk P w K mg base (L2.CX P w) 1 f fd ["_law_own"] (spD K 1 m__law_tail) ∧ Binds K fd ["_law_own"] [] :=
  ⟨fn_def F sc__law_tail (fun cdv A outer s H E hr => d__law_tail ev f cdv A outer s H E hr), F.bindsN fun _ _ _ _ _ _ us hl => match us, hl with | [_], _ => rfl⟩
/-! Machine.offset -/
abbrev st_Machine_offset : Stmt := inCls (top 29) 4
def N_Machine_offset : List Str := ["self"]
theorem sc_Machine_offset : FnScope N_Machine_offset ["self"] (defScope st_Machine_offset) := ⟨rfl, rfl, rfl, by decide +kernel, rfl, by decide +kernel, by decide +kernel⟩
noncomputable def b_Machine_offset : MS := (sSeq (sRet (mMap Slot.val (eC (.int (0))))) sNext)
noncomputable def m_Machine_offset : MF := mDef N_Machine_offset b_Machine_offset
noncomputable def c_Machine_offset : MF := m_Machine_offset
theorem d_Machine_offset (ev : Ev K mg) (f : Addr) (cdv : Value) (A : Around) (outer : List Env) (s : Shared) (H : Hp) (E : XK) (hr : Room 0 (A.deeper (envOfC "Machine.offset" (defScope st_Machine_offset) s.heap.objs.size f cdv))) :
    DSs (cxOf (L2.CX P w) P w K mg base N_Machine_offset "Machine.offset" (defScope st_Machine_offset) f cdv A outer s H E) (defBody st_Machine_offset) b_Machine_offset := by
  have hN := sc_Machine_offset.nd
  have hu := hr.units
  have hc : (cxOf (L2.CX P w) P w K mg base N_Machine_offset "Machine.offset" (defScope st_Machine_offset) f cdv A outer s H E).calm = true := rfl
  have po := passes_of (X := (cxOf (L2.CX P w) P w K mg base N_Machine_offset "Machine.offset" (defScope st_Machine_offset) f cdv A outer s H E)) rfl
  have hr1 := hr
  exact (dss_cons (ds_ret (do_val dv_int)) dss_nil)
theorem G_Machine_offset {f : Addr} {fd : FuncData} (ev : Ev K mg) (F : FunD K "offset" "Machine.offset" (defArgs st_Machine_offset) (defBody st_Machine_offset) (defScope st_Machine_offset) [] [] f fd) : FnOk P w K mg base (L2.CX P w) 1 f fd ["self"] (spD K 1 m_Machine_offset) ∧ Binds K fd ["self"] [] :=
  ⟨fn_def F sc_Machine_offset (fun cdv A outer s H E hr => d_Machine_offset ev f cdv A outer s H E hr), F.bindsN fun _ _ _ _ _ _ us hl => match us, hl with | [_], _ => rfl⟩
/-! Floor.offset -/
abbrev st_Floor_offset : Stmt := inCls (top 32) 2
def N_Floor_offset : List Str := ["self", "wall"]
theorem sc_Floor_offset : FnScope N_Floor_offset ["self"] (defScope st_Floor_offset) := ⟨rfl, rfl, rfl, by decide +kernel, rfl, by decide +kernel, by decide +kernel⟩
noncomputable def b_Floor_offset : MS := (sSeq (sRet (mCall fMaxA (aCons (mMap Slot.d (mLc (mSeq (mFld cs_walls "walls" (eVar 0))) (gN 1) [1] (eC true) (mMap Slot.d (mBin opSb (eVar 1) (eC (.int (0))))))) aNil))) sNext)
noncomputable def m_Floor_offset : MF := mDef N_Floor_offset b_Floor_offset
noncomputable def c_Floor_offset : MF := m_Floor_offset
theorem d_Floor_offset (ev : Ev K mg) (f : Addr) (cdv : Value) (A : Around) (outer : List Env) (s : Shared) (H : Hp) (E : XK) (hr : Room 0 (A.deeper (envOfC "Floor.offset" (defScope st_Floor_offset) s.heap.objs.size f cdv))) :
    DSs (cxOf (L2.CX P w) P w K mg base N_Floor_offset "Floor.offset" (defScope st_Floor_offset) f cdv A outer s H E) (defBody st_Floor_offset) b_Floor_offset := by
  have hN := sc_Floor_offset.nd
  have hu := hr.units
  have hc : (cxOf (L2.CX P w) P w K mg base N_Floor_offset "Floor.offset" (defScope st_Floor_offset) f cdv A outer s H E).calm = true := rfl
  have po := passes_of (X := (cxOf (L2.CX P w) P w K mg base N_Floor_offset "Floor.offset" (defScope st_Floor_offset) f cdv A outer s H E)) rfl
  have hr1 := hr
  exact (dss_cons (ds_ret (do_callB (call_maxA hc) r_maxA rfl ev.f_max (by decide +kernel) (da_cons (dv_of (do_lc (own := [("wall", 1)]) rfl hN (di_seq (dv_fld (f := "walls") (dv_var (pv 0)) ev.fl_walls)) (by show BlkOk N_Floor_offset (defScope st_Floor_offset) _ _; exact ⟨rfl, by decide +kernel, by decide +kernel, by decide +kernel, by decide +kernel⟩) (rg_name 1) (fun _ _ _ _ _ => (pg_name hN rfl (by first | exact .inl rfl | exact .inr rfl))) (fun _ _ _ _ _ => dts_nil) (fun _ _ _ _ _ => (dv_of (do_sub hu (fun _ _ => rfl) (fun _ _ => rfl) (dv_var (pv 1)) dv_int))))) da_nil))) dss_nil)
theorem G_Floor_offset {f : Addr} {fd : FuncData} (ev : Ev K mg) (F : FunD K "offset" "Floor.offset" (defArgs st_Floor_offset) (defBody st_Floor_offset) (defScope st_Floor_offset) [] [] f fd) : FnOk P w K mg base (L2.CX P w) 1 f fd ["self"] (spD K 1 m_Floor_offset) ∧ Binds K fd ["self"] [] :=
  ⟨fn_def F sc_Floor_offset (fun cdv A outer s H E hr => d_Floor_offset ev f cdv A outer s H E hr), F.bindsN fun _ _ _ _ _ _ us hl => match us, hl with | [_], _ => rfl⟩
/-! Machine.wide -/
abbrev st_Machine_wide : Stmt := inCls (top 29) 3
def N_Machine_wide : List Str := ["self"]
theorem sc_Machine_wide : FnScope N_Machine_wide ["self"] (defScope st_Machine_wide) := ⟨rfl, rfl, rfl, by decide +kernel, rfl, by decide +kernel, by decide +kernel⟩
noncomputable def b_Machine_wide : MS := (sSeq (sRet (mMap Slot.val (mFld cs_long "long" (eVar 0)))) sNext)
noncomputable def m_Machine_wide : MF := mDef N_Machine_wide b_Machine_wide
noncomputable def c_Machine_wide : MF := m_Machine_wide
theorem d_Machine_wide (ev : Ev K mg) (f : Addr) (cdv : Value) (A : Around) (outer : List Env) (s : Shared) (H : Hp) (E : XK) (hr : Room 0 (A.deeper (envOfC "Machine.wide" (defScope st_Machine_wide) s.heap.objs.size f cdv))) :
    DSs (cxOf (L2.CX P w) P w K mg base N_Machine_wide "Machine.wide" (defScope st_Machine_wide) f cdv A outer s H E) (defBody st_Machine_wide) b_Machine_wide := by
  have hN := sc_Machine_wide.nd
  have hu := hr.units
  have hc : (cxOf (L2.CX P w) P w K mg base N_Machine_wide "Machine.wide" (defScope st_Machine_wide) f cdv A outer s H E).calm = true := rfl
  have po := passes_of (X := (cxOf (L2.CX P w) P w K mg base N_Machine_wide "Machine.wide" (defScope st_Machine_wide) f cdv A outer s H E)) rfl
  have hr1 := hr
  exact (dss_cons (ds_ret (do_val (dv_fld (f := "long") (dv_var (pv 0)) ev.fl_long))) dss_nil)
theorem G_Machine_wide {f : Addr} {fd : FuncData} (ev : Ev K mg) (F : FunD K "wide" "Machine.wide" (defArgs st_Machine_wide) (defBody st_Machine_wide) (defScope st_Machine_wide) [] [] f fd) : FnOk P w K mg base (L2.CX P w) 1 f fd ["self"] (spD K 1 m_Machine_wide) ∧ Binds K fd ["self"] [] :=
  ⟨fn_def F sc_Machine_wide (fun cdv A outer s H E hr => d_Machine_wide ev f cdv A outer s H E hr), F.bindsN fun _ _ _ _ _ _ us hl => match us, hl with | [_], _ => rfl⟩
/-! Machine.lane -/
abbrev st_Machine_lane : Stmt := inCls (top 29) 2
def N_Machine_lane : List Str := ["self"]
theorem sc_Machine_lane : FnScope N_Machine_lane ["self"] (defScope st_Machine_lane) := ⟨rfl, rfl, rfl, by decide +kernel, rfl, by decide +kernel, by decide +kernel⟩
noncomputable def b_Machine_lane : MS := (sSeq (sRet (mMap Slot.val (mFld cs_rail "rail" (eVar 0)))) sNext)
noncomputable def m_Machine_lane : MF := mDef N_Machine_lane b_Machine_lane
noncomputable def c_Machine_lane : MF := m_Machine_lane
theorem d_Machine_lane (ev : Ev K mg) (f : Addr) (cdv : Value) (A : Around) (outer : List Env) (s : Shared) (H : Hp) (E : XK) (hr : Room 0 (A.deeper (envOfC "Machine.lane" (defScope st_Machine_lane) s.heap.objs.size f cdv))) :
    DSs (cxOf (L2.CX P w) P w K mg base N_Machine_lane "Machine.lane" (defScope st_Machine_lane) f cdv A outer s H E) (defBody st_Machine_lane) b_Machine_lane := by
  have hN := sc_Machine_lane.nd
  have hu := hr.units
  have hc : (cxOf (L2.CX P w) P w K mg base N_Machine_lane "Machine.lane" (defScope st_Machine_lane) f cdv A outer s H E).calm = true := rfl
  have po := passes_of (X := (cxOf (L2.CX P w) P w K mg base N_Machine_lane "Machine.lane" (defScope st_Machine_lane) f cdv A outer s H E)) rfl
  have hr1 := hr
  exact (dss_cons (ds_ret (do_val (dv_fld (f := "rail") (dv_var (pv 0)) ev.fl_rail))) dss_nil)
theorem G_Machine_lane {f : Addr} {fd : FuncData} (ev : Ev K mg) (F : FunD K "lane" "Machine.lane" (defArgs st_Machine_lane) (defBody st_Machine_lane) (defScope st_Machine_lane) [] [] f fd) : FnOk P w K mg base (L2.CX P w) 1 f fd ["self"] (spD K 1 m_Machine_lane) ∧ Binds K fd ["self"] [] :=
  ⟨fn_def F sc_Machine_lane (fun cdv A outer s H E hr => d_Machine_lane ev f cdv A outer s H E hr), F.bindsN fun _ _ _ _ _ _ us hl => match us, hl with | [_], _ => rfl⟩
/-! Machine.kind -/
abbrev st_Machine_kind : Stmt := inCls (top 29) 1
def N_Machine_kind : List Str := ["self"]
theorem sc_Machine_kind : FnScope N_Machine_kind ["self"] (defScope st_Machine_kind) := ⟨rfl, rfl, rfl, by decide +kernel, rfl, by decide +kernel, by decide +kernel⟩
noncomputable def b_Machine_kind : MS := (sSeq (sRet (mMap Slot.val (eC (.str (Str.ofString ""))))) sNext)
noncomputable def m_Machine_kind : MF := mDef N_Machine_kind b_Machine_kind
noncomputable def c_Machine_kind : MF := m_Machine_kind
theorem d_Machine_kind (ev : Ev K mg) (f : Addr) (cdv : Value) (A : Around) (outer : List Env) (s : Shared) (H : Hp) (E : XK) (hr : Room 0 (A.deeper (envOfC "Machine.kind" (defScope st_Machine_kind) s.heap.objs.size f cdv))) :
    DSs (cxOf (L2.CX P w) P w K mg base N_Machine_kind "Machine.kind" (defScope st_Machine_kind) f cdv A outer s H E) (defBody st_Machine_kind) b_Machine_kind := by
  have hN := sc_Machine_kind.nd
  have hu := hr.units
  have hc : (cxOf (L2.CX P w) P w K mg base N_Machine_kind "Machine.kind" (defScope st_Machine_kind) f cdv A outer s H E).calm = true := rfl
  have po := passes_of (X := (cxOf (L2.CX P w) P w K mg base N_Machine_kind "Machine.kind" (defScope st_Machine_kind) f cdv A outer s H E)) rfl
  have hr1 := hr
  exact (dss_cons (ds_ret (do_val dv_str)) dss_nil)
theorem G_Machine_kind {f : Addr} {fd : FuncData} (ev : Ev K mg) (F : FunD K "kind" "Machine.kind" (defArgs st_Machine_kind) (defBody st_Machine_kind) (defScope st_Machine_kind) [] [] f fd) : FnOk P w K mg base (L2.CX P w) 1 f fd ["self"] (spD K 1 m_Machine_kind) ∧ Binds K fd ["self"] [] :=
  ⟨fn_def F sc_Machine_kind (fun cdv A outer s H E hr => d_Machine_kind ev f cdv A outer s H E hr), F.bindsN fun _ _ _ _ _ _ us hl => match us, hl with | [_], _ => rfl⟩
/-! Line.kind -/
abbrev st_Line_kind : Stmt := inCls (top 30) 1
def N_Line_kind : List Str := ["self"]
theorem sc_Line_kind : FnScope N_Line_kind ["self"] (defScope st_Line_kind) := ⟨rfl, rfl, rfl, by decide +kernel, rfl, by decide +kernel, by decide +kernel⟩
noncomputable def b_Line_kind : MS := (sSeq (sRet (mMap Slot.val (eC (.str (Str.ofString "line"))))) sNext)
noncomputable def m_Line_kind : MF := mDef N_Line_kind b_Line_kind
noncomputable def c_Line_kind : MF := m_Line_kind
theorem d_Line_kind (ev : Ev K mg) (f : Addr) (cdv : Value) (A : Around) (outer : List Env) (s : Shared) (H : Hp) (E : XK) (hr : Room 0 (A.deeper (envOfC "Line.kind" (defScope st_Line_kind) s.heap.objs.size f cdv))) :
    DSs (cxOf (L2.CX P w) P w K mg base N_Line_kind "Line.kind" (defScope st_Line_kind) f cdv A outer s H E) (defBody st_Line_kind) b_Line_kind := by
  have hN := sc_Line_kind.nd
  have hu := hr.units
  have hc : (cxOf (L2.CX P w) P w K mg base N_Line_kind "Line.kind" (defScope st_Line_kind) f cdv A outer s H E).calm = true := rfl
  have po := passes_of (X := (cxOf (L2.CX P w) P w K mg base N_Line_kind "Line.kind" (defScope st_Line_kind) f cdv A outer s H E)) rfl
  have hr1 := hr
  exact (dss_cons (ds_ret (do_val dv_str)) dss_nil)
theorem G_Line_kind {f : Addr} {fd : FuncData} (ev : Ev K mg) (F : FunD K "kind" "Line.kind" (defArgs st_Line_kind) (defBody st_Line_kind) (defScope st_Line_kind) [] [] f fd) : FnOk P w K mg base (L2.CX P w) 1 f fd ["self"] (spD K 1 m_Line_kind) ∧ Binds K fd ["self"] [] :=
  ⟨fn_def F sc_Line_kind (fun cdv A outer s H E hr => d_Line_kind ev f cdv A outer s H E hr), F.bindsN fun _ _ _ _ _ _ us hl => match us, hl with | [_], _ => rfl⟩
/-! Wagon.kind -/
abbrev st_Wagon_kind : Stmt := inCls (top 31) 1
def N_Wagon_kind : List Str := ["self"]
theorem sc_Wagon_kind : FnScope N_Wagon_kind ["self"] (defScope st_Wagon_kind) := ⟨rfl, rfl, rfl, by decide +kernel, rfl, by decide +kernel, by decide +kernel⟩
noncomputable def b_Wagon_kind : MS := (sSeq (sRet (mMap Slot.val (eC (.str (Str.ofString "wagon"))))) sNext)
noncomputable def m_Wagon_kind : MF := mDef N_Wagon_kind b_Wagon_kind
noncomputable def c_Wagon_kind : MF := m_Wagon_kind
theorem d_Wagon_kind (ev : Ev K mg) (f : Addr) (cdv : Value) (A : Around) (outer : List Env) (s : Shared) (H : Hp) (E : XK) (hr : Room 0 (A.deeper (envOfC "Wagon.kind" (defScope st_Wagon_kind) s.heap.objs.size f cdv))) :
    DSs (cxOf (L2.CX P w) P w K mg base N_Wagon_kind "Wagon.kind" (defScope st_Wagon_kind) f cdv A outer s H E) (defBody st_Wagon_kind) b_Wagon_kind := by
  have hN := sc_Wagon_kind.nd
  have hu := hr.units
  have hc : (cxOf (L2.CX P w) P w K mg base N_Wagon_kind "Wagon.kind" (defScope st_Wagon_kind) f cdv A outer s H E).calm = true := rfl
  have po := passes_of (X := (cxOf (L2.CX P w) P w K mg base N_Wagon_kind "Wagon.kind" (defScope st_Wagon_kind) f cdv A outer s H E)) rfl
  have hr1 := hr
  exact (dss_cons (ds_ret (do_val dv_str)) dss_nil)
theorem G_Wagon_kind {f : Addr} {fd : FuncData} (ev : Ev K mg) (F : FunD K "kind" "Wagon.kind" (defArgs st_Wagon_kind) (defBody st_Wagon_kind) (defScope st_Wagon_kind) [] [] f fd) : FnOk P w K mg base (L2.CX P w) 1 f fd ["self"] (spD K 1 m_Wagon_kind) ∧ Binds K fd ["self"] [] :=
  ⟨fn_def F sc_Wagon_kind (fun cdv A outer s H E hr => d_Wagon_kind ev f cdv A outer s H E hr), F.bindsN fun _ _ _ _ _ _ us hl => match us, hl with | [_], _ => rfl⟩
/-! Floor.kind -/
abbrev st_Floor_kind : Stmt := inCls (top 32) 1
def N_Floor_kind : List Str := ["self"]
theorem sc_Floor_kind : FnScope N_Floor_kind ["self"] (defScope st_Floor_kind) := ⟨rfl, rfl, rfl, by decide +kernel, rfl, by decide +kernel, by decide +kernel⟩
noncomputable def b_Floor_kind : MS := (sSeq (sRet (mMap Slot.val (eC (.str (Str.ofString "floor"))))) sNext)
noncomputable def m_Floor_kind : MF := mDef N_Floor_kind b_Floor_kind
noncomputable def c_Floor_kind : MF := m_Floor_kind
theorem d_Floor_kind (ev : Ev K mg) (f : Addr) (cdv : Value) (A : Around) (outer : List Env) (s : Shared) (H : Hp) (E : XK) (hr : Room 0 (A.deeper (envOfC "Floor.kind" (defScope st_Floor_kind) s.heap.objs.size f cdv))) :
    DSs (cxOf (L2.CX P w) P w K mg base N_Floor_kind "Floor.kind" (defScope st_Floor_kind) f cdv A outer s H E) (defBody st_Floor_kind) b_Floor_kind := by
  have hN := sc_Floor_kind.nd
  have hu := hr.units
  have hc : (cxOf (L2.CX P w) P w K mg base N_Floor_kind "Floor.kind" (defScope st_Floor_kind) f cdv A outer s H E).calm = true := rfl
  have po := passes_of (X := (cxOf (L2.CX P w) P w K mg base N_Floor_kind "Floor.kind" (defScope st_Floor_kind) f cdv A outer s H E)) rfl
  have hr1 := hr
  exact (dss_cons (ds_ret (do_val dv_str)) dss_nil)
theorem G_Floor_kind {f : Addr} {fd : FuncData} (ev : Ev K mg) (F : FunD K "kind" "Floor.kind" (defArgs st_Floor_kind) (defBody st_Floor_kind) (defScope st_Floor_kind) [] [] f fd) : FnOk P w K mg base (L2.CX P w) 1 f fd ["self"] (spD K 1 m_Floor_kind) ∧ Binds K fd ["self"] [] :=
  ⟨fn_def F sc_Floor_kind (fun cdv A outer s H E hr => d_Floor_kind ev f cdv A outer s H E hr), F.bindsN fun _ _ _ _ _ _ us hl => match us, hl with | [_], _ => rfl⟩
/-! Trap.kind -/
abbrev st_Trap_kind : Stmt := inCls (top 33) 1
def N_Trap_kind : List Str := ["self"]
theorem sc_Trap_kind : FnScope N_Trap_kind ["self"] (defScope st_Trap_kind) := ⟨rfl, rfl, rfl, by decide +kernel, rfl, by decide +kernel, by decide +kernel⟩
noncomputable def b_Trap_kind : MS := (sSeq (sRet (mMap Slot.val (eC (.str (Str.ofString "trap"))))) sNext)
noncomputable def m_Trap_kind : MF := mDef N_Trap_kind b_Trap_kind
noncomputable def c_Trap_kind : MF := m_Trap_kind
theorem d_Trap_kind (ev : Ev K mg) (f : Addr) (cdv : Value) (A : Around) (outer : List Env) (s : Shared) (H : Hp) (E : XK) (hr : Room 0 (A.deeper (envOfC "Trap.kind" (defScope st_Trap_kind) s.heap.objs.size f cdv))) :
    DSs (cxOf (L2.CX P w) P w K mg base N_Trap_kind "Trap.kind" (defScope st_Trap_kind) f cdv A outer s H E) (defBody st_Trap_kind) b_Trap_kind := by
  have hN := sc_Trap_kind.nd
  have hu := hr.units
  have hc : (cxOf (L2.CX P w) P w K mg base N_Trap_kind "Trap.kind" (defScope st_Trap_kind) f cdv A outer s H E).calm = true := rfl
  have po := passes_of (X := (cxOf (L2.CX P w) P w K mg base N_Trap_kind "Trap.kind" (defScope st_Trap_kind) f cdv A outer s H E)) rfl
  have hr1 := hr
  exact (dss_cons (ds_ret (do_val dv_str)) dss_nil)
theorem G_Trap_kind {f : Addr} {fd : FuncData} (ev : Ev K mg) (F : FunD K "kind" "Trap.kind" (defArgs st_Trap_kind) (defBody st_Trap_kind) (defScope st_Trap_kind) [] [] f fd) : FnOk P w K mg base (L2.CX P w) 1 f fd ["self"] (spD K 1 m_Trap_kind) ∧ Binds K fd ["self"] [] :=
  ⟨fn_def F sc_Trap_kind (fun cdv A outer s H E hr => d_Trap_kind ev f cdv A outer s H E hr), F.bindsN fun _ _ _ _ _ _ us hl => match us, hl with | [_], _ => rfl⟩
/-! Machine.tail -/
abbrev st_Machine_tail : Stmt := inCls (top 29) 9
def N_Machine_tail : List Str := ["self"]
theorem sc_Machine_tail : FnScope N_Machine_tail ["self"] (defScope st_Machine_tail) := ⟨rfl, rfl, rfl, by decide +kernel, rfl, by decide +kernel, by decide +kernel⟩
noncomputable def b_Machine_tail : MS := (sSeq (sRet (oLst aNil)) sNext)
noncomputable def m_Machine_tail : MF := mDef N_Machine_tail b_Machine_tail
noncomputable def c_Machine_tail : MF := m_Machine_tail
theorem d_Machine_tail (ev : Ev K mg) (f : Addr) (cdv : Value) (A : Around) (outer : List Env) (s : Shared) (H : Hp) (E : XK) (hr : Room 0 (A.deeper (envOfC "Machine.tail" (defScope st_Machine_tail) s.heap.objs.size f cdv))) :
    DSs (cxOf (L2.CX P w) P w K mg base N_Machine_tail "Machine.tail" (defScope st_Machine_tail) f cdv A outer s H E) (defBody st_Machine_tail) b_Machine_tail := by
  have hN := sc_Machine_tail.nd
  have hu := hr.units
  have hc : (cxOf (L2.CX P w) P w K mg base N_Machine_tail "Machine.tail" (defScope st_Machine_tail) f cdv A outer s H E).calm = true := rfl
  have po := passes_of (X := (cxOf (L2.CX P w) P w K mg base N_Machine_tail "Machine.tail" (defScope st_Machine_tail) f cdv A outer s H E)) rfl
  have hr1 := hr
  exact (dss_cons (ds_ret (do_lst da_nil)) dss_nil)
theorem G_Machine_tail {f : Addr} {fd : FuncData} (ev : Ev K mg) (F : FunD K "tail" "Machine.tail" (defArgs st_Machine_tail) (defBody st_Machine_tail) (defScope st_Machine_tail) [] [] f fd) : FnOk P w K mg base (L2.CX P w) 1 f fd ["self"] (spD K 1 m_Machine_tail) ∧ Binds K fd ["self"] [] :=
  ⟨fn_def F sc_Machine_tail (fun cdv A outer s H E hr => d_Machine_tail ev f cdv A outer s H E hr), F.bindsN fun _ _ _ _ _ _ us hl => match us, hl with | [_], _ => rfl⟩
/-! Line.tail -/
abbrev st_Line_tail : Stmt := inCls (top 30) 3
def N_Line_tail : List Str := ["self"]
theorem sc_Line_tail : FnScope N_Line_tail ["self"] (defScope st_Line_tail) := ⟨rfl, rfl, rfl, by decide +kernel, rfl, by decide +kernel, by decide +kernel⟩
noncomputable def b_Line_tail : MS := (sSeq (sRet (oLst (aCons (mMap Slot.d (mCall fStr (aCons (mFld cs_rail "rail" (eVar 0)) aNil))) (aCons (mMap Slot.d (mCall fStr (aCons (mFld cs_spot "spot" (eVar 0)) aNil))) (aCons (mMap Slot.d (mCall fStr (aCons (mFld cs_long "long" (eVar 0)) aNil))) (aCons (mMap Slot.d (mCall fStr (aCons (mFld cs_high "high" (eVar 0)) aNil))) aNil)))))) sNext)
noncomputable def m_Line_tail : MF := mDef N_Line_tail b_Line_tail
noncomputable def c_Line_tail : MF := m_Line_tail
theorem d_Line_tail (ev : Ev K mg) (f : Addr) (cdv : Value) (A : Around) (outer : List Env) (s : Shared) (H : Hp) (E : XK) (hr : Room 0 (A.deeper (envOfC "Line.tail" (defScope st_Line_tail) s.heap.objs.size f cdv))) :
    DSs (cxOf (L2.CX P w) P w K mg base N_Line_tail "Line.tail" (defScope st_Line_tail) f cdv A outer s H E) (defBody st_Line_tail) b_Line_tail := by
  have hN := sc_Line_tail.nd
  have hu := hr.units
  have hc : (cxOf (L2.CX P w) P w K mg base N_Line_tail "Line.tail" (defScope st_Line_tail) f cdv A outer s H E).calm = true := rfl
  have po := passes_of (X := (cxOf (L2.CX P w) P w K mg base N_Line_tail "Line.tail" (defScope st_Line_tail) f cdv A outer s H E)) rfl
  have hr1 := hr
  exact (dss_cons (ds_ret (do_lst (da_cons (dv_of (do_callTy call_strP r_str rfl ev.f_str (by decide +kernel) (da_cons (dv_fld (f := "rail") (dv_var (pv 0)) ev.fl_rail) da_nil))) (da_cons (dv_of (do_callTy call_strP r_str rfl ev.f_str (by decide +kernel) (da_cons (dv_fld (f := "spot") (dv_var (pv 0)) ev.fl_spot) da_nil))) (da_cons (dv_of (do_callTy call_strP r_str rfl ev.f_str (by decide +kernel) (da_cons (dv_fld (f := "long") (dv_var (pv 0)) ev.fl_long) da_nil))) (da_cons (dv_of (do_callTy call_strP r_str rfl ev.f_str (by decide +kernel) (da_cons (dv_fld (f := "high") (dv_var (pv 0)) ev.fl_high) da_nil))) da_nil)))))) dss_nil)
theorem G_Line_tail {f : Addr} {fd : FuncData} (ev : Ev K mg) (F : FunD K "tail" "Line.tail" (defArgs st_Line_tail) (defBody st_Line_tail) (defScope st_Line_tail) [] [] f fd) : FnOk P w K mg base (L2.CX P w) 1 f fd ["self"] (spD K 1 m_Line_tail) ∧ Binds K fd ["self"] [] :=
  ⟨fn_def F sc_Line_tail (fun cdv A outer s H E hr => d_Line_tail ev f cdv A outer s H E hr), F.bindsN fun _ _ _ _ _ _ us hl => match us, hl with | [_], _ => rfl⟩
/-! Wagon.tail -/
abbrev st_Wagon_tail : Stmt := inCls (top 31) 3
def N_Wagon_tail : List Str := ["self"]
theorem sc_Wagon_tail : FnScope N_Wagon_tail ["self"] (defScope st_Wagon_tail) := ⟨rfl, rfl, rfl, by decide +kernel, rfl, by decide +kernel, by decide +kernel⟩
noncomputable def b_Wagon_tail : MS := (sSeq (sRet (oLst (aCons (mMap Slot.d (mCall fStr (aCons (mFld cs_rail "rail" (eVar 0)) aNil))) (aCons (mMap Slot.d (mCall fStr (aCons (mFld cs_long "long" (eVar 0)) aNil))) (aCons (mMap Slot.d (mCall fStr (aCons (mFld cs_high "high" (eVar 0)) aNil))) aNil))))) sNext)
noncomputable def m_Wagon_tail : MF := mDef N_Wagon_tail b_Wagon_tail
noncomputable def c_Wagon_tail : MF := m_Wagon_tail
theorem d_Wagon_tail (ev : Ev K mg) (f : Addr) (cdv : Value) (A : Around) (outer : List Env) (s : Shared) (H : Hp) (E : XK) (hr : Room 0 (A.deeper (envOfC "Wagon.tail" (defScope st_Wagon_tail) s.heap.objs.size f cdv))) :
    DSs (cxOf (L2.CX P w) P w K mg base N_Wagon_tail "Wagon.tail" (defScope st_Wagon_tail) f cdv A outer s H E) (defBody st_Wagon_tail) b_Wagon_tail := by
  have hN := sc_Wagon_tail.nd
  have hu := hr.units
  have hc : (cxOf (L2.CX P w) P w K mg base N_Wagon_tail "Wagon.tail" (defScope st_Wagon_tail) f cdv A outer s H E).calm = true := rfl
  have po := passes_of (X := (cxOf (L2.CX P w) P w K mg base N_Wagon_tail "Wagon.tail" (defScope st_Wagon_tail) f cdv A outer s H E)) rfl
  have hr1 := hr
  exact (dss_cons (ds_ret (do_lst (da_cons (dv_of (do_callTy call_strP r_str rfl ev.f_str (by decide +kernel) (da_cons (dv_fld (f := "rail") (dv_var (pv 0)) ev.fl_rail) da_nil))) (da_cons (dv_of (do_callTy call_strP r_str rfl ev.f_str (by decide +kernel) (da_cons (dv_fld (f := "long") (dv_var (pv 0)) ev.fl_long) da_nil))) (da_cons (dv_of (do_callTy call_strP r_str rfl ev.f_str (by decide +kernel) (da_cons (dv_fld (f := "high") (dv_var (pv 0)) ev.fl_high) da_nil))) da_nil))))) dss_nil)
theorem G_Wagon_tail {f : Addr} {fd : FuncData} (ev : Ev K mg) (F : FunD K "tail" "Wagon.tail" (defArgs st_Wagon_tail) (defBody st_Wagon_tail) (defScope st_Wagon_tail) [] [] f fd) : FnOk P w K mg base (L2.CX P w) 1 f fd ["self"] (spD K 1 m_Wagon_tail) ∧ Binds K fd ["self"] [] :=
  ⟨fn_def F sc_Wagon_tail (fun cdv A outer s H E hr => d_Wagon_tail ev f cdv A outer s H E hr), F.bindsN fun _ _ _ _ _ _ us hl => match us, hl with | [_], _ => rfl⟩
/-! Floor.tail -/
abbrev st_Floor_tail : Stmt := inCls (top 32) 4
def N_Floor_tail : List Str := ["self", "part", "wall"]
theorem sc_Floor_tail : FnScope N_Floor_tail ["self"] (defScope st_Floor_tail) := ⟨rfl, rfl, rfl, by decide +kernel, rfl, by decide +kernel, by decide +kernel⟩
noncomputable def b_Floor_tail : MS := (sSeq (sRet (mBin opAdd (mMap Slot.d (oLst (aCons (mMap Slot.d (mCall fStr (aCons (mFld cs_rail "rail" (eVar 0)) aNil))) aNil))) (mMap Slot.d (mLc (mSeq (mFld cs_walls "walls" (eVar 0))) (gN 2) [2] (eC true) (mMap Slot.d (mTM fJoin (eC (.str (Str.ofString ":"))) (mMap Slot.d (mLc (mSeq (eVar 2)) (gN 1) [1] (eC true) (mMap Slot.d (mCall fStr (aCons (eVar 1) aNil))))))))))) sNext)
noncomputable def m_Floor_tail : MF := mDef N_Floor_tail b_Floor_tail
noncomputable def c_Floor_tail : MF := m_Floor_tail
theorem d_Floor_tail (ev : Ev K mg) (f : Addr) (cdv : Value) (A : Around) (outer : List Env) (s : Shared) (H : Hp) (E : XK) (hr : Room 0 (A.deeper (envOfC "Floor.tail" (defScope st_Floor_tail) s.heap.objs.size f cdv))) :
    DSs (cxOf (L2.CX P w) P w K mg base N_Floor_tail "Floor.tail" (defScope st_Floor_tail) f cdv A outer s H E) (defBody st_Floor_tail) b_Floor_tail := by
  have hN := sc_Floor_tail.nd
  have hu := hr.units
  have hc : (cxOf (L2.CX P w) P w K mg base N_Floor_tail "Floor.tail" (defScope st_Floor_tail) f cdv A outer s H E).calm = true := rfl
  have po := passes_of (X := (cxOf (L2.CX P w) P w K mg base N_Floor_tail "Floor.tail" (defScope st_Floor_tail) f cdv A outer s H E)) rfl
  have hr1 := hr
  exact (dss_cons (ds_ret (do_bin op_addAll r_add (dv_of (do_lst (da_cons (dv_of (do_callTy call_strP r_str rfl ev.f_str (by decide +kernel) (da_cons (dv_fld (f := "rail") (dv_var (pv 0)) ev.fl_rail) da_nil))) da_nil))) (dv_of (do_lc (own := [("wall", 2)]) rfl hN (di_seq (dv_fld (f := "walls") (dv_var (pv 0)) ev.fl_walls)) (by show BlkOk N_Floor_tail (defScope st_Floor_tail) _ _; exact ⟨rfl, by decide +kernel, by decide +kernel, by decide +kernel, by decide +kernel⟩) (rg_name 2) (fun _ _ _ _ _ => (pg_name hN rfl (by first | exact .inl rfl | exact .inr rfl))) (fun _ _ _ _ _ => dts_nil) (fun _ _ _ _ _ => (dv_of (do_tm PySem.F.slot_str_join PySem.F.type_str_join mt_join r_join dv_str (dv_of (do_lc (own := [("part", 1)]) rfl hN (di_seq (dv_var (pv 2))) (by show BlkOk N_Floor_tail _ _ _; exact blk_nofree rfl (by decide +kernel) (by decide +kernel) (by decide +kernel) (by decide +kernel)) (rg_name 1) (fun _ _ _ _ _ => (pg_name hN rfl (by first | exact .inl rfl | exact .inr rfl))) (fun _ _ _ _ _ => dts_nil) (fun _ _ _ _ _ => (dv_of (do_callTy call_strP r_str rfl ev.f_str (by decide +kernel) (da_cons (dv_var (pv 1)) da_nil))))))))))))) dss_nil)
theorem G_Floor_tail {f : Addr} {fd : FuncData} (ev : Ev K mg) (F : FunD K "tail" "Floor.tail" (defArgs st_Floor_tail) (defBody st_Floor_tail) (defScope st_Floor_tail) [] [] f fd) : FnOk P w K mg base (L2.CX P w) 1 f fd ["self"] (spD K 1 m_Floor_tail) ∧ Binds K fd ["self"] [] :=
  ⟨fn_def F sc_Floor_tail (fun cdv A outer s H E hr => d_Floor_tail ev f cdv A outer s H E hr), F.bindsN fun _ _ _ _ _ _ us hl => match us, hl with | [_], _ => rfl⟩
/-! Trap.tail -/
abbrev st_Trap_tail : Stmt := inCls (top 33) 3
def N_Trap_tail : List Str := ["self"]
theorem sc_Trap_tail : FnScope N_Trap_tail ["self"] (defScope st_Trap_tail) := ⟨rfl, rfl, rfl, by decide +kernel, rfl, by decide +kernel, by decide +kernel⟩
noncomputable def b_Trap_tail : MS := (sSeq (sRet (oLst (aCons (mMap Slot.d (mCall fStr (aCons (mFld cs_rail "rail" (eVar 0)) aNil))) (aCons (mMap Slot.d (mCall fStr (aCons (mFld cs_spot "spot" (eVar 0)) aNil))) (aCons (mMap Slot.d (mCall fStr (aCons (mFld cs_long "long" (eVar 0)) aNil))) aNil))))) sNext)
noncomputable def m_Trap_tail : MF := mDef N_Trap_tail b_Trap_tail
noncomputable def c_Trap_tail : MF := m_Trap_tail
theorem d_Trap_tail (ev : Ev K mg) (f : Addr) (cdv : Value) (A : Around) (outer : List Env) (s : Shared) (H : Hp) (E : XK) (hr : Room 0 (A.deeper (envOfC "Trap.tail" (defScope st_Trap_tail) s.heap.objs.size f cdv))) :
    DSs (cxOf (L2.CX P w) P w K mg base N_Trap_tail "Trap.tail" (defScope st_Trap_tail) f cdv A outer s H E) (defBody st_Trap_tail) b_Trap_tail := by
  have hN := sc_Trap_tail.nd
  have hu := hr.units
  have hc : (cxOf (L2.CX P w) P w K mg base N_Trap_tail "Trap.tail" (defScope st_Trap_tail) f cdv A outer s H E).calm = true := rfl
  have po := passes_of (X := (cxOf (L2.CX P w) P w K mg base N_Trap_tail "Trap.tail" (defScope st_Trap_tail) f cdv A outer s H E)) rfl
  have hr1 := hr
  exact (dss_cons (ds_ret (do_lst (da_cons (dv_of (do_callTy call_strP r_str rfl ev.f_str (by decide +kernel) (da_cons (dv_fld (f := "rail") (dv_var (pv 0)) ev.fl_rail) da_nil))) (da_cons (dv_of (do_callTy call_strP r_str rfl ev.f_str (by decide +kernel) (da_cons (dv_fld (f := "spot") (dv_var (pv 0)) ev.fl_spot) da_nil))) (da_cons (dv_of (do_callTy call_strP r_str rfl ev.f_str (by decide +kernel) (da_cons (dv_fld (f := "long") (dv_var (pv 0)) ev.fl_long) da_nil))) da_nil))))) dss_nil)
theorem G_Trap_tail {f : Addr} {fd : FuncData} (ev : Ev K mg) (F : FunD K "tail" "Trap.tail" (defArgs st_Trap_tail) (defBody st_Trap_tail) (defScope st_Trap_tail) [] [] f fd) : FnOk P w K mg base (L2.CX P w) 1 f fd ["self"] (spD K 1 m_Trap_tail) ∧ Binds K fd ["self"] [] :=
  ⟨fn_def F sc_Trap_tail (fun cdv A outer s H E hr => d_Trap_tail ev f cdv A outer s H E hr), F.bindsN fun _ _ _ _ _ _ us hl => match us, hl with | [_], _ => rfl⟩
noncomputable def t_kind_0 : String → Option MF := fun c => match c with | "Machine" => some c_Machine_kind | "Line" => some c_Line_kind | "Wagon" => some c_Wagon_kind | "Floor" => some c_Floor_kind | "Trap" => some c_Trap_kind | _ => none
noncomputable def t_tail_0 : String → Option MF := fun c => match c with | "Machine" => some c_Machine_tail | "Line" => some c_Line_tail | "Wagon" => some c_Wagon_tail | "Floor" => some c_Floor_tail | "Trap" => some c_Trap_tail | _ => none
/-! Machine.words -/
abbrev st_Machine_words : Stmt := inCls (top 29) 10
def N_Machine_words : List Str := ["self", "common", "one"]
theorem sc_Machine_words : FnScope N_Machine_words ["self"] (defScope st_Machine_words) := ⟨rfl, rfl, rfl, by decide +kernel, rfl, by decide +kernel, by decide +kernel⟩
noncomputable def b_Machine_words_0 : MS := (sSet 1 (mMap Slot.val (mMap Slot.d (oLst (aCons (mFld cs_least "least" (eVar 0)) (aCons (mFld cs_greatest "greatest" (eVar 0)) (aCons (mFld cs_pace "pace" (eVar 0)) (aCons (mFld cs_gain "gain" (eVar 0)) (aCons (mFld cs_place "place" (eVar 0)) aNil)))))))))
noncomputable def b_Machine_words_1 : MS := (sRet (mTM fJoin (eC (.str (Str.ofString " "))) (mMap Slot.d (mBin opAdd (mMap Slot.d (mBin opAdd (mMap Slot.d (oLst (aCons (mMap Slot.d (mMeth "kind" t_kind_0 (eVar 0) aNil)) (aCons (mFld cs_name "name" (eVar 0)) aNil)))) (mMap Slot.d (mLc (mSeq (eVar 1)) (gN 2) [2] (eC true) (mMap Slot.d (mCall fStr (aCons (eVar 2) aNil))))))) (mMap Slot.d (mMeth "tail" t_tail_0 (eVar 0) aNil))))))
noncomputable def b_Machine_words : MS := (sSeq b_Machine_words_0 (sSeq b_Machine_words_1 sNext))
noncomputable def m_Machine_words : MF := mDef N_Machine_words b_Machine_words
noncomputable def c_Machine_words : MF := m_Machine_words
theorem d_Machine_words (ev : Ev K mg) (M_kind_0 : ∀ c mf, t_kind_0 c = some mf → Mth P w K mg base 1 c "kind" 0 mf) (M_tail_0 : ∀ c mf, t_tail_0 c = some mf → Mth P w K mg base 1 c "tail" 0 mf) (f : Addr) (cdv : Value) (A : Around) (outer : List Env) (s : Shared) (H : Hp) (E : XK) (hr : Room 1 (A.deeper (envOfC "Machine.words" (defScope st_Machine_words) s.heap.objs.size f cdv))) :
    DSs (cxOf (L2.CX P w) P w K mg base N_Machine_words "Machine.words" (defScope st_Machine_words) f cdv A outer s H E) (defBody st_Machine_words) b_Machine_words := by
  have hN := sc_Machine_words.nd
  have hu := hr.units
  have hc : (cxOf (L2.CX P w) P w K mg base N_Machine_words "Machine.words" (defScope st_Machine_words) f cdv A outer s H E).calm = true := rfl
  have po := passes_of (X := (cxOf (L2.CX P w) P w K mg base N_Machine_words "Machine.words" (defScope st_Machine_words) f cdv A outer s H E)) rfl
  have hr1 := hr
  exact (dss_cons (ds_set (i := 1) hN rfl (by first | exact .inl rfl | exact .inr rfl) (do_val (dv_of (do_lst (da_cons (dv_fld (f := "least") (dv_var (pv 0)) ev.fl_least) (da_cons (dv_fld (f := "greatest") (dv_var (pv 0)) ev.fl_greatest) (da_cons (dv_fld (f := "pace") (dv_var (pv 0)) ev.fl_pace) (da_cons (dv_fld (f := "gain") (dv_var (pv 0)) ev.fl_gain) (da_cons (dv_fld (f := "place") (dv_var (pv 0)) ev.fl_place) da_nil))))))))) (dss_cons (ds_ret (do_tm PySem.F.slot_str_join PySem.F.type_str_join mt_join r_join dv_str (dv_of (do_bin op_addAll r_add (dv_of (do_bin op_addAll r_add (dv_of (do_lst (da_cons (dv_of (do_meth0 (m := "kind") M_kind_0 hr (dv_var (pv 0)))) (da_cons (dv_fld (f := "name") (dv_var (pv 0)) ev.fl_name) da_nil)))) (dv_of (do_lc (own := [("one", 2)]) rfl hN (di_seq (dv_var (pv 1))) (by show BlkOk N_Machine_words (defScope st_Machine_words) _ _; exact ⟨rfl, by decide +kernel, by decide +kernel, by decide +kernel, by decide +kernel⟩) (rg_name 2) (fun _ _ _ _ _ => (pg_name hN rfl (by first | exact .inl rfl | exact .inr rfl))) (fun _ _ _ _ _ => dts_nil) (fun _ _ _ _ _ => (dv_of (do_callTy call_strP r_str rfl ev.f_str (by decide +kernel) (da_cons (dv_var (pv 2)) da_nil)))))))) (dv_of (do_meth0 (m := "tail") M_tail_0 hr (dv_var (pv 0)))))))) dss_nil))
theorem G_Machine_words {f : Addr} {fd : FuncData} (ev : Ev K mg) (M_kind_0 : ∀ c mf, t_kind_0 c = some mf → Mth P w K mg base 1 c "kind" 0 mf) (M_tail_0 : ∀ c mf, t_tail_0 c = some mf → Mth P w K mg base 1 c "tail" 0 mf) (F : FunD K "words" "Machine.words" (defArgs st_Machine_words) (defBody st_Machine_words) (defScope st_Machine_words) [] [] f fd) : FnOk P w K mg base (L2.CX P w) 2 f fd ["self"] (spD K 1 m_Machine_words) ∧ Binds K fd ["self"] [] :=
  ⟨fn_def F sc_Machine_words (fun cdv A outer s H E hr => d_Machine_words ev M_kind_0 M_tail_0 f cdv A outer s H E hr), F.bindsN fun _ _ _ _ _ _ us hl => match us, hl with | [_], _ => rfl⟩
noncomputable def t_offset_0 : String → Option MF := fun c => match c with | "Machine" => some c_Machine_offset | "Line" => some c_Machine_offset | "Wagon" => some c_Machine_offset | "Floor" => some c_Floor_offset | "Trap" => some c_Machine_offset | _ => none
noncomputable def t_wide_0 : String → Option MF := fun c => match c with | "Machine" => some c_Machine_wide | "Line" => some c_Machine_wide | "Wagon" => some c_Machine_wide | "Floor" => some c_Machine_wide | "Trap" => some c_Machine_wide | _ => none
noncomputable def t_lane_0 : String → Option MF := fun c => match c with | "Machine" => some c_Machine_lane | "Line" => some c_Machine_lane | "Wagon" => some c_Machine_lane | "Floor" => some c_Machine_lane | "Trap" => some c_Machine_lane | _ => none
noncomputable def t_words_0 : String → Option MF := fun c => match c with | "Machine" => some c_Machine_words | "Line" => some c_Machine_words | "Wagon" => some c_Machine_words | "Floor" => some c_Machine_words | "Trap" => some c_Machine_words | _ => none
/-! _law_told_right -/
abbrev st__law_told_right : Stmt := top 42
def N__law_told_right : List Str := ["_law_machine_here", "_law_own", "_law_kinds", "_law_due", "_law_fields", "_law_wide", "_law_offset", "_law_row", "_law_word", "_law_shut", "_law_one"]
theorem sc__law_told_right : FnScope N__law_told_right ["_law_machine_here", "_law_own"] (defScope st__law_told_right) := ⟨rfl, rfl, rfl, by decide +kernel, rfl, by decide +kernel, by decide +kernel⟩
noncomputable def b__law_told_right_0 : MS := (sSet 2 (oLst (aCons (mMap Slot.d (mCall (fIsi T) (aCons (eVar 0) (aCons (eC (.cls "Line")) aNil)))) (aCons (mMap Slot.d (mCall (fIsi T) (aCons (eVar 0) (aCons (eC (.cls "Wagon")) aNil)))) (aCons (mMap Slot.d (mCall (fIsi T) (aCons (eVar 0) (aCons (eC (.cls "Trap")) aNil)))) aNil)))))
noncomputable def b__law_told_right_1 : MS := (sApp 2 (mMap Slot.d (mCall (fIsi T) (aCons (eVar 0) (aCons (eC (.cls "Floor")) aNil)))))
noncomputable def b__law_told_right_2 : MS := (sSet 3 (mLc (mSeq (mMap D.tup (aCons (eC (.str (Str.ofString "line"))) (aCons (eC (.str (Str.ofString "wagon"))) (aCons (eC (.str (Str.ofString "trap"))) (aCons (eC (.str (Str.ofString "floor"))) aNil)))))) (gN 8) [8] (eC true) (mMap D.bl (mCmp cEq (mMap Slot.d (mBin opSb (eVar 1) (eC (.str (Str.ofString "kind"))))) (eVar 8)))))
noncomputable def b__law_told_right_3 : MS := (sIf (mOr (mNot (mTru (mMap Slot.d (mCall (fIsi T) (aCons (eVar 0) (aCons (eC (.cls "Machine")) aNil)))))) (mCmp cNe (eVar 2) (eVar 3))) (sSeq (sRet (mMap Slot.val (eC (.bl false)))) sNext) sNext)
noncomputable def b__law_told_right_4 : MS := (sSet 4 (mMap Slot.val (mMap Slot.d (oLst (aCons (mFld cs_name "name" (eVar 0)) (aCons (mFld cs_least "least" (eVar 0)) (aCons (mFld cs_greatest "greatest" (eVar 0)) (aCons (mFld cs_pace "pace" (eVar 0)) (aCons (mFld cs_gain "gain" (eVar 0)) (aCons (mFld cs_place "place" (eVar 0)) aNil))))))))))
noncomputable def b__law_told_right_5 : MS := (sIf (mCmp cNe (eVar 4) (mMap Slot.d (mLc (mSeq (mMap D.tup (aCons (eC (.str (Str.ofString "name"))) (aCons (eC (.str (Str.ofString "least"))) (aCons (eC (.str (Str.ofString "greatest"))) (aCons (eC (.str (Str.ofString "pace"))) (aCons (eC (.str (Str.ofString "gain"))) (aCons (eC (.str (Str.ofString "place"))) aNil)))))))) (gN 8) [8] (eC true) (mMap Slot.d (mBin opSb (eVar 1) (eVar 8)))))) (sSeq (sRet (mMap Slot.val (eC (.bl false)))) sNext) sNext)
noncomputable def b__law_told_right_6 : MS := (sSet 5 (mMap Slot.val (mMap Slot.d (mIf (mCmp cEq (mMap Slot.d (mBin opSb (eVar 1) (eC (.str (Str.ofString "kind"))))) (eC (.str (Str.ofString "floor")))) (mCall fMaxA (aCons (mMap Slot.d (mLc (mSeq (mMap Slot.d (mBin opSb (eVar 1) (eC (.str (Str.ofString "walls")))))) (gN 9) [9] (eC true) (mMap Slot.d (mBin opSb (eVar 9) (eC (.int (1))))))) aNil)) (mBin opSb (eVar 1) (eC (.str (Str.ofString "wide"))))))))
noncomputable def b__law_told_right_7 : MS := (sSet 6 (mMap Slot.val (mMap Slot.d (mIf (mCmp cEq (mMap Slot.d (mBin opSb (eVar 1) (eC (.str (Str.ofString "kind"))))) (eC (.str (Str.ofString "floor")))) (mCall fMaxA (aCons (mMap Slot.d (mLc (mSeq (mMap Slot.d (mBin opSb (eVar 1) (eC (.str (Str.ofString "walls")))))) (gN 9) [9] (eC true) (mMap Slot.d (mBin opSb (eVar 9) (eC (.int (0))))))) aNil)) (mMap Slot.val (eC (.int (0))))))))
noncomputable def b__law_told_right_8 : MS := (sIf (mCmp cNe (mMap Slot.d (oLst (aCons (mMap Slot.d (mMeth "kind" t_kind_0 (eVar 0) aNil)) (aCons (mMap Slot.d (mMeth "lane" t_lane_0 (eVar 0) aNil)) (aCons (mMap Slot.d (mMeth "wide" t_wide_0 (eVar 0) aNil)) (aCons (mMap Slot.d (mMeth "offset" t_offset_0 (eVar 0) aNil)) aNil)))))) (mMap Slot.d (oLst (aCons (mMap Slot.d (mBin opSb (eVar 1) (eC (.str (Str.ofString "kind"))))) (aCons (mMap Slot.d (mBin opSb (eVar 1) (eC (.str (Str.ofString "lane"))))) (aCons (eVar 5) (aCons (eVar 6) aNil))))))) (sSeq (sRet (mMap Slot.val (eC (.bl false)))) sNext) sNext)
noncomputable def b__law_told_right_9 : MS := (sSet 7 (mMap Slot.val (mMap Slot.d (mBin opAdd (mMap Slot.d (mBin opAdd (mMap Slot.d (oLst (aCons (mMap Slot.d (mBin opSb (eVar 1) (eC (.str (Str.ofString "kind"))))) (aCons (mMap Slot.d (mBin opSb (eVar 1) (eC (.str (Str.ofString "name"))))) aNil)))) (mMap Slot.d (mLc (mSeq (mMap Slot.d (mSl (eVar 4) (pAt (eC (.int (1)))) pNo))) (gN 10) [10] (eC true) (mMap Slot.d (mCall fStr (aCons (eVar 10) aNil))))))) (mMap Slot.d (mLc (mSeq (mMap Slot.d (mFn c__law_tail (aCons (eVar 1) aNil)))) (gN 10) [10] (eC true) (mMap Slot.d (mCall fStr (aCons (eVar 10) aNil)))))))))
noncomputable def b__law_told_right_10 : MS := (sRet (mMap Slot.val (mMap D.bl (mCmp cEq (mMap Slot.d (mMeth "words" t_words_0 (eVar 0) aNil)) (mMap Slot.d (mTM fJoin (eC (.str (Str.ofString " "))) (eVar 7)))))))
noncomputable def b__law_told_right : MS := (sSeq b__law_told_right_0 (sSeq b__law_told_right_1 (sFrz 2 (sSeq b__law_told_right_2 (sFrz 3 (sSeq b__law_told_right_3 (sSeq b__law_told_right_4 (sSeq b__law_told_right_5 (sSeq b__law_told_right_6 (sSeq b__law_told_right_7 (sSeq b__law_told_right_8 (sSeq b__law_told_right_9 (sSeq b__law_told_right_10 sNext)))))))))))))
noncomputable def m__law_told_right : MF := mDef N__law_told_right b__law_told_right
noncomputable def c__law_told_right : MF := m__law_told_right
theorem d__law_told_right (ev : Ev K mg) (M_offset_0 : ∀ c mf, t_offset_0 c = some mf → Mth P w K mg base 2 c "offset" 0 mf) (M_wide_0 : ∀ c mf, t_wide_0 c = some mf → Mth P w K mg base 2 c "wide" 0 mf) (M_lane_0 : ∀ c mf, t_lane_0 c = some mf → Mth P w K mg base 2 c "lane" 0 mf) (M_kind_0 : ∀ c mf, t_kind_0 c = some mf → Mth P w K mg base 2 c "kind" 0 mf) (F__law_tail : DFn P w K mg base 2 "_law_tail" 1 c__law_tail) (M_words_0 : ∀ c mf, t_words_0 c = some mf → Mth P w K mg base 2 c "words" 0 mf) (f : Addr) (cdv : Value) (A : Around) (outer : List Env) (s : Shared) (H : Hp) (E : XK) (hr : Room 2 (A.deeper (envOfC "_law_told_right" (defScope st__law_told_right) s.heap.objs.size f cdv))) :
    DSs (cxOf (L2.CX P w) P w K mg base N__law_told_right "_law_told_right" (defScope st__law_told_right) f cdv A outer s H E) (defBody st__law_told_right) b__law_told_right := by
  have hN := sc__law_told_right.nd
  have hu := hr.units
  have hc : (cxOf (L2.CX P w) P w K mg base N__law_told_right "_law_told_right" (defScope st__law_told_right) f cdv A outer s H E).calm = true := rfl
  have po := passes_of (X := (cxOf (L2.CX P w) P w K mg base N__law_told_right "_law_told_right" (defScope st__law_told_right) f cdv A outer s H E)) rfl
  have hr1 := hr
  exact (dss_cons (ds_set (i := 2) hN rfl (by first | exact .inl rfl | exact .inr rfl) (do_lst (da_cons (dv_of (do_callB call_isiAll (r_isi ev.ct) rfl ev.f_isinstance (by decide +kernel) (da_cons (dv_var (pv 0)) (da_cons (dv_cls rfl ev.c_Line) da_nil)))) (da_cons (dv_of (do_callB call_isiAll (r_isi ev.ct) rfl ev.f_isinstance (by decide +kernel) (da_cons (dv_var (pv 0)) (da_cons (dv_cls rfl ev.c_Wagon) da_nil)))) (da_cons (dv_of (do_callB call_isiAll (r_isi ev.ct) rfl ev.f_isinstance (by decide +kernel) (da_cons (dv_var (pv 0)) (da_cons (dv_cls rfl ev.c_Trap) da_nil)))) da_nil))))) (dss_cons (ds_app (pv 2) (dv_of (do_callB call_isiAll (r_isi ev.ct) rfl ev.f_isinstance (by decide +kernel) (da_cons (dv_var (pv 0)) (da_cons (dv_cls rfl ev.c_Floor) da_nil)))) rfl (fun pa => pe_bm PySem.F.plainAttrs_list PySem.F.slot_list_append PySem.F.type_list_append mt_append (pv 2) pa)) (dss_frz 2 (dss_cons (ds_setLc (own := [("_law_word", 8)]) rfl hN rfl rfl rfl (di_seq (dv_tup (da_cons dv_str (da_cons dv_str (da_cons dv_str (da_cons dv_str da_nil)))))) (by show BlkOk N__law_told_right (defScope st__law_told_right) _ _; exact ⟨rfl, by decide +kernel, by decide +kernel, by decide +kernel, by decide +kernel⟩) (rg_name 8) (fun _ _ _ _ _ => (pg_name hN rfl (by first | exact .inl rfl | exact .inr rfl))) (fun _ _ _ _ _ => dts_nil) (fun _ _ _ _ _ => (dv_cmp (op_eqAll hu) (r_eq : RCmp _ _ cEq) (dv_of (do_sub hu (fun _ _ => rfl) (fun _ _ => rfl) (dv_var (pv 1)) dv_str)) (dv_var (pv 8)) (nomark _)))) (dss_frz 3 (dss_cons (ds_if (dt_w (dw_or (dt_not (dt_tru (dv_of (do_callB call_isiAll (r_isi ev.ct) rfl ev.f_isinstance (by decide +kernel) (da_cons (dv_var (pv 0)) (da_cons (dv_cls rfl ev.c_Machine) da_nil)))))) (dw_or1 (dt_cmp (op_neAll hu) (r_ne : RCmp _ _ cNe) (dv_var (pv 2)) (dv_var (pv 3)) (nomark _))))) (dss_cons (ds_ret (do_val dv_bl)) dss_nil) dss_nil) (dss_cons (ds_set (i := 4) hN rfl (by first | exact .inl rfl | exact .inr rfl) (do_val (dv_of (do_lst (da_cons (dv_fld (f := "name") (dv_var (pv 0)) ev.fl_name) (da_cons (dv_fld (f := "least") (dv_var (pv 0)) ev.fl_least) (da_cons (dv_fld (f := "greatest") (dv_var (pv 0)) ev.fl_greatest) (da_cons (dv_fld (f := "pace") (dv_var (pv 0)) ev.fl_pace) (da_cons (dv_fld (f := "gain") (dv_var (pv 0)) ev.fl_gain) (da_cons (dv_fld (f := "place") (dv_var (pv 0)) ev.fl_place) da_nil)))))))))) (dss_cons (ds_if (dt_cmp (op_neAll hu) (r_ne : RCmp _ _ cNe) (dv_var (pv 4)) (dv_of (do_lc (own := [("_law_word", 8)]) rfl hN (di_seq (dv_tup (da_cons dv_str (da_cons dv_str (da_cons dv_str (da_cons dv_str (da_cons dv_str (da_cons dv_str da_nil)))))))) (by show BlkOk N__law_told_right (defScope st__law_told_right) _ _; exact ⟨rfl, by decide +kernel, by decide +kernel, by decide +kernel, by decide +kernel⟩) (rg_name 8) (fun _ _ _ _ _ => (pg_name hN rfl (by first | exact .inl rfl | exact .inr rfl))) (fun _ _ _ _ _ => dts_nil) (fun _ _ _ _ _ => (dv_of (do_sub hu (fun _ _ => rfl) (fun _ _ => rfl) (dv_var (pv 1)) (dv_var (pv 8))))))) (nomark _)) (dss_cons (ds_ret (do_val dv_bl)) dss_nil) dss_nil) (dss_cons (ds_set (i := 5) hN rfl (by first | exact .inl rfl | exact .inr rfl) (do_val (dv_of (do_if (dt_cmp (op_eqAll hu) (r_eq : RCmp _ _ cEq) (dv_of (do_sub hu (fun _ _ => rfl) (fun _ _ => rfl) (dv_var (pv 1)) dv_str)) dv_str (nomark _)) (do_callB (call_maxA hc) r_maxA rfl ev.f_max (by decide +kernel) (da_cons (dv_of (do_lc (own := [("_law_shut", 9)]) rfl hN (di_seq (dv_of (do_sub hu (fun _ _ => rfl) (fun _ _ => rfl) (dv_var (pv 1)) dv_str))) (by show BlkOk N__law_told_right (defScope st__law_told_right) _ _; exact ⟨rfl, by decide +kernel, by decide +kernel, by decide +kernel, by decide +kernel⟩) (rg_name 9) (fun _ _ _ _ _ => (pg_name hN rfl (by first | exact .inl rfl | exact .inr rfl))) (fun _ _ _ _ _ => dts_nil) (fun _ _ _ _ _ => (dv_of (do_sub hu (fun _ _ => rfl) (fun _ _ => rfl) (dv_var (pv 9)) dv_int))))) da_nil)) (do_sub hu (fun _ _ => rfl) (fun _ _ => rfl) (dv_var (pv 1)) dv_str))))) (dss_cons (ds_set (i := 6) hN rfl (by first | exact .inl rfl | exact .inr rfl) (do_val (dv_of (do_if (dt_cmp (op_eqAll hu) (r_eq : RCmp _ _ cEq) (dv_of (do_sub hu (fun _ _ => rfl) (fun _ _ => rfl) (dv_var (pv 1)) dv_str)) dv_str (nomark _)) (do_callB (call_maxA hc) r_maxA rfl ev.f_max (by decide +kernel) (da_cons (dv_of (do_lc (own := [("_law_shut", 9)]) rfl hN (di_seq (dv_of (do_sub hu (fun _ _ => rfl) (fun _ _ => rfl) (dv_var (pv 1)) dv_str))) (by show BlkOk N__law_told_right (defScope st__law_told_right) _ _; exact ⟨rfl, by decide +kernel, by decide +kernel, by decide +kernel, by decide +kernel⟩) (rg_name 9) (fun _ _ _ _ _ => (pg_name hN rfl (by first | exact .inl rfl | exact .inr rfl))) (fun _ _ _ _ _ => dts_nil) (fun _ _ _ _ _ => (dv_of (do_sub hu (fun _ _ => rfl) (fun _ _ => rfl) (dv_var (pv 9)) dv_int))))) da_nil)) (do_val dv_int))))) (dss_cons (ds_if (dt_cmp (op_neAll hu) (r_ne : RCmp _ _ cNe) (dv_of (do_lst (da_cons (dv_of (do_meth0 (m := "kind") M_kind_0 hr (dv_var (pv 0)))) (da_cons (dv_of (do_meth0 (m := "lane") M_lane_0 hr (dv_var (pv 0)))) (da_cons (dv_of (do_meth0 (m := "wide") M_wide_0 hr (dv_var (pv 0)))) (da_cons (dv_of (do_meth0 (m := "offset") M_offset_0 hr (dv_var (pv 0)))) da_nil)))))) (dv_of (do_lst (da_cons (dv_of (do_sub hu (fun _ _ => rfl) (fun _ _ => rfl) (dv_var (pv 1)) dv_str)) (da_cons (dv_of (do_sub hu (fun _ _ => rfl) (fun _ _ => rfl) (dv_var (pv 1)) dv_str)) (da_cons (dv_var (pv 5)) (da_cons (dv_var (pv 6)) da_nil)))))) (nomark _)) (dss_cons (ds_ret (do_val dv_bl)) dss_nil) dss_nil) (dss_cons (ds_set (i := 7) hN rfl (by first | exact .inl rfl | exact .inr rfl) (do_val (dv_of (do_bin op_addAll r_add (dv_of (do_bin op_addAll r_add (dv_of (do_lst (da_cons (dv_of (do_sub hu (fun _ _ => rfl) (fun _ _ => rfl) (dv_var (pv 1)) dv_str)) (da_cons (dv_of (do_sub hu (fun _ _ => rfl) (fun _ _ => rfl) (dv_var (pv 1)) dv_str)) da_nil)))) (dv_of (do_lc (own := [("_law_one", 10)]) rfl hN (di_seq (dv_of (do_sl (dv_var (pv 4)) (dp_at dv_int) dp_no))) (by show BlkOk N__law_told_right (defScope st__law_told_right) _ _; exact ⟨rfl, by decide +kernel, by decide +kernel, by decide +kernel, by decide +kernel⟩) (rg_name 10) (fun _ _ _ _ _ => (pg_name hN rfl (by first | exact .inl rfl | exact .inr rfl))) (fun _ _ _ _ _ => dts_nil) (fun _ _ _ _ _ => (dv_of (do_callTy call_strP r_str rfl ev.f_str (by decide +kernel) (da_cons (dv_var (pv 10)) da_nil)))))))) (dv_of (do_lc (own := [("_law_one", 10)]) rfl hN (di_seq (dv_of (do_call F__law_tail hr rfl (da_cons (dv_var (pv 1)) da_nil)))) (by show BlkOk N__law_told_right (defScope st__law_told_right) _ _; exact ⟨rfl, by decide +kernel, by decide +kernel, by decide +kernel, by decide +kernel⟩) (rg_name 10) (fun _ _ _ _ _ => (pg_name hN rfl (by first | exact .inl rfl | exact .inr rfl))) (fun _ _ _ _ _ => dts_nil) (fun _ _ _ _ _ => (dv_of (do_callTy call_strP r_str rfl ev.f_str (by decide +kernel) (da_cons (dv_var (pv 10)) da_nil)))))))))) (dss_cons (ds_ret (do_val (dv_cmp (op_eqAll hu) (r_eq : RCmp _ _ cEq) (dv_of (do_meth0 (m := "words") M_words_0 hr (dv_var (pv 0)))) (dv_of (do_tm PySem.F.slot_str_join PySem.F.type_str_join mt_join r_join dv_str (dv_var (pv 7)))) (nomark _)))) dss_nil)))))))))))))
theorem G__law_told_right {f : Addr} {fd : FuncData} (ev : Ev K mg) (M_offset_0 : ∀ c mf, t_offset_0 c = some mf → Mth P w K mg base 2 c "offset" 0 mf) (M_wide_0 : ∀ c mf, t_wide_0 c = some mf → Mth P w K mg base 2 c "wide" 0 mf) (M_lane_0 : ∀ c mf, t_lane_0 c = some mf → Mth P w K mg base 2 c "lane" 0 mf) (M_kind_0 : ∀ c mf, t_kind_0 c = some mf → Mth P w K mg base 2 c "kind" 0 mf) (F__law_tail : DFn P w K mg base 2 "_law_tail" 1 c__law_tail) (M_words_0 : ∀ c mf, t_words_0 c = some mf → Mth P w K mg base 2 c "words" 0 mf) (F : FunD K "_law_told_right" "_law_told_right" (defArgs st__law_told_right) (defBody st__law_told_right) (defScope st__law_told_right) [] [] f fd) : FnOk P w K mg base (L2.CX P w) 3 f fd ["_law_machine_here", "_law_own"] (spD K 2 m__law_told_right) ∧ Binds K fd ["_law_machine_here", "_law_own"] [] :=
  ⟨fn_def F sc__law_told_right (fun cdv A outer s H E hr => d__law_told_right ev M_offset_0 M_wide_0 M_lane_0 M_kind_0 F__law_tail M_words_0 f cdv A outer s H E hr), F.bindsN fun _ _ _ _ _ _ us hl => match us, hl with | [_, _], _ => rfl⟩
/-! Machine.need_within -/
abbrev st_Machine_need_within : Stmt := inCls (top 29) 6
def N_Machine_need_within : List Str := ["self", "place"]
theorem sc_Machine_need_within : FnScope N_Machine_need_within ["self", "place"] (defScope st_Machine_need_within) := ⟨rfl, rfl, rfl, by decide +kernel, rfl, by decide +kernel, by decide +kernel⟩
noncomputable def b_Machine_need_within : MS := (sSeq (sExpr (mMap Slot.d (mFn c_need_whole (aCons (eVar 1) (aCons (mFld cs_least "least" (eVar 0)) (aCons (mFld cs_greatest "greatest" (eVar 0)) aNil)))))) sNext)
noncomputable def m_Machine_need_within : MF := mDef N_Machine_need_within b_Machine_need_within
noncomputable def c_Machine_need_within : MF := m_Machine_need_within
theorem d_Machine_need_within (ev : Ev K mg) (F_need_whole : DFn P w K mg base 2 "need_whole" 3 c_need_whole) (f : Addr) (cdv : Value) (A : Around) (outer : List Env) (s : Shared) (H : Hp) (E : XK) (hr : Room 2 (A.deeper (envOfC "Machine.need_within" (defScope st_Machine_need_within) s.heap.objs.size f cdv))) :
    DSs (cxOf (L2.CX P w) P w K mg base N_Machine_need_within "Machine.need_within" (defScope st_Machine_need_within) f cdv A outer s H E) (defBody st_Machine_need_within) b_Machine_need_within := by
  have hN := sc_Machine_need_within.nd
  have hu := hr.units
  have hc : (cxOf (L2.CX P w) P w K mg base N_Machine_need_within "Machine.need_within" (defScope st_Machine_need_within) f cdv A outer s H E).calm = true := rfl
  have po := passes_of (X := (cxOf (L2.CX P w) P w K mg base N_Machine_need_within "Machine.need_within" (defScope st_Machine_need_within) f cdv A outer s H E)) rfl
  have hr1 := hr
  exact (dss_cons (ds_expr (dv_of (do_call F_need_whole hr rfl (da_cons (dv_var (pv 1)) (da_cons (dv_fld (f := "least") (dv_var (pv 0)) ev.fl_least) (da_cons (dv_fld (f := "greatest") (dv_var (pv 0)) ev.fl_greatest) da_nil)))))) dss_nil)
theorem G_Machine_need_within {f : Addr} {fd : FuncData} (ev : Ev K mg) (F_need_whole : DFn P w K mg base 2 "need_whole" 3 c_need_whole) (F : FunD K "need_within" "Machine.need_within" (defArgs st_Machine_need_within) (defBody st_Machine_need_within) (defScope st_Machine_need_within) [] [] f fd) : FnOk P w K mg base (L2.CX P w) 3 f fd ["self", "place"] (spD K 2 m_Machine_need_within) ∧ Binds K fd ["self", "place"] [] :=
  ⟨fn_def F sc_Machine_need_within (fun cdv A outer s H E hr => d_Machine_need_within ev F_need_whole f cdv A outer s H E hr), F.bindsN fun _ _ _ _ _ _ us hl => match us, hl with | [_, _], _ => rfl⟩
/-! Machine.swept -/
abbrev st_Machine_swept : Stmt := inCls (top 29) 5
def N_Machine_swept : List Str := ["self", "low", "high"]
theorem sc_Machine_swept : FnScope N_Machine_swept ["self", "low", "high"] (defScope st_Machine_swept) := ⟨rfl, rfl, rfl, by decide +kernel, rfl, by decide +kernel, by decide +kernel⟩
noncomputable def b_Machine_swept : MS := (sSeq (sRet (oLst aNil)) sNext)
noncomputable def m_Machine_swept : MF := mDef N_Machine_swept b_Machine_swept
noncomputable def c_Machine_swept : MF := m_Machine_swept
theorem d_Machine_swept (ev : Ev K mg) (f : Addr) (cdv : Value) (A : Around) (outer : List Env) (s : Shared) (H : Hp) (E : XK) (hr : Room 0 (A.deeper (envOfC "Machine.swept" (defScope st_Machine_swept) s.heap.objs.size f cdv))) :
    DSs (cxOf (L2.CX P w) P w K mg base N_Machine_swept "Machine.swept" (defScope st_Machine_swept) f cdv A outer s H E) (defBody st_Machine_swept) b_Machine_swept := by
  have hN := sc_Machine_swept.nd
  have hu := hr.units
  have hc : (cxOf (L2.CX P w) P w K mg base N_Machine_swept "Machine.swept" (defScope st_Machine_swept) f cdv A outer s H E).calm = true := rfl
  have po := passes_of (X := (cxOf (L2.CX P w) P w K mg base N_Machine_swept "Machine.swept" (defScope st_Machine_swept) f cdv A outer s H E)) rfl
  have hr1 := hr
  exact (dss_cons (ds_ret (do_lst da_nil)) dss_nil)
theorem G_Machine_swept {f : Addr} {fd : FuncData} (ev : Ev K mg) (F : FunD K "swept" "Machine.swept" (defArgs st_Machine_swept) (defBody st_Machine_swept) (defScope st_Machine_swept) [] [] f fd) : FnOk P w K mg base (L2.CX P w) 1 f fd ["self", "low", "high"] (spD K 3 m_Machine_swept) ∧ Binds K fd ["self", "low", "high"] [] :=
  ⟨fn_def F sc_Machine_swept (fun cdv A outer s H E hr => d_Machine_swept ev f cdv A outer s H E hr), F.bindsN fun _ _ _ _ _ _ us hl => match us, hl with | [_, _, _], _ => rfl⟩
/-! Line.swept -/
abbrev st_Line_swept : Stmt := inCls (top 30) 2
def N_Line_swept : List Str := ["self", "low", "high"]
theorem sc_Line_swept : FnScope N_Line_swept ["self", "low", "high"] (defScope st_Line_swept) := ⟨rfl, rfl, rfl, by decide +kernel, rfl, by decide +kernel, by decide +kernel⟩
noncomputable def b_Line_swept : MS := (sSeq (sRet (oLst (aCons (mMap D.tup (aCons (mFld cs_rail "rail" (eVar 0)) (aCons (mFld cs_spot "spot" (eVar 0)) (aCons (mFld cs_long "long" (eVar 0)) (aCons (eVar 1) (aCons (mMap Slot.d (mBin opSub (mMap Slot.d (mBin opAdd (mFld cs_high "high" (eVar 0)) (eVar 2))) (eVar 1))) aNil)))))) aNil))) sNext)
noncomputable def m_Line_swept : MF := mDef N_Line_swept b_Line_swept
noncomputable def c_Line_swept : MF := m_Line_swept
theorem d_Line_swept (ev : Ev K mg) (f : Addr) (cdv : Value) (A : Around) (outer : List Env) (s : Shared) (H : Hp) (E : XK) (hr : Room 0 (A.deeper (envOfC "Line.swept" (defScope st_Line_swept) s.heap.objs.size f cdv))) :
    DSs (cxOf (L2.CX P w) P w K mg base N_Line_swept "Line.swept" (defScope st_Line_swept) f cdv A outer s H E) (defBody st_Line_swept) b_Line_swept := by
  have hN := sc_Line_swept.nd
  have hu := hr.units
  have hc : (cxOf (L2.CX P w) P w K mg base N_Line_swept "Line.swept" (defScope st_Line_swept) f cdv A outer s H E).calm = true := rfl
  have po := passes_of (X := (cxOf (L2.CX P w) P w K mg base N_Line_swept "Line.swept" (defScope st_Line_swept) f cdv A outer s H E)) rfl
  have hr1 := hr
  exact (dss_cons (ds_ret (do_lst (da_cons (dv_tup (da_cons (dv_fld (f := "rail") (dv_var (pv 0)) ev.fl_rail) (da_cons (dv_fld (f := "spot") (dv_var (pv 0)) ev.fl_spot) (da_cons (dv_fld (f := "long") (dv_var (pv 0)) ev.fl_long) (da_cons (dv_var (pv 1)) (da_cons (dv_of (do_bin op_sub r_sub (dv_of (do_bin op_addAll r_add (dv_fld (f := "high") (dv_var (pv 0)) ev.fl_high) (dv_var (pv 2)))) (dv_var (pv 1)))) da_nil)))))) da_nil))) dss_nil)
theorem G_Line_swept {f : Addr} {fd : FuncData} (ev : Ev K mg) (F : FunD K "swept" "Line.swept" (defArgs st_Line_swept) (defBody st_Line_swept) (defScope st_Line_swept) [] [] f fd) : FnOk P w K mg base (L2.CX P w) 1 f fd ["self", "low", "high"] (spD K 3 m_Line_swept) ∧ Binds K fd ["self", "low", "high"] [] :=
  ⟨fn_def F sc_Line_swept (fun cdv A outer s H E hr => d_Line_swept ev f cdv A outer s H E hr), F.bindsN fun _ _ _ _ _ _ us hl => match us, hl with | [_, _, _], _ => rfl⟩
/-! Wagon.swept -/
abbrev st_Wagon_swept : Stmt := inCls (top 31) 2
def N_Wagon_swept : List Str := ["self", "low", "high"]
theorem sc_Wagon_swept : FnScope N_Wagon_swept ["self", "low", "high"] (defScope st_Wagon_swept) := ⟨rfl, rfl, rfl, by decide +kernel, rfl, by decide +kernel, by decide +kernel⟩
noncomputable def b_Wagon_swept : MS := (sSeq (sRet (oLst (aCons (mMap D.tup (aCons (mFld cs_rail "rail" (eVar 0)) (aCons (eVar 1) (aCons (mMap Slot.d (mBin opSub (mMap Slot.d (mBin opAdd (mFld cs_long "long" (eVar 0)) (eVar 2))) (eVar 1))) (aCons (eC (.int (0))) (aCons (mFld cs_high "high" (eVar 0)) aNil)))))) aNil))) sNext)
noncomputable def m_Wagon_swept : MF := mDef N_Wagon_swept b_Wagon_swept
noncomputable def c_Wagon_swept : MF := m_Wagon_swept
theorem d_Wagon_swept (ev : Ev K mg) (f : Addr) (cdv : Value) (A : Around) (outer : List Env) (s : Shared) (H : Hp) (E : XK) (hr : Room 0 (A.deeper (envOfC "Wagon.swept" (defScope st_Wagon_swept) s.heap.objs.size f cdv))) :
    DSs (cxOf (L2.CX P w) P w K mg base N_Wagon_swept "Wagon.swept" (defScope st_Wagon_swept) f cdv A outer s H E) (defBody st_Wagon_swept) b_Wagon_swept := by
  have hN := sc_Wagon_swept.nd
  have hu := hr.units
  have hc : (cxOf (L2.CX P w) P w K mg base N_Wagon_swept "Wagon.swept" (defScope st_Wagon_swept) f cdv A outer s H E).calm = true := rfl
  have po := passes_of (X := (cxOf (L2.CX P w) P w K mg base N_Wagon_swept "Wagon.swept" (defScope st_Wagon_swept) f cdv A outer s H E)) rfl
  have hr1 := hr
  exact (dss_cons (ds_ret (do_lst (da_cons (dv_tup (da_cons (dv_fld (f := "rail") (dv_var (pv 0)) ev.fl_rail) (da_cons (dv_var (pv 1)) (da_cons (dv_of (do_bin op_sub r_sub (dv_of (do_bin op_addAll r_add (dv_fld (f := "long") (dv_var (pv 0)) ev.fl_long) (dv_var (pv 2)))) (dv_var (pv 1)))) (da_cons dv_int (da_cons (dv_fld (f := "high") (dv_var (pv 0)) ev.fl_high) da_nil)))))) da_nil))) dss_nil)
theorem G_Wagon_swept {f : Addr} {fd : FuncData} (ev : Ev K mg) (F : FunD K "swept" "Wagon.swept" (defArgs st_Wagon_swept) (defBody st_Wagon_swept) (defScope st_Wagon_swept) [] [] f fd) : FnOk P w K mg base (L2.CX P w) 1 f fd ["self", "low", "high"] (spD K 3 m_Wagon_swept) ∧ Binds K fd ["self", "low", "high"] [] :=
  ⟨fn_def F sc_Wagon_swept (fun cdv A outer s H E hr => d_Wagon_swept ev f cdv A outer s H E hr), F.bindsN fun _ _ _ _ _ _ us hl => match us, hl with | [_, _, _], _ => rfl⟩
/-! Floor.swept -/
abbrev st_Floor_swept : Stmt := inCls (top 32) 3
def N_Floor_swept : List Str := ["self", "low", "high", "offset", "wide", "tall"]
theorem sc_Floor_swept : FnScope N_Floor_swept ["self", "low", "high"] (defScope st_Floor_swept) := ⟨rfl, rfl, rfl, by decide +kernel, rfl, by decide +kernel, by decide +kernel⟩
noncomputable def b_Floor_swept : MS := (sSeq (sRet (mLc (mSeq (mFld cs_walls "walls" (eVar 0))) (gT [3, 4, 5]) [3, 4, 5] (eC true) (mMap D.tup (aCons (mFld cs_rail "rail" (eVar 0)) (aCons (mMap Slot.d (mBin opAdd (eVar 3) (eVar 1))) (aCons (mMap Slot.d (mBin opSub (mMap Slot.d (mBin opAdd (eVar 4) (eVar 2))) (eVar 1))) (aCons (eC (.int (0))) (aCons (eVar 5) aNil)))))))) sNext)
noncomputable def m_Floor_swept : MF := mDef N_Floor_swept b_Floor_swept
noncomputable def c_Floor_swept : MF := m_Floor_swept
theorem d_Floor_swept (ev : Ev K mg) (f : Addr) (cdv : Value) (A : Around) (outer : List Env) (s : Shared) (H : Hp) (E : XK) (hr : Room 0 (A.deeper (envOfC "Floor.swept" (defScope st_Floor_swept) s.heap.objs.size f cdv))) :
    DSs (cxOf (L2.CX P w) P w K mg base N_Floor_swept "Floor.swept" (defScope st_Floor_swept) f cdv A outer s H E) (defBody st_Floor_swept) b_Floor_swept := by
  have hN := sc_Floor_swept.nd
  have hu := hr.units
  have hc : (cxOf (L2.CX P w) P w K mg base N_Floor_swept "Floor.swept" (defScope st_Floor_swept) f cdv A outer s H E).calm = true := rfl
  have po := passes_of (X := (cxOf (L2.CX P w) P w K mg base N_Floor_swept "Floor.swept" (defScope st_Floor_swept) f cdv A outer s H E)) rfl
  have hr1 := hr
  exact (dss_cons (ds_ret (do_lc (own := [("offset", 3), ("wide", 4), ("tall", 5)]) rfl hN (di_seq (dv_fld (f := "walls") (dv_var (pv 0)) ev.fl_walls)) (by show BlkOk N_Floor_swept (defScope st_Floor_swept) _ _; exact ⟨rfl, by decide +kernel, by decide +kernel, by decide +kernel, by decide +kernel⟩) (rg_tup [3, 4, 5]) (fun _ _ _ _ _ => (pg_tup rfl (pgs_cons (pg_name hN rfl (by first | exact .inl rfl | exact .inr rfl)) (pgs_cons (pg_name hN rfl (by first | exact .inl rfl | exact .inr rfl)) (pgs_cons (pg_name hN rfl (by first | exact .inl rfl | exact .inr rfl)) pgs_nil))))) (fun _ _ _ _ _ => dts_nil) (fun _ _ _ _ _ => (dv_tup (da_cons (dv_fld (f := "rail") (dv_var (pv 0)) ev.fl_rail) (da_cons (dv_of (do_bin op_addAll r_add (dv_var (pv 3)) (dv_var (pv 1)))) (da_cons (dv_of (do_bin op_sub r_sub (dv_of (do_bin op_addAll r_add (dv_var (pv 4)) (dv_var (pv 2)))) (dv_var (pv 1)))) (da_cons dv_int (da_cons (dv_var (pv 5)) da_nil))))))))) dss_nil)
theorem G_Floor_swept {f : Addr} {fd : FuncData} (ev : Ev K mg) (F : FunD K "swept" "Floor.swept" (defArgs st_Floor_swept) (defBody st_Floor_swept) (defScope st_Floor_swept) [] [] f fd) : FnOk P w K mg base (L2.CX P w) 1 f fd ["self", "low", "high"] (spD K 3 m_Floor_swept) ∧ Binds K fd ["self", "low", "high"] [] :=
  ⟨fn_def F sc_Floor_swept (fun cdv A outer s H E hr => d_Floor_swept ev f cdv A outer s H E hr), F.bindsN fun _ _ _ _ _ _ us hl => match us, hl with | [_, _, _], _ => rfl⟩
/-! Trap.swept -/
abbrev st_Trap_swept : Stmt := inCls (top 33) 2
def N_Trap_swept : List Str := ["self", "low", "high"]
theorem sc_Trap_swept : FnScope N_Trap_swept ["self", "low", "high"] (defScope st_Trap_swept) := ⟨rfl, rfl, rfl, by decide +kernel, rfl, by decide +kernel, by decide +kernel⟩
noncomputable def b_Trap_swept : MS := (sSeq (sRet (mIf (mCmp cLt (eVar 1) (eC (.int (0)))) (oLst (aCons (mMap D.tup (aCons (mFld cs_rail "rail" (eVar 0)) (aCons (mFld cs_spot "spot" (eVar 0)) (aCons (mFld cs_long "long" (eVar 0)) (aCons (eC (.int (0))) (aCons (eC (.int (1))) aNil)))))) aNil)) (oLst aNil))) sNext)
noncomputable def m_Trap_swept : MF := mDef N_Trap_swept b_Trap_swept
noncomputable def c_Trap_swept : MF := m_Trap_swept
theorem d_Trap_swept (ev : Ev K mg) (f : Addr) (cdv : Value) (A : Around) (outer : List Env) (s : Shared) (H : Hp) (E : XK) (hr : Room 0 (A.deeper (envOfC "Trap.swept" (defScope st_Trap_swept) s.heap.objs.size f cdv))) :
    DSs (cxOf (L2.CX P w) P w K mg base N_Trap_swept "Trap.swept" (defScope st_Trap_swept) f cdv A outer s H E) (defBody st_Trap_swept) b_Trap_swept := by
  have hN := sc_Trap_swept.nd
  have hu := hr.units
  have hc : (cxOf (L2.CX P w) P w K mg base N_Trap_swept "Trap.swept" (defScope st_Trap_swept) f cdv A outer s H E).calm = true := rfl
  have po := passes_of (X := (cxOf (L2.CX P w) P w K mg base N_Trap_swept "Trap.swept" (defScope st_Trap_swept) f cdv A outer s H E)) rfl
  have hr1 := hr
  exact (dss_cons (ds_ret (do_if (dt_cmp op_lt (r_cI : RCmp _ _ cLt) (dv_var (pv 1)) dv_int (nomark _)) (do_lst (da_cons (dv_tup (da_cons (dv_fld (f := "rail") (dv_var (pv 0)) ev.fl_rail) (da_cons (dv_fld (f := "spot") (dv_var (pv 0)) ev.fl_spot) (da_cons (dv_fld (f := "long") (dv_var (pv 0)) ev.fl_long) (da_cons dv_int (da_cons dv_int da_nil)))))) da_nil)) (do_lst da_nil))) dss_nil)
theorem G_Trap_swept {f : Addr} {fd : FuncData} (ev : Ev K mg) (F : FunD K "swept" "Trap.swept" (defArgs st_Trap_swept) (defBody st_Trap_swept) (defScope st_Trap_swept) [] [] f fd) : FnOk P w K mg base (L2.CX P w) 1 f fd ["self", "low", "high"] (spD K 3 m_Trap_swept) ∧ Binds K fd ["self", "low", "high"] [] :=
  ⟨fn_def F sc_Trap_swept (fun cdv A outer s H E hr => d_Trap_swept ev f cdv A outer s H E hr), F.bindsN fun _ _ _ _ _ _ us hl => match us, hl with | [_, _, _], _ => rfl⟩
noncomputable def t_need_within_1 : String → Option MF := fun c => match c with | "Machine" => some c_Machine_need_within | "Line" => some c_Machine_need_within | "Wagon" => some c_Machine_need_within | "Floor" => some c_Machine_need_within | "Trap" => some c_Machine_need_within | _ => none
noncomputable def t_swept_2 : String → Option MF := fun c => match c with | "Machine" => some c_Machine_swept | "Line" => some c_Line_swept | "Wagon" => some c_Wagon_swept | "Floor" => some c_Floor_swept | "Trap" => some c_Trap_swept | _ => none
/-! Machine.boxes -/
abbrev st_Machine_boxes : Stmt := inCls (top 29) 7
def N_Machine_boxes : List Str := ["self", "place"]
theorem sc_Machine_boxes : FnScope N_Machine_boxes ["self", "place"] (defScope st_Machine_boxes) := ⟨rfl, rfl, rfl, by decide +kernel, rfl, by decide +kernel, by decide +kernel⟩
noncomputable def b_Machine_boxes_0 : MS := (sExpr (mMap Slot.d (mMeth "need_within" t_need_within_1 (eVar 0) (aCons (eVar 1) aNil))))
noncomputable def b_Machine_boxes_1 : MS := (sRet (mMeth "swept" t_swept_2 (eVar 0) (aCons (eVar 1) (aCons (eVar 1) aNil))))
noncomputable def b_Machine_boxes : MS := (sSeq b_Machine_boxes_0 (sSeq b_Machine_boxes_1 sNext))
noncomputable def m_Machine_boxes : MF := mDef N_Machine_boxes b_Machine_boxes
noncomputable def c_Machine_boxes : MF := m_Machine_boxes
theorem d_Machine_boxes (ev : Ev K mg) (M_need_within_1 : ∀ c mf, t_need_within_1 c = some mf → Mth P w K mg base 3 c "need_within" 1 mf) (M_swept_2 : ∀ c mf, t_swept_2 c = some mf → Mth P w K mg base 3 c "swept" 2 mf) (f : Addr) (cdv : Value) (A : Around) (outer : List Env) (s : Shared) (H : Hp) (E : XK) (hr : Room 3 (A.deeper (envOfC "Machine.boxes" (defScope st_Machine_boxes) s.heap.objs.size f cdv))) :
    DSs (cxOf (L2.CX P w) P w K mg base N_Machine_boxes "Machine.boxes" (defScope st_Machine_boxes) f cdv A outer s H E) (defBody st_Machine_boxes) b_Machine_boxes := by
  have hN := sc_Machine_boxes.nd
  have hu := hr.units
  have hc : (cxOf (L2.CX P w) P w K mg base N_Machine_boxes "Machine.boxes" (defScope st_Machine_boxes) f cdv A outer s H E).calm = true := rfl
  have po := passes_of (X := (cxOf (L2.CX P w) P w K mg base N_Machine_boxes "Machine.boxes" (defScope st_Machine_boxes) f cdv A outer s H E)) rfl
  have hr1 := hr
  exact (dss_cons (ds_expr (dv_of (do_meth (m := "need_within") M_need_within_1 hr (dv_var (pv 0)) (da_cons (dv_var (pv 1)) da_nil)))) (dss_cons (ds_ret (do_meth (m := "swept") M_swept_2 hr (dv_var (pv 0)) (da_cons (dv_var (pv 1)) (da_cons (dv_var (pv 1)) da_nil)))) dss_nil))
theorem G_Machine_boxes {f : Addr} {fd : FuncData} (ev : Ev K mg) (M_need_within_1 : ∀ c mf, t_need_within_1 c = some mf → Mth P w K mg base 3 c "need_within" 1 mf) (M_swept_2 : ∀ c mf, t_swept_2 c = some mf → Mth P w K mg base 3 c "swept" 2 mf) (F : FunD K "boxes" "Machine.boxes" (defArgs st_Machine_boxes) (defBody st_Machine_boxes) (defScope st_Machine_boxes) [] [] f fd) : FnOk P w K mg base (L2.CX P w) 4 f fd ["self", "place"] (spD K 2 m_Machine_boxes) ∧ Binds K fd ["self", "place"] [] :=
  ⟨fn_def F sc_Machine_boxes (fun cdv A outer s H E hr => d_Machine_boxes ev M_need_within_1 M_swept_2 f cdv A outer s H E hr), F.bindsN fun _ _ _ _ _ _ us hl => match us, hl with | [_, _], _ => rfl⟩
/-! Machine.taken -/
abbrev st_Machine_taken : Stmt := inCls (top 29) 8
def N_Machine_taken : List Str := ["self", "ahead", "place"]
theorem sc_Machine_taken : FnScope N_Machine_taken ["self", "ahead", "place"] (defScope st_Machine_taken) := ⟨rfl, rfl, rfl, by decide +kernel, rfl, by decide +kernel, by decide +kernel⟩
noncomputable def b_Machine_taken_0 : MS := (sExpr (mMap Slot.d (mMeth "need_within" t_need_within_1 (eVar 0) (aCons (eVar 1) aNil))))
noncomputable def b_Machine_taken_1 : MS := (sExpr (mMap Slot.d (mMeth "need_within" t_need_within_1 (eVar 0) (aCons (eVar 2) aNil))))
noncomputable def b_Machine_taken_2 : MS := (sRet (mMeth "swept" t_swept_2 (eVar 0) (aCons (mMap Slot.d (mCall fMinA (aCons (eVar 1) (aCons (eVar 2) aNil)))) (aCons (mMap Slot.d (mCall fMaxA (aCons (eVar 1) (aCons (eVar 2) aNil)))) aNil))))
noncomputable def b_Machine_taken : MS := (sSeq b_Machine_taken_0 (sSeq b_Machine_taken_1 (sSeq b_Machine_taken_2 sNext)))
noncomputable def m_Machine_taken : MF := mDef N_Machine_taken b_Machine_taken
noncomputable def c_Machine_taken : MF := m_Machine_taken
theorem d_Machine_taken (ev : Ev K mg) (M_need_within_1 : ∀ c mf, t_need_within_1 c = some mf → Mth P w K mg base 3 c "need_within" 1 mf) (M_swept_2 : ∀ c mf, t_swept_2 c = some mf → Mth P w K mg base 3 c "swept" 2 mf) (f : Addr) (cdv : Value) (A : Around) (outer : List Env) (s : Shared) (H : Hp) (E : XK) (hr : Room 3 (A.deeper (envOfC "Machine.taken" (defScope st_Machine_taken) s.heap.objs.size f cdv))) :
    DSs (cxOf (L2.CX P w) P w K mg base N_Machine_taken "Machine.taken" (defScope st_Machine_taken) f cdv A outer s H E) (defBody st_Machine_taken) b_Machine_taken := by
  have hN := sc_Machine_taken.nd
  have hu := hr.units
  have hc : (cxOf (L2.CX P w) P w K mg base N_Machine_taken "Machine.taken" (defScope st_Machine_taken) f cdv A outer s H E).calm = true := rfl
  have po := passes_of (X := (cxOf (L2.CX P w) P w K mg base N_Machine_taken "Machine.taken" (defScope st_Machine_taken) f cdv A outer s H E)) rfl
  have hr1 := hr
  exact (dss_cons (ds_expr (dv_of (do_meth (m := "need_within") M_need_within_1 hr (dv_var (pv 0)) (da_cons (dv_var (pv 1)) da_nil)))) (dss_cons (ds_expr (dv_of (do_meth (m := "need_within") M_need_within_1 hr (dv_var (pv 0)) (da_cons (dv_var (pv 2)) da_nil)))) (dss_cons (ds_ret (do_meth (m := "swept") M_swept_2 hr (dv_var (pv 0)) (da_cons (dv_of (do_callB (call_minA hc) r_minA rfl ev.f_min (by decide +kernel) (da_cons (dv_var (pv 1)) (da_cons (dv_var (pv 2)) da_nil)))) (da_cons (dv_of (do_callB (call_maxA hc) r_maxA rfl ev.f_max (by decide +kernel) (da_cons (dv_var (pv 1)) (da_cons (dv_var (pv 2)) da_nil)))) da_nil)))) dss_nil)))
theorem G_Machine_taken {f : Addr} {fd : FuncData} (ev : Ev K mg) (M_need_within_1 : ∀ c mf, t_need_within_1 c = some mf → Mth P w K mg base 3 c "need_within" 1 mf) (M_swept_2 : ∀ c mf, t_swept_2 c = some mf → Mth P w K mg base 3 c "swept" 2 mf) (F : FunD K "taken" "Machine.taken" (defArgs st_Machine_taken) (defBody st_Machine_taken) (defScope st_Machine_taken) [] [] f fd) : FnOk P w K mg base (L2.CX P w) 4 f fd ["self", "ahead", "place"] (spD K 3 m_Machine_taken) ∧ Binds K fd ["self", "ahead", "place"] [] :=
  ⟨fn_def F sc_Machine_taken (fun cdv A outer s H E hr => d_Machine_taken ev M_need_within_1 M_swept_2 f cdv A outer s H E hr), F.bindsN fun _ _ _ _ _ _ us hl => match us, hl with | [_, _, _], _ => rfl⟩
noncomputable def t_boxes_1 : String → Option MF := fun c => match c with | "Machine" => some c_Machine_boxes | "Line" => some c_Machine_boxes | "Wagon" => some c_Machine_boxes | "Floor" => some c_Machine_boxes | "Trap" => some c_Machine_boxes | _ => none
noncomputable def t_taken_2 : String → Option MF := fun c => match c with | "Machine" => some c_Machine_taken | "Line" => some c_Machine_taken | "Wagon" => some c_Machine_taken | "Floor" => some c_Machine_taken | "Trap" => some c_Machine_taken | _ => none
/-! _law_place_refused -/
abbrev st__law_place_refused : Stmt := top 44
def N__law_place_refused : List Str := ["_law_machine_here", "_law_place", "_law_good", "_law_words", "_law_kind", "_law_caught", "e"]
theorem sc__law_place_refused : FnScope N__law_place_refused ["_law_machine_here", "_law_place", "_law_good"] (defScope st__law_place_refused) := ⟨rfl, rfl, rfl, by decide +kernel, rfl, by decide +kernel, by decide +kernel⟩
noncomputable def b__law_place_refused_0 : MS := (sSet 3 (oLst aNil))
noncomputable def b__law_place_refused_L1 : MS := (sSeq (sIf (mCmp cEq (eVar 4) (eC (.int (0)))) (sSeq (sExpr (mMap Slot.d (mMeth "boxes" t_boxes_1 (eVar 0) (aCons (eVar 1) aNil)))) sNext) (sSeq (sIf (mCmp cEq (eVar 4) (eC (.int (1)))) (sSeq (sExpr (mMap Slot.d (mMeth "taken" t_taken_2 (eVar 0) (aCons (eVar 1) (aCons (eVar 2) aNil))))) sNext) (sSeq (sExpr (mMap Slot.d (mMeth "taken" t_taken_2 (eVar 0) (aCons (eVar 2) (aCons (eVar 1) aNil))))) sNext)) sNext)) sNext)
noncomputable def b__law_place_refused_L2 : MS := (sSeq (sSet 5 (mMap Slot.val (eC .non))) (sSeq (sTryAs T "StageError" 6 5 b__law_place_refused_L1) (sSeq (sApp 3 (mMap Slot.d (mFn c__law_classes (aCons (eVar 5) aNil)))) sNext)))
noncomputable def b__law_place_refused_1 : MS := (sFor (mRange (aCons (eC (.int (3))) aNil)) (gN 4) b__law_place_refused_L2)
noncomputable def b__law_place_refused_2 : MS := (sRet (mMap Slot.val (mMap D.bl (mCmp cEq (eVar 3) (mMap Slot.d (mRep (oLst (aCons (eC (.str (Str.ofString "number "))) aNil)) (eC (.int (3)))))))))
noncomputable def b__law_place_refused : MS := (sSeq b__law_place_refused_0 (sSeq b__law_place_refused_1 (sFrz 3 (sSeq b__law_place_refused_2 sNext))))
noncomputable def m__law_place_refused : MF := mDef N__law_place_refused b__law_place_refused
noncomputable def c__law_place_refused : MF := m__law_place_refused
theorem d__law_place_refused (ev : Ev K mg) (M_boxes_1 : ∀ c mf, t_boxes_1 c = some mf → Mth P w K mg base 4 c "boxes" 1 mf) (M_taken_2 : ∀ c mf, t_taken_2 c = some mf → Mth P w K mg base 4 c "taken" 2 mf) (F__law_classes : DFn P w K mg base 4 "_law_classes" 1 c__law_classes) (f : Addr) (cdv : Value) (A : Around) (outer : List Env) (s : Shared) (H : Hp) (E : XK) (hr : Room 4 (A.deeper (envOfC "_law_place_refused" (defScope st__law_place_refused) s.heap.objs.size f cdv))) :
    DSs (cxOf (L2.CX P w) P w K mg base N__law_place_refused "_law_place_refused" (defScope st__law_place_refused) f cdv A outer s H E) (defBody st__law_place_refused) b__law_place_refused := by
  have hN := sc__law_place_refused.nd
  have hu := hr.units
  have hc : (cxOf (L2.CX P w) P w K mg base N__law_place_refused "_law_place_refused" (defScope st__law_place_refused) f cdv A outer s H E).calm = true := rfl
  have po := passes_of (X := (cxOf (L2.CX P w) P w K mg base N__law_place_refused "_law_place_refused" (defScope st__law_place_refused) f cdv A outer s H E)) rfl
  have hr1 := hr
  exact (dss_cons (ds_set (i := 3) hN rfl (by first | exact .inl rfl | exact .inr rfl) (do_lst da_nil)) (dss_cons (ds_for po rfl (di_range1 rfl ev.f_range (da_cons dv_int da_nil)) (pg_name hN rfl (by first | exact .inl rfl | exact .inr rfl)) (RG.rel (rg_name 4)) (dss_cons (ds_set (i := 5) hN rfl (by first | exact .inl rfl | exact .inr rfl) (do_val dv_non)) (dss_cons (ds_try_as (i := 6) (j := 5) ev.xm rfl rfl rfl hN rfl rfl rfl rfl (by decide) ⟨rfl, by decide, .inl ev.c_StageError⟩ (fun pn xe po => (dss_cons (ds_if (dt_cmp (op_eqAll hu) (r_eq : RCmp _ _ cEq) (dv_var (pv 4)) dv_int (nomark _)) (dss_cons (ds_expr (dv_of (do_meth (m := "boxes") M_boxes_1 hr (dv_var (pv 0)) (da_cons (dv_var (pv 1)) da_nil)))) dss_nil) (dss_cons (ds_if (dt_cmp (op_eqAll hu) (r_eq : RCmp _ _ cEq) (dv_var (pv 4)) dv_int (nomark _)) (dss_cons (ds_expr (dv_of (do_meth (m := "taken") M_taken_2 hr (dv_var (pv 0)) (da_cons (dv_var (pv 1)) (da_cons (dv_var (pv 2)) da_nil))))) dss_nil) (dss_cons (ds_expr (dv_of (do_meth (m := "taken") M_taken_2 hr (dv_var (pv 0)) (da_cons (dv_var (pv 2)) (da_cons (dv_var (pv 1)) da_nil))))) dss_nil)) dss_nil)) dss_nil))) (dss_cons (ds_app (pv 3) (dv_of (do_call F__law_classes hr rfl (da_cons (dv_var (pv 5)) da_nil))) rfl (fun pa => pe_bm PySem.F.plainAttrs_list PySem.F.slot_list_append PySem.F.type_list_append mt_append (pv 3) pa)) dss_nil)))) (dss_frz 3 (dss_cons (ds_ret (do_val (dv_cmp (op_eqAll hu) (r_eq : RCmp _ _ cEq) (dv_var (pv 3)) (dv_of (do_rep (do_lst (da_cons dv_str da_nil)) dv_int)) (nomark _)))) dss_nil))))
theorem G__law_place_refused {f : Addr} {fd : FuncData} (ev : Ev K mg) (M_boxes_1 : ∀ c mf, t_boxes_1 c = some mf → Mth P w K mg base 4 c "boxes" 1 mf) (M_taken_2 : ∀ c mf, t_taken_2 c = some mf → Mth P w K mg base 4 c "taken" 2 mf) (F__law_classes : DFn P w K mg base 4 "_law_classes" 1 c__law_classes) (F : FunD K "_law_place_refused" "_law_place_refused" (defArgs st__law_place_refused) (defBody st__law_place_refused) (defScope st__law_place_refused) [] [] f fd) : FnOk P w K mg base (L2.CX P w) 5 f fd ["_law_machine_here", "_law_place", "_law_good"] (spD K 3 m__law_place_refused) ∧ Binds K fd ["_law_machine_here", "_law_place", "_law_good"] [] :=
  ⟨fn_def F sc__law_place_refused (fun cdv A outer s H E hr => d__law_place_refused ev M_boxes_1 M_taken_2 F__law_classes f cdv A outer s H E hr), F.bindsN fun _ _ _ _ _ _ us hl => match us, hl with | [_, _, _], _ => rfl⟩
/-! _law_boxes_right -/
abbrev st__law_boxes_right : Stmt := top 43
def N__law_boxes_right : List Str := ["_law_machine_here", "_law_own", "_law_draw_here", "_law_middle", "_law_spots", "_law_one", "_law_found", "_law_other", "_law_due", "_law_odd"]
theorem sc__law_boxes_right : FnScope N__law_boxes_right ["_law_machine_here", "_law_own", "_law_draw_here"] (defScope st__law_boxes_right) := ⟨rfl, rfl, rfl, by decide +kernel, rfl, by decide +kernel, by decide +kernel⟩
noncomputable def b__law_boxes_right_0 : MS := (sSet 3 (mMap Slot.val (mMap Slot.d (mBin opAdd (mMap Slot.d (mBin opSb (eVar 1) (eC (.str (Str.ofString "least"))))) (mMap Slot.d (mBin (opI2 fMod) (eVar 2) (mMap Slot.d (mBin opAdd (mMap Slot.d (mBin opSub (mMap Slot.d (mBin opSb (eVar 1) (eC (.str (Str.ofString "greatest"))))) (mMap Slot.d (mBin opSb (eVar 1) (eC (.str (Str.ofString "least"))))))) (eC (.int (1)))))))))))
noncomputable def b__law_boxes_right_1 : MS := (sSet 4 (mMap Slot.val (mMap Slot.d (oLst (aCons (mMap Slot.d (mBin opSb (eVar 1) (eC (.str (Str.ofString "least"))))) (aCons (mMap Slot.d (mBin opSb (eVar 1) (eC (.str (Str.ofString "greatest"))))) (aCons (mMap Slot.d (mBin opSb (eVar 1) (eC (.str (Str.ofString "place"))))) (aCons (eVar 3) aNil))))))))
noncomputable def b__law_boxes_right_L1 : MS := (sSeq (sSet 6 (mMeth "boxes" t_boxes_1 (eVar 0) (aCons (eVar 5) aNil))) (sSeq (sIf (mLookT (mOr (mNot (mTru (mMap Slot.d (mCall (fIsi T) (aCons (eVar 6) (aCons (eC (.ty "list")) aNil)))))) (mCmp cNe (eVar 6) (mMap Slot.d (mFn c__law_takes (aCons (eVar 1) (aCons (eVar 5) (aCons (eVar 5) aNil)))))))) (sSeq (sRet (mMap Slot.val (eC (.bl false)))) sNext) sNext) (sSeq (sApp 6 (eC .non)) (sSeq (sSet 7 (mMap Slot.val (mMap Slot.d (mBin opSb (eVar 4) (mMap Slot.d (mBin (opI2 fMod) (mMap Slot.d (mBin (opI2 fDiv) (eVar 2) (eC (.int (7))))) (eC (.int (4))))))))) (sSeq (sSet 6 (mMeth "taken" t_taken_2 (eVar 0) (aCons (eVar 5) (aCons (eVar 7) aNil)))) (sSeq (sSet 8 (mMap Slot.val (mMap Slot.d (mFn c__law_takes (aCons (eVar 1) (aCons (mMap Slot.d (mCall fMinA (aCons (eVar 5) (aCons (eVar 7) aNil)))) (aCons (mMap Slot.d (mCall fMaxA (aCons (eVar 5) (aCons (eVar 7) aNil)))) aNil))))))) (sSeq (sIf (mLookT (mOr (mNot (mTru (mMap Slot.d (mCall (fIsi T) (aCons (eVar 6) (aCons (eC (.ty "list")) aNil)))))) (mOr (mCmp cNe (eVar 6) (eVar 8)) (mCmp cNe (mMap Slot.d (mMeth "taken" t_taken_2 (eVar 0) (aCons (eVar 7) (aCons (eVar 5) aNil)))) (eVar 8))))) (sSeq (sRet (mMap Slot.val (eC (.bl false)))) sNext) sNext) (sSeq (sApp 6 (eC .non)) (sSeq (sIf (mCmp cNe (mMap Slot.d (mMeth "taken" t_taken_2 (eVar 0) (aCons (eVar 5) (aCons (eVar 7) aNil)))) (eVar 8)) (sSeq (sRet (mMap Slot.val (eC (.bl false)))) sNext) sNext) sNext)))))))))
noncomputable def b__law_boxes_right_2 : MS := (sFor (mSeq (eVar 4)) (gN 5) b__law_boxes_right_L1)
noncomputable def b__law_boxes_right_L2 : MS := (sSeq (sIf (mNot (mTru (mMap Slot.d (mFn c__law_place_refused (aCons (eVar 0) (aCons (eVar 9) (aCons (mMap Slot.d (mBin opSb (eVar 1) (eC (.str (Str.ofString "place"))))) aNil))))))) (sSeq (sRet (mMap Slot.val (eC (.bl false)))) sNext) sNext) sNext)
noncomputable def b__law_boxes_right_3 : MS := (sFor (mSeq (mMap D.tup (aCons (mMap Slot.d (mBin opSub (mMap Slot.d (mBin opSb (eVar 1) (eC (.str (Str.ofString "least"))))) (eC (.int (1))))) (aCons (mMap Slot.d (mBin opAdd (mMap Slot.d (mBin opSb (eVar 1) (eC (.str (Str.ofString "greatest"))))) (eC (.int (1))))) (aCons (eC .non) (aCons (eC (.bl true)) (aCons (eC (.str (Str.ofString "1"))) (aCons (mMap Slot.d (oLst (aCons (mMap Slot.d (mBin opSb (eVar 1) (eC (.str (Str.ofString "place"))))) aNil))) aNil)))))))) (gN 9) b__law_boxes_right_L2)
noncomputable def b__law_boxes_right_4 : MS := (sRet (mMap Slot.val (eC (.bl true))))
noncomputable def b__law_boxes_right : MS := (sSeq b__law_boxes_right_0 (sSeq b__law_boxes_right_1 (sSeq b__law_boxes_right_2 (sSeq b__law_boxes_right_3 (sSeq b__law_boxes_right_4 sNext)))))
noncomputable def m__law_boxes_right : MF := mDef N__law_boxes_right b__law_boxes_right
noncomputable def c__law_boxes_right : MF := m__law_boxes_right
theorem d__law_boxes_right (ev : Ev K mg) (M_boxes_1 : ∀ c mf, t_boxes_1 c = some mf → Mth P w K mg base 5 c "boxes" 1 mf) (F__law_takes : DFn P w K mg base 5 "_law_takes" 3 c__law_takes) (M_taken_2 : ∀ c mf, t_taken_2 c = some mf → Mth P w K mg base 5 c "taken" 2 mf) (F__law_place_refused : DFn P w K mg base 5 "_law_place_refused" 3 c__law_place_refused) (f : Addr) (cdv : Value) (A : Around) (outer : List Env) (s : Shared) (H : Hp) (E : XK) (hr : Room 5 (A.deeper (envOfC "_law_boxes_right" (defScope st__law_boxes_right) s.heap.objs.size f cdv))) :
    DSs (cxOf (L2.CX P w) P w K mg base N__law_boxes_right "_law_boxes_right" (defScope st__law_boxes_right) f cdv A outer s H E) (defBody st__law_boxes_right) b__law_boxes_right := by
  have hN := sc__law_boxes_right.nd
  have hu := hr.units
  have hc : (cxOf (L2.CX P w) P w K mg base N__law_boxes_right "_law_boxes_right" (defScope st__law_boxes_right) f cdv A outer s H E).calm = true := rfl
  have po := passes_of (X := (cxOf (L2.CX P w) P w K mg base N__law_boxes_right "_law_boxes_right" (defScope st__law_boxes_right) f cdv A outer s H E)) rfl
  have hr1 := hr
  exact (dss_cons (ds_set (i := 3) hN rfl (by first | exact .inl rfl | exact .inr rfl) (do_val (dv_of (do_bin op_addAll r_add (dv_of (do_sub hu (fun _ _ => rfl) (fun _ _ => rfl) (dv_var (pv 1)) dv_str)) (dv_of (do_bin op_mod r_mod (dv_var (pv 2)) (dv_of (do_bin op_addAll r_add (dv_of (do_bin op_sub r_sub (dv_of (do_sub hu (fun _ _ => rfl) (fun _ _ => rfl) (dv_var (pv 1)) dv_str)) (dv_of (do_sub hu (fun _ _ => rfl) (fun _ _ => rfl) (dv_var (pv 1)) dv_str)))) dv_int)))))))) (dss_cons (ds_set (i := 4) hN rfl (by first | exact .inl rfl | exact .inr rfl) (do_val (dv_of (do_lst (da_cons (dv_of (do_sub hu (fun _ _ => rfl) (fun _ _ => rfl) (dv_var (pv 1)) dv_str)) (da_cons (dv_of (do_sub hu (fun _ _ => rfl) (fun _ _ => rfl) (dv_var (pv 1)) dv_str)) (da_cons (dv_of (do_sub hu (fun _ _ => rfl) (fun _ _ => rfl) (dv_var (pv 1)) dv_str)) (da_cons (dv_var (pv 3)) da_nil)))))))) (dss_cons (ds_for po rfl (di_seq (dv_var (pv 4))) (pg_name hN rfl (by first | exact .inl rfl | exact .inr rfl)) (RG.rel (rg_name 5)) (dss_cons (ds_set (i := 6) hN rfl (by first | exact .inl rfl | exact .inr rfl) (do_meth (m := "boxes") M_boxes_1 hr (dv_var (pv 0)) (da_cons (dv_var (pv 5)) da_nil))) (dss_cons (ds_if (dt_look (dt_w (dw_or (dt_not (dt_tru (dv_of (do_callB call_isiAll (r_isi ev.ct) rfl ev.f_isinstance (by decide +kernel) (da_cons (dv_var (pv 6)) (da_cons (dv_ty rfl ev.f_list (by decide +kernel)) da_nil)))))) (dw_or1 (dt_cmp (op_neAll hu) (r_ne : RCmp _ _ cNe) (dv_var (pv 6)) (dv_of (do_call F__law_takes hr rfl (da_cons (dv_var (pv 1)) (da_cons (dv_var (pv 5)) (da_cons (dv_var (pv 5)) da_nil))))) (nomark _)))))) (dss_cons (ds_ret (do_val dv_bl)) dss_nil) dss_nil) (dss_cons (ds_app (pv 6) dv_non rfl (fun pa => pe_bm PySem.F.plainAttrs_list PySem.F.slot_list_append PySem.F.type_list_append mt_append (pv 6) pa)) (dss_cons (ds_set (i := 7) hN rfl (by first | exact .inl rfl | exact .inr rfl) (do_val (dv_of (do_sub hu (fun _ _ => rfl) (fun _ _ => rfl) (dv_var (pv 4)) (dv_of (do_bin op_mod r_mod (dv_of (do_bin op_fdivW r_div (dv_var (pv 2)) dv_int)) dv_int)))))) (dss_cons (ds_set (i := 6) hN rfl (by first | exact .inl rfl | exact .inr rfl) (do_meth (m := "taken") M_taken_2 hr (dv_var (pv 0)) (da_cons (dv_var (pv 5)) (da_cons (dv_var (pv 7)) da_nil)))) (dss_cons (ds_set (i := 8) hN rfl (by first | exact .inl rfl | exact .inr rfl) (do_val (dv_of (do_call F__law_takes hr rfl (da_cons (dv_var (pv 1)) (da_cons (dv_of (do_callB (call_minA hc) r_minA rfl ev.f_min (by decide +kernel) (da_cons (dv_var (pv 5)) (da_cons (dv_var (pv 7)) da_nil)))) (da_cons (dv_of (do_callB (call_maxA hc) r_maxA rfl ev.f_max (by decide +kernel) (da_cons (dv_var (pv 5)) (da_cons (dv_var (pv 7)) da_nil)))) da_nil))))))) (dss_cons (ds_if (dt_look (dt_w (dw_or (dt_not (dt_tru (dv_of (do_callB call_isiAll (r_isi ev.ct) rfl ev.f_isinstance (by decide +kernel) (da_cons (dv_var (pv 6)) (da_cons (dv_ty rfl ev.f_list (by decide +kernel)) da_nil)))))) (dw_or (dt_cmp (op_neAll hu) (r_ne : RCmp _ _ cNe) (dv_var (pv 6)) (dv_var (pv 8)) (nomark _)) (dw_or1 (dt_cmp (op_neAll hu) (r_ne : RCmp _ _ cNe) (dv_of (do_meth (m := "taken") M_taken_2 hr (dv_var (pv 0)) (da_cons (dv_var (pv 7)) (da_cons (dv_var (pv 5)) da_nil)))) (dv_var (pv 8)) (nomark _))))))) (dss_cons (ds_ret (do_val dv_bl)) dss_nil) dss_nil) (dss_cons (ds_app (pv 6) dv_non rfl (fun pa => pe_bm PySem.F.plainAttrs_list PySem.F.slot_list_append PySem.F.type_list_append mt_append (pv 6) pa)) (dss_cons (ds_if (dt_cmp (op_neAll hu) (r_ne : RCmp _ _ cNe) (dv_of (do_meth (m := "taken") M_taken_2 hr (dv_var (pv 0)) (da_cons (dv_var (pv 5)) (da_cons (dv_var (pv 7)) da_nil)))) (dv_var (pv 8)) (nomark _)) (dss_cons (ds_ret (do_val dv_bl)) dss_nil) dss_nil) dss_nil)))))))))) (dss_cons (ds_for po rfl (di_seq (dv_tup (da_cons (dv_of (do_bin op_sub r_sub (dv_of (do_sub hu (fun _ _ => rfl) (fun _ _ => rfl) (dv_var (pv 1)) dv_str)) dv_int)) (da_cons (dv_of (do_bin op_addAll r_add (dv_of (do_sub hu (fun _ _ => rfl) (fun _ _ => rfl) (dv_var (pv 1)) dv_str)) dv_int)) (da_cons dv_non (da_cons dv_bl (da_cons dv_str (da_cons (dv_of (do_lst (da_cons (dv_of (do_sub hu (fun _ _ => rfl) (fun _ _ => rfl) (dv_var (pv 1)) dv_str)) da_nil))) da_nil)))))))) (pg_name hN rfl (by first | exact .inl rfl | exact .inr rfl)) (RG.rel (rg_name 9)) (dss_cons (ds_if (dt_not (dt_tru (dv_of (do_call F__law_place_refused hr rfl (da_cons (dv_var (pv 0)) (da_cons (dv_var (pv 9)) (da_cons (dv_of (do_sub hu (fun _ _ => rfl) (fun _ _ => rfl) (dv_var (pv 1)) dv_str)) da_nil))))))) (dss_cons (ds_ret (do_val dv_bl)) dss_nil) dss_nil) dss_nil)) (dss_cons (ds_ret (do_val dv_bl)) dss_nil)))))
theorem G__law_boxes_right {f : Addr} {fd : FuncData} (ev : Ev K mg) (M_boxes_1 : ∀ c mf, t_boxes_1 c = some mf → Mth P w K mg base 5 c "boxes" 1 mf) (F__law_takes : DFn P w K mg base 5 "_law_takes" 3 c__law_takes) (M_taken_2 : ∀ c mf, t_taken_2 c = some mf → Mth P w K mg base 5 c "taken" 2 mf) (F__law_place_refused : DFn P w K mg base 5 "_law_place_refused" 3 c__law_place_refused) (F : FunD K "_law_boxes_right" "_law_boxes_right" (defArgs st__law_boxes_right) (defBody st__law_boxes_right) (defScope st__law_boxes_right) [] [] f fd) : FnOk P w K mg base (L2.CX P w) 6 f fd ["_law_machine_here", "_law_own", "_law_draw_here"] (spD K 3 m__law_boxes_right) ∧ Binds K fd ["_law_machine_here", "_law_own", "_law_draw_here"] [] :=
  ⟨fn_def F sc__law_boxes_right (fun cdv A outer s H E hr => d__law_boxes_right ev M_boxes_1 F__law_takes M_taken_2 F__law_place_refused f cdv A outer s H E hr), F.bindsN fun _ _ _ _ _ _ us hl => match us, hl with | [_, _, _], _ => rfl⟩
/-! _law_spoilt -/
abbrev st__law_spoilt : Stmt := top 45
def N__law_spoilt : List Str := ["_law_own", "_law_draw_here", "_law_odd", "_law_spots", "_law_word", "_law_bad", "_law_shut", "_law_some"]
theorem sc__law_spoilt : FnScope N__law_spoilt ["_law_own", "_law_draw_here"] (defScope st__law_spoilt) := ⟨rfl, rfl, rfl, by decide +kernel, rfl, by decide +kernel, by decide +kernel⟩
noncomputable def b__law_spoilt_0 : MS := (sSet 2 (mMap Slot.val (mRef (mCall fDict (aCons (eVar 0) aNil)))))
noncomputable def b__law_spoilt_1 : MS := (sSet 3 (mMap Slot.val (mMap Slot.d (oLst (aCons (eC (.str (Str.ofString "least"))) (aCons (eC (.str (Str.ofString "greatest"))) (aCons (eC (.str (Str.ofString "pace"))) (aCons (eC (.str (Str.ofString "gain"))) (aCons (eC (.str (Str.ofString "place"))) (aCons (eC (.str (Str.ofString "lane"))) aNil))))))))))
noncomputable def b__law_spoilt_2 : MS := (sIf (mCmp cIn (mMap Slot.d (mBin opSb (eVar 0) (eC (.str (Str.ofString "kind"))))) (mMap D.tup (aCons (eC (.str (Str.ofString "line"))) (aCons (eC (.str (Str.ofString "trap"))) aNil)))) (sSeq (sSet 3 (mMap Slot.val (mMap Slot.d (mBin opAdd (eVar 3) (mMap Slot.d (oLst (aCons (eC (.str (Str.ofString "at"))) aNil))))))) sNext) sNext)
noncomputable def b__law_spoilt_3 : MS := (sSet 3 (mMap Slot.val (mMap Slot.d (mBin opAdd (eVar 3) (mMap Slot.d (mIf (mCmp cEq (mMap Slot.d (mBin opSb (eVar 0) (eC (.str (Str.ofString "kind"))))) (eC (.str (Str.ofString "floor")))) (oLst (aCons (eC (.str (Str.ofString "walls"))) aNil)) (oLst (aCons (eC (.str (Str.ofString "wide"))) aNil))))))))
noncomputable def b__law_spoilt_4 : MS := (sIf (mCmp cIn (mMap Slot.d (mBin opSb (eVar 0) (eC (.str (Str.ofString "kind"))))) (mMap D.tup (aCons (eC (.str (Str.ofString "line"))) (aCons (eC (.str (Str.ofString "wagon"))) aNil)))) (sSeq (sSet 3 (mMap Slot.val (mMap Slot.d (mBin opAdd (eVar 3) (mMap Slot.d (oLst (aCons (eC (.str (Str.ofString "tall"))) aNil))))))) sNext) sNext)
noncomputable def b__law_spoilt_5 : MS := (sSet 4 (mMap Slot.val (mMap Slot.d (mBin opSb (eVar 3) (mMap Slot.d (mBin (opI2 fMod) (eVar 1) (mMap Slot.d (mCall fLen (aCons (eVar 3) aNil)))))))))
noncomputable def b__law_spoilt_6 : MS := (sSet 5 (mMap Slot.val (mRef (mDisp (ppC (eC (.str (Str.ofString "least"))) (mMap Slot.d (mBin opAdd (mMap Slot.d (mBin opSb (eVar 0) (eC (.str (Str.ofString "greatest"))))) (eC (.int (1))))) (ppC (eC (.str (Str.ofString "greatest"))) (mMap Slot.d (mBin opAdd (mMap Slot.d (mBin (opI2 fPow) (eC (.int (10))) (eC (.int (9))))) (eC (.int (1))))) (ppC (eC (.str (Str.ofString "pace"))) (eC (.int (0))) (ppC (eC (.str (Str.ofString "gain"))) (mMap Slot.d (mBin opAdd (mMap Slot.d (mBin (opI2 fPow) (eC (.int (10))) (eC (.int (9))))) (eC (.int (1))))) (ppC (eC (.str (Str.ofString "lane"))) (eC (.int (10))) (eC []))))))))))
noncomputable def b__law_spoilt_7 : MS := (sUpd (eVar 5) (mMap Slot.d (mDisp (ppC (eC (.str (Str.ofString "place"))) (mMap Slot.d (mBin opSub (mMap Slot.d (mBin opSb (eVar 0) (eC (.str (Str.ofString "least"))))) (eC (.int (1))))) (ppC (eC (.str (Str.ofString "at"))) (mMap Slot.d (mBin opSub (mUn fNeg (mMap Slot.d (mBin (opI2 fPow) (eC (.int (10))) (eC (.int (9)))))) (eC (.int (1))))) (ppC (eC (.str (Str.ofString "wide"))) (mMap Slot.d (mBin opAdd (mMap Slot.d (mBin (opI2 fPow) (eC (.int (10))) (eC (.int (6))))) (eC (.int (1))))) (ppC (eC (.str (Str.ofString "tall"))) (eC (.int (0))) (eC []))))))))
noncomputable def b__law_spoilt_8 : MS := (sSet 6 (mMap Slot.val (mMap Slot.d (mBin opSb (mMap Slot.d (oLst (aCons (mMap D.tup (aCons (eC (.int (720))) (aCons (eC (.int (1))) (aCons (eC (.int (1))) aNil)))) (aCons (mMap D.tup (aCons (eC (.int (0))) (aCons (eC (.int (0))) (aCons (eC (.int (1))) aNil)))) (aCons (mMap D.tup (aCons (eC (.int (0))) (aCons (eC (.int (1))) (aCons (mMap Slot.d (mBin opAdd (mMap Slot.d (mBin (opI2 fPow) (eC (.int (10))) (eC (.int (6))))) (eC (.int (1))))) aNil)))) (aCons (mMap D.tup (aCons (eC (.int (1))) (aCons (eC (.int (1))) aNil))) (aCons (mMap Slot.d (oLst (aCons (eC (.int (1))) (aCons (eC (.int (1))) (aCons (eC (.int (1))) aNil))))) (aCons (mMap D.tup (aCons (eC (.bl true)) (aCons (eC (.int (1))) (aCons (eC (.int (1))) aNil)))) (aCons (mMap D.tup (aCons (eC (.int (0))) (aCons (eC .non) (aCons (eC (.int (1))) aNil)))) aNil))))))))) (mMap Slot.d (mBin (opI2 fMod) (mMap Slot.d (mBin (opI2 fDiv) (eVar 1) (eC (.int (50))))) (eC (.int (7)))))))))
noncomputable def b__law_spoilt_9 : MS := (sSet 7 (mMap Slot.val (mMap Slot.d (oLst (aCons (mGet2 (eVar 5) (eVar 4) (mMap Slot.d (mBin opAdd (mMap Slot.d (mBin opSb (eVar 0) (eC (.str (Str.ofString "walls"))))) (mMap Slot.d (oLst (aCons (eVar 6) aNil)))))) (aCons (eC .non) (aCons (eC (.bl true)) (aCons (eC (.str (Str.ofString "1"))) (aCons (mMap Slot.d (oLst (aCons (mGet1 (eVar 0) (eVar 4)) aNil))) (aCons (mUn fNeg (mMap Slot.d (mBin (opI2 fPow) (eC (.int (10))) (eC (.int (40)))))) aNil))))))))))
noncomputable def b__law_spoilt_10 : MS := (sIf (mCmp cEq (eVar 4) (eC (.str (Str.ofString "walls")))) (sSeq (sSet 7 (mMap Slot.val (mMap Slot.d (oLst (aCons (mMap Slot.d (mBin opAdd (mMap Slot.d (mSl (mMap Slot.d (mBin opSb (eVar 0) (eC (.str (Str.ofString "walls"))))) pNo (pAt (eC (.int (3)))))) (mMap Slot.d (oLst (aCons (eVar 6) aNil))))) (aCons (mMap Slot.d (oLst aNil)) (aCons (mMap Slot.d (mCall fTuple (aCons (mMap Slot.d (mBin opSb (eVar 0) (eC (.str (Str.ofString "walls"))))) aNil))) (aCons (eC .non) (aCons (mMap Slot.d (mRep (oLst (aCons (mMap D.tup (aCons (eC (.int (0))) (aCons (eC (.int (1))) (aCons (eC (.int (1))) aNil)))) aNil)) (eC (.int (5))))) (aCons (eC (.int (5))) aNil)))))))))) sNext) sNext)
noncomputable def b__law_spoilt_11 : MS := (sPut (eVar 2) (eVar 4) (mMap Slot.d (mBin opSb (eVar 7) (mMap Slot.d (mBin (opI2 fMod) (mMap Slot.d (mBin (opI2 fDiv) (eVar 1) (eC (.int (400))))) (eC (.int (6))))))))
noncomputable def b__law_spoilt_12 : MS := (sIf (mCmp cEq (mMap Slot.d (mBin (opI2 fMod) (mMap Slot.d (mBin (opI2 fDiv) (eVar 1) (eC (.int (2400))))) (eC (.int (3))))) (eC (.int (1)))) (sSeq (sPut (eVar 2) (eC (.str (Str.ofString "name"))) (mMap Slot.d (mBin opSb (mMap Slot.d (oLst (aCons (eC (.str (Str.ofString ""))) (aCons (eC (.str (Str.ofString "abcdefghi"))) (aCons (eC (.str (Str.ofString "A"))) (aCons (eC (.str (Str.ofString "a1"))) (aCons (eC .non) (aCons (eC (.int (5))) (aCons (mMap Slot.d (oLst (aCons (eC (.str (Str.ofString "a"))) aNil))) (aCons (eC (.str (Str.ofString "a b"))) aNil)))))))))) (mMap Slot.d (mBin (opI2 fMod) (mMap Slot.d (mBin (opI2 fDiv) (eVar 1) (eC (.int (7200))))) (eC (.int (8)))))))) sNext) sNext)
noncomputable def b__law_spoilt_13 : MS := (sRetV 2)
noncomputable def b__law_spoilt : MS := (sSeq b__law_spoilt_0 (sSeq b__law_spoilt_1 (sSeq b__law_spoilt_2 (sSeq b__law_spoilt_3 (sSeq b__law_spoilt_4 (sSeq b__law_spoilt_5 (sSeq b__law_spoilt_6 (sSeq b__law_spoilt_7 (sSeq b__law_spoilt_8 (sSeq b__law_spoilt_9 (sSeq b__law_spoilt_10 (sSeq b__law_spoilt_11 (sSeq b__law_spoilt_12 (sSeq b__law_spoilt_13 sNext))))))))))))))
noncomputable def m__law_spoilt : MF := mDef N__law_spoilt b__law_spoilt
noncomputable def c__law_spoilt : MF := mFin m__law_spoilt
theorem d__law_spoilt (ev : Ev K mg) (f : Addr) (cdv : Value) (A : Around) (outer : List Env) (s : Shared) (H : Hp) (E : XK) (hr : Room 0 (A.deeper (envOfC "_law_spoilt" (defScope st__law_spoilt) s.heap.objs.size f cdv))) :
    DSs (cxOf (L2.CX P w) P w K mg base N__law_spoilt "_law_spoilt" (defScope st__law_spoilt) f cdv A outer s H E) (defBody st__law_spoilt) b__law_spoilt := by
  have hN := sc__law_spoilt.nd
  have hu := hr.units
  have hc : (cxOf (L2.CX P w) P w K mg base N__law_spoilt "_law_spoilt" (defScope st__law_spoilt) f cdv A outer s H E).calm = true := rfl
  have po := passes_of (X := (cxOf (L2.CX P w) P w K mg base N__law_spoilt "_law_spoilt" (defScope st__law_spoilt) f cdv A outer s H E)) rfl
  have hr1 := hr
  exact (dss_cons (ds_set (i := 2) hN rfl (by first | exact .inl rfl | exact .inr rfl) (do_val (dv_ref (do_callTy (call_dictA hc) r_dict rfl ev.f_dict (by decide +kernel) (da_cons (dv_var (pv 0)) da_nil))))) (dss_cons (ds_set (i := 3) hN rfl (by first | exact .inl rfl | exact .inr rfl) (do_val (dv_of (do_lst (da_cons dv_str (da_cons dv_str (da_cons dv_str (da_cons dv_str (da_cons dv_str (da_cons dv_str da_nil)))))))))) (dss_cons (ds_if (dt_cmp (op_inAll hu) (r_in : RCmp _ _ cIn) (dv_of (do_sub hu (fun _ _ => rfl) (fun _ _ => rfl) (dv_var (pv 0)) dv_str)) (dv_tup (da_cons dv_str (da_cons dv_str da_nil))) rfl) (dss_cons (ds_set (i := 3) hN rfl (by first | exact .inl rfl | exact .inr rfl) (do_val (dv_of (do_bin op_addAll r_add (dv_var (pv 3)) (dv_of (do_lst (da_cons dv_str da_nil))))))) dss_nil) dss_nil) (dss_cons (ds_set (i := 3) hN rfl (by first | exact .inl rfl | exact .inr rfl) (do_val (dv_of (do_bin op_addAll r_add (dv_var (pv 3)) (dv_of (do_if (dt_cmp (op_eqAll hu) (r_eq : RCmp _ _ cEq) (dv_of (do_sub hu (fun _ _ => rfl) (fun _ _ => rfl) (dv_var (pv 0)) dv_str)) dv_str (nomark _)) (do_lst (da_cons dv_str da_nil)) (do_lst (da_cons dv_str da_nil)))))))) (dss_cons (ds_if (dt_cmp (op_inAll hu) (r_in : RCmp _ _ cIn) (dv_of (do_sub hu (fun _ _ => rfl) (fun _ _ => rfl) (dv_var (pv 0)) dv_str)) (dv_tup (da_cons dv_str (da_cons dv_str da_nil))) rfl) (dss_cons (ds_set (i := 3) hN rfl (by first | exact .inl rfl | exact .inr rfl) (do_val (dv_of (do_bin op_addAll r_add (dv_var (pv 3)) (dv_of (do_lst (da_cons dv_str da_nil))))))) dss_nil) dss_nil) (dss_cons (ds_set (i := 4) hN rfl (by first | exact .inl rfl | exact .inr rfl) (do_val (dv_of (do_sub hu (fun _ _ => rfl) (fun _ _ => rfl) (dv_var (pv 3)) (dv_of (do_bin op_mod r_mod (dv_var (pv 1)) (dv_of (do_callB call_len r_len rfl ev.f_len (by decide +kernel) (da_cons (dv_var (pv 3)) da_nil))))))))) (dss_cons (ds_set (i := 5) hN rfl (by first | exact .inl rfl | exact .inr rfl) (do_val (dv_ref (do_disp (dpp_cons dv_str (dv_of (do_bin op_addAll r_add (dv_of (do_sub hu (fun _ _ => rfl) (fun _ _ => rfl) (dv_var (pv 0)) dv_str)) dv_int)) (dpp_cons dv_str (dv_of (do_bin op_addAll r_add (dv_of (do_bin op_pow r_pow dv_int dv_int)) dv_int)) (dpp_cons dv_str dv_int (dpp_cons dv_str (dv_of (do_bin op_addAll r_add (dv_of (do_bin op_pow r_pow dv_int dv_int)) dv_int)) (dpp_cons dv_str dv_int dpp_nil))))))))) (dss_cons (ds_upd (dv_var (pv 5)) (dv_of (do_disp (dpp_cons dv_str (dv_of (do_bin op_sub r_sub (dv_of (do_sub hu (fun _ _ => rfl) (fun _ _ => rfl) (dv_var (pv 0)) dv_str)) dv_int)) (dpp_cons dv_str (dv_of (do_bin op_sub r_sub (dv_neg (dv_of (do_bin op_pow r_pow dv_int dv_int))) dv_int)) (dpp_cons dv_str (dv_of (do_bin op_addAll r_add (dv_of (do_bin op_pow r_pow dv_int dv_int)) dv_int)) (dpp_cons dv_str dv_int dpp_nil)))))) rfl (fun po pa => pe_bm PySem.F.plainAttrs_dict PySem.F.slot_dict_update PySem.F.type_dict_update mt_update po pa)) (dss_cons (ds_set (i := 6) hN rfl (by first | exact .inl rfl | exact .inr rfl) (do_val (dv_of (do_sub hu (fun _ _ => rfl) (fun _ _ => rfl) (dv_of (do_lst (da_cons (dv_tup (da_cons dv_int (da_cons dv_int (da_cons dv_int da_nil)))) (da_cons (dv_tup (da_cons dv_int (da_cons dv_int (da_cons dv_int da_nil)))) (da_cons (dv_tup (da_cons dv_int (da_cons dv_int (da_cons (dv_of (do_bin op_addAll r_add (dv_of (do_bin op_pow r_pow dv_int dv_int)) dv_int)) da_nil)))) (da_cons (dv_tup (da_cons dv_int (da_cons dv_int da_nil))) (da_cons (dv_of (do_lst (da_cons dv_int (da_cons dv_int (da_cons dv_int da_nil))))) (da_cons (dv_tup (da_cons dv_bl (da_cons dv_int (da_cons dv_int da_nil)))) (da_cons (dv_tup (da_cons dv_int (da_cons dv_non (da_cons dv_int da_nil)))) da_nil))))))))) (dv_of (do_bin op_mod r_mod (dv_of (do_bin op_fdivW r_div (dv_var (pv 1)) dv_int)) dv_int)))))) (dss_cons (ds_set (i := 7) hN rfl (by first | exact .inl rfl | exact .inr rfl) (do_val (dv_of (do_lst (da_cons (dv_get2 hu (dv_var (pv 5)) (dv_var (pv 4)) (dv_of (do_bin op_addAll r_add (dv_of (do_sub hu (fun _ _ => rfl) (fun _ _ => rfl) (dv_var (pv 0)) dv_str)) (dv_of (do_lst (da_cons (dv_var (pv 6)) da_nil))))) ⟨rfl, rfl, rfl, rfl⟩) (da_cons dv_non (da_cons dv_bl (da_cons dv_str (da_cons (dv_of (do_lst (da_cons (dv_get1 hu (dv_var (pv 0)) (dv_var (pv 4)) ⟨rfl, rfl, rfl, rfl⟩) da_nil))) (da_cons (dv_neg (dv_of (do_bin op_pow r_pow dv_int dv_int))) da_nil)))))))))) (dss_cons (ds_if (dt_cmp (op_eqAll hu) (r_eq : RCmp _ _ cEq) (dv_var (pv 4)) dv_str (nomark _)) (dss_cons (ds_set (i := 7) hN rfl (by first | exact .inl rfl | exact .inr rfl) (do_val (dv_of (do_lst (da_cons (dv_of (do_bin op_addAll r_add (dv_of (do_sl (dv_of (do_sub hu (fun _ _ => rfl) (fun _ _ => rfl) (dv_var (pv 0)) dv_str)) dp_no (dp_at dv_int))) (dv_of (do_lst (da_cons (dv_var (pv 6)) da_nil))))) (da_cons (dv_of (do_lst da_nil)) (da_cons (dv_of (do_callTy call_tuple_of r_tuple rfl ev.f_tuple (by decide +kernel) (da_cons (dv_of (do_sub hu (fun _ _ => rfl) (fun _ _ => rfl) (dv_var (pv 0)) dv_str)) da_nil))) (da_cons dv_non (da_cons (dv_of (do_rep (do_lst (da_cons (dv_tup (da_cons dv_int (da_cons dv_int (da_cons dv_int da_nil)))) da_nil)) dv_int)) (da_cons dv_int da_nil)))))))))) dss_nil) dss_nil) (dss_cons (ds_put hu (dv_var (pv 2)) (dv_var (pv 4)) (dv_of (do_sub hu (fun _ _ => rfl) (fun _ _ => rfl) (dv_var (pv 7)) (dv_of (do_bin op_mod r_mod (dv_of (do_bin op_fdivW r_div (dv_var (pv 1)) dv_int)) dv_int)))) rfl rfl rfl (fun po pi => pg_sub po pi set_list (fun _ => rfl))) (dss_cons (ds_if (dt_cmp (op_eqAll hu) (r_eq : RCmp _ _ cEq) (dv_of (do_bin op_mod r_mod (dv_of (do_bin op_fdivW r_div (dv_var (pv 1)) dv_int)) dv_int)) dv_int (nomark _)) (dss_cons (ds_put hu (dv_var (pv 2)) dv_str (dv_of (do_sub hu (fun _ _ => rfl) (fun _ _ => rfl) (dv_of (do_lst (da_cons dv_str (da_cons dv_str (da_cons dv_str (da_cons dv_str (da_cons dv_non (da_cons dv_int (da_cons (dv_of (do_lst (da_cons dv_str da_nil))) (da_cons dv_str da_nil)))))))))) (dv_of (do_bin op_mod r_mod (dv_of (do_bin op_fdivW r_div (dv_var (pv 1)) dv_int)) dv_int)))) rfl rfl rfl (fun po pi => pg_sub po pi set_list (fun _ => rfl))) dss_nil) dss_nil) (dss_cons (ds_retV (pv 2)) dss_nil))))))))))))))
theorem G__law_spoilt {f : Addr} {fd : FuncData} (ev : Ev K mg) (F : FunD K "_law_spoilt" "_law_spoilt" (defArgs st__law_spoilt) (defBody st__law_spoilt) (defScope st__law_spoilt) [] [] f fd) : FnOk P w K mg base (L2.CX P w) 1 f fd ["_law_own", "_law_draw_here"] (spD K 2 m__law_spoilt) ∧ Binds K fd ["_law_own", "_law_draw_here"] [] :=
  ⟨fn_def F sc__law_spoilt (fun cdv A outer s H E hr => d__law_spoilt ev f cdv A outer s H E hr), F.bindsN fun _ _ _ _ _ _ us hl => match us, hl with | [_, _], _ => rfl⟩
/-! _law_refused -/
abbrev st__law_refused : Stmt := top 46
def N__law_refused : List Str := ["_law_own", "_law_draw_here", "_law_odd", "_law_caught", "e"]
theorem sc__law_refused : FnScope N__law_refused ["_law_own", "_law_draw_here"] (defScope st__law_refused) := ⟨rfl, rfl, rfl, by decide +kernel, rfl, by decide +kernel, by decide +kernel⟩
noncomputable def b__law_refused_0 : MS := (sSet 2 (mMap Slot.val (mMap Slot.d (mFn c__law_spoilt (aCons (eVar 0) (aCons (eVar 1) aNil))))))
noncomputable def b__law_refused_1 : MS := (sSet 3 (mMap Slot.val (eC .non)))
noncomputable def b__law_refused_L1 : MS := (sSeq (sExpr (mMap Slot.d (mFn c__law_machine (aCons (eVar 2) aNil)))) sNext)
noncomputable def b__law_refused_2 : MS := (sTryAs T "StageError" 4 3 b__law_refused_L1)
noncomputable def b__law_refused_3 : MS := (sRet (mMap Slot.val (mMap D.bl (mCmp cEq (mMap Slot.d (mFn c__law_classes (aCons (eVar 3) aNil))) (mIf (mCmp cEq (mMap Slot.d (mBin opSb (eVar 2) (eC (.str (Str.ofString "name"))))) (mMap Slot.d (mBin opSb (eVar 0) (eC (.str (Str.ofString "name")))))) (eC (.str (Str.ofString "number "))) (eC (.str (Str.ofString "name "))))))))
noncomputable def b__law_refused : MS := (sSeq b__law_refused_0 (sSeq b__law_refused_1 (sSeq b__law_refused_2 (sSeq b__law_refused_3 sNext))))
noncomputable def m__law_refused : MF := mDef N__law_refused b__law_refused
noncomputable def c__law_refused : MF := m__law_refused
theorem d__law_refused (ev : Ev K mg) (F__law_spoilt : DFn P w K mg base 7 "_law_spoilt" 2 c__law_spoilt) (F__law_machine : DFn P w K mg base 7 "_law_machine" 1 c__law_machine) (F__law_classes : DFn P w K mg base 7 "_law_classes" 1 c__law_classes) (f : Addr) (cdv : Value) (A : Around) (outer : List Env) (s : Shared) (H : Hp) (E : XK) (hr : Room 7 (A.deeper (envOfC "_law_refused" (defScope st__law_refused) s.heap.objs.size f cdv))) :
    DSs (cxOf (L2.CX P w) P w K mg base N__law_refused "_law_refused" (defScope st__law_refused) f cdv A outer s H E) (defBody st__law_refused) b__law_refused := by
  have hN := sc__law_refused.nd
  have hu := hr.units
  have hc : (cxOf (L2.CX P w) P w K mg base N__law_refused "_law_refused" (defScope st__law_refused) f cdv A outer s H E).calm = true := rfl
  have po := passes_of (X := (cxOf (L2.CX P w) P w K mg base N__law_refused "_law_refused" (defScope st__law_refused) f cdv A outer s H E)) rfl
  have hr1 := hr
  exact (dss_cons (ds_set (i := 2) hN rfl (by first | exact .inl rfl | exact .inr rfl) (do_val (dv_of (do_call F__law_spoilt hr rfl (da_cons (dv_var (pv 0)) (da_cons (dv_var (pv 1)) da_nil)))))) (dss_cons (ds_set (i := 3) hN rfl (by first | exact .inl rfl | exact .inr rfl) (do_val dv_non)) (dss_cons (ds_try_as (i := 4) (j := 3) ev.xm rfl rfl rfl hN rfl rfl rfl rfl (by decide) ⟨rfl, by decide, .inl ev.c_StageError⟩ (fun pn xe po => (dss_cons (ds_expr (dv_of (do_call F__law_machine hr rfl (da_cons (dv_var (pv 2)) da_nil)))) dss_nil))) (dss_cons (ds_ret (do_val (dv_cmp (op_eqAll hu) (r_eq : RCmp _ _ cEq) (dv_of (do_call F__law_classes hr rfl (da_cons (dv_var (pv 3)) da_nil))) (dv_if (dt_cmp (op_eqAll hu) (r_eq : RCmp _ _ cEq) (dv_of (do_sub hu (fun _ _ => rfl) (fun _ _ => rfl) (dv_var (pv 2)) dv_str)) (dv_of (do_sub hu (fun _ _ => rfl) (fun _ _ => rfl) (dv_var (pv 0)) dv_str)) (nomark _)) dv_str dv_str) (nomark _)))) dss_nil))))
theorem G__law_refused {f : Addr} {fd : FuncData} (ev : Ev K mg) (F__law_spoilt : DFn P w K mg base 7 "_law_spoilt" 2 c__law_spoilt) (F__law_machine : DFn P w K mg base 7 "_law_machine" 1 c__law_machine) (F__law_classes : DFn P w K mg base 7 "_law_classes" 1 c__law_classes) (F : FunD K "_law_refused" "_law_refused" (defArgs st__law_refused) (defBody st__law_refused) (defScope st__law_refused) [] [] f fd) : FnOk P w K mg base (L2.CX P w) 8 f fd ["_law_own", "_law_draw_here"] (spD K 2 m__law_refused) ∧ Binds K fd ["_law_own", "_law_draw_here"] [] :=
  ⟨fn_def F sc__law_refused (fun cdv A outer s H E hr => d__law_refused ev F__law_spoilt F__law_machine F__law_classes f cdv A outer s H E hr), F.bindsN fun _ _ _ _ _ _ us hl => match us, hl with | [_, _], _ => rfl⟩
/-! law -/
abbrev st_law : Stmt := top 47
def N_law : List Str := ["_law_script", "_law_k", "_law_cell", "_law_draw_here", "_law_own", "_law_handed", "_law_machine_here"]
theorem sc_law : FnScope N_law ["_law_script"] (defScope st_law) := ⟨rfl, rfl, rfl, by decide +kernel, rfl, by decide +kernel, by decide +kernel⟩
noncomputable def b_law_L1 : MS := (sSeq (sSet 3 (mMap Slot.val (mMap Slot.d (mFn c__law_spread (aCons (eVar 2) (aCons (eVar 1) aNil)))))) (sSeq (sSet 4 (mMap Slot.val (mMap Slot.d (mFn c__law_drawn (aCons (eVar 3) (aCons (mMap Slot.d (mBin (opI2 fDiv) (eVar 3) (eC (.int (3))))) aNil)))))) (sSeq (sSet 5 (mMap Slot.val (mRef (mCall fDict (aCons (eVar 4) aNil))))) (sSeq (sPut (eVar 5) (eC (.str (Str.ofString "walls"))) (mRef (mCall fList (aCons (mMap Slot.d (mBin opSb (eVar 4) (eC (.str (Str.ofString "walls"))))) aNil)))) (sSeq (sSet 6 (mMap Slot.val (mMap Slot.d (mFn c__law_machine (aCons (eVar 5) aNil))))) (sSeq (sClear (mMap Slot.d (mBin opSb (eVar 5) (eC (.str (Str.ofString "walls")))))) (sSeq (sIf (mOr (mNot (mTru (mMap Slot.d (mFn c__law_told_right (aCons (eVar 6) (aCons (eVar 4) aNil)))))) (mNot (mTru (mMap Slot.d (mFn c__law_boxes_right (aCons (eVar 6) (aCons (eVar 4) (aCons (mMap Slot.d (mBin (opI2 fDiv) (eVar 3) (eC (.int (11))))) aNil)))))))) (sSeq (sRet (mMap Slot.val (eC (.bl false)))) sNext) sNext) (sSeq (sIf (mNot (mTru (mMap Slot.d (mFn c__law_refused (aCons (eVar 4) (aCons (mMap Slot.d (mBin (opI2 fDiv) (eVar 3) (eC (.int (13))))) aNil)))))) (sSeq (sRet (mMap Slot.val (eC (.bl false)))) sNext) sNext) sNext))))))))
noncomputable def b_law_0 : MS := (sFor (mThenS fEnum (aCons (mMap Slot.d (mBin opAdd (mMap Slot.d (mSl (eVar 0) pNo (pAt (eC (.int (60)))))) (mMap Slot.d (oLst (aCons (eC (.int (5))) (aCons (eC (.int (6))) (aCons (eC (.int (7))) (aCons (eC (.int (8))) aNil)))))))) aNil)) (gT [1, 2]) b_law_L1)
noncomputable def b_law_1 : MS := (sRet (mMap Slot.val (eC (.bl true))))
noncomputable def b_law : MS := (sSeq b_law_0 (sSeq b_law_1 sNext))
noncomputable def m_law : MF := mDef N_law b_law
noncomputable def c_law : MF := mFin m_law
theorem d_law (ev : Ev K mg) (F__law_spread : DFn P w K mg base 8 "_law_spread" 2 c__law_spread) (F__law_drawn : DFn P w K mg base 8 "_law_drawn" 2 c__law_drawn) (F__law_machine : DFn P w K mg base 8 "_law_machine" 1 c__law_machine) (F__law_told_right : DFn P w K mg base 8 "_law_told_right" 2 c__law_told_right) (F__law_boxes_right : DFn P w K mg base 8 "_law_boxes_right" 3 c__law_boxes_right) (F__law_refused : DFn P w K mg base 8 "_law_refused" 2 c__law_refused) (f : Addr) (cdv : Value) (A : Around) (outer : List Env) (s : Shared) (H : Hp) (E : XK) (hr : Room 8 (A.deeper (envOfC "law" (defScope st_law) s.heap.objs.size f cdv))) :
    DSs (cxOf (L2.CX P w) P w K mg base N_law "law" (defScope st_law) f cdv A outer s H E) (defBody st_law) b_law := by
  have hN := sc_law.nd
  have hu := hr.units
  have hc : (cxOf (L2.CX P w) P w K mg base N_law "law" (defScope st_law) f cdv A outer s H E).calm = true := rfl
  have po := passes_of (X := (cxOf (L2.CX P w) P w K mg base N_law "law" (defScope st_law) f cdv A outer s H E)) rfl
  have hr1 := hr
  exact (dss_cons (ds_for po rfl (di_enum rfl ev.f_enumerate (da_cons (dv_of (do_bin op_addAll r_add (dv_of (do_sl (dv_var (pv 0)) dp_no (dp_at dv_int))) (dv_of (do_lst (da_cons dv_int (da_cons dv_int (da_cons dv_int (da_cons dv_int da_nil)))))))) da_nil)) (pg_tup rfl (pgs_cons (pg_name hN rfl (by first | exact .inl rfl | exact .inr rfl)) (pgs_cons (pg_name hN rfl (by first | exact .inl rfl | exact .inr rfl)) pgs_nil))) (RG.rel (rg_tup [1, 2])) (dss_cons (ds_set (i := 3) hN rfl (by first | exact .inl rfl | exact .inr rfl) (do_val (dv_of (do_call F__law_spread hr rfl (da_cons (dv_var (pv 2)) (da_cons (dv_var (pv 1)) da_nil)))))) (dss_cons (ds_set (i := 4) hN rfl (by first | exact .inl rfl | exact .inr rfl) (do_val (dv_of (do_call F__law_drawn hr rfl (da_cons (dv_var (pv 3)) (da_cons (dv_of (do_bin op_fdivW r_div (dv_var (pv 3)) dv_int)) da_nil)))))) (dss_cons (ds_set (i := 5) hN rfl (by first | exact .inl rfl | exact .inr rfl) (do_val (dv_ref (do_callTy (call_dictA hc) r_dict rfl ev.f_dict (by decide +kernel) (da_cons (dv_var (pv 4)) da_nil))))) (dss_cons (ds_put hu (dv_var (pv 5)) dv_str (dv_ref (do_callTy call_list_of r_list rfl ev.f_list (by decide +kernel) (da_cons (dv_of (do_sub hu (fun _ _ => rfl) (fun _ _ => rfl) (dv_var (pv 4)) dv_str)) da_nil))) rfl rfl rfl (fun po pi => pg_sub po pi set_list (fun _ => rfl))) (dss_cons (ds_set (i := 6) hN rfl (by first | exact .inl rfl | exact .inr rfl) (do_val (dv_of (do_call F__law_machine hr rfl (da_cons (dv_var (pv 5)) da_nil))))) (dss_cons (ds_clear (dv_of (do_sub hu (fun _ _ => rfl) (fun _ _ => rfl) (dv_var (pv 5)) dv_str)) (fun po => pe_bm0 PySem.F.plainAttrs_list PySem.F.slot_list_clear PySem.F.type_list_clear mt_clear po)) (dss_cons (ds_if (dt_w (dw_or (dt_not (dt_tru (dv_of (do_call F__law_told_right hr rfl (da_cons (dv_var (pv 6)) (da_cons (dv_var (pv 4)) da_nil)))))) (dw_or1 (dt_not (dt_tru (dv_of (do_call F__law_boxes_right hr rfl (da_cons (dv_var (pv 6)) (da_cons (dv_var (pv 4)) (da_cons (dv_of (do_bin op_fdivW r_div (dv_var (pv 3)) dv_int)) da_nil)))))))))) (dss_cons (ds_ret (do_val dv_bl)) dss_nil) dss_nil) (dss_cons (ds_if (dt_not (dt_tru (dv_of (do_call F__law_refused hr rfl (da_cons (dv_var (pv 4)) (da_cons (dv_of (do_bin op_fdivW r_div (dv_var (pv 3)) dv_int)) da_nil)))))) (dss_cons (ds_ret (do_val dv_bl)) dss_nil) dss_nil) dss_nil))))))))) (dss_cons (ds_ret (do_val dv_bl)) dss_nil))
theorem G_law {f : Addr} {fd : FuncData} (ev : Ev K mg) (F__law_spread : DFn P w K mg base 8 "_law_spread" 2 c__law_spread) (F__law_drawn : DFn P w K mg base 8 "_law_drawn" 2 c__law_drawn) (F__law_machine : DFn P w K mg base 8 "_law_machine" 1 c__law_machine) (F__law_told_right : DFn P w K mg base 8 "_law_told_right" 2 c__law_told_right) (F__law_boxes_right : DFn P w K mg base 8 "_law_boxes_right" 3 c__law_boxes_right) (F__law_refused : DFn P w K mg base 8 "_law_refused" 2 c__law_refused) (F : FunD K "law" "law" (defArgs st_law) (defBody st_law) (defScope st_law) [] [] f fd) : FnOk P w K mg base (L2.CX P w) 9 f fd ["_law_script"] (spD K 1 m_law) ∧ Binds K fd ["_law_script"] [] :=
  ⟨fn_def F sc_law (fun cdv A outer s H E hr => d_law ev F__law_spread F__law_drawn F__law_machine F__law_told_right F__law_boxes_right F__law_refused f cdv A outer s H E hr), F.bindsN fun _ _ _ _ _ _ us hl => match us, hl with | [_], _ => rfl⟩
end
end FW
end
section
set_option maxHeartbeats 4000000
/-! the plain law: numbers, names. -/
namespace FW
open PySem
theorem seq_nx {a b : MS} {ρ ρ1 : List Slot} {S S1 : Sto} {r : RS} (h : a ρ S = .nx ρ1 S1) (k : b ρ1 S1 = r) : sSeq a b ρ S = r := by simp only [sSeq, h, k]
theorem seq_rt {a b : MS} {ρ : List Slot} {S S1 : Sto} {s : Slot} (h : a ρ S = .rt s S1) : sSeq a b ρ S = .rt s S1 := by simp only [sSeq, h]
theorem seq_ex {a b : MS} {ρ ρ1 : List Slot} {S S1 : Sto} {s : Exc} (h : a ρ S = .ex s ρ1 S1) : sSeq a b ρ S = .ex s ρ1 S1 := by simp only [sSeq, h]
theorem mdef_rt {N : List Str} {b : MS} {ds : List D} {ρ : List Slot} {S S' : Sto} {s : Slot} (h : startD N ds = ρ) (k : b ρ S = .rt s S') : mDef N b ds S = .ok s S' := by simp only [mDef, h, k]
theorem mdef_nx {N : List Str} {b : MS} {ds : List D} {ρ ρ' : List Slot} {S S' : Sto} (h : startD N ds = ρ) (k : b ρ S = .nx ρ' S') : mDef N b ds S = .ok (.val .non) S' := by simp only [mDef, h, k]
theorem mdef_ex {N : List Str} {b : MS} {ds : List D} {ρ ρ' : List Slot} {S S' : Sto} {e : Exc} (h : startD N ds = ρ) (k : b ρ S = .ex e ρ' S') : mDef N b ds S = .err e S' := by simp only [mDef, h, k]
theorem mul_s {S : Sto} {i j : Int} (h1 : -1000000000000000000000000000000000000000000000000000000000000000000000000000000000000000000 ≤ i) (h2 : i ≤ 1000000000000000000000000000000000000000000000000000000000000000000000000000000000000000000)
    (h3 : -1000000000000000000000000000000000000000000000000000000000000000000000000000000000000000000 ≤ j) (h4 : j ≤ 1000000000000000000000000000000000000000000000000000000000000000000000000000000000000000000) : opMul S (.int i) (.int j) = some (.val (.int (i * j))) := by
  have e : (1000000000000000000000000000000000000000000000000000000000000000000000000000000000000000000 : Int) < 2 ^ 600 := by decide +kernel
  simp only [opMul, opI2, fMulA]
  rw [if_pos (.inr ⟨by omega, by omega, by omega, by omega⟩)]; rfl
theorem mul_b {S : Sto} {i j : Int} (h1 : -18446744073709551616 < j) (h2 : j < 18446744073709551616) : opMul S (.int i) (.int j) = some (.val (.int (i * j))) := by
  simp only [opMul, opI2, fMulA]
  rw [if_pos (.inl ⟨by omega, by omega⟩)]; rfl
theorem div_s {S : Sto} {i j : Int} (h1 : 0 < j) (h2 : j ≤ 1000000000000000000000000000000000000000000000000000000000000000000000000000000000000000000) : opI2 fDiv S (.int i) (.int j) = some (.val (.int (i / j))) := by
  have e : (1000000000000000000000000000000000000000000000000000000000000000000000000000000000000000000 : Int) < 2 ^ 600 := by decide +kernel
  simp only [opI2, fDiv]
  rw [if_pos ⟨by omega, by omega⟩]; rfl
theorem mod_s {S : Sto} {i j : Int} (h1 : 0 < j) : opI2 fMod S (.int i) (.int j) = some (.val (.int (i % j))) := by
  simp only [opI2, fMod]
  rw [if_pos h1]; rfl
theorem pow_s {S : Sto} {i j : Int} (h1 : 0 ≤ j) (h2 : j ≤ 100) (h3 : 0 ≤ i) (h4 : i ≤ 1000) : opI2 fPow S (.int i) (.int j) = some (.val (.int (i ^ j.toNat))) := by
  simp only [opI2, fPow]
  rw [if_pos ⟨h1, h2, h3, h4⟩]; rfl
theorem add_s {S : Sto} {i j : Int} : opAdd S (.int i) (.int j) = some (.val (.int (i + j))) := rfl
theorem sub_s {S : Sto} {i j : Int} : opSub S (.int i) (.int j) = some (.val (.int (i - j))) := rfl
theorem cat_s {S : Sto} {a b : List D} : opAdd S (.lst a) (.lst b) = if a.length + b.length ≤ 1000000 then some (.own (.lst (a ++ b))) else none := rfl
theorem lt_s {S : Sto} {i j : Int} : cLt S (.int i) (.int j) = some (decide (i < j)) := rfl
theorem le_s {S : Sto} {i j : Int} : cLe S (.int i) (.int j) = some (decide (i ≤ j)) := rfl
theorem gt_s {S : Sto} {i j : Int} : cGt S (.int i) (.int j) = some (decide (j < i)) := rfl
theorem ge_s {S : Sto} {i j : Int} : cGe S (.int i) (.int j) = some (decide (j ≤ i)) := rfl
theorem lk_non {S : Sto} : lookD S .non = .non := rfl
theorem lk_bl {S : Sto} {b : Bool} : lookD S (.bl b) = .bl b := rfl
theorem lk_int {S : Sto} {i : Int} : lookD S (.int i) = .int i := rfl
theorem lk_str {S : Sto} {x : Str} : lookD S (.str x) = .str x := rfl
theorem lk_ty {S : Sto} {x : String} : lookD S (.ty x) = .ty x := rfl
theorem lk_cls {S : Sto} {x : String} : lookD S (.cls x) = .cls x := rfl
theorem lk_lst {S : Sto} {x : List D} : lookD S (.lst x) = .lst x := rfl
theorem lk_tup {S : Sto} {x : List D} : lookD S (.tup x) = .tup x := rfl
theorem lk_dic {S : Sto} {x : List (L2.Key × D)} : lookD S (.dic x) = .dic x := rfl
theorem lk_obj {S : Sto} {c : String} {x : List (String × D)} : lookD S (.obj c x) = .obj c x := rfl
theorem lk_exc {S : Sto} {c : String} {x : List (String × D)} : lookD S (.exc c x) = .exc c x := rfl
theorem lk_ref {S : Sto} {i : Nat} : lookD S (.ref i) = match S[i]? with
    | some (some c) => c.d
    | _ => .ref i := rfl
/-! the store, its new cells behind the old ones -/
theorem st_get0 {S X : Sto} : (S ++ X)[S.length]? = X[0]? := by rw [List.getElem?_append_right (Nat.le_refl _), Nat.sub_self]
theorem st_get {S X : Sto} {k : Nat} : (S ++ X)[S.length + k]? = X[k]? := by rw [List.getElem?_append_right (by omega)]; congr 1; omega
theorem st_set0 {S X : Sto} {c : Option Cell} : (S ++ X).set S.length c = S ++ X.set 0 c := by rw [List.set_append_right _ _ (Nat.le_refl _), Nat.sub_self]
theorem st_set {S X : Sto} {k : Nat} {c : Option Cell} : (S ++ X).set (S.length + k) c = S ++ X.set k c := by
  rw [List.set_append_right _ _ (by omega)]; congr 2; omega
theorem st_take {S X : Sto} : (S ++ X).take S.length = S := by simp
theorem tab0 {S X : Sto} {f : Nat} {n : Nat} (h : n = S.length) : tabN n (S ++ X) (f + 1) S.length = match X[0]? with
    | some (some c) => sub (tabN n (S ++ X) f) c.d
    | _ => none := by
  subst h
  simp only [tabN, Nat.lt_irrefl, if_false, st_get0]
  all_goals rfl
theorem tab_ {S X : Sto} {f k : Nat} {n : Nat} (h : n = S.length) : tabN n (S ++ X) (f + 1) (S.length + k) = match X[k]? with
    | some (some c) => sub (tabN n (S ++ X) f) c.d
    | _ => none := by
  subst h
  simp only [tabN, st_get]
  rw [if_neg (by omega)]
  all_goals rfl
def isW (d : D) (lo hi : Int) : Bool := match d with
  | .int i => decide (lo ≤ i) && decide (i ≤ hi)
  | _ => false
/-- a thing of a built-in kind -/
def plain (d : D) : Bool := match d with
  | .non | .bl _ | .int _ | .str _ | .lst _ | .tup _ | .dic _ => true
  | _ => false
theorem e_is_whole {d : D} {lo hi : Int} {S : Sto} (h : plain (lookD S d) = true) : m_is_whole [d, .int lo, .int hi] S = .ok (.val (.bl (isW d lo hi))) S := by
  cases d with
  | ref n =>
    cases q : S[n]? with
    | none => simp [lookD, q, plain] at h
    | some o => cases o with
      | none => simp [lookD, q, plain] at h
      | some c => cases c with
        | obj c fs => simp [lookD, q, plain, Cell.d] at h
        | lst xs => simp [m_is_whole, b_is_whole, N_is_whole, fIsi, isi1, tyN, T, isW, q, mDef, startD, sSeq, sNext, sSet, sRet, sRetV, sRetN, sIf, sExpr, sRaise, sAug, sPar, sTgt, sApp, sFrz, sTryAs, rBind, R.bind, mMap, mBin, mUn, mCmp, mChain, mFn, mCall, mAnd, mOr, mNot, mTru, mAndV, mOrV, mNotV, mIf, aNil, aCons, oLst, eVar, eC, lift2, liftB, lk_non, lk_bl, lk_int, lk_str, lk_ty, lk_cls, lk_lst, lk_tup, lk_dic, lk_obj, lk_exc, lk_ref, Slot.d, Cell.d, lt_s, le_s, gt_s, ge_s, cIsN, cIsNN, truD, fNeg, fAddI, fSubI, List.getElem?_cons_zero, List.getElem?_cons_succ, List.set_cons_zero, List.set_cons_succ, add_s, cat_s, sub_s, mFld, fFld, mMeth, mSl, pAt, pNo, mTM, mDisp, ppC, mGet1, mGet2, mRef, toRef, noErr, List.lookup_cons]
        | dic xs => simp [m_is_whole, b_is_whole, N_is_whole, fIsi, isi1, tyN, T, isW, q, mDef, startD, sSeq, sNext, sSet, sRet, sRetV, sRetN, sIf, sExpr, sRaise, sAug, sPar, sTgt, sApp, sFrz, sTryAs, rBind, R.bind, mMap, mBin, mUn, mCmp, mChain, mFn, mCall, mAnd, mOr, mNot, mTru, mAndV, mOrV, mNotV, mIf, aNil, aCons, oLst, eVar, eC, lift2, liftB, lk_non, lk_bl, lk_int, lk_str, lk_ty, lk_cls, lk_lst, lk_tup, lk_dic, lk_obj, lk_exc, lk_ref, Slot.d, Cell.d, lt_s, le_s, gt_s, ge_s, cIsN, cIsNN, truD, fNeg, fAddI, fSubI, List.getElem?_cons_zero, List.getElem?_cons_succ, List.set_cons_zero, List.set_cons_succ, add_s, cat_s, sub_s, mFld, fFld, mMeth, mSl, pAt, pNo, mTM, mDisp, ppC, mGet1, mGet2, mRef, toRef, noErr, List.lookup_cons]
  | int i =>
    simp [m_is_whole, b_is_whole, N_is_whole, fIsi, isi1, tyN, T, isW, mDef, startD, sSeq, sNext, sSet, sRet, sRetV, sRetN, sIf, sExpr, sRaise, sAug, sPar, sTgt, sApp, sFrz, sTryAs, rBind, R.bind, mMap, mBin, mUn, mCmp, mChain, mFn, mCall, mAnd, mOr, mNot, mTru, mAndV, mOrV, mNotV, mIf, aNil, aCons, oLst, eVar, eC, lift2, liftB, lk_non, lk_bl, lk_int, lk_str, lk_ty, lk_cls, lk_lst, lk_tup, lk_dic, lk_obj, lk_exc, lk_ref, Slot.d, Cell.d, lt_s, le_s, gt_s, ge_s, cIsN, cIsNN, truD, fNeg, fAddI, fSubI, List.getElem?_cons_zero, List.getElem?_cons_succ, List.set_cons_zero, List.set_cons_succ, add_s, cat_s, sub_s, mFld, fFld, mMeth, mSl, pAt, pNo, mTM, mDisp, ppC, mGet1, mGet2, mRef, toRef, noErr, List.lookup_cons]
    by_cases h1 : lo ≤ i <;> simp [h1]
  | _ => first
    | (simp [lookD, plain] at h; done)
    | (simp [m_is_whole, b_is_whole, N_is_whole, fIsi, isi1, tyN, T, isW, mDef, startD, sSeq, sNext, sSet, sRet, sRetV, sRetN, sIf, sExpr, sRaise, sAug, sPar, sTgt, sApp, sFrz, sTryAs, rBind, R.bind, mMap, mBin, mUn, mCmp, mChain, mFn, mCall, mAnd, mOr, mNot, mTru, mAndV, mOrV, mNotV, mIf, aNil, aCons, oLst, eVar, eC, lift2, liftB, lk_non, lk_bl, lk_int, lk_str, lk_ty, lk_cls, lk_lst, lk_tup, lk_dic, lk_obj, lk_exc, lk_ref, Slot.d, Cell.d, lt_s, le_s, gt_s, ge_s, cIsN, cIsNN, truD, fNeg, fAddI, fSubI, List.getElem?_cons_zero, List.getElem?_cons_succ, List.set_cons_zero, List.set_cons_succ, add_s, cat_s, sub_s, mFld, fFld, mMeth, mSl, pAt, pNo, mTM, mDisp, ppC, mGet1, mGet2, mRef, toRef, noErr, List.lookup_cons]; done)
theorem e_need_whole {d : D} {lo hi : Int} {S : Sto} (h : plain (lookD S d) = true) : m_need_whole [d, .int lo, .int hi] S = if isW d lo hi then .ok (.val .non) S else .err ⟨"BadNumber", []⟩ S := by
  simp [m_need_whole, b_need_whole, N_need_whole, c_is_whole, e_is_whole h, mDef, startD, sSeq, sNext, sSet, sRet, sRetV, sRetN, sIf, sExpr, sRaise, sAug, sPar, sTgt, sApp, sFrz, sTryAs, rBind, R.bind, mMap, mBin, mUn, mCmp, mChain, mFn, mCall, mAnd, mOr, mNot, mTru, mAndV, mOrV, mNotV, mIf, aNil, aCons, oLst, eVar, eC, lift2, liftB, lk_non, lk_bl, lk_int, lk_str, lk_ty, lk_cls, lk_lst, lk_tup, lk_dic, lk_obj, lk_exc, lk_ref, Slot.d, Cell.d, lt_s, le_s, gt_s, ge_s, cIsN, cIsNN, truD, fNeg, fAddI, fSubI, List.getElem?_cons_zero, List.getElem?_cons_succ, List.set_cons_zero, List.set_cons_succ, add_s, cat_s, sub_s, mFld, fFld, mMeth, mSl, pAt, pNo, mTM, mDisp, ppC, mGet1, mGet2, mRef, toRef, noErr, List.lookup_cons]
  by_cases h1 : isW d lo hi = true <;> simp [h1]
theorem e_need_place {d : D} {S : Sto} (h : plain (lookD S d) = true) : m_need_place [d] S = if isW d (-1000000000) 1000000000 then .ok (.val .non) S else .err ⟨"BadNumber", []⟩ S := by
  simp [m_need_place, b_need_place, N_need_place, c_need_whole, e_need_whole h, mDef, startD, sSeq, sNext, sSet, sRet, sRetV, sRetN, sIf, sExpr, sRaise, sAug, sPar, sTgt, sApp, sFrz, sTryAs, rBind, R.bind, mMap, mBin, mUn, mCmp, mChain, mFn, mCall, mAnd, mOr, mNot, mTru, mAndV, mOrV, mNotV, mIf, aNil, aCons, oLst, eVar, eC, lift2, liftB, lk_non, lk_bl, lk_int, lk_str, lk_ty, lk_cls, lk_lst, lk_tup, lk_dic, lk_obj, lk_exc, lk_ref, Slot.d, Cell.d, lt_s, le_s, gt_s, ge_s, cIsN, cIsNN, truD, fNeg, fAddI, fSubI, List.getElem?_cons_zero, List.getElem?_cons_succ, List.set_cons_zero, List.set_cons_succ, add_s, cat_s, sub_s, mFld, fFld, mMeth, mSl, pAt, pNo, mTM, mDisp, ppC, mGet1, mGet2, mRef, toRef, noErr, List.lookup_cons]
  by_cases h1 : isW d (-1000000000) 1000000000 = true <;> simp [h1]
theorem e_need_sizes {a b : D} {S : Sto} (h : plain (lookD S a) = true) (h2 : plain (lookD S b) = true) : m_need_sizes [a, b] S = if isW a 1 1000000 && isW b 1 1000000 then .ok (.val .non) S else .err ⟨"BadNumber", []⟩ S := by
  by_cases h1 : isW a 1 1000000 = true
  · by_cases h3 : isW b 1 1000000 = true <;> simp [m_need_sizes, b_need_sizes, b_need_sizes_0, b_need_sizes_1, N_need_sizes, c_need_whole, e_need_whole h, e_need_whole h2, h1, h3, mDef, startD, sSeq, sNext, sSet, sRet, sRetV, sRetN, sIf, sExpr, sRaise, sAug, sPar, sTgt, sApp, sFrz, sTryAs, rBind, R.bind, mMap, mBin, mUn, mCmp, mChain, mFn, mCall, mAnd, mOr, mNot, mTru, mAndV, mOrV, mNotV, mIf, aNil, aCons, oLst, eVar, eC, lift2, liftB, lk_non, lk_bl, lk_int, lk_str, lk_ty, lk_cls, lk_lst, lk_tup, lk_dic, lk_obj, lk_exc, lk_ref, Slot.d, Cell.d, lt_s, le_s, gt_s, ge_s, cIsN, cIsNN, truD, fNeg, fAddI, fSubI, List.getElem?_cons_zero, List.getElem?_cons_succ, List.set_cons_zero, List.set_cons_succ, add_s, cat_s, sub_s, mFld, fFld, mMeth, mSl, pAt, pNo, mTM, mDisp, ppC, mGet1, mGet2, mRef, toRef, noErr, List.lookup_cons]
  · simp [m_need_sizes, b_need_sizes, b_need_sizes_0, b_need_sizes_1, N_need_sizes, c_need_whole, e_need_whole h, e_need_whole h2, h1, mDef, startD, sSeq, sNext, sSet, sRet, sRetV, sRetN, sIf, sExpr, sRaise, sAug, sPar, sTgt, sApp, sFrz, sTryAs, rBind, R.bind, mMap, mBin, mUn, mCmp, mChain, mFn, mCall, mAnd, mOr, mNot, mTru, mAndV, mOrV, mNotV, mIf, aNil, aCons, oLst, eVar, eC, lift2, liftB, lk_non, lk_bl, lk_int, lk_str, lk_ty, lk_cls, lk_lst, lk_tup, lk_dic, lk_obj, lk_exc, lk_ref, Slot.d, Cell.d, lt_s, le_s, gt_s, ge_s, cIsN, cIsNN, truD, fNeg, fAddI, fSubI, List.getElem?_cons_zero, List.getElem?_cons_succ, List.set_cons_zero, List.set_cons_succ, add_s, cat_s, sub_s, mFld, fFld, mMeth, mSl, pAt, pNo, mTM, mDisp, ppC, mGet1, mGet2, mRef, toRef, noErr, List.lookup_cons]
theorem isW_int {d : D} {lo hi : Int} (h : isW d lo hi = true) : ∃ i, d = .int i ∧ lo ≤ i ∧ i ≤ hi := by
  cases d <;> simp [isW] at h
  exact ⟨_, rfl, h⟩
/-! comprehensions whose turns are plain -/
theorem lc_all {C : Gds} {gm : D → List Slot → Option (List Slot)} {ρ : List Slot} {mt : M Bool} {me : M D} {S : Sto} (f : D → D) (hC : Gok C S) : ∀ (ds acc : List D), (∀ d ∈ ds, ∃ ρ1, gm d ρ = some ρ1 ∧ mt ρ1 S = .ok true S ∧ me ρ1 S = .ok (f d) S) → lcLoop C gm ρ mt me ds acc S = .ok (acc ++ ds.map f) S
  | [], acc, _ => by simp [lcLoop, hC]
  | d :: ds, acc, h => by
    obtain ⟨ρ1, a, b, c⟩ := h d (by simp)
    simp only [lcLoop, if_pos hC, a, b, c, R.bind, cond_true]
    rw [lc_all f hC ds _ fun x hx => h x (by simp [hx])]
    simp
theorem lc_map {C : Gds} {gm : D → List Slot → Option (List Slot)} {ρ : List Slot} {me : M D} {S : Sto} {ds : List D} (f : D → D) (hC : Gok C S) (h : ∀ d ∈ ds, ∃ ρ1, gm d ρ = some ρ1 ∧ me ρ1 S = .ok (f d) S) : lcLoop C gm ρ (eC true) me ds [] S = .ok (ds.map f) S := by
  have := lc_all (C := C) (gm := gm) (ρ := ρ) (mt := eC true) (me := me) (S := S) f hC ds [] fun d hd => by
    obtain ⟨ρ1, a, b⟩ := h d hd
    exact ⟨ρ1, a, rfl, b⟩
  simpa using this
def letters : Str := Str.ofString "abcdefghijklmnopqrstuvwxyz"
def isLet (c : Nat) : Bool := decide (c ∈ letters.cps.toList)
def isNm (x : Str) : Bool := decide (1 ≤ x.length) && decide (x.length ≤ 8) && x.cps.toList.all isLet
def isName (d : D) : Bool := match d with
  | .str x => isNm x
  | _ => false
/-- .. whose length, if it is a text, is no matter -/
def plainS (d : D) : Bool := match d with
  | .str x => decide (x.length ≤ 1000000)
  | .non | .bl _ | .int _ | .lst _ | .tup _ | .dic _ => true
  | _ => false
theorem signs_all {x : Str} {S : Sto} {ρ : List Slot} {i : Nat} (h : i < ρ.length) : lcLoop [] (gN i) ρ (eC true) (mMap D.bl (mCmp cIn (eVar i) (eC (.str (Str.ofString "abcdefghijklmnopqrstuvwxyz"))))) (signsD x) [] S = .ok (x.cps.toList.map fun c => D.bl (isLet c)) S := by
  have := lc_map (C := []) (gm := gN i) (ρ := ρ) (S := S) (ds := signsD x) (me := mMap D.bl (mCmp cIn (eVar i) (eC (.str (Str.ofString "abcdefghijklmnopqrstuvwxyz"))))) (fun d => match d with
    | .str z => .bl (z.cps.toList.all isLet)
    | _ => .non) (gok_nil.mpr trivial) (fun d hd => by
      simp only [signsD, List.mem_map] at hd
      obtain ⟨c, _, rfl⟩ := hd
      refine ⟨ρ.set i (.val (.str ⟨#[c]⟩)), rfl, ?_⟩
      simp [eVar, h, cIn, isLet, letters, mDef, startD, sSeq, sNext, sSet, sRet, sRetV, sRetN, sIf, sExpr, sRaise, sAug, sPar, sTgt, sApp, sFrz, sTryAs, rBind, R.bind, mMap, mBin, mUn, mCmp, mChain, mFn, mCall, mAnd, mOr, mNot, mTru, mAndV, mOrV, mNotV, mIf, aNil, aCons, oLst, eVar, eC, lift2, liftB, lk_non, lk_bl, lk_int, lk_str, lk_ty, lk_cls, lk_lst, lk_tup, lk_dic, lk_obj, lk_exc, lk_ref, Slot.d, Cell.d, lt_s, le_s, gt_s, ge_s, cIsN, cIsNN, truD, fNeg, fAddI, fSubI, List.getElem?_cons_zero, List.getElem?_cons_succ, List.set_cons_zero, List.set_cons_succ, add_s, cat_s, sub_s, mFld, fFld, mMeth, mSl, pAt, pNo, mTM, mDisp, ppC, mGet1, mGet2, mRef, toRef, noErr, List.lookup_cons])
  rw [this]
  simp [signsD]
theorem bls_signs (x : Str) : blsD (x.cps.toList.map fun c => D.bl (isLet c)) = some (x.cps.toList.map isLet) := by
  have := blsD_map (x.cps.toList.map isLet)
  rw [List.map_map] at this
  exact this
theorem e_is_name {d : D} {S : Sto} (h : plainS d = true) : m_is_name [d] S = .ok (.val (.bl (isName d))) S := by
  cases d with
  | str x =>
    have hx : x.length ≤ 1000000 := by simpa [plainS] using h
    have hs : x.cps.toList.length ≤ 1000000 := by simpa [Str.length] using hx
    by_cases h1 : (1 : Int) ≤ x.length
    · by_cases h2 : (x.length : Int) ≤ 8
      · have z := signs_all (x := x) (S := S) (ρ := [.val (.str x), .none]) (i := 1) (by simp)
        have n1 : 1 ≤ x.length := by omega
        have n2 : x.length ≤ 8 := by omega
        have l : (signsD x).length ≤ 1000000 := by simpa [signsD] using hs
        have e0 : isNm x = x.cps.toList.all isLet := by simp [isNm, n1, n2]
        simp [m_is_name, b_is_name, b_is_name_0, b_is_name_1, N_is_name, fIsi, isi1, tyN, T, fLen, isName, hx, h1, h2, mLc, mThen, fSigns, wipeD, l, z, fAll, bls_signs, e0, mDef, startD, sSeq, sNext, sSet, sRet, sRetV, sRetN, sIf, sExpr, sRaise, sAug, sPar, sTgt, sApp, sFrz, sTryAs, rBind, R.bind, mMap, mBin, mUn, mCmp, mChain, mFn, mCall, mAnd, mOr, mNot, mTru, mAndV, mOrV, mNotV, mIf, aNil, aCons, oLst, eVar, eC, lift2, liftB, lk_non, lk_bl, lk_int, lk_str, lk_ty, lk_cls, lk_lst, lk_tup, lk_dic, lk_obj, lk_exc, lk_ref, Slot.d, Cell.d, lt_s, le_s, gt_s, ge_s, cIsN, cIsNN, truD, fNeg, fAddI, fSubI, List.getElem?_cons_zero, List.getElem?_cons_succ, List.set_cons_zero, List.set_cons_succ, add_s, cat_s, sub_s, mFld, fFld, mMeth, mSl, pAt, pNo, mTM, mDisp, ppC, mGet1, mGet2, mRef, toRef, noErr, List.lookup_cons]
      · have n2 : ¬ x.length ≤ 8 := by omega
        simp [m_is_name, b_is_name, b_is_name_0, b_is_name_1, N_is_name, fIsi, isi1, tyN, T, fLen, isName, isNm, hx, h1, h2, n2, mDef, startD, sSeq, sNext, sSet, sRet, sRetV, sRetN, sIf, sExpr, sRaise, sAug, sPar, sTgt, sApp, sFrz, sTryAs, rBind, R.bind, mMap, mBin, mUn, mCmp, mChain, mFn, mCall, mAnd, mOr, mNot, mTru, mAndV, mOrV, mNotV, mIf, aNil, aCons, oLst, eVar, eC, lift2, liftB, lk_non, lk_bl, lk_int, lk_str, lk_ty, lk_cls, lk_lst, lk_tup, lk_dic, lk_obj, lk_exc, lk_ref, Slot.d, Cell.d, lt_s, le_s, gt_s, ge_s, cIsN, cIsNN, truD, fNeg, fAddI, fSubI, List.getElem?_cons_zero, List.getElem?_cons_succ, List.set_cons_zero, List.set_cons_succ, add_s, cat_s, sub_s, mFld, fFld, mMeth, mSl, pAt, pNo, mTM, mDisp, ppC, mGet1, mGet2, mRef, toRef, noErr, List.lookup_cons]
    · have n1 : ¬ 1 ≤ x.length := by omega
      simp [m_is_name, b_is_name, b_is_name_0, b_is_name_1, N_is_name, fIsi, isi1, tyN, T, fLen, isName, isNm, hx, h1, n1, mDef, startD, sSeq, sNext, sSet, sRet, sRetV, sRetN, sIf, sExpr, sRaise, sAug, sPar, sTgt, sApp, sFrz, sTryAs, rBind, R.bind, mMap, mBin, mUn, mCmp, mChain, mFn, mCall, mAnd, mOr, mNot, mTru, mAndV, mOrV, mNotV, mIf, aNil, aCons, oLst, eVar, eC, lift2, liftB, lk_non, lk_bl, lk_int, lk_str, lk_ty, lk_cls, lk_lst, lk_tup, lk_dic, lk_obj, lk_exc, lk_ref, Slot.d, Cell.d, lt_s, le_s, gt_s, ge_s, cIsN, cIsNN, truD, fNeg, fAddI, fSubI, List.getElem?_cons_zero, List.getElem?_cons_succ, List.set_cons_zero, List.set_cons_succ, add_s, cat_s, sub_s, mFld, fFld, mMeth, mSl, pAt, pNo, mTM, mDisp, ppC, mGet1, mGet2, mRef, toRef, noErr, List.lookup_cons]
  | _ => first
    | (simp [plainS] at h; done)
    | (simp [m_is_name, b_is_name, b_is_name_0, b_is_name_1, N_is_name, fIsi, isi1, tyN, T, isName, mDef, startD, sSeq, sNext, sSet, sRet, sRetV, sRetN, sIf, sExpr, sRaise, sAug, sPar, sTgt, sApp, sFrz, sTryAs, rBind, R.bind, mMap, mBin, mUn, mCmp, mChain, mFn, mCall, mAnd, mOr, mNot, mTru, mAndV, mOrV, mNotV, mIf, aNil, aCons, oLst, eVar, eC, lift2, liftB, lk_non, lk_bl, lk_int, lk_str, lk_ty, lk_cls, lk_lst, lk_tup, lk_dic, lk_obj, lk_exc, lk_ref, Slot.d, Cell.d, lt_s, le_s, gt_s, ge_s, cIsN, cIsNN, truD, fNeg, fAddI, fSubI, List.getElem?_cons_zero, List.getElem?_cons_succ, List.set_cons_zero, List.set_cons_succ, add_s, cat_s, sub_s, mFld, fFld, mMeth, mSl, pAt, pNo, mTM, mDisp, ppC, mGet1, mGet2, mRef, toRef, noErr, List.lookup_cons]; done)
end FW
end
section
set_option maxHeartbeats 4000000
/-! the plain law: machines are made. -/
namespace FW
open PySem
def zD : D → Int
  | .int i => i
  | _ => 0
def okCom (a1 a2 a3 a4 a5 : D) : Bool := isW a1 (-1000000000) 1000000000 && (isW a2 (zD a1) 1000000000 && (isW a3 1 1000000000 && (isW a4 1 1000000000 && isW a5 (zD a1) (zD a2))))
def comF (nm a1 a2 a3 a4 a5 : D) : List (String × D) := [("name", nm), ("least", a1), ("greatest", a2), ("pace", a3), ("gain", a4), ("place", a5), ("rail", .int 0), ("long", .int 1)]
abbrev isMach (c : String) : Prop := c = "Line" ∨ c = "Wagon" ∨ c = "Floor" ∨ c = "Trap"
def badName : Exc := ⟨"BadName", []⟩
def badNumber : Exc := ⟨"BadNumber", []⟩
theorem set_self {S : Sto} {n : Nat} {x : Option Cell} (h : S[n]? = some x) : S.set n x = S := by
  apply List.ext_getElem?
  intro i
  by_cases q : n = i
  · subst q
    have hl := (List.getElem?_eq_some_iff.mp h).1
    rw [List.getElem?_set_self hl, h]
  · rw [List.getElem?_set_ne q]
theorem set_get {S : Sto} {n : Nat} {x : Option Cell} (h : n < S.length) : (S.set n x)[n]? = some x := List.getElem?_set_self h
theorem fld_next {cs : List String} {f c : String} {fs : List (String × D)} {n : Nat} {m : M D} {d : D} {ρ : List Slot} {S : Sto} (h0 : ρ[0]? = some (.val (.ref n))) (hlt : n < S.length) (hc : cs.contains c = true) (hl : fs.length < 1000) (hm : ∀ S', m ρ S' = .ok d S') :
    sFldR cs f (eVar 0) m ρ (S.set n (some (.obj c fs))) = .nx ρ (S.set n (some (.obj c (putFD f d fs)))) := by
  have e : eVar 0 ρ (S.set n (some (.obj c fs))) = .ok (.ref n) (S.set n (some (.obj c fs))) := by unfold eVar; rw [h0]
  unfold sFldR
  rw [hm]
  simp only [rBind]
  rw [e]
  simp only [rBind, set_get hlt, hc, hl, decide_true, Bool.and_true, if_true, List.set_set]
theorem e_Machine_init {n : Nat} {c : String} {nm a1 a2 a3 a4 a5 : D} {S : Sto} (hn : S[n]? = some (some (.obj c []))) (hc : isMach c) (h0 : plainS nm = true) (h1 : plain (lookD S a1) = true) (h2 : plain (lookD S a2) = true) (h3 : plain (lookD S a3) = true) (h4 : plain (lookD S a4) = true) (h5 : plain (lookD S a5) = true) :
    m_Machine_init [.ref n, nm, a1, a2, a3, a4, a5] S = if isName nm then (if okCom a1 a2 a3 a4 a5 then .ok (.val .non) (S.set n (some (.obj c (comF nm a1 a2 a3 a4 a5)))) else .err badNumber S) else .err badName S := by
  have hlt : n < S.length := (List.getElem?_eq_some_iff.mp hn).1
  by_cases g0 : isName nm = true
  · rw [if_pos g0]
    have s0 : b_Machine_init_0 [.val (.ref n), .val nm, .val a1, .val a2, .val a3, .val a4, .val a5] S = .nx [.val (.ref n), .val nm, .val a1, .val a2, .val a3, .val a4, .val a5] S := by
      simp [b_Machine_init_0, c_is_name, e_is_name h0, g0, mDef, startD, sSeq, sNext, sSet, sRet, sRetV, sRetN, sIf, sExpr, sRaise, sAug, sPar, sTgt, sApp, sFrz, sTryAs, rBind, R.bind, mMap, mBin, mUn, mCmp, mChain, mFn, mCall, mAnd, mOr, mNot, mTru, mAndV, mOrV, mNotV, mIf, aNil, aCons, oLst, eVar, eC, lift2, liftB, lk_non, lk_bl, lk_int, lk_str, lk_ty, lk_cls, lk_lst, lk_tup, lk_dic, lk_obj, lk_exc, lk_ref, Slot.d, Cell.d, lt_s, le_s, gt_s, ge_s, cIsN, cIsNN, truD, fNeg, fAddI, fSubI, List.getElem?_cons_zero, List.getElem?_cons_succ, List.set_cons_zero, List.set_cons_succ, add_s, cat_s, sub_s, mFld, fFld, mMeth, mSl, pAt, pNo, mTM, mDisp, ppC, mGet1, mGet2, mRef, toRef, noErr, List.lookup_cons]
    by_cases g1 : isW a1 (-1000000000) 1000000000 = true
    · have s1 : b_Machine_init_1 [.val (.ref n), .val nm, .val a1, .val a2, .val a3, .val a4, .val a5] S = .nx [.val (.ref n), .val nm, .val a1, .val a2, .val a3, .val a4, .val a5] S := by
        simp [b_Machine_init_1, c_need_place, e_need_place h1, g1, mDef, startD, sSeq, sNext, sSet, sRet, sRetV, sRetN, sIf, sExpr, sRaise, sAug, sPar, sTgt, sApp, sFrz, sTryAs, rBind, R.bind, mMap, mBin, mUn, mCmp, mChain, mFn, mCall, mAnd, mOr, mNot, mTru, mAndV, mOrV, mNotV, mIf, aNil, aCons, oLst, eVar, eC, lift2, liftB, lk_non, lk_bl, lk_int, lk_str, lk_ty, lk_cls, lk_lst, lk_tup, lk_dic, lk_obj, lk_exc, lk_ref, Slot.d, Cell.d, lt_s, le_s, gt_s, ge_s, cIsN, cIsNN, truD, fNeg, fAddI, fSubI, List.getElem?_cons_zero, List.getElem?_cons_succ, List.set_cons_zero, List.set_cons_succ, add_s, cat_s, sub_s, mFld, fFld, mMeth, mSl, pAt, pNo, mTM, mDisp, ppC, mGet1, mGet2, mRef, toRef, noErr, List.lookup_cons]
      obtain ⟨i1, rfl, i11, i12⟩ := isW_int g1
      by_cases g2 : isW a2 i1 1000000000 = true
      · have s2 : b_Machine_init_2 [.val (.ref n), .val nm, .val (.int i1), .val a2, .val a3, .val a4, .val a5] S = .nx [.val (.ref n), .val nm, .val (.int i1), .val a2, .val a3, .val a4, .val a5] S := by
          simp [b_Machine_init_2, c_need_whole, e_need_whole h2, g2, mDef, startD, sSeq, sNext, sSet, sRet, sRetV, sRetN, sIf, sExpr, sRaise, sAug, sPar, sTgt, sApp, sFrz, sTryAs, rBind, R.bind, mMap, mBin, mUn, mCmp, mChain, mFn, mCall, mAnd, mOr, mNot, mTru, mAndV, mOrV, mNotV, mIf, aNil, aCons, oLst, eVar, eC, lift2, liftB, lk_non, lk_bl, lk_int, lk_str, lk_ty, lk_cls, lk_lst, lk_tup, lk_dic, lk_obj, lk_exc, lk_ref, Slot.d, Cell.d, lt_s, le_s, gt_s, ge_s, cIsN, cIsNN, truD, fNeg, fAddI, fSubI, List.getElem?_cons_zero, List.getElem?_cons_succ, List.set_cons_zero, List.set_cons_succ, add_s, cat_s, sub_s, mFld, fFld, mMeth, mSl, pAt, pNo, mTM, mDisp, ppC, mGet1, mGet2, mRef, toRef, noErr, List.lookup_cons]
        obtain ⟨i2, rfl, i21, i22⟩ := isW_int g2
        by_cases g3 : isW a3 1 1000000000 = true
        · by_cases g4 : isW a4 1 1000000000 = true
          · by_cases g5 : isW a5 i1 i2 = true
            · have ok : okCom (.int i1) (.int i2) a3 a4 a5 = true := by simp [okCom, zD, g1, g2, g3, g4, g5]
              rw [if_pos ok]
              refine mdef_nx (ρ' := [.val (.ref n), .val nm, .val (.int i1), .val (.int i2), .val a3, .val a4, .val a5]) (by simp [startD, N_Machine_init]; rfl) ?_
              unfold b_Machine_init
              refine seq_nx s0 (seq_nx s1 (seq_nx s2 ?_))
              refine seq_nx (by simp [b_Machine_init_3, c_need_whole, e_need_whole h3, g3, mDef, startD, sSeq, sNext, sSet, sRet, sRetV, sRetN, sIf, sExpr, sRaise, sAug, sPar, sTgt, sApp, sFrz, sTryAs, rBind, R.bind, mMap, mBin, mUn, mCmp, mChain, mFn, mCall, mAnd, mOr, mNot, mTru, mAndV, mOrV, mNotV, mIf, aNil, aCons, oLst, eVar, eC, lift2, liftB, lk_non, lk_bl, lk_int, lk_str, lk_ty, lk_cls, lk_lst, lk_tup, lk_dic, lk_obj, lk_exc, lk_ref, Slot.d, Cell.d, lt_s, le_s, gt_s, ge_s, cIsN, cIsNN, truD, fNeg, fAddI, fSubI, List.getElem?_cons_zero, List.getElem?_cons_succ, List.set_cons_zero, List.set_cons_succ, add_s, cat_s, sub_s, mFld, fFld, mMeth, mSl, pAt, pNo, mTM, mDisp, ppC, mGet1, mGet2, mRef, toRef, noErr, List.lookup_cons]; exact ⟨rfl, rfl⟩) ?_
              refine seq_nx (by simp [b_Machine_init_4, c_need_whole, e_need_whole h4, g4, mDef, startD, sSeq, sNext, sSet, sRet, sRetV, sRetN, sIf, sExpr, sRaise, sAug, sPar, sTgt, sApp, sFrz, sTryAs, rBind, R.bind, mMap, mBin, mUn, mCmp, mChain, mFn, mCall, mAnd, mOr, mNot, mTru, mAndV, mOrV, mNotV, mIf, aNil, aCons, oLst, eVar, eC, lift2, liftB, lk_non, lk_bl, lk_int, lk_str, lk_ty, lk_cls, lk_lst, lk_tup, lk_dic, lk_obj, lk_exc, lk_ref, Slot.d, Cell.d, lt_s, le_s, gt_s, ge_s, cIsN, cIsNN, truD, fNeg, fAddI, fSubI, List.getElem?_cons_zero, List.getElem?_cons_succ, List.set_cons_zero, List.set_cons_succ, add_s, cat_s, sub_s, mFld, fFld, mMeth, mSl, pAt, pNo, mTM, mDisp, ppC, mGet1, mGet2, mRef, toRef, noErr, List.lookup_cons]; exact ⟨rfl, rfl⟩) ?_
              refine seq_nx (by simp [b_Machine_init_5, c_need_whole, e_need_whole h5, g5, mDef, startD, sSeq, sNext, sSet, sRet, sRetV, sRetN, sIf, sExpr, sRaise, sAug, sPar, sTgt, sApp, sFrz, sTryAs, rBind, R.bind, mMap, mBin, mUn, mCmp, mChain, mFn, mCall, mAnd, mOr, mNot, mTru, mAndV, mOrV, mNotV, mIf, aNil, aCons, oLst, eVar, eC, lift2, liftB, lk_non, lk_bl, lk_int, lk_str, lk_ty, lk_cls, lk_lst, lk_tup, lk_dic, lk_obj, lk_exc, lk_ref, Slot.d, Cell.d, lt_s, le_s, gt_s, ge_s, cIsN, cIsNN, truD, fNeg, fAddI, fSubI, List.getElem?_cons_zero, List.getElem?_cons_succ, List.set_cons_zero, List.set_cons_succ, add_s, cat_s, sub_s, mFld, fFld, mMeth, mSl, pAt, pNo, mTM, mDisp, ppC, mGet1, mGet2, mRef, toRef, noErr, List.lookup_cons]; exact ⟨rfl, rfl⟩) ?_
              rw [← set_self hn]
              have hlt' : n < (S.set n (some (.obj c []))).length := by simpa using hlt
              rcases hc with rfl | rfl | rfl | rfl <;> (
                refine seq_nx (fld_next rfl hlt (by decide) (by simp) (fun _ => rfl)) ?_
                refine seq_nx (fld_next rfl hlt (by decide) (by simp [putFD]) (fun _ => rfl)) ?_
                refine seq_nx (fld_next rfl hlt (by decide) (by simp [putFD]) (fun _ => rfl)) ?_
                refine seq_nx (fld_next rfl hlt (by decide) (by simp [putFD]) (fun _ => rfl)) ?_
                refine seq_nx (fld_next rfl hlt (by decide) (by simp [putFD]) (fun _ => rfl)) ?_
                refine seq_nx (fld_next rfl hlt (by decide) (by simp [putFD]) (fun _ => rfl)) ?_
                refine seq_nx (fld_next rfl hlt (by decide) (by simp [putFD]) (fun _ => rfl)) ?_
                refine seq_nx (fld_next rfl hlt (by decide) (by simp [putFD]) (fun _ => rfl)) ?_
                simp [sNext, putFD, comF])
            · have ok : ¬ okCom (.int i1) (.int i2) a3 a4 a5 = true := by simp [okCom, zD, g1, g2, g3, g4, g5]
              rw [if_neg ok]
              refine mdef_ex (ρ' := [.val (.ref n), .val nm, .val (.int i1), .val (.int i2), .val a3, .val a4, .val a5]) (by simp [startD, N_Machine_init]; rfl) ?_
              unfold b_Machine_init
              refine seq_nx s0 (seq_nx s1 (seq_nx s2 ?_))
              refine seq_nx (by simp [b_Machine_init_3, c_need_whole, e_need_whole h3, g3, mDef, startD, sSeq, sNext, sSet, sRet, sRetV, sRetN, sIf, sExpr, sRaise, sAug, sPar, sTgt, sApp, sFrz, sTryAs, rBind, R.bind, mMap, mBin, mUn, mCmp, mChain, mFn, mCall, mAnd, mOr, mNot, mTru, mAndV, mOrV, mNotV, mIf, aNil, aCons, oLst, eVar, eC, lift2, liftB, lk_non, lk_bl, lk_int, lk_str, lk_ty, lk_cls, lk_lst, lk_tup, lk_dic, lk_obj, lk_exc, lk_ref, Slot.d, Cell.d, lt_s, le_s, gt_s, ge_s, cIsN, cIsNN, truD, fNeg, fAddI, fSubI, List.getElem?_cons_zero, List.getElem?_cons_succ, List.set_cons_zero, List.set_cons_succ, add_s, cat_s, sub_s, mFld, fFld, mMeth, mSl, pAt, pNo, mTM, mDisp, ppC, mGet1, mGet2, mRef, toRef, noErr, List.lookup_cons]; exact ⟨rfl, rfl⟩) ?_
              refine seq_nx (by simp [b_Machine_init_4, c_need_whole, e_need_whole h4, g4, mDef, startD, sSeq, sNext, sSet, sRet, sRetV, sRetN, sIf, sExpr, sRaise, sAug, sPar, sTgt, sApp, sFrz, sTryAs, rBind, R.bind, mMap, mBin, mUn, mCmp, mChain, mFn, mCall, mAnd, mOr, mNot, mTru, mAndV, mOrV, mNotV, mIf, aNil, aCons, oLst, eVar, eC, lift2, liftB, lk_non, lk_bl, lk_int, lk_str, lk_ty, lk_cls, lk_lst, lk_tup, lk_dic, lk_obj, lk_exc, lk_ref, Slot.d, Cell.d, lt_s, le_s, gt_s, ge_s, cIsN, cIsNN, truD, fNeg, fAddI, fSubI, List.getElem?_cons_zero, List.getElem?_cons_succ, List.set_cons_zero, List.set_cons_succ, add_s, cat_s, sub_s, mFld, fFld, mMeth, mSl, pAt, pNo, mTM, mDisp, ppC, mGet1, mGet2, mRef, toRef, noErr, List.lookup_cons]; exact ⟨rfl, rfl⟩) ?_
              refine seq_ex (ρ1 := [.val (.ref n), .val nm, .val (.int i1), .val (.int i2), .val a3, .val a4, .val a5]) ?_
              simp [b_Machine_init_5, c_need_whole, e_need_whole h5, g5, badNumber, mDef, startD, sSeq, sNext, sSet, sRet, sRetV, sRetN, sIf, sExpr, sRaise, sAug, sPar, sTgt, sApp, sFrz, sTryAs, rBind, R.bind, mMap, mBin, mUn, mCmp, mChain, mFn, mCall, mAnd, mOr, mNot, mTru, mAndV, mOrV, mNotV, mIf, aNil, aCons, oLst, eVar, eC, lift2, liftB, lk_non, lk_bl, lk_int, lk_str, lk_ty, lk_cls, lk_lst, lk_tup, lk_dic, lk_obj, lk_exc, lk_ref, Slot.d, Cell.d, lt_s, le_s, gt_s, ge_s, cIsN, cIsNN, truD, fNeg, fAddI, fSubI, List.getElem?_cons_zero, List.getElem?_cons_succ, List.set_cons_zero, List.set_cons_succ, add_s, cat_s, sub_s, mFld, fFld, mMeth, mSl, pAt, pNo, mTM, mDisp, ppC, mGet1, mGet2, mRef, toRef, noErr, List.lookup_cons]
          · have ok : ¬ okCom (.int i1) (.int i2) a3 a4 a5 = true := by simp [okCom, zD, g4]
            rw [if_neg ok]
            refine mdef_ex (ρ' := [.val (.ref n), .val nm, .val (.int i1), .val (.int i2), .val a3, .val a4, .val a5]) (by simp [startD, N_Machine_init]; rfl) ?_
            unfold b_Machine_init
            refine seq_nx s0 (seq_nx s1 (seq_nx s2 ?_))
            refine seq_nx (by simp [b_Machine_init_3, c_need_whole, e_need_whole h3, g3, mDef, startD, sSeq, sNext, sSet, sRet, sRetV, sRetN, sIf, sExpr, sRaise, sAug, sPar, sTgt, sApp, sFrz, sTryAs, rBind, R.bind, mMap, mBin, mUn, mCmp, mChain, mFn, mCall, mAnd, mOr, mNot, mTru, mAndV, mOrV, mNotV, mIf, aNil, aCons, oLst, eVar, eC, lift2, liftB, lk_non, lk_bl, lk_int, lk_str, lk_ty, lk_cls, lk_lst, lk_tup, lk_dic, lk_obj, lk_exc, lk_ref, Slot.d, Cell.d, lt_s, le_s, gt_s, ge_s, cIsN, cIsNN, truD, fNeg, fAddI, fSubI, List.getElem?_cons_zero, List.getElem?_cons_succ, List.set_cons_zero, List.set_cons_succ, add_s, cat_s, sub_s, mFld, fFld, mMeth, mSl, pAt, pNo, mTM, mDisp, ppC, mGet1, mGet2, mRef, toRef, noErr, List.lookup_cons]; exact ⟨rfl, rfl⟩) ?_
            refine seq_ex (ρ1 := [.val (.ref n), .val nm, .val (.int i1), .val (.int i2), .val a3, .val a4, .val a5]) ?_
            simp [b_Machine_init_4, c_need_whole, e_need_whole h4, g4, badNumber, mDef, startD, sSeq, sNext, sSet, sRet, sRetV, sRetN, sIf, sExpr, sRaise, sAug, sPar, sTgt, sApp, sFrz, sTryAs, rBind, R.bind, mMap, mBin, mUn, mCmp, mChain, mFn, mCall, mAnd, mOr, mNot, mTru, mAndV, mOrV, mNotV, mIf, aNil, aCons, oLst, eVar, eC, lift2, liftB, lk_non, lk_bl, lk_int, lk_str, lk_ty, lk_cls, lk_lst, lk_tup, lk_dic, lk_obj, lk_exc, lk_ref, Slot.d, Cell.d, lt_s, le_s, gt_s, ge_s, cIsN, cIsNN, truD, fNeg, fAddI, fSubI, List.getElem?_cons_zero, List.getElem?_cons_succ, List.set_cons_zero, List.set_cons_succ, add_s, cat_s, sub_s, mFld, fFld, mMeth, mSl, pAt, pNo, mTM, mDisp, ppC, mGet1, mGet2, mRef, toRef, noErr, List.lookup_cons]
        · have ok : ¬ okCom (.int i1) (.int i2) a3 a4 a5 = true := by simp [okCom, zD, g3]
          rw [if_neg ok]
          refine mdef_ex (ρ' := [.val (.ref n), .val nm, .val (.int i1), .val (.int i2), .val a3, .val a4, .val a5]) (by simp [startD, N_Machine_init]; rfl) ?_
          unfold b_Machine_init
          refine seq_nx s0 (seq_nx s1 (seq_nx s2 ?_))
          refine seq_ex (ρ1 := [.val (.ref n), .val nm, .val (.int i1), .val (.int i2), .val a3, .val a4, .val a5]) ?_
          simp [b_Machine_init_3, c_need_whole, e_need_whole h3, g3, badNumber, mDef, startD, sSeq, sNext, sSet, sRet, sRetV, sRetN, sIf, sExpr, sRaise, sAug, sPar, sTgt, sApp, sFrz, sTryAs, rBind, R.bind, mMap, mBin, mUn, mCmp, mChain, mFn, mCall, mAnd, mOr, mNot, mTru, mAndV, mOrV, mNotV, mIf, aNil, aCons, oLst, eVar, eC, lift2, liftB, lk_non, lk_bl, lk_int, lk_str, lk_ty, lk_cls, lk_lst, lk_tup, lk_dic, lk_obj, lk_exc, lk_ref, Slot.d, Cell.d, lt_s, le_s, gt_s, ge_s, cIsN, cIsNN, truD, fNeg, fAddI, fSubI, List.getElem?_cons_zero, List.getElem?_cons_succ, List.set_cons_zero, List.set_cons_succ, add_s, cat_s, sub_s, mFld, fFld, mMeth, mSl, pAt, pNo, mTM, mDisp, ppC, mGet1, mGet2, mRef, toRef, noErr, List.lookup_cons]
      · have ok : ¬ okCom (.int i1) a2 a3 a4 a5 = true := by simp [okCom, zD, g2]
        rw [if_neg ok]
        refine mdef_ex (ρ' := [.val (.ref n), .val nm, .val (.int i1), .val a2, .val a3, .val a4, .val a5]) (by simp [startD, N_Machine_init]; rfl) ?_
        unfold b_Machine_init
        refine seq_nx s0 (seq_nx s1 ?_)
        refine seq_ex (ρ1 := [.val (.ref n), .val nm, .val (.int i1), .val a2, .val a3, .val a4, .val a5]) ?_
        simp [b_Machine_init_2, c_need_whole, e_need_whole h2, g2, badNumber, mDef, startD, sSeq, sNext, sSet, sRet, sRetV, sRetN, sIf, sExpr, sRaise, sAug, sPar, sTgt, sApp, sFrz, sTryAs, rBind, R.bind, mMap, mBin, mUn, mCmp, mChain, mFn, mCall, mAnd, mOr, mNot, mTru, mAndV, mOrV, mNotV, mIf, aNil, aCons, oLst, eVar, eC, lift2, liftB, lk_non, lk_bl, lk_int, lk_str, lk_ty, lk_cls, lk_lst, lk_tup, lk_dic, lk_obj, lk_exc, lk_ref, Slot.d, Cell.d, lt_s, le_s, gt_s, ge_s, cIsN, cIsNN, truD, fNeg, fAddI, fSubI, List.getElem?_cons_zero, List.getElem?_cons_succ, List.set_cons_zero, List.set_cons_succ, add_s, cat_s, sub_s, mFld, fFld, mMeth, mSl, pAt, pNo, mTM, mDisp, ppC, mGet1, mGet2, mRef, toRef, noErr, List.lookup_cons]
    · have ok : ¬ okCom a1 a2 a3 a4 a5 = true := by simp [okCom, g1]
      rw [if_neg ok]
      refine mdef_ex (ρ' := [.val (.ref n), .val nm, .val a1, .val a2, .val a3, .val a4, .val a5]) (by simp [startD, N_Machine_init]; rfl) ?_
      unfold b_Machine_init
      refine seq_nx s0 ?_
      refine seq_ex (ρ1 := [.val (.ref n), .val nm, .val a1, .val a2, .val a3, .val a4, .val a5]) ?_
      simp [b_Machine_init_1, c_need_place, e_need_place h1, g1, badNumber, mDef, startD, sSeq, sNext, sSet, sRet, sRetV, sRetN, sIf, sExpr, sRaise, sAug, sPar, sTgt, sApp, sFrz, sTryAs, rBind, R.bind, mMap, mBin, mUn, mCmp, mChain, mFn, mCall, mAnd, mOr, mNot, mTru, mAndV, mOrV, mNotV, mIf, aNil, aCons, oLst, eVar, eC, lift2, liftB, lk_non, lk_bl, lk_int, lk_str, lk_ty, lk_cls, lk_lst, lk_tup, lk_dic, lk_obj, lk_exc, lk_ref, Slot.d, Cell.d, lt_s, le_s, gt_s, ge_s, cIsN, cIsNN, truD, fNeg, fAddI, fSubI, List.getElem?_cons_zero, List.getElem?_cons_succ, List.set_cons_zero, List.set_cons_succ, add_s, cat_s, sub_s, mFld, fFld, mMeth, mSl, pAt, pNo, mTM, mDisp, ppC, mGet1, mGet2, mRef, toRef, noErr, List.lookup_cons]
  · rw [if_neg g0]
    refine mdef_ex (ρ' := [.val (.ref n), .val nm, .val a1, .val a2, .val a3, .val a4, .val a5]) (by simp [startD, N_Machine_init]; rfl) ?_
    unfold b_Machine_init
    refine seq_ex (ρ1 := [.val (.ref n), .val nm, .val a1, .val a2, .val a3, .val a4, .val a5]) ?_
    simp [b_Machine_init_0, c_is_name, e_is_name h0, g0, badName, mDef, startD, sSeq, sNext, sSet, sRet, sRetV, sRetN, sIf, sExpr, sRaise, sAug, sPar, sTgt, sApp, sFrz, sTryAs, rBind, R.bind, mMap, mBin, mUn, mCmp, mChain, mFn, mCall, mAnd, mOr, mNot, mTru, mAndV, mOrV, mNotV, mIf, aNil, aCons, oLst, eVar, eC, lift2, liftB, lk_non, lk_bl, lk_int, lk_str, lk_ty, lk_cls, lk_lst, lk_tup, lk_dic, lk_obj, lk_exc, lk_ref, Slot.d, Cell.d, lt_s, le_s, gt_s, ge_s, cIsN, cIsNN, truD, fNeg, fAddI, fSubI, List.getElem?_cons_zero, List.getElem?_cons_succ, List.set_cons_zero, List.set_cons_succ, add_s, cat_s, sub_s, mFld, fFld, mMeth, mSl, pAt, pNo, mTM, mDisp, ppC, mGet1, mGet2, mRef, toRef, noErr, List.lookup_cons]
end FW
end
section
set_option maxHeartbeats 4000000
/-! the plain law: lines, wagons, floors, traps are made. -/
namespace FW
open PySem
theorem look_app {S X : Sto} {d : D} (h : plain (lookD S d) = true) : lookD (S ++ X) d = lookD S d := by
  cases d with
  | ref i =>
    cases q : S[i]? with
    | none => simp [lookD, q, plain] at h
    | some o =>
      have hi := (List.getElem?_eq_some_iff.mp q).1
      simp only [lookD, List.getElem?_append_left hi]
  | _ => rfl
theorem plain_app {S X : Sto} {d : D} (h : plain (lookD S d) = true) : plain (lookD (S ++ X) d) = true := by rw [look_app h]; exact h
mutual
theorem sub_nor (f : Nat → Option D) : ∀ d : D, nor d = true → sub f d = some d
  | .non, _ => rfl
  | .bl _, _ => rfl
  | .int _, _ => rfl
  | .str _, _ => rfl
  | .ty _, _ => rfl
  | .cls _, _ => rfl
  | .lst ds, h => by simp only [nor] at h; simp only [sub, subL_nor f ds h]
  | .tup ds, h => by simp only [nor] at h; simp only [sub, subL_nor f ds h]
  | .dic ks, h => by simp only [nor] at h; simp only [sub, subK_nor f ks h]
  | .obj c fs, h => by simp only [nor] at h; simp only [sub, subF_nor f fs h]
  | .exc c fs, h => by simp only [nor] at h; simp only [sub, h, if_true]
  | .ref _, h => by simp [nor] at h
theorem subL_nor (f : Nat → Option D) : ∀ ds : List D, norL ds = true → subL f ds = some ds
  | [], _ => rfl
  | d :: ds, h => by simp only [norL, Bool.and_eq_true] at h; simp only [subL, sub_nor f d h.1, subL_nor f ds h.2]
theorem subK_nor (f : Nat → Option D) : ∀ ds : List (L2.Key × D), norK ds = true → subK f ds = some ds
  | [], _ => rfl
  | (k, d) :: ds, h => by simp only [norK, Bool.and_eq_true] at h; simp only [subK, sub_nor f d h.1, subK_nor f ds h.2]
theorem subF_nor (f : Nat → Option D) : ∀ ds : List (String × D), norF ds = true → subF f ds = some ds
  | [], _ => rfl
  | (k, d) :: ds, h => by simp only [norF, Bool.and_eq_true] at h; simp only [subF, sub_nor f d h.1, subF_nor f ds h.2]
end
theorem fin_val {S X : Sto} {d : D} (h : nor d = true) : finOut S (.ok (.val d) (S ++ X)) = .ok (.val d) S := by
  simp only [finOut, st_take, if_true, finD, h]
theorem fin_err {S X : Sto} {e : String} : finOut S (.err ⟨e, []⟩ (S ++ X)) = .err ⟨e, []⟩ S := by
  simp only [finOut, st_take, if_true, finF, norF]
theorem fin_obj {S : Sto} {c : String} {fs : List (String × D)} (h : norF fs = true) : finOut S (.ok (.val (.ref S.length)) (S ++ [some (.obj c fs)])) = .ok (.val (.obj c fs)) S := by
  have e : tabN S.length (S ++ [some (Cell.obj c fs)]) 6 S.length = some (.obj c fs) := by
    rw [tab0 rfl]
    simp only [List.getElem?_cons_zero, Cell.d, sub, subF_nor _ fs h]
  simp only [finOut, st_take, if_true, finD, nor, Bool.false_eq_true, if_false, sub, e]
theorem make_ok {c : String} {mf : MF} {ds : List D} {S : Sto} {fs : List (String × D)} (h : mf (.ref S.length :: ds) (S ++ [some (.obj c [])]) = .ok (.val .non) (S ++ [some (.obj c fs)])) (n : norF fs = true) : finOut S (rMake c mf ds S) = .ok (.val (.obj c fs)) S := by
  unfold rMake
  rw [h]
  exact fin_obj n
theorem make_err {c : String} {mf : MF} {ds : List D} {S X : Sto} {e : String} (h : mf (.ref S.length :: ds) (S ++ [some (.obj c [])]) = .err ⟨e, []⟩ (S ++ X)) : finOut S (rMake c mf ds S) = .err ⟨e, []⟩ S := by
  unfold rMake
  rw [h]
  exact fin_err
theorem fld_end {cs : List String} {f c : String} {fs : List (String × D)} {m : M D} {d : D} {ρ : List Slot} {S : Sto} (h0 : ρ[0]? = some (.val (.ref S.length))) (hc : cs.contains c = true) (hl : fs.length < 1000) (hm : ∀ X, m ρ (S ++ X) = .ok d (S ++ X)) :
    sFldR cs f (eVar 0) m ρ (S ++ [some (.obj c fs)]) = .nx ρ (S ++ [some (.obj c (putFD f d fs))]) := by
  have e : eVar 0 ρ (S ++ [some (.obj c fs)]) = .ok (.ref S.length) (S ++ [some (.obj c fs)]) := by unfold eVar; rw [h0]
  unfold sFldR
  rw [hm]
  simp only [rBind]
  rw [e]
  simp only [rBind, st_get0, List.getElem?_cons_zero, hc, hl, decide_true, Bool.and_true, if_true, st_set0, List.set_cons_zero]
section
variable {c : String} {nm a1 a2 a3 a4 a5 : D} {S : Sto}
theorem mach_init (hc : isMach c) (h0 : plainS nm = true) (h1 : plain (lookD S a1) = true) (h2 : plain (lookD S a2) = true) (h3 : plain (lookD S a3) = true) (h4 : plain (lookD S a4) = true) (h5 : plain (lookD S a5) = true) :
    m_Machine_init [.ref S.length, nm, a1, a2, a3, a4, a5] (S ++ [some (.obj c [])]) = if isName nm then (if okCom a1 a2 a3 a4 a5 then .ok (.val .non) (S ++ [some (.obj c (comF nm a1 a2 a3 a4 a5))]) else .err badNumber (S ++ [some (.obj c [])])) else .err badName (S ++ [some (.obj c [])]) := by
  rw [e_Machine_init (c := c) (by rw [st_get0]; rfl) hc h0 (plain_app h1) (plain_app h2) (plain_app h3) (plain_app h4) (plain_app h5)]
  rw [st_set0]; rfl
/-- the common part failed -/
theorem com_bad {mf : MF} {ds : List D} {N : List Str} {r : MS} {ρ : List Slot} (hm : mf = mDef N (sSeq (sExpr (mMap Slot.d (mFn m_Machine_init (aCons (eVar 0) (aCons (eVar 1) (aCons (eVar 2) (aCons (eVar 3) (aCons (eVar 4) (aCons (eVar 5) (aCons (eVar 6) aNil)))))))))) r)) (hs : startD N (.ref S.length :: nm :: a1 :: a2 :: a3 :: a4 :: a5 :: ds) = .val (.ref S.length) :: .val nm :: .val a1 :: .val a2 :: .val a3 :: .val a4 :: .val a5 :: ρ)
    (hc : isMach c) (h0 : plainS nm = true) (h1 : plain (lookD S a1) = true) (h2 : plain (lookD S a2) = true) (h3 : plain (lookD S a3) = true) (h4 : plain (lookD S a4) = true) (h5 : plain (lookD S a5) = true) (h : ¬ (isName nm && okCom a1 a2 a3 a4 a5) = true) :
    finOut S (rMake c mf (nm :: a1 :: a2 :: a3 :: a4 :: a5 :: ds) S) = .err (if isName nm then badNumber else badName) S := by
  have e := mach_init hc h0 h1 h2 h3 h4 h5
  subst hm
  by_cases g : isName nm = true
  · have g2 : ¬ okCom a1 a2 a3 a4 a5 = true := fun z => h (by rw [g, z]; rfl)
    rw [if_pos g, if_neg g2] at e
    rw [if_pos g]
    refine make_err (X := [some (.obj c [])]) (mdef_ex (ρ' := .val (.ref S.length) :: .val nm :: .val a1 :: .val a2 :: .val a3 :: .val a4 :: .val a5 :: ρ) hs (seq_ex ?_))
    simp [e, badNumber, mDef, startD, sSeq, sNext, sSet, sRet, sRetV, sRetN, sIf, sExpr, sRaise, sAug, sPar, sTgt, sApp, sFrz, sTryAs, rBind, R.bind, mMap, mBin, mUn, mCmp, mChain, mFn, mCall, mAnd, mOr, mNot, mTru, mAndV, mOrV, mNotV, mIf, aNil, aCons, oLst, eVar, eC, lift2, liftB, lk_non, lk_bl, lk_int, lk_str, lk_ty, lk_cls, lk_lst, lk_tup, lk_dic, lk_obj, lk_exc, lk_ref, Slot.d, Cell.d, lt_s, le_s, gt_s, ge_s, cIsN, cIsNN, truD, fNeg, fAddI, fSubI, List.getElem?_cons_zero, List.getElem?_cons_succ, List.set_cons_zero, List.set_cons_succ, add_s, cat_s, sub_s, mFld, fFld, mMeth, mSl, pAt, pNo, mTM, mDisp, ppC, mGet1, mGet2, mRef, toRef, noErr, List.lookup_cons]
  · rw [if_neg g] at e
    rw [if_neg g]
    refine make_err (X := [some (.obj c [])]) (mdef_ex (ρ' := .val (.ref S.length) :: .val nm :: .val a1 :: .val a2 :: .val a3 :: .val a4 :: .val a5 :: ρ) hs (seq_ex ?_))
    simp [e, badName, mDef, startD, sSeq, sNext, sSet, sRet, sRetV, sRetN, sIf, sExpr, sRaise, sAug, sPar, sTgt, sApp, sFrz, sTryAs, rBind, R.bind, mMap, mBin, mUn, mCmp, mChain, mFn, mCall, mAnd, mOr, mNot, mTru, mAndV, mOrV, mNotV, mIf, aNil, aCons, oLst, eVar, eC, lift2, liftB, lk_non, lk_bl, lk_int, lk_str, lk_ty, lk_cls, lk_lst, lk_tup, lk_dic, lk_obj, lk_exc, lk_ref, Slot.d, Cell.d, lt_s, le_s, gt_s, ge_s, cIsN, cIsNN, truD, fNeg, fAddI, fSubI, List.getElem?_cons_zero, List.getElem?_cons_succ, List.set_cons_zero, List.set_cons_succ, add_s, cat_s, sub_s, mFld, fFld, mMeth, mSl, pAt, pNo, mTM, mDisp, ppC, mGet1, mGet2, mRef, toRef, noErr, List.lookup_cons]
theorem nor_W {d : D} {lo hi : Int} (h : isW d lo hi = true) : nor d = true := by
  obtain ⟨i, rfl, _⟩ := isW_int h; rfl
theorem nor_name {d : D} (h : isName d = true) : nor d = true := by
  cases d <;> simp [isName] at h
  rfl
theorem nor_com (h0 : isName nm = true) (h : okCom a1 a2 a3 a4 a5 = true) : nor nm = true ∧ nor a1 = true ∧ nor a2 = true ∧ nor a3 = true ∧ nor a4 = true ∧ nor a5 = true := by
  simp only [okCom, Bool.and_eq_true] at h
  exact ⟨nor_name h0, nor_W h.1, nor_W h.2.1, nor_W h.2.2.1, nor_W h.2.2.2.1, nor_W h.2.2.2.2⟩
variable {lane at_ wide tall : D}
def lineF (nm a1 a2 a3 a4 a5 lane at_ wide tall : D) : List (String × D) := [("name", nm), ("least", a1), ("greatest", a2), ("pace", a3), ("gain", a4), ("place", a5), ("rail", lane), ("long", wide), ("spot", at_), ("high", tall)]
def wagonF (nm a1 a2 a3 a4 a5 lane wide tall : D) : List (String × D) := [("name", nm), ("least", a1), ("greatest", a2), ("pace", a3), ("gain", a4), ("place", a5), ("rail", lane), ("long", wide), ("high", tall)]
def trapF (nm a1 a2 a3 a4 a5 lane at_ wide : D) : List (String × D) := [("name", nm), ("least", a1), ("greatest", a2), ("pace", a3), ("gain", a4), ("place", a5), ("rail", lane), ("long", wide), ("spot", at_)]
theorem make_Line (h0 : plainS nm = true) (h1 : plain (lookD S a1) = true) (h2 : plain (lookD S a2) = true) (h3 : plain (lookD S a3) = true) (h4 : plain (lookD S a4) = true) (h5 : plain (lookD S a5) = true) (h6 : plain (lookD S lane) = true) (h7 : plain (lookD S at_) = true) (h8 : plain (lookD S wide) = true) (h9 : plain (lookD S tall) = true) :
    finOut S (rMake "Line" m_Line_init [nm, a1, a2, a3, a4, a5, lane, at_, wide, tall] S) = if isName nm then (if okCom a1 a2 a3 a4 a5 && (isW lane 0 9 && (isW at_ (-1000000000) 1000000000 && (isW wide 1 1000000 && isW tall 1 1000000))) then .ok (.val (.obj "Line" (lineF nm a1 a2 a3 a4 a5 lane at_ wide tall))) S else .err badNumber S) else .err badName S := by
  by_cases g : (isName nm && okCom a1 a2 a3 a4 a5) = true
  · rw [Bool.and_eq_true] at g
    obtain ⟨g0, g1⟩ := g
    have e := mach_init (c := "Line") (.inl rfl) h0 h1 h2 h3 h4 h5
    rw [if_pos g0, if_pos g1] at e
    rw [if_pos g0, g1, Bool.true_and]
    have s0 : b_Line_init_0 [.val (.ref S.length), .val nm, .val a1, .val a2, .val a3, .val a4, .val a5, .val lane, .val at_, .val wide, .val tall] (S ++ [some (.obj "Line" [])]) = .nx [.val (.ref S.length), .val nm, .val a1, .val a2, .val a3, .val a4, .val a5, .val lane, .val at_, .val wide, .val tall] (S ++ [some (.obj "Line" (comF nm a1 a2 a3 a4 a5))]) := by
      simp [b_Line_init_0, e, mDef, startD, sSeq, sNext, sSet, sRet, sRetV, sRetN, sIf, sExpr, sRaise, sAug, sPar, sTgt, sApp, sFrz, sTryAs, rBind, R.bind, mMap, mBin, mUn, mCmp, mChain, mFn, mCall, mAnd, mOr, mNot, mTru, mAndV, mOrV, mNotV, mIf, aNil, aCons, oLst, eVar, eC, lift2, liftB, lk_non, lk_bl, lk_int, lk_str, lk_ty, lk_cls, lk_lst, lk_tup, lk_dic, lk_obj, lk_exc, lk_ref, Slot.d, Cell.d, lt_s, le_s, gt_s, ge_s, cIsN, cIsNN, truD, fNeg, fAddI, fSubI, List.getElem?_cons_zero, List.getElem?_cons_succ, List.set_cons_zero, List.set_cons_succ, add_s, cat_s, sub_s, mFld, fFld, mMeth, mSl, pAt, pNo, mTM, mDisp, ppC, mGet1, mGet2, mRef, toRef, noErr, List.lookup_cons]
    have z0 := e_need_whole (S := (S ++ [some (.obj "Line" (comF nm a1 a2 a3 a4 a5))])) (lo := 0) (hi := 9) (plain_app h6)
    by_cases k0 : isW lane 0 9 = true
    · rw [if_pos k0] at z0
      have s1 : b_Line_init_1 [.val (.ref S.length), .val nm, .val a1, .val a2, .val a3, .val a4, .val a5, .val lane, .val at_, .val wide, .val tall] (S ++ [some (.obj "Line" (comF nm a1 a2 a3 a4 a5))]) = .nx [.val (.ref S.length), .val nm, .val a1, .val a2, .val a3, .val a4, .val a5, .val lane, .val at_, .val wide, .val tall] (S ++ [some (.obj "Line" (comF nm a1 a2 a3 a4 a5))]) := by
        simp [b_Line_init_1, c_need_whole, z0, mDef, startD, sSeq, sNext, sSet, sRet, sRetV, sRetN, sIf, sExpr, sRaise, sAug, sPar, sTgt, sApp, sFrz, sTryAs, rBind, R.bind, mMap, mBin, mUn, mCmp, mChain, mFn, mCall, mAnd, mOr, mNot, mTru, mAndV, mOrV, mNotV, mIf, aNil, aCons, oLst, eVar, eC, lift2, liftB, lk_non, lk_bl, lk_int, lk_str, lk_ty, lk_cls, lk_lst, lk_tup, lk_dic, lk_obj, lk_exc, lk_ref, Slot.d, Cell.d, lt_s, le_s, gt_s, ge_s, cIsN, cIsNN, truD, fNeg, fAddI, fSubI, List.getElem?_cons_zero, List.getElem?_cons_succ, List.set_cons_zero, List.set_cons_succ, add_s, cat_s, sub_s, mFld, fFld, mMeth, mSl, pAt, pNo, mTM, mDisp, ppC, mGet1, mGet2, mRef, toRef, noErr, List.lookup_cons]
      have z1 := e_need_place (S := (S ++ [some (.obj "Line" (comF nm a1 a2 a3 a4 a5))])) (plain_app h7)
      by_cases k1 : isW at_ (-1000000000) 1000000000 = true
      · rw [if_pos k1] at z1
        have s2 : b_Line_init_2 [.val (.ref S.length), .val nm, .val a1, .val a2, .val a3, .val a4, .val a5, .val lane, .val at_, .val wide, .val tall] (S ++ [some (.obj "Line" (comF nm a1 a2 a3 a4 a5))]) = .nx [.val (.ref S.length), .val nm, .val a1, .val a2, .val a3, .val a4, .val a5, .val lane, .val at_, .val wide, .val tall] (S ++ [some (.obj "Line" (comF nm a1 a2 a3 a4 a5))]) := by
          simp [b_Line_init_2, c_need_place, z1, mDef, startD, sSeq, sNext, sSet, sRet, sRetV, sRetN, sIf, sExpr, sRaise, sAug, sPar, sTgt, sApp, sFrz, sTryAs, rBind, R.bind, mMap, mBin, mUn, mCmp, mChain, mFn, mCall, mAnd, mOr, mNot, mTru, mAndV, mOrV, mNotV, mIf, aNil, aCons, oLst, eVar, eC, lift2, liftB, lk_non, lk_bl, lk_int, lk_str, lk_ty, lk_cls, lk_lst, lk_tup, lk_dic, lk_obj, lk_exc, lk_ref, Slot.d, Cell.d, lt_s, le_s, gt_s, ge_s, cIsN, cIsNN, truD, fNeg, fAddI, fSubI, List.getElem?_cons_zero, List.getElem?_cons_succ, List.set_cons_zero, List.set_cons_succ, add_s, cat_s, sub_s, mFld, fFld, mMeth, mSl, pAt, pNo, mTM, mDisp, ppC, mGet1, mGet2, mRef, toRef, noErr, List.lookup_cons]
        have z2 := e_need_sizes (S := (S ++ [some (.obj "Line" (comF nm a1 a2 a3 a4 a5))])) (plain_app h8) (plain_app h9)
        by_cases k2 : (isW wide 1 1000000 && isW tall 1 1000000) = true
        · rw [if_pos k2] at z2
          have s3 : b_Line_init_3 [.val (.ref S.length), .val nm, .val a1, .val a2, .val a3, .val a4, .val a5, .val lane, .val at_, .val wide, .val tall] (S ++ [some (.obj "Line" (comF nm a1 a2 a3 a4 a5))]) = .nx [.val (.ref S.length), .val nm, .val a1, .val a2, .val a3, .val a4, .val a5, .val lane, .val at_, .val wide, .val tall] (S ++ [some (.obj "Line" (comF nm a1 a2 a3 a4 a5))]) := by
            simp [b_Line_init_3, c_need_sizes, z2, mDef, startD, sSeq, sNext, sSet, sRet, sRetV, sRetN, sIf, sExpr, sRaise, sAug, sPar, sTgt, sApp, sFrz, sTryAs, rBind, R.bind, mMap, mBin, mUn, mCmp, mChain, mFn, mCall, mAnd, mOr, mNot, mTru, mAndV, mOrV, mNotV, mIf, aNil, aCons, oLst, eVar, eC, lift2, liftB, lk_non, lk_bl, lk_int, lk_str, lk_ty, lk_cls, lk_lst, lk_tup, lk_dic, lk_obj, lk_exc, lk_ref, Slot.d, Cell.d, lt_s, le_s, gt_s, ge_s, cIsN, cIsNN, truD, fNeg, fAddI, fSubI, List.getElem?_cons_zero, List.getElem?_cons_succ, List.set_cons_zero, List.set_cons_succ, add_s, cat_s, sub_s, mFld, fFld, mMeth, mSl, pAt, pNo, mTM, mDisp, ppC, mGet1, mGet2, mRef, toRef, noErr, List.lookup_cons]
          rw [if_pos (by simp only [k0, k1, k2]; rfl)]
          have q2 := k2
          rw [Bool.and_eq_true] at q2
          obtain ⟨n0, n1, n2, n3, n4, n5⟩ := nor_com g0 g1
          refine make_ok (mdef_nx (ρ' := [.val (.ref S.length), .val nm, .val a1, .val a2, .val a3, .val a4, .val a5, .val lane, .val at_, .val wide, .val tall]) (by simp [startD, N_Line_init]; rfl) ?_) (by simp [lineF, norF, n0, n1, n2, n3, n4, n5, nor_W k0, nor_W k1, nor_W q2.1, nor_W q2.2])
          unfold b_Line_init
          refine seq_nx s0 (seq_nx s1 (seq_nx s2 (seq_nx s3 (?_))))
          refine seq_nx (fld_end rfl (by decide) (by simp [comF, putFD]) (fun _ => rfl)) ?_
          refine seq_nx (fld_end rfl (by decide) (by simp [comF, putFD]) (fun _ => rfl)) ?_
          refine seq_nx (fld_end rfl (by decide) (by simp [comF, putFD]) (fun _ => rfl)) ?_
          refine seq_nx (fld_end rfl (by decide) (by simp [comF, putFD]) (fun _ => rfl)) ?_
          simp [sNext, putFD, comF, lineF]
        · rw [if_neg k2] at z2
          rw [if_neg (by intro zz; simp only [Bool.and_eq_true] at zz k2; exact k2 (by first | exact zz.1 | exact zz.2.1 | exact zz.2.2.1 | exact zz.2.2.2 | exact zz.2.2 | exact zz.2 | exact zz))]
          refine make_err (X := [some (.obj "Line" (comF nm a1 a2 a3 a4 a5))]) (mdef_ex (ρ' := [.val (.ref S.length), .val nm, .val a1, .val a2, .val a3, .val a4, .val a5, .val lane, .val at_, .val wide, .val tall]) (by simp [startD, N_Line_init]; rfl) ?_)
          unfold b_Line_init
          refine seq_nx s0 (seq_nx s1 (seq_nx s2 (seq_ex ?_)))
          simp [b_Line_init_3, c_need_sizes, z2, mDef, startD, sSeq, sNext, sSet, sRet, sRetV, sRetN, sIf, sExpr, sRaise, sAug, sPar, sTgt, sApp, sFrz, sTryAs, rBind, R.bind, mMap, mBin, mUn, mCmp, mChain, mFn, mCall, mAnd, mOr, mNot, mTru, mAndV, mOrV, mNotV, mIf, aNil, aCons, oLst, eVar, eC, lift2, liftB, lk_non, lk_bl, lk_int, lk_str, lk_ty, lk_cls, lk_lst, lk_tup, lk_dic, lk_obj, lk_exc, lk_ref, Slot.d, Cell.d, lt_s, le_s, gt_s, ge_s, cIsN, cIsNN, truD, fNeg, fAddI, fSubI, List.getElem?_cons_zero, List.getElem?_cons_succ, List.set_cons_zero, List.set_cons_succ, add_s, cat_s, sub_s, mFld, fFld, mMeth, mSl, pAt, pNo, mTM, mDisp, ppC, mGet1, mGet2, mRef, toRef, noErr, List.lookup_cons]
      · rw [if_neg k1] at z1
        rw [if_neg (by intro zz; simp only [Bool.and_eq_true] at zz k1; exact k1 (by first | exact zz.1 | exact zz.2.1 | exact zz.2.2.1 | exact zz.2.2.2 | exact zz.2.2 | exact zz.2 | exact zz))]
        refine make_err (X := [some (.obj "Line" (comF nm a1 a2 a3 a4 a5))]) (mdef_ex (ρ' := [.val (.ref S.length), .val nm, .val a1, .val a2, .val a3, .val a4, .val a5, .val lane, .val at_, .val wide, .val tall]) (by simp [startD, N_Line_init]; rfl) ?_)
        unfold b_Line_init
        refine seq_nx s0 (seq_nx s1 (seq_ex ?_))
        simp [b_Line_init_2, c_need_place, z1, mDef, startD, sSeq, sNext, sSet, sRet, sRetV, sRetN, sIf, sExpr, sRaise, sAug, sPar, sTgt, sApp, sFrz, sTryAs, rBind, R.bind, mMap, mBin, mUn, mCmp, mChain, mFn, mCall, mAnd, mOr, mNot, mTru, mAndV, mOrV, mNotV, mIf, aNil, aCons, oLst, eVar, eC, lift2, liftB, lk_non, lk_bl, lk_int, lk_str, lk_ty, lk_cls, lk_lst, lk_tup, lk_dic, lk_obj, lk_exc, lk_ref, Slot.d, Cell.d, lt_s, le_s, gt_s, ge_s, cIsN, cIsNN, truD, fNeg, fAddI, fSubI, List.getElem?_cons_zero, List.getElem?_cons_succ, List.set_cons_zero, List.set_cons_succ, add_s, cat_s, sub_s, mFld, fFld, mMeth, mSl, pAt, pNo, mTM, mDisp, ppC, mGet1, mGet2, mRef, toRef, noErr, List.lookup_cons]
    · rw [if_neg k0] at z0
      rw [if_neg (by intro zz; simp only [Bool.and_eq_true] at zz k0; exact k0 (by first | exact zz.1 | exact zz.2.1 | exact zz.2.2.1 | exact zz.2.2.2 | exact zz.2.2 | exact zz.2 | exact zz))]
      refine make_err (X := [some (.obj "Line" (comF nm a1 a2 a3 a4 a5))]) (mdef_ex (ρ' := [.val (.ref S.length), .val nm, .val a1, .val a2, .val a3, .val a4, .val a5, .val lane, .val at_, .val wide, .val tall]) (by simp [startD, N_Line_init]; rfl) ?_)
      unfold b_Line_init
      refine seq_nx s0 (seq_ex ?_)
      simp [b_Line_init_1, c_need_whole, z0, mDef, startD, sSeq, sNext, sSet, sRet, sRetV, sRetN, sIf, sExpr, sRaise, sAug, sPar, sTgt, sApp, sFrz, sTryAs, rBind, R.bind, mMap, mBin, mUn, mCmp, mChain, mFn, mCall, mAnd, mOr, mNot, mTru, mAndV, mOrV, mNotV, mIf, aNil, aCons, oLst, eVar, eC, lift2, liftB, lk_non, lk_bl, lk_int, lk_str, lk_ty, lk_cls, lk_lst, lk_tup, lk_dic, lk_obj, lk_exc, lk_ref, Slot.d, Cell.d, lt_s, le_s, gt_s, ge_s, cIsN, cIsNN, truD, fNeg, fAddI, fSubI, List.getElem?_cons_zero, List.getElem?_cons_succ, List.set_cons_zero, List.set_cons_succ, add_s, cat_s, sub_s, mFld, fFld, mMeth, mSl, pAt, pNo, mTM, mDisp, ppC, mGet1, mGet2, mRef, toRef, noErr, List.lookup_cons]
  · rw [com_bad (r := (sSeq b_Line_init_1 (sSeq b_Line_init_2 (sSeq b_Line_init_3 (sSeq b_Line_init_4 (sSeq b_Line_init_5 (sSeq b_Line_init_6 (sSeq b_Line_init_7 sNext)))))))) (mf := m_Line_init) (ds := [lane, at_, wide, tall]) (ρ := [.val lane, .val at_, .val wide, .val tall]) rfl (by simp [startD, N_Line_init]) (.inl rfl) h0 h1 h2 h3 h4 h5 g]
    by_cases g0 : isName nm = true
    · rw [if_pos g0, if_pos g0, if_neg]
      intro z
      rw [Bool.and_eq_true] at z
      exact g (by rw [g0, z.1]; rfl)
    · rw [if_neg g0, if_neg g0]
theorem make_Wagon (h0 : plainS nm = true) (h1 : plain (lookD S a1) = true) (h2 : plain (lookD S a2) = true) (h3 : plain (lookD S a3) = true) (h4 : plain (lookD S a4) = true) (h5 : plain (lookD S a5) = true) (h6 : plain (lookD S lane) = true) (h7 : plain (lookD S wide) = true) (h8 : plain (lookD S tall) = true) :
    finOut S (rMake "Wagon" m_Wagon_init [nm, a1, a2, a3, a4, a5, lane, wide, tall] S) = if isName nm then (if okCom a1 a2 a3 a4 a5 && (isW lane 0 9 && (isW wide 1 1000000 && isW tall 1 1000000)) then .ok (.val (.obj "Wagon" (wagonF nm a1 a2 a3 a4 a5 lane wide tall))) S else .err badNumber S) else .err badName S := by
  by_cases g : (isName nm && okCom a1 a2 a3 a4 a5) = true
  · rw [Bool.and_eq_true] at g
    obtain ⟨g0, g1⟩ := g
    have e := mach_init (c := "Wagon") (.inr (.inl rfl)) h0 h1 h2 h3 h4 h5
    rw [if_pos g0, if_pos g1] at e
    rw [if_pos g0, g1, Bool.true_and]
    have s0 : b_Wagon_init_0 [.val (.ref S.length), .val nm, .val a1, .val a2, .val a3, .val a4, .val a5, .val lane, .val wide, .val tall] (S ++ [some (.obj "Wagon" [])]) = .nx [.val (.ref S.length), .val nm, .val a1, .val a2, .val a3, .val a4, .val a5, .val lane, .val wide, .val tall] (S ++ [some (.obj "Wagon" (comF nm a1 a2 a3 a4 a5))]) := by
      simp [b_Wagon_init_0, e, mDef, startD, sSeq, sNext, sSet, sRet, sRetV, sRetN, sIf, sExpr, sRaise, sAug, sPar, sTgt, sApp, sFrz, sTryAs, rBind, R.bind, mMap, mBin, mUn, mCmp, mChain, mFn, mCall, mAnd, mOr, mNot, mTru, mAndV, mOrV, mNotV, mIf, aNil, aCons, oLst, eVar, eC, lift2, liftB, lk_non, lk_bl, lk_int, lk_str, lk_ty, lk_cls, lk_lst, lk_tup, lk_dic, lk_obj, lk_exc, lk_ref, Slot.d, Cell.d, lt_s, le_s, gt_s, ge_s, cIsN, cIsNN, truD, fNeg, fAddI, fSubI, List.getElem?_cons_zero, List.getElem?_cons_succ, List.set_cons_zero, List.set_cons_succ, add_s, cat_s, sub_s, mFld, fFld, mMeth, mSl, pAt, pNo, mTM, mDisp, ppC, mGet1, mGet2, mRef, toRef, noErr, List.lookup_cons]
    have z0 := e_need_whole (S := (S ++ [some (.obj "Wagon" (comF nm a1 a2 a3 a4 a5))])) (lo := 0) (hi := 9) (plain_app h6)
    by_cases k0 : isW lane 0 9 = true
    · rw [if_pos k0] at z0
      have s1 : b_Wagon_init_1 [.val (.ref S.length), .val nm, .val a1, .val a2, .val a3, .val a4, .val a5, .val lane, .val wide, .val tall] (S ++ [some (.obj "Wagon" (comF nm a1 a2 a3 a4 a5))]) = .nx [.val (.ref S.length), .val nm, .val a1, .val a2, .val a3, .val a4, .val a5, .val lane, .val wide, .val tall] (S ++ [some (.obj "Wagon" (comF nm a1 a2 a3 a4 a5))]) := by
        simp [b_Wagon_init_1, c_need_whole, z0, mDef, startD, sSeq, sNext, sSet, sRet, sRetV, sRetN, sIf, sExpr, sRaise, sAug, sPar, sTgt, sApp, sFrz, sTryAs, rBind, R.bind, mMap, mBin, mUn, mCmp, mChain, mFn, mCall, mAnd, mOr, mNot, mTru, mAndV, mOrV, mNotV, mIf, aNil, aCons, oLst, eVar, eC, lift2, liftB, lk_non, lk_bl, lk_int, lk_str, lk_ty, lk_cls, lk_lst, lk_tup, lk_dic, lk_obj, lk_exc, lk_ref, Slot.d, Cell.d, lt_s, le_s, gt_s, ge_s, cIsN, cIsNN, truD, fNeg, fAddI, fSubI, List.getElem?_cons_zero, List.getElem?_cons_succ, List.set_cons_zero, List.set_cons_succ, add_s, cat_s, sub_s, mFld, fFld, mMeth, mSl, pAt, pNo, mTM, mDisp, ppC, mGet1, mGet2, mRef, toRef, noErr, List.lookup_cons]
      have z1 := e_need_sizes (S := (S ++ [some (.obj "Wagon" (comF nm a1 a2 a3 a4 a5))])) (plain_app h7) (plain_app h8)
      by_cases k1 : (isW wide 1 1000000 && isW tall 1 1000000) = true
      · rw [if_pos k1] at z1
        have s2 : b_Wagon_init_2 [.val (.ref S.length), .val nm, .val a1, .val a2, .val a3, .val a4, .val a5, .val lane, .val wide, .val tall] (S ++ [some (.obj "Wagon" (comF nm a1 a2 a3 a4 a5))]) = .nx [.val (.ref S.length), .val nm, .val a1, .val a2, .val a3, .val a4, .val a5, .val lane, .val wide, .val tall] (S ++ [some (.obj "Wagon" (comF nm a1 a2 a3 a4 a5))]) := by
          simp [b_Wagon_init_2, c_need_sizes, z1, mDef, startD, sSeq, sNext, sSet, sRet, sRetV, sRetN, sIf, sExpr, sRaise, sAug, sPar, sTgt, sApp, sFrz, sTryAs, rBind, R.bind, mMap, mBin, mUn, mCmp, mChain, mFn, mCall, mAnd, mOr, mNot, mTru, mAndV, mOrV, mNotV, mIf, aNil, aCons, oLst, eVar, eC, lift2, liftB, lk_non, lk_bl, lk_int, lk_str, lk_ty, lk_cls, lk_lst, lk_tup, lk_dic, lk_obj, lk_exc, lk_ref, Slot.d, Cell.d, lt_s, le_s, gt_s, ge_s, cIsN, cIsNN, truD, fNeg, fAddI, fSubI, List.getElem?_cons_zero, List.getElem?_cons_succ, List.set_cons_zero, List.set_cons_succ, add_s, cat_s, sub_s, mFld, fFld, mMeth, mSl, pAt, pNo, mTM, mDisp, ppC, mGet1, mGet2, mRef, toRef, noErr, List.lookup_cons]
        rw [if_pos (by simp only [k0, k1]; rfl)]
        have q1 := k1
        rw [Bool.and_eq_true] at q1
        obtain ⟨n0, n1, n2, n3, n4, n5⟩ := nor_com g0 g1
        refine make_ok (mdef_nx (ρ' := [.val (.ref S.length), .val nm, .val a1, .val a2, .val a3, .val a4, .val a5, .val lane, .val wide, .val tall]) (by simp [startD, N_Wagon_init]; rfl) ?_) (by simp [wagonF, norF, n0, n1, n2, n3, n4, n5, nor_W k0, nor_W q1.1, nor_W q1.2])
        unfold b_Wagon_init
        refine seq_nx s0 (seq_nx s1 (seq_nx s2 (?_)))
        refine seq_nx (fld_end rfl (by decide) (by simp [comF, putFD]) (fun _ => rfl)) ?_
        refine seq_nx (fld_end rfl (by decide) (by simp [comF, putFD]) (fun _ => rfl)) ?_
        refine seq_nx (fld_end rfl (by decide) (by simp [comF, putFD]) (fun _ => rfl)) ?_
        simp [sNext, putFD, comF, wagonF]
      · rw [if_neg k1] at z1
        rw [if_neg (by intro zz; simp only [Bool.and_eq_true] at zz k1; exact k1 (by first | exact zz.1 | exact zz.2.1 | exact zz.2.2.1 | exact zz.2.2.2 | exact zz.2.2 | exact zz.2 | exact zz))]
        refine make_err (X := [some (.obj "Wagon" (comF nm a1 a2 a3 a4 a5))]) (mdef_ex (ρ' := [.val (.ref S.length), .val nm, .val a1, .val a2, .val a3, .val a4, .val a5, .val lane, .val wide, .val tall]) (by simp [startD, N_Wagon_init]; rfl) ?_)
        unfold b_Wagon_init
        refine seq_nx s0 (seq_nx s1 (seq_ex ?_))
        simp [b_Wagon_init_2, c_need_sizes, z1, mDef, startD, sSeq, sNext, sSet, sRet, sRetV, sRetN, sIf, sExpr, sRaise, sAug, sPar, sTgt, sApp, sFrz, sTryAs, rBind, R.bind, mMap, mBin, mUn, mCmp, mChain, mFn, mCall, mAnd, mOr, mNot, mTru, mAndV, mOrV, mNotV, mIf, aNil, aCons, oLst, eVar, eC, lift2, liftB, lk_non, lk_bl, lk_int, lk_str, lk_ty, lk_cls, lk_lst, lk_tup, lk_dic, lk_obj, lk_exc, lk_ref, Slot.d, Cell.d, lt_s, le_s, gt_s, ge_s, cIsN, cIsNN, truD, fNeg, fAddI, fSubI, List.getElem?_cons_zero, List.getElem?_cons_succ, List.set_cons_zero, List.set_cons_succ, add_s, cat_s, sub_s, mFld, fFld, mMeth, mSl, pAt, pNo, mTM, mDisp, ppC, mGet1, mGet2, mRef, toRef, noErr, List.lookup_cons]
    · rw [if_neg k0] at z0
      rw [if_neg (by intro zz; simp only [Bool.and_eq_true] at zz k0; exact k0 (by first | exact zz.1 | exact zz.2.1 | exact zz.2.2.1 | exact zz.2.2.2 | exact zz.2.2 | exact zz.2 | exact zz))]
      refine make_err (X := [some (.obj "Wagon" (comF nm a1 a2 a3 a4 a5))]) (mdef_ex (ρ' := [.val (.ref S.length), .val nm, .val a1, .val a2, .val a3, .val a4, .val a5, .val lane, .val wide, .val tall]) (by simp [startD, N_Wagon_init]; rfl) ?_)
      unfold b_Wagon_init
      refine seq_nx s0 (seq_ex ?_)
      simp [b_Wagon_init_1, c_need_whole, z0, mDef, startD, sSeq, sNext, sSet, sRet, sRetV, sRetN, sIf, sExpr, sRaise, sAug, sPar, sTgt, sApp, sFrz, sTryAs, rBind, R.bind, mMap, mBin, mUn, mCmp, mChain, mFn, mCall, mAnd, mOr, mNot, mTru, mAndV, mOrV, mNotV, mIf, aNil, aCons, oLst, eVar, eC, lift2, liftB, lk_non, lk_bl, lk_int, lk_str, lk_ty, lk_cls, lk_lst, lk_tup, lk_dic, lk_obj, lk_exc, lk_ref, Slot.d, Cell.d, lt_s, le_s, gt_s, ge_s, cIsN, cIsNN, truD, fNeg, fAddI, fSubI, List.getElem?_cons_zero, List.getElem?_cons_succ, List.set_cons_zero, List.set_cons_succ, add_s, cat_s, sub_s, mFld, fFld, mMeth, mSl, pAt, pNo, mTM, mDisp, ppC, mGet1, mGet2, mRef, toRef, noErr, List.lookup_cons]
  · rw [com_bad (r := (sSeq b_Wagon_init_1 (sSeq b_Wagon_init_2 (sSeq b_Wagon_init_3 (sSeq b_Wagon_init_4 (sSeq b_Wagon_init_5 sNext)))))) (mf := m_Wagon_init) (ds := [lane, wide, tall]) (ρ := [.val lane, .val wide, .val tall]) rfl (by simp [startD, N_Wagon_init]) (.inr (.inl rfl)) h0 h1 h2 h3 h4 h5 g]
    by_cases g0 : isName nm = true
    · rw [if_pos g0, if_pos g0, if_neg]
      intro z
      rw [Bool.and_eq_true] at z
      exact g (by rw [g0, z.1]; rfl)
    · rw [if_neg g0, if_neg g0]
theorem make_Trap (h0 : plainS nm = true) (h1 : plain (lookD S a1) = true) (h2 : plain (lookD S a2) = true) (h3 : plain (lookD S a3) = true) (h4 : plain (lookD S a4) = true) (h5 : plain (lookD S a5) = true) (h6 : plain (lookD S lane) = true) (h7 : plain (lookD S at_) = true) (h8 : plain (lookD S wide) = true) :
    finOut S (rMake "Trap" m_Trap_init [nm, a1, a2, a3, a4, a5, lane, at_, wide] S) = if isName nm then (if okCom a1 a2 a3 a4 a5 && (isW lane 0 9 && (isW at_ (-1000000000) 1000000000 && isW wide 1 1000000)) then .ok (.val (.obj "Trap" (trapF nm a1 a2 a3 a4 a5 lane at_ wide))) S else .err badNumber S) else .err badName S := by
  by_cases g : (isName nm && okCom a1 a2 a3 a4 a5) = true
  · rw [Bool.and_eq_true] at g
    obtain ⟨g0, g1⟩ := g
    have e := mach_init (c := "Trap") (.inr (.inr (.inr rfl))) h0 h1 h2 h3 h4 h5
    rw [if_pos g0, if_pos g1] at e
    rw [if_pos g0, g1, Bool.true_and]
    have s0 : b_Trap_init_0 [.val (.ref S.length), .val nm, .val a1, .val a2, .val a3, .val a4, .val a5, .val lane, .val at_, .val wide] (S ++ [some (.obj "Trap" [])]) = .nx [.val (.ref S.length), .val nm, .val a1, .val a2, .val a3, .val a4, .val a5, .val lane, .val at_, .val wide] (S ++ [some (.obj "Trap" (comF nm a1 a2 a3 a4 a5))]) := by
      simp [b_Trap_init_0, e, mDef, startD, sSeq, sNext, sSet, sRet, sRetV, sRetN, sIf, sExpr, sRaise, sAug, sPar, sTgt, sApp, sFrz, sTryAs, rBind, R.bind, mMap, mBin, mUn, mCmp, mChain, mFn, mCall, mAnd, mOr, mNot, mTru, mAndV, mOrV, mNotV, mIf, aNil, aCons, oLst, eVar, eC, lift2, liftB, lk_non, lk_bl, lk_int, lk_str, lk_ty, lk_cls, lk_lst, lk_tup, lk_dic, lk_obj, lk_exc, lk_ref, Slot.d, Cell.d, lt_s, le_s, gt_s, ge_s, cIsN, cIsNN, truD, fNeg, fAddI, fSubI, List.getElem?_cons_zero, List.getElem?_cons_succ, List.set_cons_zero, List.set_cons_succ, add_s, cat_s, sub_s, mFld, fFld, mMeth, mSl, pAt, pNo, mTM, mDisp, ppC, mGet1, mGet2, mRef, toRef, noErr, List.lookup_cons]
    have z0 := e_need_whole (S := (S ++ [some (.obj "Trap" (comF nm a1 a2 a3 a4 a5))])) (lo := 0) (hi := 9) (plain_app h6)
    by_cases k0 : isW lane 0 9 = true
    · rw [if_pos k0] at z0
      have s1 : b_Trap_init_1 [.val (.ref S.length), .val nm, .val a1, .val a2, .val a3, .val a4, .val a5, .val lane, .val at_, .val wide] (S ++ [some (.obj "Trap" (comF nm a1 a2 a3 a4 a5))]) = .nx [.val (.ref S.length), .val nm, .val a1, .val a2, .val a3, .val a4, .val a5, .val lane, .val at_, .val wide] (S ++ [some (.obj "Trap" (comF nm a1 a2 a3 a4 a5))]) := by
        simp [b_Trap_init_1, c_need_whole, z0, mDef, startD, sSeq, sNext, sSet, sRet, sRetV, sRetN, sIf, sExpr, sRaise, sAug, sPar, sTgt, sApp, sFrz, sTryAs, rBind, R.bind, mMap, mBin, mUn, mCmp, mChain, mFn, mCall, mAnd, mOr, mNot, mTru, mAndV, mOrV, mNotV, mIf, aNil, aCons, oLst, eVar, eC, lift2, liftB, lk_non, lk_bl, lk_int, lk_str, lk_ty, lk_cls, lk_lst, lk_tup, lk_dic, lk_obj, lk_exc, lk_ref, Slot.d, Cell.d, lt_s, le_s, gt_s, ge_s, cIsN, cIsNN, truD, fNeg, fAddI, fSubI, List.getElem?_cons_zero, List.getElem?_cons_succ, List.set_cons_zero, List.set_cons_succ, add_s, cat_s, sub_s, mFld, fFld, mMeth, mSl, pAt, pNo, mTM, mDisp, ppC, mGet1, mGet2, mRef, toRef, noErr, List.lookup_cons]
      have z1 := e_need_place (S := (S ++ [some (.obj "Trap" (comF nm a1 a2 a3 a4 a5))])) (plain_app h7)
      by_cases k1 : isW at_ (-1000000000) 1000000000 = true
      · rw [if_pos k1] at z1
        have s2 : b_Trap_init_2 [.val (.ref S.length), .val nm, .val a1, .val a2, .val a3, .val a4, .val a5, .val lane, .val at_, .val wide] (S ++ [some (.obj "Trap" (comF nm a1 a2 a3 a4 a5))]) = .nx [.val (.ref S.length), .val nm, .val a1, .val a2, .val a3, .val a4, .val a5, .val lane, .val at_, .val wide] (S ++ [some (.obj "Trap" (comF nm a1 a2 a3 a4 a5))]) := by
          simp [b_Trap_init_2, c_need_place, z1, mDef, startD, sSeq, sNext, sSet, sRet, sRetV, sRetN, sIf, sExpr, sRaise, sAug, sPar, sTgt, sApp, sFrz, sTryAs, rBind, R.bind, mMap, mBin, mUn, mCmp, mChain, mFn, mCall, mAnd, mOr, mNot, mTru, mAndV, mOrV, mNotV, mIf, aNil, aCons, oLst, eVar, eC, lift2, liftB, lk_non, lk_bl, lk_int, lk_str, lk_ty, lk_cls, lk_lst, lk_tup, lk_dic, lk_obj, lk_exc, lk_ref, Slot.d, Cell.d, lt_s, le_s, gt_s, ge_s, cIsN, cIsNN, truD, fNeg, fAddI, fSubI, List.getElem?_cons_zero, List.getElem?_cons_succ, List.set_cons_zero, List.set_cons_succ, add_s, cat_s, sub_s, mFld, fFld, mMeth, mSl, pAt, pNo, mTM, mDisp, ppC, mGet1, mGet2, mRef, toRef, noErr, List.lookup_cons]
        have z2 := e_need_whole (S := (S ++ [some (.obj "Trap" (comF nm a1 a2 a3 a4 a5))])) (lo := 1) (hi := 1000000) (plain_app h8)
        by_cases k2 : isW wide 1 1000000 = true
        · rw [if_pos k2] at z2
          have s3 : b_Trap_init_3 [.val (.ref S.length), .val nm, .val a1, .val a2, .val a3, .val a4, .val a5, .val lane, .val at_, .val wide] (S ++ [some (.obj "Trap" (comF nm a1 a2 a3 a4 a5))]) = .nx [.val (.ref S.length), .val nm, .val a1, .val a2, .val a3, .val a4, .val a5, .val lane, .val at_, .val wide] (S ++ [some (.obj "Trap" (comF nm a1 a2 a3 a4 a5))]) := by
            simp [b_Trap_init_3, c_need_whole, z2, mDef, startD, sSeq, sNext, sSet, sRet, sRetV, sRetN, sIf, sExpr, sRaise, sAug, sPar, sTgt, sApp, sFrz, sTryAs, rBind, R.bind, mMap, mBin, mUn, mCmp, mChain, mFn, mCall, mAnd, mOr, mNot, mTru, mAndV, mOrV, mNotV, mIf, aNil, aCons, oLst, eVar, eC, lift2, liftB, lk_non, lk_bl, lk_int, lk_str, lk_ty, lk_cls, lk_lst, lk_tup, lk_dic, lk_obj, lk_exc, lk_ref, Slot.d, Cell.d, lt_s, le_s, gt_s, ge_s, cIsN, cIsNN, truD, fNeg, fAddI, fSubI, List.getElem?_cons_zero, List.getElem?_cons_succ, List.set_cons_zero, List.set_cons_succ, add_s, cat_s, sub_s, mFld, fFld, mMeth, mSl, pAt, pNo, mTM, mDisp, ppC, mGet1, mGet2, mRef, toRef, noErr, List.lookup_cons]
          rw [if_pos (by simp only [k0, k1, k2]; rfl)]
          obtain ⟨n0, n1, n2, n3, n4, n5⟩ := nor_com g0 g1
          refine make_ok (mdef_nx (ρ' := [.val (.ref S.length), .val nm, .val a1, .val a2, .val a3, .val a4, .val a5, .val lane, .val at_, .val wide]) (by simp [startD, N_Trap_init]; rfl) ?_) (by simp [trapF, norF, n0, n1, n2, n3, n4, n5, nor_W k0, nor_W k1, nor_W k2])
          unfold b_Trap_init
          refine seq_nx s0 (seq_nx s1 (seq_nx s2 (seq_nx s3 (?_))))
          refine seq_nx (fld_end rfl (by decide) (by simp [comF, putFD]) (fun _ => rfl)) ?_
          refine seq_nx (fld_end rfl (by decide) (by simp [comF, putFD]) (fun _ => rfl)) ?_
          refine seq_nx (fld_end rfl (by decide) (by simp [comF, putFD]) (fun _ => rfl)) ?_
          simp [sNext, putFD, comF, trapF]
        · rw [if_neg k2] at z2
          rw [if_neg (by intro zz; simp only [Bool.and_eq_true] at zz k2; exact k2 (by first | exact zz.1 | exact zz.2.1 | exact zz.2.2.1 | exact zz.2.2.2 | exact zz.2.2 | exact zz.2 | exact zz))]
          refine make_err (X := [some (.obj "Trap" (comF nm a1 a2 a3 a4 a5))]) (mdef_ex (ρ' := [.val (.ref S.length), .val nm, .val a1, .val a2, .val a3, .val a4, .val a5, .val lane, .val at_, .val wide]) (by simp [startD, N_Trap_init]; rfl) ?_)
          unfold b_Trap_init
          refine seq_nx s0 (seq_nx s1 (seq_nx s2 (seq_ex ?_)))
          simp [b_Trap_init_3, c_need_whole, z2, mDef, startD, sSeq, sNext, sSet, sRet, sRetV, sRetN, sIf, sExpr, sRaise, sAug, sPar, sTgt, sApp, sFrz, sTryAs, rBind, R.bind, mMap, mBin, mUn, mCmp, mChain, mFn, mCall, mAnd, mOr, mNot, mTru, mAndV, mOrV, mNotV, mIf, aNil, aCons, oLst, eVar, eC, lift2, liftB, lk_non, lk_bl, lk_int, lk_str, lk_ty, lk_cls, lk_lst, lk_tup, lk_dic, lk_obj, lk_exc, lk_ref, Slot.d, Cell.d, lt_s, le_s, gt_s, ge_s, cIsN, cIsNN, truD, fNeg, fAddI, fSubI, List.getElem?_cons_zero, List.getElem?_cons_succ, List.set_cons_zero, List.set_cons_succ, add_s, cat_s, sub_s, mFld, fFld, mMeth, mSl, pAt, pNo, mTM, mDisp, ppC, mGet1, mGet2, mRef, toRef, noErr, List.lookup_cons]
      · rw [if_neg k1] at z1
        rw [if_neg (by intro zz; simp only [Bool.and_eq_true] at zz k1; exact k1 (by first | exact zz.1 | exact zz.2.1 | exact zz.2.2.1 | exact zz.2.2.2 | exact zz.2.2 | exact zz.2 | exact zz))]
        refine make_err (X := [some (.obj "Trap" (comF nm a1 a2 a3 a4 a5))]) (mdef_ex (ρ' := [.val (.ref S.length), .val nm, .val a1, .val a2, .val a3, .val a4, .val a5, .val lane, .val at_, .val wide]) (by simp [startD, N_Trap_init]; rfl) ?_)
        unfold b_Trap_init
        refine seq_nx s0 (seq_nx s1 (seq_ex ?_))
        simp [b_Trap_init_2, c_need_place, z1, mDef, startD, sSeq, sNext, sSet, sRet, sRetV, sRetN, sIf, sExpr, sRaise, sAug, sPar, sTgt, sApp, sFrz, sTryAs, rBind, R.bind, mMap, mBin, mUn, mCmp, mChain, mFn, mCall, mAnd, mOr, mNot, mTru, mAndV, mOrV, mNotV, mIf, aNil, aCons, oLst, eVar, eC, lift2, liftB, lk_non, lk_bl, lk_int, lk_str, lk_ty, lk_cls, lk_lst, lk_tup, lk_dic, lk_obj, lk_exc, lk_ref, Slot.d, Cell.d, lt_s, le_s, gt_s, ge_s, cIsN, cIsNN, truD, fNeg, fAddI, fSubI, List.getElem?_cons_zero, List.getElem?_cons_succ, List.set_cons_zero, List.set_cons_succ, add_s, cat_s, sub_s, mFld, fFld, mMeth, mSl, pAt, pNo, mTM, mDisp, ppC, mGet1, mGet2, mRef, toRef, noErr, List.lookup_cons]
    · rw [if_neg k0] at z0
      rw [if_neg (by intro zz; simp only [Bool.and_eq_true] at zz k0; exact k0 (by first | exact zz.1 | exact zz.2.1 | exact zz.2.2.1 | exact zz.2.2.2 | exact zz.2.2 | exact zz.2 | exact zz))]
      refine make_err (X := [some (.obj "Trap" (comF nm a1 a2 a3 a4 a5))]) (mdef_ex (ρ' := [.val (.ref S.length), .val nm, .val a1, .val a2, .val a3, .val a4, .val a5, .val lane, .val at_, .val wide]) (by simp [startD, N_Trap_init]; rfl) ?_)
      unfold b_Trap_init
      refine seq_nx s0 (seq_ex ?_)
      simp [b_Trap_init_1, c_need_whole, z0, mDef, startD, sSeq, sNext, sSet, sRet, sRetV, sRetN, sIf, sExpr, sRaise, sAug, sPar, sTgt, sApp, sFrz, sTryAs, rBind, R.bind, mMap, mBin, mUn, mCmp, mChain, mFn, mCall, mAnd, mOr, mNot, mTru, mAndV, mOrV, mNotV, mIf, aNil, aCons, oLst, eVar, eC, lift2, liftB, lk_non, lk_bl, lk_int, lk_str, lk_ty, lk_cls, lk_lst, lk_tup, lk_dic, lk_obj, lk_exc, lk_ref, Slot.d, Cell.d, lt_s, le_s, gt_s, ge_s, cIsN, cIsNN, truD, fNeg, fAddI, fSubI, List.getElem?_cons_zero, List.getElem?_cons_succ, List.set_cons_zero, List.set_cons_succ, add_s, cat_s, sub_s, mFld, fFld, mMeth, mSl, pAt, pNo, mTM, mDisp, ppC, mGet1, mGet2, mRef, toRef, noErr, List.lookup_cons]
  · rw [com_bad (r := (sSeq b_Trap_init_1 (sSeq b_Trap_init_2 (sSeq b_Trap_init_3 (sSeq b_Trap_init_4 (sSeq b_Trap_init_5 (sSeq b_Trap_init_6 sNext))))))) (mf := m_Trap_init) (ds := [lane, at_, wide]) (ρ := [.val lane, .val at_, .val wide]) rfl (by simp [startD, N_Trap_init]) (.inr (.inr (.inr rfl))) h0 h1 h2 h3 h4 h5 g]
    by_cases g0 : isName nm = true
    · rw [if_pos g0, if_pos g0, if_neg]
      intro z
      rw [Bool.and_eq_true] at z
      exact g (by rw [g0, z.1]; rfl)
    · rw [if_neg g0, if_neg g0]
end
end FW
end
section
set_option maxHeartbeats 4000000
/-! the plain law: floors are made. -/
namespace FW
open PySem
abbrev Wall := Int × Int × Int
def wallD (z : Wall) : D := .tup [.int z.1, .int z.2.1, .int z.2.2]
def isWall (d : D) : Bool := match d with
  | .tup [o, w, t] => isW o 0 719 && (isW w 1 1000000 && isW t 1 1000000)
  | _ => false
/-- a thing of a built-in kind, with such items -/
def plain2 (d : D) : Bool := match d with
  | .tup xs => xs.all plain
  | d => plain d
theorem look_plain {S : Sto} {d : D} (h : plain d = true) : lookD S d = d := by cases d <;> first | rfl | (simp [plain] at h)
theorem plain_look {S : Sto} {d : D} (h : plain d = true) : plain (lookD S d) = true := by rw [look_plain h]; exact h
theorem plain2_plain {d : D} (h : plain2 d = true) : plain d = true := by cases d <;> simp [plain2, plain] at h ⊢
def wallOk (z : Wall) : Prop := 0 ≤ z.1 ∧ z.1 ≤ 719 ∧ 1 ≤ z.2.1 ∧ z.2.1 ≤ 1000000 ∧ 1 ≤ z.2.2 ∧ z.2.2 ≤ 1000000
theorem isWall_of {d : D} (h : isWall d = true) : ∃ z, d = wallD z ∧ wallOk z := by
  unfold isWall at h
  split at h
  · rename_i o w t
    simp only [Bool.and_eq_true] at h
    obtain ⟨i, rfl, i1, i2⟩ := isW_int h.1
    obtain ⟨j, rfl, j1, j2⟩ := isW_int h.2.1
    obtain ⟨k, rfl, k1, k2⟩ := isW_int h.2.2
    exact ⟨(i, j, k), rfl, i1, i2, j1, j2, k1, k2⟩
  · cases h
theorem walls_of : ∀ {ws : List D}, ws.all isWall = true → ∃ zs : List Wall, ws = zs.map wallD ∧ ∀ z ∈ zs, wallOk z
  | [], _ => ⟨[], rfl, fun z h => by cases h⟩
  | d :: ws, h => by
    simp only [List.all_cons, Bool.and_eq_true] at h
    obtain ⟨z, rfl, hz⟩ := isWall_of h.1
    obtain ⟨zs, rfl, hs⟩ := walls_of h.2
    exact ⟨z :: zs, rfl, fun x hx => by rcases List.mem_cons.mp hx with rfl | hx; exact hz; exact hs x hx⟩
theorem walls_all {zs : List Wall} (h : ∀ z ∈ zs, wallOk z) : (zs.map wallD).all isWall = true := by
  rw [List.all_eq_true]
  intro d hd
  obtain ⟨z, hz, rfl⟩ := List.mem_map.mp hd
  obtain ⟨a, b, c, e, f, g⟩ := h z hz
  simp [isWall, wallD, isW, a, b, c, e, f, g]
section
variable {s0 s1 s2 s3 s4 s5 s6 s7 s8 : Slot}
theorem wall_turn {d : D} {S : Sto} {x : Slot} (h : plain2 d = true) : b_Floor_init_L1 [s0, s1, s2, s3, s4, s5, s6, s7, s8, .val d] S = if isWall d then .nx [s0, s1, s2, s3, s4, s5, s6, s7, s8, .val d] S else .ex badNumber [s0, s1, s2, s3, s4, s5, s6, s7, s8, .val d] S := by
  cases d with
  | tup xs =>
    match xs, h with
    | [], h => simp [b_Floor_init_L1, fIsi, isi1, tyN, T, fLen, cNe, cEq, isWall, badNumber, mDef, startD, sSeq, sNext, sSet, sRet, sRetV, sRetN, sIf, sExpr, sRaise, sAug, sPar, sTgt, sApp, sFrz, sTryAs, rBind, R.bind, mMap, mBin, mUn, mCmp, mChain, mFn, mCall, mAnd, mOr, mNot, mTru, mAndV, mOrV, mNotV, mIf, aNil, aCons, oLst, eVar, eC, lift2, liftB, lk_non, lk_bl, lk_int, lk_str, lk_ty, lk_cls, lk_lst, lk_tup, lk_dic, lk_obj, lk_exc, lk_ref, Slot.d, Cell.d, lt_s, le_s, gt_s, ge_s, cIsN, cIsNN, truD, fNeg, fAddI, fSubI, List.getElem?_cons_zero, List.getElem?_cons_succ, List.set_cons_zero, List.set_cons_succ, add_s, cat_s, sub_s, mFld, fFld, mMeth, mSl, pAt, pNo, mTM, mDisp, ppC, mGet1, mGet2, mRef, toRef, noErr, List.lookup_cons]
    | [_], h => simp [b_Floor_init_L1, fIsi, isi1, tyN, T, fLen, cNe, cEq, isWall, badNumber, mDef, startD, sSeq, sNext, sSet, sRet, sRetV, sRetN, sIf, sExpr, sRaise, sAug, sPar, sTgt, sApp, sFrz, sTryAs, rBind, R.bind, mMap, mBin, mUn, mCmp, mChain, mFn, mCall, mAnd, mOr, mNot, mTru, mAndV, mOrV, mNotV, mIf, aNil, aCons, oLst, eVar, eC, lift2, liftB, lk_non, lk_bl, lk_int, lk_str, lk_ty, lk_cls, lk_lst, lk_tup, lk_dic, lk_obj, lk_exc, lk_ref, Slot.d, Cell.d, lt_s, le_s, gt_s, ge_s, cIsN, cIsNN, truD, fNeg, fAddI, fSubI, List.getElem?_cons_zero, List.getElem?_cons_succ, List.set_cons_zero, List.set_cons_succ, add_s, cat_s, sub_s, mFld, fFld, mMeth, mSl, pAt, pNo, mTM, mDisp, ppC, mGet1, mGet2, mRef, toRef, noErr, List.lookup_cons]
    | [_, _], h => simp [b_Floor_init_L1, fIsi, isi1, tyN, T, fLen, cNe, cEq, isWall, badNumber, mDef, startD, sSeq, sNext, sSet, sRet, sRetV, sRetN, sIf, sExpr, sRaise, sAug, sPar, sTgt, sApp, sFrz, sTryAs, rBind, R.bind, mMap, mBin, mUn, mCmp, mChain, mFn, mCall, mAnd, mOr, mNot, mTru, mAndV, mOrV, mNotV, mIf, aNil, aCons, oLst, eVar, eC, lift2, liftB, lk_non, lk_bl, lk_int, lk_str, lk_ty, lk_cls, lk_lst, lk_tup, lk_dic, lk_obj, lk_exc, lk_ref, Slot.d, Cell.d, lt_s, le_s, gt_s, ge_s, cIsN, cIsNN, truD, fNeg, fAddI, fSubI, List.getElem?_cons_zero, List.getElem?_cons_succ, List.set_cons_zero, List.set_cons_succ, add_s, cat_s, sub_s, mFld, fFld, mMeth, mSl, pAt, pNo, mTM, mDisp, ppC, mGet1, mGet2, mRef, toRef, noErr, List.lookup_cons]
    | [o, w, t], h =>
      simp only [plain2, List.all_cons, List.all_nil, Bool.and_true, Bool.and_eq_true] at h
      have z1 := e_need_whole (S := S) (lo := 0) (hi := 719) (plain_look h.1)
      have z2 := e_need_sizes (S := S) (plain_look h.2.1) (plain_look h.2.2)
      by_cases k1 : isW o 0 719 = true
      · rw [if_pos k1] at z1
        by_cases k2 : (isW w 1 1000000 && isW t 1 1000000) = true
        · rw [if_pos k2] at z2
          rw [if_pos (by simp only [isWall, k1, k2]; rfl)]
          simp [b_Floor_init_L1, fIsi, isi1, tyN, T, fLen, cNe, cEq, c_need_whole, c_need_sizes, opSb, opIx, atD, z1, z2, mDef, startD, sSeq, sNext, sSet, sRet, sRetV, sRetN, sIf, sExpr, sRaise, sAug, sPar, sTgt, sApp, sFrz, sTryAs, rBind, R.bind, mMap, mBin, mUn, mCmp, mChain, mFn, mCall, mAnd, mOr, mNot, mTru, mAndV, mOrV, mNotV, mIf, aNil, aCons, oLst, eVar, eC, lift2, liftB, lk_non, lk_bl, lk_int, lk_str, lk_ty, lk_cls, lk_lst, lk_tup, lk_dic, lk_obj, lk_exc, lk_ref, Slot.d, Cell.d, lt_s, le_s, gt_s, ge_s, cIsN, cIsNN, truD, fNeg, fAddI, fSubI, List.getElem?_cons_zero, List.getElem?_cons_succ, List.set_cons_zero, List.set_cons_succ, add_s, cat_s, sub_s, mFld, fFld, mMeth, mSl, pAt, pNo, mTM, mDisp, ppC, mGet1, mGet2, mRef, toRef, noErr, List.lookup_cons]
        · rw [if_neg k2] at z2
          rw [if_neg (by simp only [isWall, k1]; simpa using k2)]
          simp [b_Floor_init_L1, fIsi, isi1, tyN, T, fLen, cNe, cEq, c_need_whole, c_need_sizes, opSb, opIx, atD, z1, z2, badNumber, mDef, startD, sSeq, sNext, sSet, sRet, sRetV, sRetN, sIf, sExpr, sRaise, sAug, sPar, sTgt, sApp, sFrz, sTryAs, rBind, R.bind, mMap, mBin, mUn, mCmp, mChain, mFn, mCall, mAnd, mOr, mNot, mTru, mAndV, mOrV, mNotV, mIf, aNil, aCons, oLst, eVar, eC, lift2, liftB, lk_non, lk_bl, lk_int, lk_str, lk_ty, lk_cls, lk_lst, lk_tup, lk_dic, lk_obj, lk_exc, lk_ref, Slot.d, Cell.d, lt_s, le_s, gt_s, ge_s, cIsN, cIsNN, truD, fNeg, fAddI, fSubI, List.getElem?_cons_zero, List.getElem?_cons_succ, List.set_cons_zero, List.set_cons_succ, add_s, cat_s, sub_s, mFld, fFld, mMeth, mSl, pAt, pNo, mTM, mDisp, ppC, mGet1, mGet2, mRef, toRef, noErr, List.lookup_cons]
      · rw [if_neg k1] at z1
        rw [if_neg (by simp [isWall, k1])]
        simp [b_Floor_init_L1, fIsi, isi1, tyN, T, fLen, cNe, cEq, c_need_whole, c_need_sizes, opSb, opIx, atD, z1, badNumber, mDef, startD, sSeq, sNext, sSet, sRet, sRetV, sRetN, sIf, sExpr, sRaise, sAug, sPar, sTgt, sApp, sFrz, sTryAs, rBind, R.bind, mMap, mBin, mUn, mCmp, mChain, mFn, mCall, mAnd, mOr, mNot, mTru, mAndV, mOrV, mNotV, mIf, aNil, aCons, oLst, eVar, eC, lift2, liftB, lk_non, lk_bl, lk_int, lk_str, lk_ty, lk_cls, lk_lst, lk_tup, lk_dic, lk_obj, lk_exc, lk_ref, Slot.d, Cell.d, lt_s, le_s, gt_s, ge_s, cIsN, cIsNN, truD, fNeg, fAddI, fSubI, List.getElem?_cons_zero, List.getElem?_cons_succ, List.set_cons_zero, List.set_cons_succ, add_s, cat_s, sub_s, mFld, fFld, mMeth, mSl, pAt, pNo, mTM, mDisp, ppC, mGet1, mGet2, mRef, toRef, noErr, List.lookup_cons]
    | a :: b :: c :: e :: r, h =>
      have l : ¬ ((r.length : Int) + 1 + 1 + 1 + 1 = 3) := by omega
      simp [b_Floor_init_L1, fIsi, isi1, tyN, T, fLen, cNe, cEq, isWall, badNumber, l, mDef, startD, sSeq, sNext, sSet, sRet, sRetV, sRetN, sIf, sExpr, sRaise, sAug, sPar, sTgt, sApp, sFrz, sTryAs, rBind, R.bind, mMap, mBin, mUn, mCmp, mChain, mFn, mCall, mAnd, mOr, mNot, mTru, mAndV, mOrV, mNotV, mIf, aNil, aCons, oLst, eVar, eC, lift2, liftB, lk_non, lk_bl, lk_int, lk_str, lk_ty, lk_cls, lk_lst, lk_tup, lk_dic, lk_obj, lk_exc, lk_ref, Slot.d, Cell.d, lt_s, le_s, gt_s, ge_s, cIsN, cIsNN, truD, fNeg, fAddI, fSubI, List.getElem?_cons_zero, List.getElem?_cons_succ, List.set_cons_zero, List.set_cons_succ, add_s, cat_s, sub_s, mFld, fFld, mMeth, mSl, pAt, pNo, mTM, mDisp, ppC, mGet1, mGet2, mRef, toRef, noErr, List.lookup_cons]
  | _ => first
    | (simp [plain2, plain] at h; done)
    | (simp [b_Floor_init_L1, fIsi, isi1, tyN, T, isWall, badNumber, mDef, startD, sSeq, sNext, sSet, sRet, sRetV, sRetN, sIf, sExpr, sRaise, sAug, sPar, sTgt, sApp, sFrz, sTryAs, rBind, R.bind, mMap, mBin, mUn, mCmp, mChain, mFn, mCall, mAnd, mOr, mNot, mTru, mAndV, mOrV, mNotV, mIf, aNil, aCons, oLst, eVar, eC, lift2, liftB, lk_non, lk_bl, lk_int, lk_str, lk_ty, lk_cls, lk_lst, lk_tup, lk_dic, lk_obj, lk_exc, lk_ref, Slot.d, Cell.d, lt_s, le_s, gt_s, ge_s, cIsN, cIsNN, truD, fNeg, fAddI, fSubI, List.getElem?_cons_zero, List.getElem?_cons_succ, List.set_cons_zero, List.set_cons_succ, add_s, cat_s, sub_s, mFld, fFld, mMeth, mSl, pAt, pNo, mTM, mDisp, ppC, mGet1, mGet2, mRef, toRef, noErr, List.lookup_cons]; done)
theorem wall_loop {C : Gds} {S : Sto} (hC : Gok C S) : ∀ (ws : List D) (x : Slot), ws.all plain2 = true → ∃ y, sForL C (gN 9) b_Floor_init_L1 ws [s0, s1, s2, s3, s4, s5, s6, s7, s8, x] S = if ws.all isWall then .nx [s0, s1, s2, s3, s4, s5, s6, s7, s8, y] S else .ex badNumber [s0, s1, s2, s3, s4, s5, s6, s7, s8, y] S
  | [], x, _ => ⟨x, by simp [sForL, hC]⟩
  | d :: ws, x, h => by
    simp only [List.all_cons, Bool.and_eq_true] at h
    have t := wall_turn (s0 := s0) (s1 := s1) (s2 := s2) (s3 := s3) (s4 := s4) (s5 := s5) (s6 := s6) (s7 := s7) (s8 := s8) (S := S) (x := x) h.1
    by_cases k : isWall d = true
    · obtain ⟨y, e⟩ := wall_loop hC ws (.val d) h.2
      rw [if_pos k] at t
      exact ⟨y, by simp only [sForL, if_pos hC, gN, List.set_cons_succ, List.set_cons_zero, t, e, List.all_cons, k, Bool.true_and]⟩
    · rw [if_neg k] at t
      exact ⟨.val d, by simp only [sForL, if_pos hC, gN, List.set_cons_succ, List.set_cons_zero, t, List.all_cons, k, Bool.false_and]; rfl⟩
end
def isWalls (d : D) : Bool := match d with
  | .lst ws => decide (1 ≤ ws.length) && (decide (ws.length ≤ 4) && ws.all isWall)
  | _ => false
def floorF (nm a1 a2 a3 a4 a5 lane : D) (zs : List Wall) : List (String × D) := [("name", nm), ("least", a1), ("greatest", a2), ("pace", a3), ("gain", a4), ("place", a5), ("rail", lane), ("long", .int (maxL (zs.map (·.2.1)))), ("walls", .lst (zs.map wallD))]
theorem isWalls_of {d : D} (h : isWalls d = true) : ∃ zs : List Wall, d = .lst (zs.map wallD) ∧ 1 ≤ zs.length ∧ zs.length ≤ 4 ∧ ∀ z ∈ zs, wallOk z := by
  unfold isWalls at h
  split at h
  · simp only [Bool.and_eq_true, decide_eq_true_eq] at h
    obtain ⟨zs, rfl, hz⟩ := walls_of h.2.2
    simp only [List.length_map] at h
    exact ⟨zs, rfl, h.1, h.2.1, hz⟩
  · cases h
theorem fSeq_look {S : Sto} {d : D} {ws : List D} (h : lookD S d = .lst ws) : ∃ C, fSeq S d = some (ws, C) ∧ Gok C S ∧ ∀ X, fSeq (S ++ X) d = some (ws, C) ∧ Gok C (S ++ X) := by
  cases d with
  | lst xs => cases h; exact ⟨[], rfl, gok_nil.mpr trivial, fun X => ⟨rfl, gok_nil.mpr trivial⟩⟩
  | ref n =>
    cases q : S[n]? with
    | none => simp [lookD, q] at h
    | some o => cases o with
      | none => simp [lookD, q] at h
      | some c => cases c with
        | lst xs =>
          simp only [lookD, q, Cell.d, D.lst.injEq] at h
          subst h
          have hl := (List.getElem?_eq_some_iff.mp q).1
          have q2 : ∀ X, (S ++ X)[n]? = some (some (Cell.lst xs)) := fun X => by rw [List.getElem?_append_left hl]; exact q
          exact ⟨[(n, xs)], by simp [fSeq, lstOf, q], gok_one.mpr q, fun X => ⟨by simp [fSeq, lstOf, q2], gok_one.mpr (q2 X)⟩⟩
        | dic _ => simp [lookD, q, Cell.d] at h
        | obj _ _ => simp [lookD, q, Cell.d] at h
  | _ => cases h
theorem norL_walls : ∀ zs : List Wall, norL (zs.map wallD) = true
  | [] => rfl
  | z :: zs => by simp [norL, wallD, nor, norL_walls zs]
end FW
end
section
set_option maxHeartbeats 4000000
/-! the plain law: floors are made, the end. -/
namespace FW
open PySem
section
variable {nm a1 a2 a3 a4 a5 lane W : D} {S : Sto}
theorem int_tys {zs : List Wall} {ρ : List Slot} {S : Sto} {C : Gds} {i : Nat} (hC : Gok C S) (h : i < ρ.length) : lcLoop C (gN i) ρ (eC true) (mMap Slot.d (mBin opSb (eVar i) (eC (.int (1))))) (zs.map wallD) [] S = .ok (zs.map fun z => D.int z.2.1) S := by
  rw [lc_map (fun d => match d with
    | .tup [_, b, _] => b
    | _ => .non) hC]
  · simp [wallD]
  · intro d hd
    obtain ⟨z, _, rfl⟩ := List.mem_map.mp hd
    exact ⟨_, rfl, by simp [wallD, h, opSb, opIx, atD, mDef, startD, sSeq, sNext, sSet, sRet, sRetV, sRetN, sIf, sExpr, sRaise, sAug, sPar, sTgt, sApp, sFrz, sTryAs, rBind, R.bind, mMap, mBin, mUn, mCmp, mChain, mFn, mCall, mAnd, mOr, mNot, mTru, mAndV, mOrV, mNotV, mIf, aNil, aCons, oLst, eVar, eC, lift2, liftB, lk_non, lk_bl, lk_int, lk_str, lk_ty, lk_cls, lk_lst, lk_tup, lk_dic, lk_obj, lk_exc, lk_ref, Slot.d, Cell.d, lt_s, le_s, gt_s, ge_s, cIsN, cIsNN, truD, fNeg, fAddI, fSubI, List.getElem?_cons_zero, List.getElem?_cons_succ, List.set_cons_zero, List.set_cons_succ, add_s, cat_s, sub_s, mFld, fFld, mMeth, mSl, pAt, pNo, mTM, mDisp, ppC, mGet1, mGet2, mRef, toRef, noErr, List.lookup_cons]⟩
theorem int_offs {zs : List Wall} {ρ : List Slot} {S : Sto} {C : Gds} {i : Nat} (hC : Gok C S) (h : i < ρ.length) : lcLoop C (gN i) ρ (eC true) (mMap Slot.d (mBin opSb (eVar i) (eC (.int (0))))) (zs.map wallD) [] S = .ok (zs.map fun z => D.int z.1) S := by
  rw [lc_map (fun d => match d with
    | .tup [a, _, _] => a
    | _ => .non) hC]
  · simp [wallD]
  · intro d hd
    obtain ⟨z, _, rfl⟩ := List.mem_map.mp hd
    exact ⟨_, rfl, by simp [wallD, h, opSb, opIx, atD, mDef, startD, sSeq, sNext, sSet, sRet, sRetV, sRetN, sIf, sExpr, sRaise, sAug, sPar, sTgt, sApp, sFrz, sTryAs, rBind, R.bind, mMap, mBin, mUn, mCmp, mChain, mFn, mCall, mAnd, mOr, mNot, mTru, mAndV, mOrV, mNotV, mIf, aNil, aCons, oLst, eVar, eC, lift2, liftB, lk_non, lk_bl, lk_int, lk_str, lk_ty, lk_cls, lk_lst, lk_tup, lk_dic, lk_obj, lk_exc, lk_ref, Slot.d, Cell.d, lt_s, le_s, gt_s, ge_s, cIsN, cIsNN, truD, fNeg, fAddI, fSubI, List.getElem?_cons_zero, List.getElem?_cons_succ, List.set_cons_zero, List.set_cons_succ, add_s, cat_s, sub_s, mFld, fFld, mMeth, mSl, pAt, pNo, mTM, mDisp, ppC, mGet1, mGet2, mRef, toRef, noErr, List.lookup_cons]⟩
theorem intsD_wide (zs : List Wall) : intsD (zs.map fun z => D.int z.2.1) = some (zs.map (·.2.1)) := by
  have := intsD_map (zs.map (·.2.1))
  rw [List.map_map] at this
  exact this
theorem intsD_off (zs : List Wall) : intsD (zs.map fun z => D.int z.1) = some (zs.map (·.1)) := by
  have := intsD_map (zs.map (·.1))
  rw [List.map_map] at this
  exact this
theorem make_Floor (h0 : plainS nm = true) (h1 : plain (lookD S a1) = true) (h2 : plain (lookD S a2) = true) (h3 : plain (lookD S a3) = true) (h4 : plain (lookD S a4) = true) (h5 : plain (lookD S a5) = true) (h6 : plain (lookD S lane) = true) (h7 : plain (lookD S W) = true) (h8 : ∀ ws, lookD S W = .lst ws → ws.all plain2 = true) :
    if isName nm then (if okCom a1 a2 a3 a4 a5 && (isW lane 0 9 && isWalls (lookD S W)) then ∃ zs : List Wall, lookD S W = .lst (zs.map wallD) ∧ finOut S (rMake "Floor" m_Floor_init [nm, a1, a2, a3, a4, a5, lane, W] S) = .ok (.val (.obj "Floor" (floorF nm a1 a2 a3 a4 a5 lane zs))) S
      else finOut S (rMake "Floor" m_Floor_init [nm, a1, a2, a3, a4, a5, lane, W] S) = .err badNumber S) else finOut S (rMake "Floor" m_Floor_init [nm, a1, a2, a3, a4, a5, lane, W] S) = .err badName S := by
  by_cases g : (isName nm && okCom a1 a2 a3 a4 a5) = true
  · rw [Bool.and_eq_true] at g
    obtain ⟨g0, g1⟩ := g
    have e := mach_init (c := "Floor") (.inr (.inr (.inl rfl))) h0 h1 h2 h3 h4 h5
    rw [if_pos g0, if_pos g1] at e
    rw [if_pos g0, g1, Bool.true_and]
    have s0 : b_Floor_init_0 [.val (.ref S.length), .val nm, .val a1, .val a2, .val a3, .val a4, .val a5, .val lane, .val W, .none] (S ++ [some (.obj "Floor" [])]) = .nx [.val (.ref S.length), .val nm, .val a1, .val a2, .val a3, .val a4, .val a5, .val lane, .val W, .none] (S ++ [some (.obj "Floor" (comF nm a1 a2 a3 a4 a5))]) := by
      simp [b_Floor_init_0, e, mDef, startD, sSeq, sNext, sSet, sRet, sRetV, sRetN, sIf, sExpr, sRaise, sAug, sPar, sTgt, sApp, sFrz, sTryAs, rBind, R.bind, mMap, mBin, mUn, mCmp, mChain, mFn, mCall, mAnd, mOr, mNot, mTru, mAndV, mOrV, mNotV, mIf, aNil, aCons, oLst, eVar, eC, lift2, liftB, lk_non, lk_bl, lk_int, lk_str, lk_ty, lk_cls, lk_lst, lk_tup, lk_dic, lk_obj, lk_exc, lk_ref, Slot.d, Cell.d, lt_s, le_s, gt_s, ge_s, cIsN, cIsNN, truD, fNeg, fAddI, fSubI, List.getElem?_cons_zero, List.getElem?_cons_succ, List.set_cons_zero, List.set_cons_succ, add_s, cat_s, sub_s, mFld, fFld, mMeth, mSl, pAt, pNo, mTM, mDisp, ppC, mGet1, mGet2, mRef, toRef, noErr, List.lookup_cons]
    have z1 := e_need_whole (S := S ++ [some (.obj "Floor" (comF nm a1 a2 a3 a4 a5))]) (lo := 0) (hi := 9) (plain_app h6)
    by_cases k1 : isW lane 0 9 = true
    · rw [if_pos k1] at z1
      have s1 : b_Floor_init_1 [.val (.ref S.length), .val nm, .val a1, .val a2, .val a3, .val a4, .val a5, .val lane, .val W, .none] (S ++ [some (.obj "Floor" (comF nm a1 a2 a3 a4 a5))]) = .nx [.val (.ref S.length), .val nm, .val a1, .val a2, .val a3, .val a4, .val a5, .val lane, .val W, .none] (S ++ [some (.obj "Floor" (comF nm a1 a2 a3 a4 a5))]) := by
        simp [b_Floor_init_1, c_need_whole, z1, mDef, startD, sSeq, sNext, sSet, sRet, sRetV, sRetN, sIf, sExpr, sRaise, sAug, sPar, sTgt, sApp, sFrz, sTryAs, rBind, R.bind, mMap, mBin, mUn, mCmp, mChain, mFn, mCall, mAnd, mOr, mNot, mTru, mAndV, mOrV, mNotV, mIf, aNil, aCons, oLst, eVar, eC, lift2, liftB, lk_non, lk_bl, lk_int, lk_str, lk_ty, lk_cls, lk_lst, lk_tup, lk_dic, lk_obj, lk_exc, lk_ref, Slot.d, Cell.d, lt_s, le_s, gt_s, ge_s, cIsN, cIsNN, truD, fNeg, fAddI, fSubI, List.getElem?_cons_zero, List.getElem?_cons_succ, List.set_cons_zero, List.set_cons_succ, add_s, cat_s, sub_s, mFld, fFld, mMeth, mSl, pAt, pNo, mTM, mDisp, ppC, mGet1, mGet2, mRef, toRef, noErr, List.lookup_cons]
      have hl := look_app (X := [some (.obj "Floor" (comF nm a1 a2 a3 a4 a5))]) h7
      rw [k1, Bool.true_and]
      by_cases lst : ∃ ws, lookD S W = .lst ws
      · obtain ⟨ws, hw⟩ := lst
        rw [hw] at hl
        have h8' := h8 ws hw
        rw [hw]
        by_cases k2 : (1 : Int) ≤ ws.length
        · by_cases k3 : (ws.length : Int) ≤ 4
          · have s2 : b_Floor_init_2 [.val (.ref S.length), .val nm, .val a1, .val a2, .val a3, .val a4, .val a5, .val lane, .val W, .none] (S ++ [some (.obj "Floor" (comF nm a1 a2 a3 a4 a5))]) = .nx [.val (.ref S.length), .val nm, .val a1, .val a2, .val a3, .val a4, .val a5, .val lane, .val W, .none] (S ++ [some (.obj "Floor" (comF nm a1 a2 a3 a4 a5))]) := by
              simp [b_Floor_init_2, fIsi, isi1, tyN, T, fLen, hl, k2, k3, mDef, startD, sSeq, sNext, sSet, sRet, sRetV, sRetN, sIf, sExpr, sRaise, sAug, sPar, sTgt, sApp, sFrz, sTryAs, rBind, R.bind, mMap, mBin, mUn, mCmp, mChain, mFn, mCall, mAnd, mOr, mNot, mTru, mAndV, mOrV, mNotV, mIf, aNil, aCons, oLst, eVar, eC, lift2, liftB, lk_non, lk_bl, lk_int, lk_str, lk_ty, lk_cls, lk_lst, lk_tup, lk_dic, lk_obj, lk_exc, lk_ref, Slot.d, Cell.d, lt_s, le_s, gt_s, ge_s, cIsN, cIsNN, truD, fNeg, fAddI, fSubI, List.getElem?_cons_zero, List.getElem?_cons_succ, List.set_cons_zero, List.set_cons_succ, add_s, cat_s, sub_s, mFld, fFld, mMeth, mSl, pAt, pNo, mTM, mDisp, ppC, mGet1, mGet2, mRef, toRef, noErr, List.lookup_cons]
            obtain ⟨C, c1, c2, c3⟩ := fSeq_look hw
            obtain ⟨c4, c5⟩ := c3 [some (.obj "Floor" (comF nm a1 a2 a3 a4 a5))]
            obtain ⟨y, lp⟩ := wall_loop (s0 := .val (.ref S.length)) (s1 := .val nm) (s2 := .val a1) (s3 := .val a2) (s4 := .val a3) (s5 := .val a4) (s6 := .val a5) (s7 := .val lane) (s8 := .val W) c5 ws .none h8'
            have n1 : 1 ≤ ws.length := by omega
            have n2 : ws.length ≤ 4 := by omega
            have wl : isWalls (.lst ws) = ws.all isWall := by simp [isWalls, n1, n2]
            rw [wl]
            by_cases k4 : ws.all isWall = true
            · rw [if_pos k4] at lp
              rw [if_pos k4]
              obtain ⟨zs, rfl, hz⟩ := walls_of k4
              refine ⟨zs, rfl, ?_⟩
              obtain ⟨n0, n1', n2', n3, n4, n5⟩ := nor_com g0 g1
              refine make_ok (mdef_nx (ρ' := [.val (.ref S.length), .val nm, .val a1, .val a2, .val a3, .val a4, .val a5, .val lane, .val W, y]) (by simp [startD, N_Floor_init]; rfl) ?_) (by simp [floorF, norF, nor, norL_walls, n0, n1', n2', n3, n4, n5, nor_W k1])
              unfold b_Floor_init
              refine seq_nx s0 (seq_nx s1 (seq_nx s2 ?_))
              refine seq_nx (ρ1 := [.val (.ref S.length), .val nm, .val a1, .val a2, .val a3, .val a4, .val a5, .val lane, .val W, y]) (S1 := S ++ [some (.obj "Floor" (comF nm a1 a2 a3 a4 a5))]) (by simp [b_Floor_init_3, sFor, mSeq, mThenS, c4, lp, mDef, startD, sSeq, sNext, sSet, sRet, sRetV, sRetN, sIf, sExpr, sRaise, sAug, sPar, sTgt, sApp, sFrz, sTryAs, rBind, R.bind, mMap, mBin, mUn, mCmp, mChain, mFn, mCall, mAnd, mOr, mNot, mTru, mAndV, mOrV, mNotV, mIf, aNil, aCons, oLst, eVar, eC, lift2, liftB, lk_non, lk_bl, lk_int, lk_str, lk_ty, lk_cls, lk_lst, lk_tup, lk_dic, lk_obj, lk_exc, lk_ref, Slot.d, Cell.d, lt_s, le_s, gt_s, ge_s, cIsN, cIsNN, truD, fNeg, fAddI, fSubI, List.getElem?_cons_zero, List.getElem?_cons_succ, List.set_cons_zero, List.set_cons_succ, add_s, cat_s, sub_s, mFld, fFld, mMeth, mSl, pAt, pNo, mTM, mDisp, ppC, mGet1, mGet2, mRef, toRef, noErr, List.lookup_cons]) ?_
              refine seq_nx (fld_end rfl (by decide) (by simp [comF]) (fun _ => rfl)) ?_
              have len2 : zs.length ≤ 1000000 := by simp at n2; omega
              obtain ⟨z0, zr, rfl⟩ : ∃ z0 zr, zs = z0 :: zr := by
                cases zs with
                | nil => simp at n1
                | cons a b => exact ⟨a, b, rfl⟩
              refine seq_nx (fld_end rfl (by decide) (by simp [comF, putFD]) (d := .int (maxL ((z0 :: zr).map (·.2.1)))) (fun X => ?_)) ?_
              · obtain ⟨d1, d2⟩ := c3 X
                have t := int_tys (zs := z0 :: zr) (ρ := [.val (.ref S.length), .val nm, .val a1, .val a2, .val a3, .val a4, .val a5, .val lane, .val W, .none]) (i := 9) d2 (by simp)
                have t2 := intsD_wide (z0 :: zr)
                simp only [List.length_cons] at len2
                simp only [List.map_cons] at t t2 d1
                simp [mLc, mSeq, mThenS, d1, wipeD, t, fMaxA, t2, len2, mDef, startD, sSeq, sNext, sSet, sRet, sRetV, sRetN, sIf, sExpr, sRaise, sAug, sPar, sTgt, sApp, sFrz, sTryAs, rBind, R.bind, mMap, mBin, mUn, mCmp, mChain, mFn, mCall, mAnd, mOr, mNot, mTru, mAndV, mOrV, mNotV, mIf, aNil, aCons, oLst, eVar, eC, lift2, liftB, lk_non, lk_bl, lk_int, lk_str, lk_ty, lk_cls, lk_lst, lk_tup, lk_dic, lk_obj, lk_exc, lk_ref, Slot.d, Cell.d, lt_s, le_s, gt_s, ge_s, cIsN, cIsNN, truD, fNeg, fAddI, fSubI, List.getElem?_cons_zero, List.getElem?_cons_succ, List.set_cons_zero, List.set_cons_succ, add_s, cat_s, sub_s, mFld, fFld, mMeth, mSl, pAt, pNo, mTM, mDisp, ppC, mGet1, mGet2, mRef, toRef, noErr, List.lookup_cons]
              · refine seq_nx (fld_end rfl (by decide) (by simp [comF, putFD]) (d := .lst ((z0 :: zr).map wallD)) (fun X => ?_)) ?_
                · have hl' := look_app (X := X) h7
                  rw [hw] at hl'
                  simp [fList, hl', mDef, startD, sSeq, sNext, sSet, sRet, sRetV, sRetN, sIf, sExpr, sRaise, sAug, sPar, sTgt, sApp, sFrz, sTryAs, rBind, R.bind, mMap, mBin, mUn, mCmp, mChain, mFn, mCall, mAnd, mOr, mNot, mTru, mAndV, mOrV, mNotV, mIf, aNil, aCons, oLst, eVar, eC, lift2, liftB, lk_non, lk_bl, lk_int, lk_str, lk_ty, lk_cls, lk_lst, lk_tup, lk_dic, lk_obj, lk_exc, lk_ref, Slot.d, Cell.d, lt_s, le_s, gt_s, ge_s, cIsN, cIsNN, truD, fNeg, fAddI, fSubI, List.getElem?_cons_zero, List.getElem?_cons_succ, List.set_cons_zero, List.set_cons_succ, add_s, cat_s, sub_s, mFld, fFld, mMeth, mSl, pAt, pNo, mTM, mDisp, ppC, mGet1, mGet2, mRef, toRef, noErr, List.lookup_cons]
                · simp [sNext, putFD, comF, floorF]
            · rw [if_neg k4] at lp
              rw [if_neg k4]
              refine make_err (X := [some (.obj "Floor" (comF nm a1 a2 a3 a4 a5))]) (mdef_ex (ρ' := [.val (.ref S.length), .val nm, .val a1, .val a2, .val a3, .val a4, .val a5, .val lane, .val W, y]) (by simp [startD, N_Floor_init]; rfl) ?_)
              unfold b_Floor_init
              refine seq_nx s0 (seq_nx s1 (seq_nx s2 (seq_ex ?_)))
              simp [b_Floor_init_3, sFor, mSeq, mThenS, c4, lp, badNumber, mDef, startD, sSeq, sNext, sSet, sRet, sRetV, sRetN, sIf, sExpr, sRaise, sAug, sPar, sTgt, sApp, sFrz, sTryAs, rBind, R.bind, mMap, mBin, mUn, mCmp, mChain, mFn, mCall, mAnd, mOr, mNot, mTru, mAndV, mOrV, mNotV, mIf, aNil, aCons, oLst, eVar, eC, lift2, liftB, lk_non, lk_bl, lk_int, lk_str, lk_ty, lk_cls, lk_lst, lk_tup, lk_dic, lk_obj, lk_exc, lk_ref, Slot.d, Cell.d, lt_s, le_s, gt_s, ge_s, cIsN, cIsNN, truD, fNeg, fAddI, fSubI, List.getElem?_cons_zero, List.getElem?_cons_succ, List.set_cons_zero, List.set_cons_succ, add_s, cat_s, sub_s, mFld, fFld, mMeth, mSl, pAt, pNo, mTM, mDisp, ppC, mGet1, mGet2, mRef, toRef, noErr, List.lookup_cons]
          · have n2 : ¬ ws.length ≤ 4 := by omega
            rw [if_neg (by simp [isWalls, n2])]
            refine make_err (X := [some (.obj "Floor" (comF nm a1 a2 a3 a4 a5))]) (mdef_ex (ρ' := [.val (.ref S.length), .val nm, .val a1, .val a2, .val a3, .val a4, .val a5, .val lane, .val W, .none]) (by simp [startD, N_Floor_init]; rfl) ?_)
            unfold b_Floor_init
            refine seq_nx s0 (seq_nx s1 (seq_ex ?_))
            simp [b_Floor_init_2, fIsi, isi1, tyN, T, fLen, hl, k2, k3, mDef, startD, sSeq, sNext, sSet, sRet, sRetV, sRetN, sIf, sExpr, sRaise, sAug, sPar, sTgt, sApp, sFrz, sTryAs, rBind, R.bind, mMap, mBin, mUn, mCmp, mChain, mFn, mCall, mAnd, mOr, mNot, mTru, mAndV, mOrV, mNotV, mIf, aNil, aCons, oLst, eVar, eC, lift2, liftB, lk_non, lk_bl, lk_int, lk_str, lk_ty, lk_cls, lk_lst, lk_tup, lk_dic, lk_obj, lk_exc, lk_ref, Slot.d, Cell.d, lt_s, le_s, gt_s, ge_s, cIsN, cIsNN, truD, fNeg, fAddI, fSubI, List.getElem?_cons_zero, List.getElem?_cons_succ, List.set_cons_zero, List.set_cons_succ, add_s, cat_s, sub_s, mFld, fFld, mMeth, mSl, pAt, pNo, mTM, mDisp, ppC, mGet1, mGet2, mRef, toRef, noErr, List.lookup_cons]
        · have n1 : ¬ 1 ≤ ws.length := by omega
          rw [if_neg (by simp [isWalls, n1])]
          refine make_err (X := [some (.obj "Floor" (comF nm a1 a2 a3 a4 a5))]) (mdef_ex (ρ' := [.val (.ref S.length), .val nm, .val a1, .val a2, .val a3, .val a4, .val a5, .val lane, .val W, .none]) (by simp [startD, N_Floor_init]; rfl) ?_)
          unfold b_Floor_init
          refine seq_nx s0 (seq_nx s1 (seq_ex ?_))
          simp [b_Floor_init_2, fIsi, isi1, tyN, T, fLen, hl, k2, mDef, startD, sSeq, sNext, sSet, sRet, sRetV, sRetN, sIf, sExpr, sRaise, sAug, sPar, sTgt, sApp, sFrz, sTryAs, rBind, R.bind, mMap, mBin, mUn, mCmp, mChain, mFn, mCall, mAnd, mOr, mNot, mTru, mAndV, mOrV, mNotV, mIf, aNil, aCons, oLst, eVar, eC, lift2, liftB, lk_non, lk_bl, lk_int, lk_str, lk_ty, lk_cls, lk_lst, lk_tup, lk_dic, lk_obj, lk_exc, lk_ref, Slot.d, Cell.d, lt_s, le_s, gt_s, ge_s, cIsN, cIsNN, truD, fNeg, fAddI, fSubI, List.getElem?_cons_zero, List.getElem?_cons_succ, List.set_cons_zero, List.set_cons_succ, add_s, cat_s, sub_s, mFld, fFld, mMeth, mSl, pAt, pNo, mTM, mDisp, ppC, mGet1, mGet2, mRef, toRef, noErr, List.lookup_cons]
      · have nw : isWalls (lookD S W) = false := by
          cases q : lookD S W with
          | lst ws => exact absurd ⟨ws, q⟩ lst
          | _ => rfl
        rw [nw, if_neg Bool.false_ne_true]
        refine make_err (X := [some (.obj "Floor" (comF nm a1 a2 a3 a4 a5))]) (mdef_ex (ρ' := [.val (.ref S.length), .val nm, .val a1, .val a2, .val a3, .val a4, .val a5, .val lane, .val W, .none]) (by simp [startD, N_Floor_init]; rfl) ?_)
        unfold b_Floor_init
        refine seq_nx s0 (seq_nx s1 (seq_ex ?_))
        cases q : lookD S W with
        | lst ws => exact absurd ⟨ws, q⟩ lst
        | _ => rw [q] at hl h7; first
          | (simp [plain] at h7; done)
          | (simp [b_Floor_init_2, fIsi, isi1, tyN, T, fLen, hl, mDef, startD, sSeq, sNext, sSet, sRet, sRetV, sRetN, sIf, sExpr, sRaise, sAug, sPar, sTgt, sApp, sFrz, sTryAs, rBind, R.bind, mMap, mBin, mUn, mCmp, mChain, mFn, mCall, mAnd, mOr, mNot, mTru, mAndV, mOrV, mNotV, mIf, aNil, aCons, oLst, eVar, eC, lift2, liftB, lk_non, lk_bl, lk_int, lk_str, lk_ty, lk_cls, lk_lst, lk_tup, lk_dic, lk_obj, lk_exc, lk_ref, Slot.d, Cell.d, lt_s, le_s, gt_s, ge_s, cIsN, cIsNN, truD, fNeg, fAddI, fSubI, List.getElem?_cons_zero, List.getElem?_cons_succ, List.set_cons_zero, List.set_cons_succ, add_s, cat_s, sub_s, mFld, fFld, mMeth, mSl, pAt, pNo, mTM, mDisp, ppC, mGet1, mGet2, mRef, toRef, noErr, List.lookup_cons]; done)
    · rw [if_neg k1] at z1
      rw [if_neg (by simp [k1])]
      refine make_err (X := [some (.obj "Floor" (comF nm a1 a2 a3 a4 a5))]) (mdef_ex (ρ' := [.val (.ref S.length), .val nm, .val a1, .val a2, .val a3, .val a4, .val a5, .val lane, .val W, .none]) (by simp [startD, N_Floor_init]; rfl) ?_)
      unfold b_Floor_init
      refine seq_nx s0 (seq_ex ?_)
      simp [b_Floor_init_1, c_need_whole, z1, mDef, startD, sSeq, sNext, sSet, sRet, sRetV, sRetN, sIf, sExpr, sRaise, sAug, sPar, sTgt, sApp, sFrz, sTryAs, rBind, R.bind, mMap, mBin, mUn, mCmp, mChain, mFn, mCall, mAnd, mOr, mNot, mTru, mAndV, mOrV, mNotV, mIf, aNil, aCons, oLst, eVar, eC, lift2, liftB, lk_non, lk_bl, lk_int, lk_str, lk_ty, lk_cls, lk_lst, lk_tup, lk_dic, lk_obj, lk_exc, lk_ref, Slot.d, Cell.d, lt_s, le_s, gt_s, ge_s, cIsN, cIsNN, truD, fNeg, fAddI, fSubI, List.getElem?_cons_zero, List.getElem?_cons_succ, List.set_cons_zero, List.set_cons_succ, add_s, cat_s, sub_s, mFld, fFld, mMeth, mSl, pAt, pNo, mTM, mDisp, ppC, mGet1, mGet2, mRef, toRef, noErr, List.lookup_cons]
  · have cb := com_bad (r := (sSeq b_Floor_init_1 (sSeq b_Floor_init_2 (sSeq b_Floor_init_3 (sSeq b_Floor_init_4 (sSeq b_Floor_init_5 (sSeq b_Floor_init_6 sNext))))))) (mf := m_Floor_init) (ds := [lane, W]) (ρ := [.val lane, .val W, .none]) rfl (by simp [startD, N_Floor_init]) (.inr (.inr (.inl rfl))) h0 h1 h2 h3 h4 h5 g
    by_cases g0 : isName nm = true
    · rw [if_pos g0] at cb ⊢
      rw [if_neg]
      · exact cb
      · intro z
        rw [Bool.and_eq_true] at z
        exact g (by rw [g0, z.1]; rfl)
    · rw [if_neg g0] at cb ⊢
      exact cb
end
end FW
end
section
set_option maxHeartbeats 4000000
/-! the plain law: what machines tell. -/
namespace FW
open PySem
inductive Kd where
  | line | wagon | trap | floor
deriving DecidableEq
structure Mach where
  k : Kd
  nm : Str
  lo : Int
  hi : Int
  pace : Int
  gain : Int
  place : Int
  lane : Int
  at_ : Int
  wide : Int
  tall : Int
  walls : List Wall
def Kd.txt : Kd → Str
  | .line => Str.ofString "line" | .wagon => Str.ofString "wagon" | .trap => Str.ofString "trap" | .floor => Str.ofString "floor"
def Kd.cls : Kd → String
  | .line => "Line" | .wagon => "Wagon" | .trap => "Trap" | .floor => "Floor"
def Mach.fs (m : Mach) : List (String × D) := match m.k with
  | .line => lineF (.str m.nm) (.int m.lo) (.int m.hi) (.int m.pace) (.int m.gain) (.int m.place) (.int m.lane) (.int m.at_) (.int m.wide) (.int m.tall)
  | .wagon => wagonF (.str m.nm) (.int m.lo) (.int m.hi) (.int m.pace) (.int m.gain) (.int m.place) (.int m.lane) (.int m.wide) (.int m.tall)
  | .trap => trapF (.str m.nm) (.int m.lo) (.int m.hi) (.int m.pace) (.int m.gain) (.int m.place) (.int m.lane) (.int m.at_) (.int m.wide)
  | .floor => floorF (.str m.nm) (.int m.lo) (.int m.hi) (.int m.pace) (.int m.gain) (.int m.place) (.int m.lane) m.walls
def Mach.obj (m : Mach) : D := .obj m.k.cls m.fs
structure Mach.Ok (m : Mach) : Prop where
  nm : isNm m.nm = true
  lo1 : -1000000000 ≤ m.lo
  lo2 : m.lo ≤ 1000000000
  hi1 : m.lo ≤ m.hi
  hi2 : m.hi ≤ 1000000000
  p1 : 1 ≤ m.pace
  p2 : m.pace ≤ 1000000000
  g1 : 1 ≤ m.gain
  g2 : m.gain ≤ 1000000000
  pl1 : m.lo ≤ m.place
  pl2 : m.place ≤ m.hi
  la1 : 0 ≤ m.lane
  la2 : m.lane ≤ 9
  at1 : -1000000000 ≤ m.at_
  at2 : m.at_ ≤ 1000000000
  w1 : 1 ≤ m.wide
  w2 : m.wide ≤ 1000000
  t1 : 1 ≤ m.tall
  t2 : m.tall ≤ 1000000
  wl1 : 1 ≤ m.walls.length
  wl2 : m.walls.length ≤ 4
  wl : ∀ z ∈ m.walls, wallOk z
abbrev Box := Int × Int × Int × Int × Int
def boxD (b : Box) : D := .tup [.int b.1, .int b.2.1, .int b.2.2.1, .int b.2.2.2.1, .int b.2.2.2.2]
def Mach.swept (m : Mach) (a b : Int) : List Box := match m.k with
  | .line => [(m.lane, m.at_, m.wide, a, m.tall + b - a)]
  | .wagon => [(m.lane, a, m.wide + b - a, 0, m.tall)]
  | .trap => if a < 0 then [(m.lane, m.at_, m.wide, 0, 1)] else []
  | .floor => m.walls.map fun z => (m.lane, z.1 + a, z.2.1 + b - a, 0, z.2.2)
def Mach.long (m : Mach) : Int := match m.k with
  | .floor => maxL (m.walls.map (·.2.1))
  | _ => m.wide
def Mach.off (m : Mach) : Int := match m.k with
  | .floor => maxL (m.walls.map (·.1))
  | _ => 0
section
variable {m : Mach} {x : D} {mo ma : M D} {ρ : List Slot} {S S1 S2 : Sto}
/-- fields that all have -/
theorem fld_of (hx : lookD S x = m.obj) {f : String} {d : D} {cs : List String} (hc : cs = ["Machine", "Line", "Wagon", "Floor", "Trap"]) (h : m.fs.lookup f = some d) : fFld cs f S x = some d := by
  subst hc
  unfold fFld
  rw [hx]
  unfold Mach.obj
  simp only
  rw [if_pos (by cases m.k <;> decide)]
  exact h
theorem f_nm : m.fs.lookup "name" = some (.str m.nm) := by unfold Mach.fs; cases m.k <;> rfl
theorem f_lo : m.fs.lookup "least" = some (.int m.lo) := by unfold Mach.fs; cases m.k <;> rfl
theorem f_hi : m.fs.lookup "greatest" = some (.int m.hi) := by unfold Mach.fs; cases m.k <;> rfl
theorem f_pace : m.fs.lookup "pace" = some (.int m.pace) := by unfold Mach.fs; cases m.k <;> rfl
theorem f_gain : m.fs.lookup "gain" = some (.int m.gain) := by unfold Mach.fs; cases m.k <;> rfl
theorem f_place : m.fs.lookup "place" = some (.int m.place) := by unfold Mach.fs; cases m.k <;> rfl
theorem f_rail : m.fs.lookup "rail" = some (.int m.lane) := by unfold Mach.fs; cases m.k <;> rfl
theorem f_long : m.fs.lookup "long" = some (.int m.long) := by unfold Mach.fs Mach.long; cases m.k <;> rfl
theorem fl_nm (hx : lookD S x = m.obj) : fFld cs_name "name" S x = some (.str m.nm) := fld_of hx rfl f_nm
theorem fl_lo (hx : lookD S x = m.obj) : fFld cs_least "least" S x = some (.int m.lo) := fld_of hx rfl f_lo
theorem fl_hi (hx : lookD S x = m.obj) : fFld cs_greatest "greatest" S x = some (.int m.hi) := fld_of hx rfl f_hi
theorem fl_pace (hx : lookD S x = m.obj) : fFld cs_pace "pace" S x = some (.int m.pace) := fld_of hx rfl f_pace
theorem fl_gain (hx : lookD S x = m.obj) : fFld cs_gain "gain" S x = some (.int m.gain) := fld_of hx rfl f_gain
theorem fl_place (hx : lookD S x = m.obj) : fFld cs_place "place" S x = some (.int m.place) := fld_of hx rfl f_place
theorem fl_rail (hx : lookD S x = m.obj) : fFld cs_rail "rail" S x = some (.int m.lane) := fld_of hx rfl f_rail
theorem fl_long (hx : lookD S x = m.obj) : fFld cs_long "long" S x = some (.int m.long) := fld_of hx rfl f_long
/-- a method without arguments -/
theorem meth0 {f : String} {tb : String → Option MF} {mf : MF} (h : mo ρ S = .ok x S1) (hx : lookD S1 x = m.obj) (ht : tb m.k.cls = some mf) (hl : m.fs.lookup f = none) : mMeth f tb mo aNil ρ S = mf [x] S1 := by
  unfold mMeth
  rw [h]
  simp only [noErr, R.bind, hx, Mach.obj, ht, hl, aNil]
theorem meth1 {f : String} {tb : String → Option MF} {mf : MF} {a : M (List D)} {ds : List D} (h : mo ρ S = .ok x S1) (hx : lookD S1 x = m.obj) (ht : tb m.k.cls = some mf) (hl : m.fs.lookup f = none) (ha : a ρ S1 = .ok ds S2) : mMeth f tb mo a ρ S = mf (x :: ds) S2 := by
  unfold mMeth
  rw [h]
  simp only [noErr, R.bind, hx, Mach.obj, ht, hl, ha]
theorem no_meth {f : String} (h : ∀ k : Kd, (Mach.fs ⟨k, m.nm, m.lo, m.hi, m.pace, m.gain, m.place, m.lane, m.at_, m.wide, m.tall, m.walls⟩).lookup f = none) : m.fs.lookup f = none := h m.k
theorem me_kind (h : mo ρ S = .ok x S1) (hx : lookD S1 x = m.obj) : mMeth "kind" t_kind_0 mo aNil ρ S = .ok (.val (.str m.k.txt)) S1 := by
  cases hk : m.k with
  | line => rw [meth0 h hx (mf := c_Line_kind) (by rw [hk]; rfl) (by unfold Mach.fs; rw [hk]; rfl)]; simp [c_Line_kind, m_Line_kind, b_Line_kind, N_Line_kind, Kd.txt, mDef, startD, sSeq, sNext, sSet, sRet, sRetV, sRetN, sIf, sExpr, sRaise, sAug, sPar, sTgt, sApp, sFrz, sTryAs, rBind, R.bind, mMap, mBin, mUn, mCmp, mChain, mFn, mCall, mAnd, mOr, mNot, mTru, mAndV, mOrV, mNotV, mIf, aNil, aCons, oLst, eVar, eC, lift2, liftB, lk_non, lk_bl, lk_int, lk_str, lk_ty, lk_cls, lk_lst, lk_tup, lk_dic, lk_obj, lk_exc, lk_ref, Slot.d, Cell.d, lt_s, le_s, gt_s, ge_s, cIsN, cIsNN, truD, fNeg, fAddI, fSubI, List.getElem?_cons_zero, List.getElem?_cons_succ, List.set_cons_zero, List.set_cons_succ, add_s, cat_s, sub_s, mFld, fFld, mMeth, mSl, pAt, pNo, mTM, mDisp, ppC, mGet1, mGet2, mRef, toRef, noErr, List.lookup_cons]
  | wagon => rw [meth0 h hx (mf := c_Wagon_kind) (by rw [hk]; rfl) (by unfold Mach.fs; rw [hk]; rfl)]; simp [c_Wagon_kind, m_Wagon_kind, b_Wagon_kind, N_Wagon_kind, Kd.txt, mDef, startD, sSeq, sNext, sSet, sRet, sRetV, sRetN, sIf, sExpr, sRaise, sAug, sPar, sTgt, sApp, sFrz, sTryAs, rBind, R.bind, mMap, mBin, mUn, mCmp, mChain, mFn, mCall, mAnd, mOr, mNot, mTru, mAndV, mOrV, mNotV, mIf, aNil, aCons, oLst, eVar, eC, lift2, liftB, lk_non, lk_bl, lk_int, lk_str, lk_ty, lk_cls, lk_lst, lk_tup, lk_dic, lk_obj, lk_exc, lk_ref, Slot.d, Cell.d, lt_s, le_s, gt_s, ge_s, cIsN, cIsNN, truD, fNeg, fAddI, fSubI, List.getElem?_cons_zero, List.getElem?_cons_succ, List.set_cons_zero, List.set_cons_succ, add_s, cat_s, sub_s, mFld, fFld, mMeth, mSl, pAt, pNo, mTM, mDisp, ppC, mGet1, mGet2, mRef, toRef, noErr, List.lookup_cons]
  | trap => rw [meth0 h hx (mf := c_Trap_kind) (by rw [hk]; rfl) (by unfold Mach.fs; rw [hk]; rfl)]; simp [c_Trap_kind, m_Trap_kind, b_Trap_kind, N_Trap_kind, Kd.txt, mDef, startD, sSeq, sNext, sSet, sRet, sRetV, sRetN, sIf, sExpr, sRaise, sAug, sPar, sTgt, sApp, sFrz, sTryAs, rBind, R.bind, mMap, mBin, mUn, mCmp, mChain, mFn, mCall, mAnd, mOr, mNot, mTru, mAndV, mOrV, mNotV, mIf, aNil, aCons, oLst, eVar, eC, lift2, liftB, lk_non, lk_bl, lk_int, lk_str, lk_ty, lk_cls, lk_lst, lk_tup, lk_dic, lk_obj, lk_exc, lk_ref, Slot.d, Cell.d, lt_s, le_s, gt_s, ge_s, cIsN, cIsNN, truD, fNeg, fAddI, fSubI, List.getElem?_cons_zero, List.getElem?_cons_succ, List.set_cons_zero, List.set_cons_succ, add_s, cat_s, sub_s, mFld, fFld, mMeth, mSl, pAt, pNo, mTM, mDisp, ppC, mGet1, mGet2, mRef, toRef, noErr, List.lookup_cons]
  | floor => rw [meth0 h hx (mf := c_Floor_kind) (by rw [hk]; rfl) (by unfold Mach.fs; rw [hk]; rfl)]; simp [c_Floor_kind, m_Floor_kind, b_Floor_kind, N_Floor_kind, Kd.txt, mDef, startD, sSeq, sNext, sSet, sRet, sRetV, sRetN, sIf, sExpr, sRaise, sAug, sPar, sTgt, sApp, sFrz, sTryAs, rBind, R.bind, mMap, mBin, mUn, mCmp, mChain, mFn, mCall, mAnd, mOr, mNot, mTru, mAndV, mOrV, mNotV, mIf, aNil, aCons, oLst, eVar, eC, lift2, liftB, lk_non, lk_bl, lk_int, lk_str, lk_ty, lk_cls, lk_lst, lk_tup, lk_dic, lk_obj, lk_exc, lk_ref, Slot.d, Cell.d, lt_s, le_s, gt_s, ge_s, cIsN, cIsNN, truD, fNeg, fAddI, fSubI, List.getElem?_cons_zero, List.getElem?_cons_succ, List.set_cons_zero, List.set_cons_succ, add_s, cat_s, sub_s, mFld, fFld, mMeth, mSl, pAt, pNo, mTM, mDisp, ppC, mGet1, mGet2, mRef, toRef, noErr, List.lookup_cons]
theorem me_lane (h : mo ρ S = .ok x S1) (hx : lookD S1 x = m.obj) : mMeth "lane" t_lane_0 mo aNil ρ S = .ok (.val (.int m.lane)) S1 := by
  rw [meth0 h hx (mf := c_Machine_lane) (by cases m.k <;> rfl) (by unfold Mach.fs; cases m.k <;> rfl)]
  simp [c_Machine_lane, m_Machine_lane, b_Machine_lane, N_Machine_lane, mDef, startD, sSeq, sRet, rBind, R.bind, mMap, mFld, eVar, fl_rail hx]
theorem me_wide (h : mo ρ S = .ok x S1) (hx : lookD S1 x = m.obj) : mMeth "wide" t_wide_0 mo aNil ρ S = .ok (.val (.int m.long)) S1 := by
  rw [meth0 h hx (mf := c_Machine_wide) (by cases m.k <;> rfl) (by unfold Mach.fs; cases m.k <;> rfl)]
  simp [c_Machine_wide, m_Machine_wide, b_Machine_wide, N_Machine_wide, mDef, startD, sSeq, sRet, rBind, R.bind, mMap, mFld, eVar, fl_long hx]
theorem me_offset (hm : m.Ok) (h : mo ρ S = .ok x S1) (hx : lookD S1 x = m.obj) : mMeth "offset" t_offset_0 mo aNil ρ S = .ok (.val (.int m.off)) S1 := by
  cases hk : m.k with
  | floor =>
    rw [meth0 h hx (mf := c_Floor_offset) (by rw [hk]; rfl) (by unfold Mach.fs; rw [hk]; rfl)]
    have hx2 : lookD S1 x = .obj "Floor" (floorF (.str m.nm) (.int m.lo) (.int m.hi) (.int m.pace) (.int m.gain) (.int m.place) (.int m.lane) m.walls) := by rw [hx]; unfold Mach.obj Mach.fs; rw [hk]; rfl
    have w := hm.wl1
    have w2 := hm.wl2
    have e : m.off = maxL (m.walls.map (·.1)) := by unfold Mach.off; rw [hk]
    rw [e]
    generalize m.walls = zs at *
    obtain ⟨z0, zr, rfl⟩ : ∃ z0 zr, zs = z0 :: zr := by
      cases zs with
      | nil => simp at w
      | cons a b => exact ⟨a, b, rfl⟩
    have t := int_offs (zs := z0 :: zr) (ρ := [.val x, .none]) (i := 1) (S := S1) (C := []) (gok_nil.mpr trivial) (by simp)
    have t2 := intsD_off (z0 :: zr)
    have l : zr.length + 1 ≤ 1000000 := by simp at w2; omega
    simp only [List.map_cons] at t t2
    simp [c_Floor_offset, m_Floor_offset, b_Floor_offset, N_Floor_offset, mDef, startD, sSeq, sRet, rBind, R.bind, mMap, mFld, eVar, fFld, hx2, floorF, cs_walls, List.lookup_cons, mCall, aCons, aNil, mLc, mSeq, mThenS, fSeq, lstOf, wipeD, t, noErr, l, Slot.d, Cell.d, fMaxA, lk_lst, t2]
  | _ =>
    rw [meth0 h hx (mf := c_Machine_offset) (by rw [hk]; rfl) (by unfold Mach.fs; rw [hk]; rfl)]
    simp [c_Machine_offset, m_Machine_offset, b_Machine_offset, N_Machine_offset, Mach.off, hk, mDef, startD, sSeq, sNext, sSet, sRet, sRetV, sRetN, sIf, sExpr, sRaise, sAug, sPar, sTgt, sApp, sFrz, sTryAs, rBind, R.bind, mMap, mBin, mUn, mCmp, mChain, mFn, mCall, mAnd, mOr, mNot, mTru, mAndV, mOrV, mNotV, mIf, aNil, aCons, oLst, eVar, eC, lift2, liftB, lk_non, lk_bl, lk_int, lk_str, lk_ty, lk_cls, lk_lst, lk_tup, lk_dic, lk_obj, lk_exc, lk_ref, Slot.d, Cell.d, lt_s, le_s, gt_s, ge_s, cIsN, cIsNN, truD, fNeg, fAddI, fSubI, List.getElem?_cons_zero, List.getElem?_cons_succ, List.set_cons_zero, List.set_cons_succ, add_s, cat_s, sub_s, mFld, fFld, mMeth, mSl, pAt, pNo, mTM, mDisp, ppC, mGet1, mGet2, mRef, toRef, noErr, List.lookup_cons]
theorem me_within {p : D} (h : mo ρ S = .ok x S1) (hp : ma ρ S1 = .ok p S2) (hx : lookD S1 x = m.obj) (hx2 : lookD S2 x = m.obj) (pl : plain (lookD S2 p) = true) : mMeth "need_within" t_need_within_1 mo (aCons ma aNil) ρ S = if isW p m.lo m.hi then .ok (.val .non) S2 else .err badNumber S2 := by
  rw [meth1 h hx (mf := c_Machine_need_within) (by cases m.k <;> rfl) (by unfold Mach.fs; cases m.k <;> rfl) (ds := [p]) (S2 := S2) (by simp [aCons, aNil, hp])]
  have z := e_need_whole (S := S2) (lo := m.lo) (hi := m.hi) pl
  by_cases k : isW p m.lo m.hi = true
  · rw [if_pos k] at z ⊢
    simp [c_Machine_need_within, m_Machine_need_within, b_Machine_need_within, N_Machine_need_within, mDef, startD, sSeq, sNext, sExpr, mFn, aCons, aNil, rBind, R.bind, mMap, mFld, eVar, fl_lo hx2, fl_hi hx2, c_need_whole, z]
  · rw [if_neg k] at z ⊢
    simp [c_Machine_need_within, m_Machine_need_within, b_Machine_need_within, N_Machine_need_within, mDef, startD, sSeq, sNext, sExpr, mFn, aCons, aNil, rBind, R.bind, mMap, mFld, eVar, fl_lo hx2, fl_hi hx2, c_need_whole, z, badNumber]
theorem floor_swept {zs : List Wall} {lane a b : Int} {ρ : List Slot} {S : Sto} {cs : List String} {x : D} (hl : 6 ≤ ρ.length) (h0 : (wipeD ρ [3, 4, 5])[0]? = some (.val x)) (h1 : (wipeD ρ [3, 4, 5])[1]? = some (.val (.int a))) (h2 : (wipeD ρ [3, 4, 5])[2]? = some (.val (.int b))) (hr : fFld cs "rail" S x = some (.int lane)) :
    lcLoop [] (gT [3, 4, 5]) (wipeD ρ [3, 4, 5]) (eC true) (mMap D.tup (aCons (mFld cs "rail" (eVar 0)) (aCons (mMap Slot.d (mBin opAdd (eVar 3) (eVar 1))) (aCons (mMap Slot.d (mBin opSub (mMap Slot.d (mBin opAdd (eVar 4) (eVar 2))) (eVar 1))) (aCons (eC (.int (0))) (aCons (eVar 5) aNil)))))) (zs.map wallD) [] S
      = .ok (zs.map fun z => boxD (lane, z.1 + a, z.2.1 + b - a, 0, z.2.2)) S := by
  have hl' : 6 ≤ (wipeD ρ [3, 4, 5]).length := by rw [wipeD_length]; exact hl
  generalize wipeD ρ [3, 4, 5] = r at *
  rw [lc_map (fun d => match d with
    | .tup [.int o, .int w, .int t] => boxD (lane, o + a, w + b - a, 0, t)
    | _ => .non) (gok_nil.mpr trivial)]
  · simp [wallD]
  · intro d hd
    obtain ⟨z, _, rfl⟩ := List.mem_map.mp hd
    match r, hl', h0, h1, h2 with
    | r0 :: r1 :: r2 :: r3 :: r4 :: r5 :: rr, _, h0, h1, h2 =>
      simp only [List.getElem?_cons_zero, List.getElem?_cons_succ, Option.some.injEq] at h0 h1 h2
      subst h0 h1 h2
      exact ⟨_, rfl, by simp [wallD, gSets, hr, boxD, mMap, aCons, aNil, mFld, mBin, lift2, eVar, eC, R.bind, Slot.d, add_s, sub_s]⟩
theorem me_swept {a b : Int} {mb : M D} {S3 : Sto} (hm : m.Ok) (h : mo ρ S = .ok x S1) (hp : ma ρ S1 = .ok (.int a) S2) (hq : mb ρ S2 = .ok (.int b) S3) (hx : lookD S1 x = m.obj) (hx2 : lookD S3 x = m.obj) : mMeth "swept" t_swept_2 mo (aCons ma (aCons mb aNil)) ρ S = .ok (.own (.lst ((m.swept a b).map boxD))) S3 := by
  have hd : aCons ma (aCons mb aNil) ρ S1 = .ok [.int a, .int b] S3 := by simp [aCons, aNil, hp, hq]
  cases hk : m.k with
  | line =>
    rw [meth1 h hx (mf := c_Line_swept) (by rw [hk]; rfl) (by unfold Mach.fs; rw [hk]; rfl) hd]
    have hx3 : lookD S3 x = .obj "Line" (lineF (.str m.nm) (.int m.lo) (.int m.hi) (.int m.pace) (.int m.gain) (.int m.place) (.int m.lane) (.int m.at_) (.int m.wide) (.int m.tall)) := by rw [hx2]; unfold Mach.obj Mach.fs; rw [hk]; rfl
    simp [c_Line_swept, m_Line_swept, b_Line_swept, N_Line_swept, hx3, lineF, cs_rail, cs_spot, cs_long, cs_high, Mach.swept, hk, boxD, mDef, startD, sSeq, sNext, sSet, sRet, sRetV, sRetN, sIf, sExpr, sRaise, sAug, sPar, sTgt, sApp, sFrz, sTryAs, rBind, R.bind, mMap, mBin, mUn, mCmp, mChain, mFn, mCall, mAnd, mOr, mNot, mTru, mAndV, mOrV, mNotV, mIf, aNil, aCons, oLst, eVar, eC, lift2, liftB, lk_non, lk_bl, lk_int, lk_str, lk_ty, lk_cls, lk_lst, lk_tup, lk_dic, lk_obj, lk_exc, lk_ref, Slot.d, Cell.d, lt_s, le_s, gt_s, ge_s, cIsN, cIsNN, truD, fNeg, fAddI, fSubI, List.getElem?_cons_zero, List.getElem?_cons_succ, List.set_cons_zero, List.set_cons_succ, add_s, cat_s, sub_s, mFld, fFld, mMeth, mSl, pAt, pNo, mTM, mDisp, ppC, mGet1, mGet2, mRef, toRef, noErr, List.lookup_cons]
  | wagon =>
    rw [meth1 h hx (mf := c_Wagon_swept) (by rw [hk]; rfl) (by unfold Mach.fs; rw [hk]; rfl) hd]
    have hx3 : lookD S3 x = .obj "Wagon" (wagonF (.str m.nm) (.int m.lo) (.int m.hi) (.int m.pace) (.int m.gain) (.int m.place) (.int m.lane) (.int m.wide) (.int m.tall)) := by rw [hx2]; unfold Mach.obj Mach.fs; rw [hk]; rfl
    simp [c_Wagon_swept, m_Wagon_swept, b_Wagon_swept, N_Wagon_swept, hx3, wagonF, cs_rail, cs_spot, cs_long, cs_high, Mach.swept, hk, boxD, mDef, startD, sSeq, sNext, sSet, sRet, sRetV, sRetN, sIf, sExpr, sRaise, sAug, sPar, sTgt, sApp, sFrz, sTryAs, rBind, R.bind, mMap, mBin, mUn, mCmp, mChain, mFn, mCall, mAnd, mOr, mNot, mTru, mAndV, mOrV, mNotV, mIf, aNil, aCons, oLst, eVar, eC, lift2, liftB, lk_non, lk_bl, lk_int, lk_str, lk_ty, lk_cls, lk_lst, lk_tup, lk_dic, lk_obj, lk_exc, lk_ref, Slot.d, Cell.d, lt_s, le_s, gt_s, ge_s, cIsN, cIsNN, truD, fNeg, fAddI, fSubI, List.getElem?_cons_zero, List.getElem?_cons_succ, List.set_cons_zero, List.set_cons_succ, add_s, cat_s, sub_s, mFld, fFld, mMeth, mSl, pAt, pNo, mTM, mDisp, ppC, mGet1, mGet2, mRef, toRef, noErr, List.lookup_cons]
  | trap =>
    rw [meth1 h hx (mf := c_Trap_swept) (by rw [hk]; rfl) (by unfold Mach.fs; rw [hk]; rfl) hd]
    have hx3 : lookD S3 x = .obj "Trap" (trapF (.str m.nm) (.int m.lo) (.int m.hi) (.int m.pace) (.int m.gain) (.int m.place) (.int m.lane) (.int m.at_) (.int m.wide)) := by rw [hx2]; unfold Mach.obj Mach.fs; rw [hk]; rfl
    by_cases ha : a < 0 <;> simp [c_Trap_swept, m_Trap_swept, b_Trap_swept, N_Trap_swept, hx3, trapF, cs_rail, cs_spot, cs_long, cs_high, Mach.swept, hk, boxD, ha, mDef, startD, sSeq, sNext, sSet, sRet, sRetV, sRetN, sIf, sExpr, sRaise, sAug, sPar, sTgt, sApp, sFrz, sTryAs, rBind, R.bind, mMap, mBin, mUn, mCmp, mChain, mFn, mCall, mAnd, mOr, mNot, mTru, mAndV, mOrV, mNotV, mIf, aNil, aCons, oLst, eVar, eC, lift2, liftB, lk_non, lk_bl, lk_int, lk_str, lk_ty, lk_cls, lk_lst, lk_tup, lk_dic, lk_obj, lk_exc, lk_ref, Slot.d, Cell.d, lt_s, le_s, gt_s, ge_s, cIsN, cIsNN, truD, fNeg, fAddI, fSubI, List.getElem?_cons_zero, List.getElem?_cons_succ, List.set_cons_zero, List.set_cons_succ, add_s, cat_s, sub_s, mFld, fFld, mMeth, mSl, pAt, pNo, mTM, mDisp, ppC, mGet1, mGet2, mRef, toRef, noErr, List.lookup_cons]
  | floor =>
    rw [meth1 h hx (mf := c_Floor_swept) (by rw [hk]; rfl) (by unfold Mach.fs; rw [hk]; rfl) hd]
    have hx3 : lookD S3 x = .obj "Floor" (floorF (.str m.nm) (.int m.lo) (.int m.hi) (.int m.pace) (.int m.gain) (.int m.place) (.int m.lane) m.walls) := by rw [hx2]; unfold Mach.obj Mach.fs; rw [hk]; rfl
    have t := floor_swept (zs := m.walls) (lane := m.lane) (a := a) (b := b) (ρ := [.val x, .val (.int a), .val (.int b), .none, .none, .none]) (S := S3) (cs := cs_rail) (x := x) (by simp) rfl rfl rfl (fl_rail hx2)
    have l : m.walls.length ≤ 1000000 := Nat.le_trans hm.wl2 (by decide)
    have e : m.swept a b = m.walls.map fun z => (m.lane, z.1 + a, z.2.1 + b - a, 0, z.2.2) := by unfold Mach.swept; rw [hk]
    rw [e, List.map_map]
    have fw : fFld cs_walls "walls" S3 x = some (.lst (m.walls.map wallD)) := by unfold fFld; rw [hx3]; simp [floorF, cs_walls, List.lookup_cons]
    simp [c_Floor_swept, m_Floor_swept, b_Floor_swept, N_Floor_swept, mDef, startD, sSeq, sRet, rBind, R.bind, mFld, eVar, fw, mLc, mSeq, mThenS, fSeq, lstOf, l]
    rw [t]
    simp [noErr, Function.comp_def]
theorem me_boxes {p : D} (hm : m.Ok) (h : mo ρ S = .ok x S1) (hp : ma ρ S1 = .ok p S2) (hx : lookD S1 x = m.obj) (hx2 : lookD S2 x = m.obj) (pl : plain (lookD S2 p) = true) :
    (isW p m.lo m.hi = true → ∃ i, p = .int i ∧ m.lo ≤ i ∧ i ≤ m.hi ∧ mMeth "boxes" t_boxes_1 mo (aCons ma aNil) ρ S = .ok (.own (.lst ((m.swept i i).map boxD))) S2) ∧ (¬ isW p m.lo m.hi = true → mMeth "boxes" t_boxes_1 mo (aCons ma aNil) ρ S = .err badNumber S2) := by
  rw [meth1 h hx (mf := c_Machine_boxes) (by cases m.k <;> rfl) (by unfold Mach.fs; cases m.k <;> rfl) (ds := [p]) (S2 := S2) (by simp [aCons, aNil, hp])]
  have w := me_within (m := m) (x := x) (mo := eVar 0) (ma := eVar 1) (ρ := [.val x, .val p]) (S := S2) (S1 := S2) (S2 := S2) (p := p) rfl rfl hx2 hx2 pl
  constructor
  · intro k
    rw [if_pos k] at w
    obtain ⟨i, rfl, i1, i2⟩ := isW_int k
    have sw := me_swept (m := m) (x := x) (mo := eVar 0) (ma := eVar 1) (mb := eVar 1) (ρ := [.val x, .val (.int i)]) (S := S2) (S1 := S2) (S2 := S2) (S3 := S2) (a := i) (b := i) hm rfl rfl rfl hx2 hx2
    exact ⟨i, rfl, i1, i2, by simp [c_Machine_boxes, m_Machine_boxes, b_Machine_boxes, b_Machine_boxes_0, b_Machine_boxes_1, N_Machine_boxes, mDef, startD, sSeq, sExpr, sRet, rBind, mMap, w, sw]⟩
  · intro k
    rw [if_neg k] at w
    simp [c_Machine_boxes, m_Machine_boxes, b_Machine_boxes, b_Machine_boxes_0, b_Machine_boxes_1, N_Machine_boxes, mDef, startD, sSeq, sExpr, sRet, rBind, mMap, w, badNumber]
theorem me_taken {p q : D} {mb : M D} {S3 : Sto} (hm : m.Ok) (h : mo ρ S = .ok x S1) (hp : ma ρ S1 = .ok p S2) (hq : mb ρ S2 = .ok q S3) (hx : lookD S1 x = m.obj) (hx2 : lookD S3 x = m.obj) (pl : plain (lookD S3 p) = true) (ql : plain (lookD S3 q) = true) :
    (isW p m.lo m.hi = true ∧ isW q m.lo m.hi = true → ∃ i j, p = .int i ∧ q = .int j ∧ m.lo ≤ i ∧ i ≤ m.hi ∧ m.lo ≤ j ∧ j ≤ m.hi ∧ mMeth "taken" t_taken_2 mo (aCons ma (aCons mb aNil)) ρ S = .ok (.own (.lst ((m.swept (min i j) (max i j)).map boxD))) S3) ∧
    (¬ (isW p m.lo m.hi = true ∧ isW q m.lo m.hi = true) → mMeth "taken" t_taken_2 mo (aCons ma (aCons mb aNil)) ρ S = .err badNumber S3) := by
  rw [meth1 h hx (mf := c_Machine_taken) (by cases m.k <;> rfl) (by unfold Mach.fs; cases m.k <;> rfl) (ds := [p, q]) (S2 := S3) (by simp [aCons, aNil, hp, hq])]
  have w := me_within (m := m) (x := x) (mo := eVar 0) (ma := eVar 1) (ρ := [.val x, .val p, .val q]) (S := S3) (S1 := S3) (S2 := S3) (p := p) rfl rfl hx2 hx2 pl
  have w2 := me_within (m := m) (x := x) (mo := eVar 0) (ma := eVar 2) (ρ := [.val x, .val p, .val q]) (S := S3) (S1 := S3) (S2 := S3) (p := q) rfl rfl hx2 hx2 ql
  constructor
  · rintro ⟨k, k2⟩
    rw [if_pos k] at w
    rw [if_pos k2] at w2
    obtain ⟨i, rfl, i1, i2⟩ := isW_int k
    obtain ⟨j, rfl, j1, j2⟩ := isW_int k2
    have sw := me_swept (m := m) (x := x) (mo := eVar 0) (ma := mMap Slot.d (mCall fMinA (aCons (eVar 1) (aCons (eVar 2) aNil)))) (mb := mMap Slot.d (mCall fMaxA (aCons (eVar 1) (aCons (eVar 2) aNil)))) (ρ := [.val x, .val (.int i), .val (.int j)]) (S := S3) (S1 := S3) (S2 := S3) (S3 := S3) (a := min i j) (b := max i j) hm rfl rfl rfl hx2 hx2
    exact ⟨i, j, rfl, rfl, i1, i2, j1, j2, by simp [c_Machine_taken, m_Machine_taken, b_Machine_taken, b_Machine_taken_0, b_Machine_taken_1, b_Machine_taken_2, N_Machine_taken, mDef, startD, sSeq, sExpr, sRet, rBind, mMap, w, w2, sw]⟩
  · intro k
    by_cases k1 : isW p m.lo m.hi = true
    · rw [if_pos k1] at w
      rw [if_neg (fun z => k ⟨k1, z⟩)] at w2
      simp [c_Machine_taken, m_Machine_taken, b_Machine_taken, b_Machine_taken_0, b_Machine_taken_1, b_Machine_taken_2, N_Machine_taken, mDef, startD, sSeq, sExpr, sRet, rBind, mMap, w, w2, badNumber]
    · rw [if_neg k1] at w
      simp [c_Machine_taken, m_Machine_taken, b_Machine_taken, b_Machine_taken_0, b_Machine_taken_1, b_Machine_taken_2, N_Machine_taken, mDef, startD, sSeq, sExpr, sRet, rBind, mMap, w, badNumber]
end
end FW
end
section
set_option maxHeartbeats 4000000
/-! the plain law: rows of machines; the law's dicts. -/
namespace FW
open PySem
theorem bin_eq {f : Sto → D → D → Option Slot} {a b : M D} {ρ : List Slot} {S S1 S2 : Sto} {x y : D} {s : Slot} (h1 : a ρ S = .ok x S1) (h2 : b ρ S1 = .ok y S2) (h3 : f S2 x y = some s) : mBin f a b ρ S = .ok s S2 := by simp only [mBin, h1, h2, R.bind, lift2, h3]
theorem cmp_eq {f : Sto → D → D → Option Bool} {a b : M D} {ρ : List Slot} {S S1 S2 : Sto} {x y : D} {s : Bool} (h1 : a ρ S = .ok x S1) (h2 : b ρ S1 = .ok y S2) (h3 : f S2 x y = some s) : mCmp f a b ρ S = .ok s S2 := by simp only [mCmp, h1, h2, R.bind, liftB, h3]
theorem map_eq {α β : Type} {f : α → β} {m : M α} {ρ : List Slot} {S S1 : Sto} {x : α} (h : m ρ S = .ok x S1) : mMap f m ρ S = .ok (f x) S1 := by simp only [mMap, h, R.bind]
theorem ret_eq {m : M Slot} {ρ : List Slot} {S S1 : Sto} {s : Slot} (h : m ρ S = .ok s S1) : sRet m ρ S = .rt s S1 := by simp only [sRet, h, rBind]
theorem set_eq {i : Nat} {m : M Slot} {ρ : List Slot} {S S1 : Sto} {s : Slot} (h : m ρ S = .ok s S1) : sSet i m ρ S = .nx (ρ.set i s) S1 := by simp only [sSet, h, rBind]
theorem if_t {t : M Bool} {a b : MS} {ρ : List Slot} {S S1 : Sto} {r : RS} (h : t ρ S = .ok true S1) (k : a ρ S1 = r) : sIf t a b ρ S = r := by simp only [sIf, h, rBind, cond_true, k]
theorem if_f {t : M Bool} {a b : MS} {ρ : List Slot} {S S1 : Sto} {r : RS} (h : t ρ S = .ok false S1) (k : b ρ S1 = r) : sIf t a b ρ S = r := by simp only [sIf, h, rBind, cond_false, k]
theorem fn_eq {mf : MF} {ma : M (List D)} {ρ : List Slot} {S S1 : Sto} {ds : List D} {r : R Slot} (h : ma ρ S = .ok ds S1) (k : mf ds S1 = r) : mFn mf ma ρ S = r := by simp only [mFn, h, R.bind, k]
theorem cons_eq {a : M D} {r : M (List D)} {ρ : List Slot} {S S1 S2 : Sto} {x : D} {xs : List D} (h1 : a ρ S = .ok x S1) (h2 : r ρ S1 = .ok xs S2) : aCons a r ρ S = .ok (x :: xs) S2 := by simp only [aCons, h1, h2, R.bind]
theorem call_eq {f : Sto → List D → Option Slot} {ma : M (List D)} {ρ : List Slot} {S S1 : Sto} {ds : List D} {s : Slot} (h : ma ρ S = .ok ds S1) (k : f S1 ds = some s) : mCall f ma ρ S = .ok s S1 := by simp only [mCall, h, R.bind, k]
theorem lst_eq {m : M (List D)} {ρ : List Slot} {S S1 : Sto} {ds : List D} (h : m ρ S = .ok ds S1) : oLst m ρ S = .ok (.own (.lst ds)) S1 := by simp only [oLst, mMap, h, R.bind]
theorem lc_eq {mi : M (List D × Gds)} {gm : D → List Slot → Option (List Slot)} {ix : List Nat} {mt : M Bool} {me : M D} {ρ r : List Slot} {S S1 S2 : Sto} {ds acc : List D} {C : Gds} (h : mi ρ S = .ok (ds, C) S1) (hl : ds.length ≤ 1000000) (hw : wipeD ρ ix = r) (k : lcLoop C gm r mt me ds [] S1 = .ok acc S2) : mLc mi gm ix mt me ρ S = .ok (.own (.lst acc)) S2 := by
  simp only [mLc, h, R.bind, hl, if_true, hw, k, noErr]
def strI (i : Int) : Str := Str.ofString (toString i)
theorem len_strI {i : Int} (h1 : -1000000000 ≤ i) (h2 : i ≤ 1000000000) : (strI i).length ≤ 11 := by
  unfold strI
  rw [ofString_length]
  exact int_text_length_le10 (k := 10) (by decide) (by omega)
theorem str_int {S : Sto} {i : Int} (h1 : -1000000000 ≤ i) (h2 : i ≤ 1000000000) : fStr S [.int i] = some (.val (.str (strI i))) := by
  have : i.natAbs.log2 < 1920 := by
    by_cases h : i.natAbs = 0
    · rw [h]; decide
    · rw [Nat.log2_lt h]
      have : i.natAbs < 2 ^ 30 := by omega
      exact Nat.lt_of_lt_of_le this (Nat.pow_le_pow_right (by decide) (by decide))
  simp only [fStr, this, if_true, strI]
theorem str_str {S : Sto} {x : Str} : fStr S [.str x] = some (.val (.str x)) := rfl
def wallS (z : Wall) : Str := Txt.join (Str.ofString ":") [strI z.1, strI z.2.1, strI z.2.2]
def Mach.tailS (m : Mach) : List Str := match m.k with
  | .line => [strI m.lane, strI m.at_, strI m.wide, strI m.tall]
  | .wagon => [strI m.lane, strI m.wide, strI m.tall]
  | .trap => [strI m.lane, strI m.at_, strI m.wide]
  | .floor => strI m.lane :: m.walls.map wallS
def Mach.partS (m : Mach) : List Str := [m.k.txt, m.nm] ++ [strI m.lo, strI m.hi, strI m.pace, strI m.gain, strI m.place] ++ m.tailS
def Mach.words (m : Mach) : Str := Txt.join (Str.ofString " ") m.partS
theorem join3 (a b c d : Str) : Txt.join d [a, b, c] = a ++ d ++ b ++ d ++ c := by
  apply PySem.Str.ext'
  simp only [PySem.Str.cps_append]
  rfl
section
variable {m : Mach} {x : D} {mo ma : M D} {ρ : List Slot} {S S1 S2 : Sto}
theorem wall_strs {zs : List Wall} (h : ∀ z ∈ zs, wallOk z) {ρ : List Slot} {S : Sto} {i j : Nat} (hi : i < ρ.length) (hj : j < ρ.length) (ij : i ≠ j) :
    lcLoop [] (gN i) ρ (eC true) (mMap Slot.d (mTM fJoin (eC (.str (Str.ofString ":"))) (mMap Slot.d (mLc (mSeq (eVar i)) (gN j) [j] (eC true) (mMap Slot.d (mCall fStr (aCons (eVar j) aNil))))))) (zs.map wallD) [] S = .ok ((zs.map wallS).map D.str) S := by
  rw [lc_map (fun d => match d with
    | .tup [.int a, .int b, .int c] => .str (wallS (a, b, c))
    | _ => .non) (gok_nil.mpr trivial)]
  · simp [wallD]
  · intro d hd
    obtain ⟨z, hz, rfl⟩ := List.mem_map.mp hd
    obtain ⟨h1, h2, h3, h4, h5, h6⟩ := h z hz
    refine ⟨ρ.set i (.val (wallD z)), rfl, ?_⟩
    have e1 := str_int (S := S) (i := z.1) (by omega) (by omega)
    have e2 := str_int (S := S) (i := z.2.1) (by omega) (by omega)
    have e3 := str_int (S := S) (i := z.2.2) (by omega) (by omega)
    have l1 := len_strI (i := z.1) (by omega) (by omega)
    have l2 := len_strI (i := z.2.1) (by omega) (by omega)
    have l3 := len_strI (i := z.2.2) (by omega) (by omega)
    have jk : joinOk (Str.ofString ":") [strI z.1, strI z.2.1, strI z.2.2] = true := by
      have : (Str.ofString ":").length = 1 := by decide +kernel
      simp [joinOk, this]
      omega
    have g1 : (ρ.set i (.val (wallD z)))[i]? = some (.val (wallD z)) := by simp [hi]
    have hj2 : j < (wipeD (ρ.set i (.val (wallD z))) [j]).length := by rw [wipeD_length]; simpa using hj
    generalize hr : ρ.set i (.val (wallD z)) = r at *
    generalize hw : wipeD r [j] = r2 at *
    simp [mTM, mLc, mSeq, mThenS, fSeq, lstOf, wallD, g1, hw, lcLoop, gok_nil, gN, hj2, e1, e2, e3, noErr, fJoin, lk_lst, strsD, jk, wallS, eVar, eC, mMap, mCall, aCons, aNil, R.bind, Slot.d, Cell.d]
theorem me_tail (hm : m.Ok) (h : mo ρ S = .ok x S1) (hx : lookD S1 x = m.obj) : mMeth "tail" t_tail_0 mo aNil ρ S = .ok (.own (.lst (m.tailS.map D.str))) S1 := by
  have e1 := str_int (S := S1) (i := m.lane) (by have := hm.la1; omega) (by have := hm.la2; omega)
  have e2 := str_int (S := S1) hm.at1 hm.at2
  have e3 := str_int (S := S1) (i := m.wide) (by have := hm.w1; omega) (by have := hm.w2; omega)
  have e4 := str_int (S := S1) (i := m.tall) (by have := hm.t1; omega) (by have := hm.t2; omega)
  cases hk : m.k with
  | line =>
    rw [meth0 h hx (mf := c_Line_tail) (by rw [hk]; rfl) (by unfold Mach.fs; rw [hk]; rfl)]
    have hx3 : lookD S1 x = .obj "Line" (lineF (.str m.nm) (.int m.lo) (.int m.hi) (.int m.pace) (.int m.gain) (.int m.place) (.int m.lane) (.int m.at_) (.int m.wide) (.int m.tall)) := by rw [hx]; unfold Mach.obj Mach.fs; rw [hk]; rfl
    simp [c_Line_tail, m_Line_tail, b_Line_tail, N_Line_tail, hx3, lineF, cs_rail, cs_spot, cs_long, cs_high, Mach.tailS, hk, e1, e2, e3, e4, mDef, startD, sSeq, sNext, sSet, sRet, sRetV, sRetN, sIf, sExpr, sRaise, sAug, sPar, sTgt, sApp, sFrz, sTryAs, rBind, R.bind, mMap, mBin, mUn, mCmp, mChain, mFn, mCall, mAnd, mOr, mNot, mTru, mAndV, mOrV, mNotV, mIf, aNil, aCons, oLst, eVar, eC, lift2, liftB, lk_non, lk_bl, lk_int, lk_str, lk_ty, lk_cls, lk_lst, lk_tup, lk_dic, lk_obj, lk_exc, lk_ref, Slot.d, Cell.d, lt_s, le_s, gt_s, ge_s, cIsN, cIsNN, truD, fNeg, fAddI, fSubI, List.getElem?_cons_zero, List.getElem?_cons_succ, List.set_cons_zero, List.set_cons_succ, add_s, cat_s, sub_s, mFld, fFld, mMeth, mSl, pAt, pNo, mTM, mDisp, ppC, mGet1, mGet2, mRef, toRef, noErr, List.lookup_cons]
  | wagon =>
    rw [meth0 h hx (mf := c_Wagon_tail) (by rw [hk]; rfl) (by unfold Mach.fs; rw [hk]; rfl)]
    have hx3 : lookD S1 x = .obj "Wagon" (wagonF (.str m.nm) (.int m.lo) (.int m.hi) (.int m.pace) (.int m.gain) (.int m.place) (.int m.lane) (.int m.wide) (.int m.tall)) := by rw [hx]; unfold Mach.obj Mach.fs; rw [hk]; rfl
    simp [c_Wagon_tail, m_Wagon_tail, b_Wagon_tail, N_Wagon_tail, hx3, wagonF, cs_rail, cs_spot, cs_long, cs_high, Mach.tailS, hk, e1, e2, e3, e4, mDef, startD, sSeq, sNext, sSet, sRet, sRetV, sRetN, sIf, sExpr, sRaise, sAug, sPar, sTgt, sApp, sFrz, sTryAs, rBind, R.bind, mMap, mBin, mUn, mCmp, mChain, mFn, mCall, mAnd, mOr, mNot, mTru, mAndV, mOrV, mNotV, mIf, aNil, aCons, oLst, eVar, eC, lift2, liftB, lk_non, lk_bl, lk_int, lk_str, lk_ty, lk_cls, lk_lst, lk_tup, lk_dic, lk_obj, lk_exc, lk_ref, Slot.d, Cell.d, lt_s, le_s, gt_s, ge_s, cIsN, cIsNN, truD, fNeg, fAddI, fSubI, List.getElem?_cons_zero, List.getElem?_cons_succ, List.set_cons_zero, List.set_cons_succ, add_s, cat_s, sub_s, mFld, fFld, mMeth, mSl, pAt, pNo, mTM, mDisp, ppC, mGet1, mGet2, mRef, toRef, noErr, List.lookup_cons]
  | trap =>
    rw [meth0 h hx (mf := c_Trap_tail) (by rw [hk]; rfl) (by unfold Mach.fs; rw [hk]; rfl)]
    have hx3 : lookD S1 x = .obj "Trap" (trapF (.str m.nm) (.int m.lo) (.int m.hi) (.int m.pace) (.int m.gain) (.int m.place) (.int m.lane) (.int m.at_) (.int m.wide)) := by rw [hx]; unfold Mach.obj Mach.fs; rw [hk]; rfl
    simp [c_Trap_tail, m_Trap_tail, b_Trap_tail, N_Trap_tail, hx3, trapF, cs_rail, cs_spot, cs_long, cs_high, Mach.tailS, hk, e1, e2, e3, e4, mDef, startD, sSeq, sNext, sSet, sRet, sRetV, sRetN, sIf, sExpr, sRaise, sAug, sPar, sTgt, sApp, sFrz, sTryAs, rBind, R.bind, mMap, mBin, mUn, mCmp, mChain, mFn, mCall, mAnd, mOr, mNot, mTru, mAndV, mOrV, mNotV, mIf, aNil, aCons, oLst, eVar, eC, lift2, liftB, lk_non, lk_bl, lk_int, lk_str, lk_ty, lk_cls, lk_lst, lk_tup, lk_dic, lk_obj, lk_exc, lk_ref, Slot.d, Cell.d, lt_s, le_s, gt_s, ge_s, cIsN, cIsNN, truD, fNeg, fAddI, fSubI, List.getElem?_cons_zero, List.getElem?_cons_succ, List.set_cons_zero, List.set_cons_succ, add_s, cat_s, sub_s, mFld, fFld, mMeth, mSl, pAt, pNo, mTM, mDisp, ppC, mGet1, mGet2, mRef, toRef, noErr, List.lookup_cons]
  | floor =>
    rw [meth0 h hx (mf := c_Floor_tail) (by rw [hk]; rfl) (by unfold Mach.fs; rw [hk]; rfl)]
    have fw : fFld cs_walls "walls" S1 x = some (.lst (m.walls.map wallD)) := by unfold fFld; rw [hx]; unfold Mach.obj Mach.fs; rw [hk]; simp [floorF, cs_walls, List.lookup_cons, Kd.cls]
    have t := wall_strs hm.wl (ρ := [.val x, .none, .none]) (i := 2) (j := 1) (S := S1) (by simp) (by simp) (by decide)
    have l : m.walls.length ≤ 1000000 := Nat.le_trans hm.wl2 (by decide)
    have l2 : 1 + m.walls.length ≤ 1000000 := by have := hm.wl2; omega
    have e : m.tailS = strI m.lane :: m.walls.map wallS := by unfold Mach.tailS; rw [hk]
    rw [e]
    have z1 : mLc (mSeq (mFld cs_walls "walls" (eVar 0))) (gN 2) [2] (eC true) (mMap Slot.d (mTM fJoin (eC (.str (Str.ofString ":"))) (mMap Slot.d (mLc (mSeq (eVar 2)) (gN 1) [1] (eC true) (mMap Slot.d (mCall fStr (aCons (eVar 1) aNil))))))) [.val x, .none, .none] S1 = .ok (.own (.lst ((m.walls.map wallS).map D.str))) S1 := by
      have s1 : mSeq (mFld cs_walls "walls" (eVar 0)) [.val x, .none, .none] S1 = .ok (m.walls.map wallD, []) S1 := by simp [mSeq, mThenS, mFld, eVar, fw, fSeq, lstOf]
      have l' : (m.walls.map wallD).length ≤ 1000000 := by simpa using l
      exact lc_eq s1 l' rfl t
    have z2 : mFld cs_rail "rail" (eVar 0) [.val x, .none, .none] S1 = .ok (.int m.lane) S1 := by simp [mFld, eVar, fl_rail hx]
    have b1 : b_Floor_tail [.val x, .none, .none] S1 = .rt (.own (.lst ((strI m.lane :: m.walls.map wallS).map D.str))) S1 := by
      unfold b_Floor_tail
      refine seq_rt ?_
      have y1 : mMap Slot.d (oLst (aCons (mMap Slot.d (mCall fStr (aCons (mFld cs_rail "rail" (eVar 0)) aNil))) aNil)) [.val x, .none, .none] S1 = .ok (.lst [.str (strI m.lane)]) S1 := by
        exact map_eq (lst_eq (cons_eq (map_eq (call_eq (cons_eq z2 rfl) e1)) rfl))
      exact ret_eq (bin_eq y1 (map_eq z1) (by simp [Slot.d, Cell.d, cat_s, l2]))
    exact mdef_rt (by simp [startD, N_Floor_tail]) b1
end
end FW
end
section
set_option maxHeartbeats 4000000
/-! the plain law: a machine's row; the law's dict of a machine, what it takes, its machine. -/
namespace FW
open PySem
theorem sum_le {k : Nat} : ∀ {ss : List Str}, (∀ s ∈ ss, s.length ≤ k) → (ss.map (·.length)).sum ≤ ss.length * k
  | [], _ => by simp
  | s :: ss, h => by
    have h1 := h s (by simp)
    have h2 := sum_le (k := k) (ss := ss) fun x hx => h x (by simp [hx])
    simp only [List.map_cons, List.sum_cons, List.length_cons, Nat.add_mul, Nat.one_mul]
    omega
theorem join_ok {a : Str} {ss : List Str} (ha : a.length ≤ 10) (hl : ss.length ≤ 1000) (h : ∀ s ∈ ss, s.length ≤ 100) : joinOk a ss = true := by
  have := sum_le h
  have h2 : ss.length * 100 ≤ 1000 * 100 := Nat.mul_le_mul_right 100 hl
  have h3 : ss.length * a.length ≤ 1000 * 10 := Nat.mul_le_mul hl ha
  simp only [joinOk, decide_eq_true_eq]
  omega
theorem len_wallS {z : Wall} (h : wallOk z) : (wallS z).length ≤ 40 := by
  obtain ⟨h1, h2, h3, h4, h5, h6⟩ := h
  have l1 := len_strI (i := z.1) (by omega) (by omega)
  have l2 := len_strI (i := z.2.1) (by omega) (by omega)
  have l3 := len_strI (i := z.2.2) (by omega) (by omega)
  unfold wallS
  rw [join3]
  have : (Str.ofString ":").length = 1 := by decide +kernel
  simp only [PySem.Str.length_append, this]
  omega
theorem len_tailS {m : Mach} (hm : m.Ok) : m.tailS.length ≤ 5 ∧ ∀ s ∈ m.tailS, s.length ≤ 100 := by
  have e1 := len_strI (i := m.lane) (by have := hm.la1; omega) (by have := hm.la2; omega)
  have e2 := len_strI hm.at1 hm.at2
  have e3 := len_strI (i := m.wide) (by have := hm.w1; omega) (by have := hm.w2; omega)
  have e4 := len_strI (i := m.tall) (by have := hm.t1; omega) (by have := hm.t2; omega)
  unfold Mach.tailS
  cases m.k with
  | floor =>
    refine ⟨by simp; exact hm.wl2, fun s hs => ?_⟩
    rcases List.mem_cons.mp hs with rfl | hs
    · omega
    · obtain ⟨z, hz, rfl⟩ := List.mem_map.mp hs
      have := len_wallS (hm.wl z hz)
      omega
  | _ =>
    refine ⟨by simp, fun s hs => ?_⟩
    simp only [List.mem_cons, List.not_mem_nil, or_false] at hs
    first
      | (rcases hs with rfl | rfl | rfl | rfl <;> omega)
      | (rcases hs with rfl | rfl | rfl <;> omega)
theorem len_txt (k : Kd) : k.txt.length ≤ 5 := by cases k <;> decide +kernel
theorem len_nm {x : Str} (h : isNm x = true) : 1 ≤ x.length ∧ x.length ≤ 8 := by
  unfold isNm at h
  simp only [Bool.and_eq_true, decide_eq_true_eq] at h
  exact ⟨h.1.1, h.1.2⟩
theorem len_partS {m : Mach} (hm : m.Ok) : m.partS.length ≤ 12 ∧ ∀ s ∈ m.partS, s.length ≤ 100 := by
  obtain ⟨t1, t2⟩ := len_tailS hm
  have n := len_nm hm.nm
  have k := len_txt m.k
  have e1 := len_strI hm.lo1 hm.lo2
  have e2 := len_strI (i := m.hi) (by have := hm.lo1; have := hm.hi1; omega) hm.hi2
  have e3 := len_strI (i := m.pace) (by have := hm.p1; omega) hm.p2
  have e4 := len_strI (i := m.gain) (by have := hm.g1; omega) hm.g2
  have e5 := len_strI (i := m.place) (by have := hm.lo1; have := hm.pl1; omega) (by have := hm.hi2; have := hm.pl2; omega)
  refine ⟨by simp [Mach.partS]; omega, fun s hs => ?_⟩
  simp only [Mach.partS, List.mem_append, List.mem_cons, List.not_mem_nil, or_false] at hs
  rcases hs with (((rfl | rfl) | rfl | rfl | rfl | rfl | rfl) | hs)
  all_goals first | omega | exact t2 s hs
section
variable {m : Mach} {x : D} {mo ma : M D} {ρ : List Slot} {S S1 S2 : Sto}
theorem join_part {S : Sto} (hm : m.Ok) : fJoin S (Str.ofString " ") (.lst (m.partS.map D.str)) = some (.val (.str m.words)) := by
  obtain ⟨a, b⟩ := len_partS hm
  have j := join_ok (a := Str.ofString " ") (by decide +kernel) (by omega) b
  simp only [fJoin, lk_lst, strsD_map, j, if_true, Mach.words]
theorem tm_eq {f : Sto → Str → D → Option Slot} {a b : M D} {ρ : List Slot} {S S1 S2 : Sto} {z : Str} {y : D} {s : Slot} (h1 : a ρ S = .ok (.str z) S1) (h2 : b ρ S1 = .ok y S2) (h3 : f S2 z y = some s) : mTM f a b ρ S = .ok s S2 := by simp only [mTM, h1, R.bind, h2, h3]
theorem strs5 {ρ : List Slot} {i : Nat} (hi : i < ρ.length) {ns : List Int} (h : ∀ n ∈ ns, -1000000000 ≤ n ∧ n ≤ 1000000000) : lcLoop [] (gN i) ρ (eC true) (mMap Slot.d (mCall fStr (aCons (eVar i) aNil))) (ns.map D.int) [] S = .ok ((ns.map strI).map D.str) S := by
  rw [lc_map (fun d => match d with
    | .int a => .str (strI a)
    | _ => .non) (gok_nil.mpr trivial)]
  · simp
  · intro d hd
    obtain ⟨n, hn, rfl⟩ := List.mem_map.mp hd
    obtain ⟨h1, h2⟩ := h n hn
    exact ⟨ρ.set i (.val (.int n)), rfl, map_eq (call_eq (cons_eq (x := .int n) (by simp [eVar, hi]) rfl) (str_int h1 h2))⟩
theorem me_words (hm : m.Ok) (h : mo ρ S = .ok x S1) (hx : lookD S1 x = m.obj) : mMeth "words" t_words_0 mo aNil ρ S = .ok (.val (.str m.words)) S1 := by
  rw [meth0 h hx (mf := c_Machine_words) (by cases m.k <;> rfl) (by unfold Mach.fs; cases m.k <;> rfl)]
  have s0 : b_Machine_words_0 [.val x, .none, .none] S1 = .nx [.val x, .val (.lst ([m.lo, m.hi, m.pace, m.gain, m.place].map D.int)), .none] S1 := by
    simp [b_Machine_words_0, sSet, rBind, mMap, oLst, aCons, aNil, mFld, eVar, fl_lo hx, fl_hi hx, fl_pace hx, fl_gain hx, fl_place hx, Slot.d, Cell.d]
  refine mdef_rt (ρ := [.val x, .none, .none]) (by simp [startD, N_Machine_words]) ?_
  unfold b_Machine_words
  refine seq_nx s0 (seq_rt ?_)
  unfold b_Machine_words_1
  have k1 := me_kind (m := m) (x := x) (mo := eVar 0) (ρ := [.val x, .val (.lst ([m.lo, m.hi, m.pace, m.gain, m.place].map D.int)), .none]) (S := S1) (S1 := S1) rfl hx
  have k2 : mFld cs_name "name" (eVar 0) [.val x, .val (.lst ([m.lo, m.hi, m.pace, m.gain, m.place].map D.int)), .none] S1 = .ok (.str m.nm) S1 := by simp [mFld, eVar, fl_nm hx]
  have k3 := me_tail (m := m) (x := x) (mo := eVar 0) (ρ := [.val x, .val (.lst ([m.lo, m.hi, m.pace, m.gain, m.place].map D.int)), .none]) (S := S1) (S1 := S1) hm rfl hx
  have k4 := strs5 (S := S1) (ρ := [.val x, .val (.lst ([m.lo, m.hi, m.pace, m.gain, m.place].map D.int)), .none]) (i := 2) (by simp) (ns := [m.lo, m.hi, m.pace, m.gain, m.place]) (by
    intro n hn
    simp only [List.mem_cons, List.not_mem_nil, or_false] at hn
    have := hm.lo1; have := hm.lo2; have := hm.hi1; have := hm.hi2; have := hm.p1; have := hm.p2; have := hm.g1; have := hm.g2; have := hm.pl1; have := hm.pl2
    rcases hn with rfl | rfl | rfl | rfl | rfl <;> omega)
  have k5 : mLc (mSeq (eVar 1)) (gN 2) [2] (eC true) (mMap Slot.d (mCall fStr (aCons (eVar 2) aNil))) [.val x, .val (.lst ([m.lo, m.hi, m.pace, m.gain, m.place].map D.int)), .none] S1 = .ok (.own (.lst (([m.lo, m.hi, m.pace, m.gain, m.place].map strI).map D.str))) S1 := lc_eq (C := []) (by simp [mSeq, mThenS, eVar, fSeq, lstOf]) (by simp) rfl k4
  obtain ⟨l1, l2⟩ := len_partS hm
  have l3 : m.tailS.length ≤ 5 := (len_tailS hm).1
  refine ret_eq (tm_eq (z := Str.ofString " ") (S1 := S1) rfl (y := .lst (m.partS.map D.str)) (map_eq (x := .own (.lst (m.partS.map D.str))) (bin_eq (map_eq (bin_eq (map_eq (lst_eq (cons_eq (map_eq k1) (cons_eq k2 rfl)))) (map_eq k5) (s := .own (.lst (([m.k.txt, m.nm] ++ [m.lo, m.hi, m.pace, m.gain, m.place].map strI).map D.str))) ?_)) (map_eq k3) ?_)) (join_part hm))
  · simp [Slot.d, Cell.d, cat_s]
  · have : 7 + m.tailS.length ≤ 1000000 := by omega
    simp [Slot.d, Cell.d, cat_s, Mach.partS, this]
end
/-! the law's dict of a machine -/
def ownL (nm lo hi pl pc gn kd la at_ wd tl W : D) : List (L2.Key × D) := [(.inr (Str.ofString "name"), nm), (.inr (Str.ofString "least"), lo), (.inr (Str.ofString "greatest"), hi), (.inr (Str.ofString "place"), pl), (.inr (Str.ofString "pace"), pc), (.inr (Str.ofString "gain"), gn), (.inr (Str.ofString "kind"), kd),
  (.inr (Str.ofString "lane"), la), (.inr (Str.ofString "at"), at_), (.inr (Str.ofString "wide"), wd), (.inr (Str.ofString "tall"), tl), (.inr (Str.ofString "walls"), W)]
section
variable {nm lo hi pl pc gn kd la at_ wd tl W x : D} {S : Sto} {k : Str}
theorem sb_of {y : D} (hx : lookD S x = .dic (ownL nm lo hi pl pc gn kd la at_ wd tl W)) (h : valD (ownL nm lo hi pl pc gn kd la at_ wd tl W) (.inr k) = some y) : opSb S x (.str k) = some (.val y) := by
  simp only [opSb, hx, keyD, h, Option.map_some]
theorem sb_name (hx : lookD S x = .dic (ownL nm lo hi pl pc gn kd la at_ wd tl W)) : opSb S x (.str (Str.ofString "name")) = some (.val nm) := sb_of hx (by simp [valD, ownL, ofString_inj])
theorem sb_least (hx : lookD S x = .dic (ownL nm lo hi pl pc gn kd la at_ wd tl W)) : opSb S x (.str (Str.ofString "least")) = some (.val lo) := sb_of hx (by simp [valD, ownL, ofString_inj])
theorem sb_greatest (hx : lookD S x = .dic (ownL nm lo hi pl pc gn kd la at_ wd tl W)) : opSb S x (.str (Str.ofString "greatest")) = some (.val hi) := sb_of hx (by simp [valD, ownL, ofString_inj])
theorem sb_place (hx : lookD S x = .dic (ownL nm lo hi pl pc gn kd la at_ wd tl W)) : opSb S x (.str (Str.ofString "place")) = some (.val pl) := sb_of hx (by simp [valD, ownL, ofString_inj])
theorem sb_pace (hx : lookD S x = .dic (ownL nm lo hi pl pc gn kd la at_ wd tl W)) : opSb S x (.str (Str.ofString "pace")) = some (.val pc) := sb_of hx (by simp [valD, ownL, ofString_inj])
theorem sb_gain (hx : lookD S x = .dic (ownL nm lo hi pl pc gn kd la at_ wd tl W)) : opSb S x (.str (Str.ofString "gain")) = some (.val gn) := sb_of hx (by simp [valD, ownL, ofString_inj])
theorem sb_kind (hx : lookD S x = .dic (ownL nm lo hi pl pc gn kd la at_ wd tl W)) : opSb S x (.str (Str.ofString "kind")) = some (.val kd) := sb_of hx (by simp [valD, ownL, ofString_inj])
theorem sb_lane (hx : lookD S x = .dic (ownL nm lo hi pl pc gn kd la at_ wd tl W)) : opSb S x (.str (Str.ofString "lane")) = some (.val la) := sb_of hx (by simp [valD, ownL, ofString_inj])
theorem sb_at (hx : lookD S x = .dic (ownL nm lo hi pl pc gn kd la at_ wd tl W)) : opSb S x (.str (Str.ofString "at")) = some (.val at_) := sb_of hx (by simp [valD, ownL, ofString_inj])
theorem sb_wide (hx : lookD S x = .dic (ownL nm lo hi pl pc gn kd la at_ wd tl W)) : opSb S x (.str (Str.ofString "wide")) = some (.val wd) := sb_of hx (by simp [valD, ownL, ofString_inj])
theorem sb_tall (hx : lookD S x = .dic (ownL nm lo hi pl pc gn kd la at_ wd tl W)) : opSb S x (.str (Str.ofString "tall")) = some (.val tl) := sb_of hx (by simp [valD, ownL, ofString_inj])
theorem sb_walls (hx : lookD S x = .dic (ownL nm lo hi pl pc gn kd la at_ wd tl W)) : opSb S x (.str (Str.ofString "walls")) = some (.val W) := sb_of hx (by simp [valD, ownL, ofString_inj])
end
def Mach.ownD (m : Mach) : List (L2.Key × D) := ownL (.str m.nm) (.int m.lo) (.int m.hi) (.int m.place) (.int m.pace) (.int m.gain) (.str m.k.txt) (.int m.lane) (.int m.at_) (.int m.wide) (.int m.tall) (.lst (m.walls.map wallD))
theorem txt_ne : (Str.ofString "line" = Str.ofString "wagon") = False ∧ (Str.ofString "line" = Str.ofString "trap") = False ∧ (Str.ofString "line" = Str.ofString "floor") = False ∧ (Str.ofString "wagon" = Str.ofString "line") = False ∧ (Str.ofString "wagon" = Str.ofString "trap") = False ∧ (Str.ofString "wagon" = Str.ofString "floor") = False ∧ (Str.ofString "trap" = Str.ofString "line") = False ∧ (Str.ofString "trap" = Str.ofString "wagon") = False ∧ (Str.ofString "trap" = Str.ofString "floor") = False ∧ (Str.ofString "floor" = Str.ofString "line") = False ∧ (Str.ofString "floor" = Str.ofString "wagon") = False ∧ (Str.ofString "floor" = Str.ofString "trap") = False := by
  simp [ofString_inj]
theorem eq_str {S : Sto} {a b : Str} : cEq S (.str a) (.str b) = some (decide (a = b)) := rfl
theorem e_takes {m : Mach} {a b : Int} {x : D} {S : Sto} (hx : lookD S x = .dic m.ownD) (hw : m.walls.length ≤ 1000) : m__law_takes [x, .int a, .int b] S = .ok (.own (.lst ((m.swept a b).map boxD))) S := by
  unfold Mach.ownD at hx
  cases hk : m.k with
  | line => rw [hk] at hx; simp [m__law_takes, b__law_takes, b__law_takes_0, N__law_takes, sb_kind hx, sb_lane hx, sb_at hx, sb_wide hx, sb_tall hx, eq_str, Kd.txt, Mach.swept, hk, boxD, mDef, startD, sSeq, sNext, sSet, sRet, sRetV, sRetN, sIf, sExpr, sRaise, sAug, sPar, sTgt, sApp, sFrz, sTryAs, rBind, R.bind, mMap, mBin, mUn, mCmp, mChain, mFn, mCall, mAnd, mOr, mNot, mTru, mAndV, mOrV, mNotV, mIf, aNil, aCons, oLst, eVar, eC, lift2, liftB, lk_non, lk_bl, lk_int, lk_str, lk_ty, lk_cls, lk_lst, lk_tup, lk_dic, lk_obj, lk_exc, lk_ref, Slot.d, Cell.d, lt_s, le_s, gt_s, ge_s, cIsN, cIsNN, truD, fNeg, fAddI, fSubI, List.getElem?_cons_zero, List.getElem?_cons_succ, List.set_cons_zero, List.set_cons_succ, add_s, cat_s, sub_s, mFld, fFld, mMeth, mSl, pAt, pNo, mTM, mDisp, ppC, mGet1, mGet2, mRef, toRef, noErr, List.lookup_cons]
  | wagon => rw [hk] at hx; simp [m__law_takes, b__law_takes, b__law_takes_0, b__law_takes_1, N__law_takes, sb_kind hx, sb_lane hx, sb_at hx, sb_wide hx, sb_tall hx, eq_str, Kd.txt, txt_ne, Mach.swept, hk, boxD, mDef, startD, sSeq, sNext, sSet, sRet, sRetV, sRetN, sIf, sExpr, sRaise, sAug, sPar, sTgt, sApp, sFrz, sTryAs, rBind, R.bind, mMap, mBin, mUn, mCmp, mChain, mFn, mCall, mAnd, mOr, mNot, mTru, mAndV, mOrV, mNotV, mIf, aNil, aCons, oLst, eVar, eC, lift2, liftB, lk_non, lk_bl, lk_int, lk_str, lk_ty, lk_cls, lk_lst, lk_tup, lk_dic, lk_obj, lk_exc, lk_ref, Slot.d, Cell.d, lt_s, le_s, gt_s, ge_s, cIsN, cIsNN, truD, fNeg, fAddI, fSubI, List.getElem?_cons_zero, List.getElem?_cons_succ, List.set_cons_zero, List.set_cons_succ, add_s, cat_s, sub_s, mFld, fFld, mMeth, mSl, pAt, pNo, mTM, mDisp, ppC, mGet1, mGet2, mRef, toRef, noErr, List.lookup_cons]
  | trap => rw [hk] at hx; by_cases ha : a < 0 <;> simp [m__law_takes, b__law_takes, b__law_takes_0, b__law_takes_1, b__law_takes_2, N__law_takes, sb_kind hx, sb_lane hx, sb_at hx, sb_wide hx, sb_tall hx, eq_str, Kd.txt, txt_ne, Mach.swept, hk, boxD, ha, mRep, fInt, mDef, startD, sSeq, sNext, sSet, sRet, sRetV, sRetN, sIf, sExpr, sRaise, sAug, sPar, sTgt, sApp, sFrz, sTryAs, rBind, R.bind, mMap, mBin, mUn, mCmp, mChain, mFn, mCall, mAnd, mOr, mNot, mTru, mAndV, mOrV, mNotV, mIf, aNil, aCons, oLst, eVar, eC, lift2, liftB, lk_non, lk_bl, lk_int, lk_str, lk_ty, lk_cls, lk_lst, lk_tup, lk_dic, lk_obj, lk_exc, lk_ref, Slot.d, Cell.d, lt_s, le_s, gt_s, ge_s, cIsN, cIsNN, truD, fNeg, fAddI, fSubI, List.getElem?_cons_zero, List.getElem?_cons_succ, List.set_cons_zero, List.set_cons_succ, add_s, cat_s, sub_s, mFld, fFld, mMeth, mSl, pAt, pNo, mTM, mDisp, ppC, mGet1, mGet2, mRef, toRef, noErr, List.lookup_cons]
  | floor =>
    rw [hk] at hx
    have t : lcLoop [] (gN 3) [.val x, .val (.int a), .val (.int b), .none] (eC true) (mMap D.tup (aCons (mMap Slot.d (mBin opSb (eVar 0) (eC (.str (Str.ofString "lane"))))) (aCons (mMap Slot.d (mBin opAdd (mMap Slot.d (mBin opSb (eVar 3) (eC (.int (0))))) (eVar 1))) (aCons (mMap Slot.d (mBin opSub (mMap Slot.d (mBin opAdd (mMap Slot.d (mBin opSb (eVar 3) (eC (.int (1))))) (eVar 2))) (eVar 1))) (aCons (eC (.int (0))) (aCons (mMap Slot.d (mBin opSb (eVar 3) (eC (.int (2))))) aNil)))))) (m.walls.map wallD) [] S = .ok (m.walls.map fun z => boxD (m.lane, z.1 + a, z.2.1 + b - a, 0, z.2.2)) S := by
      rw [lc_map (fun d => match d with
        | .tup [.int o, .int w, .int t] => boxD (m.lane, o + a, w + b - a, 0, t)
        | _ => .non) (gok_nil.mpr trivial)]
      · simp [wallD]
      · intro d hd
        obtain ⟨z, _, rfl⟩ := List.mem_map.mp hd
        have c0 : opSb S (.tup [.int z.1, .int z.2.1, .int z.2.2]) (.int 0) = some (.val (.int z.1)) := rfl
        have c1 : opSb S (.tup [.int z.1, .int z.2.1, .int z.2.2]) (.int 1) = some (.val (.int z.2.1)) := rfl
        have c2 : opSb S (.tup [.int z.1, .int z.2.1, .int z.2.2]) (.int 2) = some (.val (.int z.2.2)) := rfl
        exact ⟨_, rfl, by simp [sb_lane hx, c0, c1, c2, boxD, wallD, mDef, startD, sSeq, sNext, sSet, sRet, sRetV, sRetN, sIf, sExpr, sRaise, sAug, sPar, sTgt, sApp, sFrz, sTryAs, rBind, R.bind, mMap, mBin, mUn, mCmp, mChain, mFn, mCall, mAnd, mOr, mNot, mTru, mAndV, mOrV, mNotV, mIf, aNil, aCons, oLst, eVar, eC, lift2, liftB, lk_non, lk_bl, lk_int, lk_str, lk_ty, lk_cls, lk_lst, lk_tup, lk_dic, lk_obj, lk_exc, lk_ref, Slot.d, Cell.d, lt_s, le_s, gt_s, ge_s, cIsN, cIsNN, truD, fNeg, fAddI, fSubI, List.getElem?_cons_zero, List.getElem?_cons_succ, List.set_cons_zero, List.set_cons_succ, add_s, cat_s, sub_s, mFld, fFld, mMeth, mSl, pAt, pNo, mTM, mDisp, ppC, mGet1, mGet2, mRef, toRef, noErr, List.lookup_cons]⟩
    have s : mSeq (mMap Slot.d (mBin opSb (eVar 0) (eC (.str (Str.ofString "walls"))))) [.val x, .val (.int a), .val (.int b), .none] S = .ok (m.walls.map wallD, []) S := by simp [mSeq, mThenS, fSeq, lstOf, sb_walls hx, mDef, startD, sSeq, sNext, sSet, sRet, sRetV, sRetN, sIf, sExpr, sRaise, sAug, sPar, sTgt, sApp, sFrz, sTryAs, rBind, R.bind, mMap, mBin, mUn, mCmp, mChain, mFn, mCall, mAnd, mOr, mNot, mTru, mAndV, mOrV, mNotV, mIf, aNil, aCons, oLst, eVar, eC, lift2, liftB, lk_non, lk_bl, lk_int, lk_str, lk_ty, lk_cls, lk_lst, lk_tup, lk_dic, lk_obj, lk_exc, lk_ref, Slot.d, Cell.d, lt_s, le_s, gt_s, ge_s, cIsN, cIsNN, truD, fNeg, fAddI, fSubI, List.getElem?_cons_zero, List.getElem?_cons_succ, List.set_cons_zero, List.set_cons_succ, add_s, cat_s, sub_s, mFld, fFld, mMeth, mSl, pAt, pNo, mTM, mDisp, ppC, mGet1, mGet2, mRef, toRef, noErr, List.lookup_cons]
    have e : m.swept a b = m.walls.map fun z => (m.lane, z.1 + a, z.2.1 + b - a, 0, z.2.2) := by unfold Mach.swept; rw [hk]
    rw [e, List.map_map]
    refine mdef_rt (ρ := [.val x, .val (.int a), .val (.int b), .none]) (by simp [startD, N__law_takes]) ?_
    unfold b__law_takes
    refine seq_nx (by simp [b__law_takes_0, sb_kind hx, eq_str, Kd.txt, txt_ne, mDef, startD, sSeq, sNext, sSet, sRet, sRetV, sRetN, sIf, sExpr, sRaise, sAug, sPar, sTgt, sApp, sFrz, sTryAs, rBind, R.bind, mMap, mBin, mUn, mCmp, mChain, mFn, mCall, mAnd, mOr, mNot, mTru, mAndV, mOrV, mNotV, mIf, aNil, aCons, oLst, eVar, eC, lift2, liftB, lk_non, lk_bl, lk_int, lk_str, lk_ty, lk_cls, lk_lst, lk_tup, lk_dic, lk_obj, lk_exc, lk_ref, Slot.d, Cell.d, lt_s, le_s, gt_s, ge_s, cIsN, cIsNN, truD, fNeg, fAddI, fSubI, List.getElem?_cons_zero, List.getElem?_cons_succ, List.set_cons_zero, List.set_cons_succ, add_s, cat_s, sub_s, mFld, fFld, mMeth, mSl, pAt, pNo, mTM, mDisp, ppC, mGet1, mGet2, mRef, toRef, noErr, List.lookup_cons]; exact ⟨rfl, rfl⟩) ?_
    refine seq_nx (by simp [b__law_takes_1, sb_kind hx, eq_str, Kd.txt, txt_ne, mDef, startD, sSeq, sNext, sSet, sRet, sRetV, sRetN, sIf, sExpr, sRaise, sAug, sPar, sTgt, sApp, sFrz, sTryAs, rBind, R.bind, mMap, mBin, mUn, mCmp, mChain, mFn, mCall, mAnd, mOr, mNot, mTru, mAndV, mOrV, mNotV, mIf, aNil, aCons, oLst, eVar, eC, lift2, liftB, lk_non, lk_bl, lk_int, lk_str, lk_ty, lk_cls, lk_lst, lk_tup, lk_dic, lk_obj, lk_exc, lk_ref, Slot.d, Cell.d, lt_s, le_s, gt_s, ge_s, cIsN, cIsNN, truD, fNeg, fAddI, fSubI, List.getElem?_cons_zero, List.getElem?_cons_succ, List.set_cons_zero, List.set_cons_succ, add_s, cat_s, sub_s, mFld, fFld, mMeth, mSl, pAt, pNo, mTM, mDisp, ppC, mGet1, mGet2, mRef, toRef, noErr, List.lookup_cons]; exact ⟨rfl, rfl⟩) ?_
    refine seq_nx (by simp [b__law_takes_2, sb_kind hx, eq_str, Kd.txt, txt_ne, mDef, startD, sSeq, sNext, sSet, sRet, sRetV, sRetN, sIf, sExpr, sRaise, sAug, sPar, sTgt, sApp, sFrz, sTryAs, rBind, R.bind, mMap, mBin, mUn, mCmp, mChain, mFn, mCall, mAnd, mOr, mNot, mTru, mAndV, mOrV, mNotV, mIf, aNil, aCons, oLst, eVar, eC, lift2, liftB, lk_non, lk_bl, lk_int, lk_str, lk_ty, lk_cls, lk_lst, lk_tup, lk_dic, lk_obj, lk_exc, lk_ref, Slot.d, Cell.d, lt_s, le_s, gt_s, ge_s, cIsN, cIsNN, truD, fNeg, fAddI, fSubI, List.getElem?_cons_zero, List.getElem?_cons_succ, List.set_cons_zero, List.set_cons_succ, add_s, cat_s, sub_s, mFld, fFld, mMeth, mSl, pAt, pNo, mTM, mDisp, ppC, mGet1, mGet2, mRef, toRef, noErr, List.lookup_cons]; exact ⟨rfl, rfl⟩) ?_
    refine seq_rt (ret_eq (lc_eq s (by simp; omega) rfl (t.trans ?_)))
    simp [Function.comp_def]
end FW
end
section
set_option maxHeartbeats 4000000
/-! the plain law: the law's machine, its tail, its words of refusals. -/
namespace FW
open PySem
/-- a function's end in a call that may refuse -/
def goes (r : R Slot) (ρ : List Slot) : RS := rBind r ρ fun s S' => .rt s S'
theorem frz_own {i : Nat} {m : MS} {ρ : List Slot} {S : Sto} {c : Cell} (h : ρ[i]? = some (.own c)) : sFrz i m ρ S = m (ρ.set i (.val c.d)) S := by simp only [sFrz, h]
theorem goes_ret {m : M Slot} {ρ : List Slot} {S : Sto} {r : R Slot} (h : m ρ S = r) : sRet m ρ S = goes r ρ := by simp only [sRet, h, goes]
theorem goes_seq {a b : MS} {ρ ρ' : List Slot} {S : Sto} {r : R Slot} (h : a ρ S = goes r ρ') : sSeq a b ρ S = goes r ρ' := by
  unfold goes at *
  cases r <;> simp only [rBind] at h ⊢ <;> simp only [sSeq, h]
theorem goes_def {N : List Str} {b : MS} {ds : List D} {ρ ρ' : List Slot} {S : Sto} {r : R Slot} (h : startD N ds = ρ) (k : b ρ S = goes r ρ') : mDef N b ds S = r := by
  unfold goes at k
  cases r <;> simp only [rBind] at k <;> simp only [mDef, h, k]
section
variable {nm lo hi pl pc gn la at_ wd tl W x : D} {k : Kd} {S : Sto}
noncomputable def lawMake (k : Kd) (nm lo hi pl pc gn la at_ wd tl W : D) (S : Sto) : R Slot := match k with
  | .line => finOut S (rMake "Line" m_Line_init [nm, lo, hi, pc, gn, pl, la, at_, wd, tl] S)
  | .wagon => finOut S (rMake "Wagon" m_Wagon_init [nm, lo, hi, pc, gn, pl, la, wd, tl] S)
  | .trap => finOut S (rMake "Trap" m_Trap_init [nm, lo, hi, pc, gn, pl, la, at_, wd] S)
  | .floor => finOut S (rMake "Floor" m_Floor_init [nm, lo, hi, pc, gn, pl, la, W] S)
theorem e_law_machine (hx : lookD S x = .dic (ownL nm lo hi pl pc gn (.str k.txt) la at_ wd tl W)) : m__law_machine [x] S = lawMake k nm lo hi pl pc gn la at_ wd tl W S := by
  have s0 : b__law_machine_0 [.val x, .none, .none, .none, .none, .none, .none, .none, .none, .none] S = .nx [.val x, .own (.lst [nm, lo, hi, pc, gn, pl, la]), .none, .none, .none, .none, .none, .none, .none, .none] S := by
    have := sb_name hx; have := sb_least hx; have := sb_greatest hx; have := sb_pace hx; have := sb_gain hx; have := sb_place hx; have := sb_lane hx
    simp [b__law_machine_0, mLc, mSeq, mThenS, fSeq, lcLoop, gok_nil, gN, wipeD, *, mDef, startD, sSeq, sNext, sSet, sRet, sRetV, sRetN, sIf, sExpr, sRaise, sAug, sPar, sTgt, sApp, sFrz, sTryAs, rBind, R.bind, mMap, mBin, mUn, mCmp, mChain, mFn, mCall, mAnd, mOr, mNot, mTru, mAndV, mOrV, mNotV, mIf, aNil, aCons, oLst, eVar, eC, lift2, liftB, lk_non, lk_bl, lk_int, lk_str, lk_ty, lk_cls, lk_lst, lk_tup, lk_dic, lk_obj, lk_exc, lk_ref, Slot.d, Cell.d, lt_s, le_s, gt_s, ge_s, cIsN, cIsNN, truD, fNeg, fAddI, fSubI, List.getElem?_cons_zero, List.getElem?_cons_succ, List.set_cons_zero, List.set_cons_succ, add_s, cat_s, sub_s, mFld, fFld, mMeth, mSl, pAt, pNo, mTM, mDisp, ppC, mGet1, mGet2, mRef, toRef, noErr, List.lookup_cons]
  have s1 : b__law_machine_1 [.val x, .val (.lst [nm, lo, hi, pc, gn, pl, la]), .none, .none, .none, .none, .none, .none, .none, .none] S = .nx [.val x, .val (.lst [nm, lo, hi, pc, gn, pl, la]), .val nm, .val lo, .val hi, .val pc, .val gn, .val pl, .val la, .none] S := by
    simp [b__law_machine_1, gTL, gSets, mDef, startD, sSeq, sNext, sSet, sRet, sRetV, sRetN, sIf, sExpr, sRaise, sAug, sPar, sTgt, sApp, sFrz, sTryAs, rBind, R.bind, mMap, mBin, mUn, mCmp, mChain, mFn, mCall, mAnd, mOr, mNot, mTru, mAndV, mOrV, mNotV, mIf, aNil, aCons, oLst, eVar, eC, lift2, liftB, lk_non, lk_bl, lk_int, lk_str, lk_ty, lk_cls, lk_lst, lk_tup, lk_dic, lk_obj, lk_exc, lk_ref, Slot.d, Cell.d, lt_s, le_s, gt_s, ge_s, cIsN, cIsNN, truD, fNeg, fAddI, fSubI, List.getElem?_cons_zero, List.getElem?_cons_succ, List.set_cons_zero, List.set_cons_succ, add_s, cat_s, sub_s, mFld, fFld, mMeth, mSl, pAt, pNo, mTM, mDisp, ppC, mGet1, mGet2, mRef, toRef, noErr, List.lookup_cons]
  have kd := sb_kind hx
  refine goes_def (ρ := [.val x, .none, .none, .none, .none, .none, .none, .none, .none, .none]) (ρ' := [.val x, .val (.lst [nm, lo, hi, pc, gn, pl, la]), .val nm, .val lo, .val hi, .val pc, .val gn, .val pl, .val la, .none]) (by simp [startD, N__law_machine]) ?_
  unfold b__law_machine
  refine seq_nx s0 ?_
  rw [frz_own (i := 1) rfl]
  show sSeq b__law_machine_1 _ [.val x, .val (.lst [nm, lo, hi, pc, gn, pl, la]), .none, .none, .none, .none, .none, .none, .none, .none] S = _
  refine seq_nx s1 ?_
  cases k with
  | line =>
    have := sb_at hx; have := sb_wide hx; have := sb_tall hx
    refine goes_seq (if_t (S1 := S) (cmp_eq (x := .str (Str.ofString "line")) (y := .str (Str.ofString "line")) (map_eq (bin_eq (x := x) (y := .str (Str.ofString "kind")) (S1 := S) rfl rfl kd)) rfl (by simp [eq_str])) (goes_seq (goes_ret ?_)))
    simp [lawMake, *, mDef, startD, sSeq, sNext, sSet, sRet, sRetV, sRetN, sIf, sExpr, sRaise, sAug, sPar, sTgt, sApp, sFrz, sTryAs, rBind, R.bind, mMap, mBin, mUn, mCmp, mChain, mFn, mCall, mAnd, mOr, mNot, mTru, mAndV, mOrV, mNotV, mIf, aNil, aCons, oLst, eVar, eC, lift2, liftB, lk_non, lk_bl, lk_int, lk_str, lk_ty, lk_cls, lk_lst, lk_tup, lk_dic, lk_obj, lk_exc, lk_ref, Slot.d, Cell.d, lt_s, le_s, gt_s, ge_s, cIsN, cIsNN, truD, fNeg, fAddI, fSubI, List.getElem?_cons_zero, List.getElem?_cons_succ, List.set_cons_zero, List.set_cons_succ, add_s, cat_s, sub_s, mFld, fFld, mMeth, mSl, pAt, pNo, mTM, mDisp, ppC, mGet1, mGet2, mRef, toRef, noErr, List.lookup_cons, mMakeF]
  | wagon =>
    have := sb_at hx; have := sb_wide hx; have := sb_tall hx
    refine seq_nx (by simp [b__law_machine_2, kd, eq_str, Kd.txt, txt_ne, mDef, startD, sSeq, sNext, sSet, sRet, sRetV, sRetN, sIf, sExpr, sRaise, sAug, sPar, sTgt, sApp, sFrz, sTryAs, rBind, R.bind, mMap, mBin, mUn, mCmp, mChain, mFn, mCall, mAnd, mOr, mNot, mTru, mAndV, mOrV, mNotV, mIf, aNil, aCons, oLst, eVar, eC, lift2, liftB, lk_non, lk_bl, lk_int, lk_str, lk_ty, lk_cls, lk_lst, lk_tup, lk_dic, lk_obj, lk_exc, lk_ref, Slot.d, Cell.d, lt_s, le_s, gt_s, ge_s, cIsN, cIsNN, truD, fNeg, fAddI, fSubI, List.getElem?_cons_zero, List.getElem?_cons_succ, List.set_cons_zero, List.set_cons_succ, add_s, cat_s, sub_s, mFld, fFld, mMeth, mSl, pAt, pNo, mTM, mDisp, ppC, mGet1, mGet2, mRef, toRef, noErr, List.lookup_cons]; exact ⟨rfl, rfl⟩) ?_
    refine goes_seq (if_t (S1 := S) (cmp_eq (x := .str (Str.ofString "wagon")) (y := .str (Str.ofString "wagon")) (map_eq (bin_eq (x := x) (y := .str (Str.ofString "kind")) (S1 := S) rfl rfl kd)) rfl (by simp [eq_str])) (goes_seq (goes_ret ?_)))
    simp [lawMake, *, mDef, startD, sSeq, sNext, sSet, sRet, sRetV, sRetN, sIf, sExpr, sRaise, sAug, sPar, sTgt, sApp, sFrz, sTryAs, rBind, R.bind, mMap, mBin, mUn, mCmp, mChain, mFn, mCall, mAnd, mOr, mNot, mTru, mAndV, mOrV, mNotV, mIf, aNil, aCons, oLst, eVar, eC, lift2, liftB, lk_non, lk_bl, lk_int, lk_str, lk_ty, lk_cls, lk_lst, lk_tup, lk_dic, lk_obj, lk_exc, lk_ref, Slot.d, Cell.d, lt_s, le_s, gt_s, ge_s, cIsN, cIsNN, truD, fNeg, fAddI, fSubI, List.getElem?_cons_zero, List.getElem?_cons_succ, List.set_cons_zero, List.set_cons_succ, add_s, cat_s, sub_s, mFld, fFld, mMeth, mSl, pAt, pNo, mTM, mDisp, ppC, mGet1, mGet2, mRef, toRef, noErr, List.lookup_cons, mMakeF]
  | trap =>
    have := sb_at hx; have := sb_wide hx; have := sb_tall hx
    refine seq_nx (by simp [b__law_machine_2, kd, eq_str, Kd.txt, txt_ne, mDef, startD, sSeq, sNext, sSet, sRet, sRetV, sRetN, sIf, sExpr, sRaise, sAug, sPar, sTgt, sApp, sFrz, sTryAs, rBind, R.bind, mMap, mBin, mUn, mCmp, mChain, mFn, mCall, mAnd, mOr, mNot, mTru, mAndV, mOrV, mNotV, mIf, aNil, aCons, oLst, eVar, eC, lift2, liftB, lk_non, lk_bl, lk_int, lk_str, lk_ty, lk_cls, lk_lst, lk_tup, lk_dic, lk_obj, lk_exc, lk_ref, Slot.d, Cell.d, lt_s, le_s, gt_s, ge_s, cIsN, cIsNN, truD, fNeg, fAddI, fSubI, List.getElem?_cons_zero, List.getElem?_cons_succ, List.set_cons_zero, List.set_cons_succ, add_s, cat_s, sub_s, mFld, fFld, mMeth, mSl, pAt, pNo, mTM, mDisp, ppC, mGet1, mGet2, mRef, toRef, noErr, List.lookup_cons]; exact ⟨rfl, rfl⟩) ?_
    refine seq_nx (by simp [b__law_machine_3, kd, eq_str, Kd.txt, txt_ne, mDef, startD, sSeq, sNext, sSet, sRet, sRetV, sRetN, sIf, sExpr, sRaise, sAug, sPar, sTgt, sApp, sFrz, sTryAs, rBind, R.bind, mMap, mBin, mUn, mCmp, mChain, mFn, mCall, mAnd, mOr, mNot, mTru, mAndV, mOrV, mNotV, mIf, aNil, aCons, oLst, eVar, eC, lift2, liftB, lk_non, lk_bl, lk_int, lk_str, lk_ty, lk_cls, lk_lst, lk_tup, lk_dic, lk_obj, lk_exc, lk_ref, Slot.d, Cell.d, lt_s, le_s, gt_s, ge_s, cIsN, cIsNN, truD, fNeg, fAddI, fSubI, List.getElem?_cons_zero, List.getElem?_cons_succ, List.set_cons_zero, List.set_cons_succ, add_s, cat_s, sub_s, mFld, fFld, mMeth, mSl, pAt, pNo, mTM, mDisp, ppC, mGet1, mGet2, mRef, toRef, noErr, List.lookup_cons]; exact ⟨rfl, rfl⟩) ?_
    refine goes_seq (if_t (S1 := S) (cmp_eq (x := .str (Str.ofString "trap")) (y := .str (Str.ofString "trap")) (map_eq (bin_eq (x := x) (y := .str (Str.ofString "kind")) (S1 := S) rfl rfl kd)) rfl (by simp [eq_str])) (goes_seq (goes_ret ?_)))
    simp [lawMake, *, mDef, startD, sSeq, sNext, sSet, sRet, sRetV, sRetN, sIf, sExpr, sRaise, sAug, sPar, sTgt, sApp, sFrz, sTryAs, rBind, R.bind, mMap, mBin, mUn, mCmp, mChain, mFn, mCall, mAnd, mOr, mNot, mTru, mAndV, mOrV, mNotV, mIf, aNil, aCons, oLst, eVar, eC, lift2, liftB, lk_non, lk_bl, lk_int, lk_str, lk_ty, lk_cls, lk_lst, lk_tup, lk_dic, lk_obj, lk_exc, lk_ref, Slot.d, Cell.d, lt_s, le_s, gt_s, ge_s, cIsN, cIsNN, truD, fNeg, fAddI, fSubI, List.getElem?_cons_zero, List.getElem?_cons_succ, List.set_cons_zero, List.set_cons_succ, add_s, cat_s, sub_s, mFld, fFld, mMeth, mSl, pAt, pNo, mTM, mDisp, ppC, mGet1, mGet2, mRef, toRef, noErr, List.lookup_cons, mMakeF]
  | floor =>
    have := sb_walls hx
    refine seq_nx (by simp [b__law_machine_2, kd, eq_str, Kd.txt, txt_ne, mDef, startD, sSeq, sNext, sSet, sRet, sRetV, sRetN, sIf, sExpr, sRaise, sAug, sPar, sTgt, sApp, sFrz, sTryAs, rBind, R.bind, mMap, mBin, mUn, mCmp, mChain, mFn, mCall, mAnd, mOr, mNot, mTru, mAndV, mOrV, mNotV, mIf, aNil, aCons, oLst, eVar, eC, lift2, liftB, lk_non, lk_bl, lk_int, lk_str, lk_ty, lk_cls, lk_lst, lk_tup, lk_dic, lk_obj, lk_exc, lk_ref, Slot.d, Cell.d, lt_s, le_s, gt_s, ge_s, cIsN, cIsNN, truD, fNeg, fAddI, fSubI, List.getElem?_cons_zero, List.getElem?_cons_succ, List.set_cons_zero, List.set_cons_succ, add_s, cat_s, sub_s, mFld, fFld, mMeth, mSl, pAt, pNo, mTM, mDisp, ppC, mGet1, mGet2, mRef, toRef, noErr, List.lookup_cons]; exact ⟨rfl, rfl⟩) ?_
    refine seq_nx (by simp [b__law_machine_3, kd, eq_str, Kd.txt, txt_ne, mDef, startD, sSeq, sNext, sSet, sRet, sRetV, sRetN, sIf, sExpr, sRaise, sAug, sPar, sTgt, sApp, sFrz, sTryAs, rBind, R.bind, mMap, mBin, mUn, mCmp, mChain, mFn, mCall, mAnd, mOr, mNot, mTru, mAndV, mOrV, mNotV, mIf, aNil, aCons, oLst, eVar, eC, lift2, liftB, lk_non, lk_bl, lk_int, lk_str, lk_ty, lk_cls, lk_lst, lk_tup, lk_dic, lk_obj, lk_exc, lk_ref, Slot.d, Cell.d, lt_s, le_s, gt_s, ge_s, cIsN, cIsNN, truD, fNeg, fAddI, fSubI, List.getElem?_cons_zero, List.getElem?_cons_succ, List.set_cons_zero, List.set_cons_succ, add_s, cat_s, sub_s, mFld, fFld, mMeth, mSl, pAt, pNo, mTM, mDisp, ppC, mGet1, mGet2, mRef, toRef, noErr, List.lookup_cons]; exact ⟨rfl, rfl⟩) ?_
    refine seq_nx (by simp [b__law_machine_4, kd, eq_str, Kd.txt, txt_ne, mDef, startD, sSeq, sNext, sSet, sRet, sRetV, sRetN, sIf, sExpr, sRaise, sAug, sPar, sTgt, sApp, sFrz, sTryAs, rBind, R.bind, mMap, mBin, mUn, mCmp, mChain, mFn, mCall, mAnd, mOr, mNot, mTru, mAndV, mOrV, mNotV, mIf, aNil, aCons, oLst, eVar, eC, lift2, liftB, lk_non, lk_bl, lk_int, lk_str, lk_ty, lk_cls, lk_lst, lk_tup, lk_dic, lk_obj, lk_exc, lk_ref, Slot.d, Cell.d, lt_s, le_s, gt_s, ge_s, cIsN, cIsNN, truD, fNeg, fAddI, fSubI, List.getElem?_cons_zero, List.getElem?_cons_succ, List.set_cons_zero, List.set_cons_succ, add_s, cat_s, sub_s, mFld, fFld, mMeth, mSl, pAt, pNo, mTM, mDisp, ppC, mGet1, mGet2, mRef, toRef, noErr, List.lookup_cons]; exact ⟨rfl, rfl⟩) ?_
    refine goes_seq (goes_ret ?_)
    simp [lawMake, *, mDef, startD, sSeq, sNext, sSet, sRet, sRetV, sRetN, sIf, sExpr, sRaise, sAug, sPar, sTgt, sApp, sFrz, sTryAs, rBind, R.bind, mMap, mBin, mUn, mCmp, mChain, mFn, mCall, mAnd, mOr, mNot, mTru, mAndV, mOrV, mNotV, mIf, aNil, aCons, oLst, eVar, eC, lift2, liftB, lk_non, lk_bl, lk_int, lk_str, lk_ty, lk_cls, lk_lst, lk_tup, lk_dic, lk_obj, lk_exc, lk_ref, Slot.d, Cell.d, lt_s, le_s, gt_s, ge_s, cIsN, cIsNN, truD, fNeg, fAddI, fSubI, List.getElem?_cons_zero, List.getElem?_cons_succ, List.set_cons_zero, List.set_cons_succ, add_s, cat_s, sub_s, mFld, fFld, mMeth, mSl, pAt, pNo, mTM, mDisp, ppC, mGet1, mGet2, mRef, toRef, noErr, List.lookup_cons, mMakeF]
end
def Mach.tailD (m : Mach) : List D := match m.k with
  | .line => [.int m.lane, .int m.at_, .int m.wide, .int m.tall]
  | .wagon => [.int m.lane, .int m.wide, .int m.tall]
  | .trap => [.int m.lane, .int m.at_, .int m.wide]
  | .floor => .int m.lane :: m.walls.map fun z => .str (wallS z)
theorem app_str {S : Sto} {a b : Str} (h : a.length + b.length ≤ 1000000) : opAdd S (.str a) (.str b) = some (.val (.str (a ++ b))) := by
  show (if a.length + b.length ≤ 1000000 then some (Slot.val (.str (a ++ b))) else none) = _
  rw [if_pos h]
theorem e_law_tail {m : Mach} {x : D} {S : Sto} (hm : m.Ok) (hx : lookD S x = .dic m.ownD) : m__law_tail [x] S = .ok (.own (.lst m.tailD)) S := by
  unfold Mach.ownD at hx
  cases hk : m.k with
  | line => rw [hk] at hx; simp [m__law_tail, b__law_tail, b__law_tail_0, N__law_tail, sb_kind hx, sb_lane hx, sb_at hx, sb_wide hx, sb_tall hx, eq_str, Kd.txt, Mach.tailD, hk, mDef, startD, sSeq, sNext, sSet, sRet, sRetV, sRetN, sIf, sExpr, sRaise, sAug, sPar, sTgt, sApp, sFrz, sTryAs, rBind, R.bind, mMap, mBin, mUn, mCmp, mChain, mFn, mCall, mAnd, mOr, mNot, mTru, mAndV, mOrV, mNotV, mIf, aNil, aCons, oLst, eVar, eC, lift2, liftB, lk_non, lk_bl, lk_int, lk_str, lk_ty, lk_cls, lk_lst, lk_tup, lk_dic, lk_obj, lk_exc, lk_ref, Slot.d, Cell.d, lt_s, le_s, gt_s, ge_s, cIsN, cIsNN, truD, fNeg, fAddI, fSubI, List.getElem?_cons_zero, List.getElem?_cons_succ, List.set_cons_zero, List.set_cons_succ, add_s, cat_s, sub_s, mFld, fFld, mMeth, mSl, pAt, pNo, mTM, mDisp, ppC, mGet1, mGet2, mRef, toRef, noErr, List.lookup_cons]
  | wagon => rw [hk] at hx; simp [m__law_tail, b__law_tail, b__law_tail_0, b__law_tail_1, N__law_tail, sb_kind hx, sb_lane hx, sb_at hx, sb_wide hx, sb_tall hx, eq_str, Kd.txt, txt_ne, Mach.tailD, hk, mDef, startD, sSeq, sNext, sSet, sRet, sRetV, sRetN, sIf, sExpr, sRaise, sAug, sPar, sTgt, sApp, sFrz, sTryAs, rBind, R.bind, mMap, mBin, mUn, mCmp, mChain, mFn, mCall, mAnd, mOr, mNot, mTru, mAndV, mOrV, mNotV, mIf, aNil, aCons, oLst, eVar, eC, lift2, liftB, lk_non, lk_bl, lk_int, lk_str, lk_ty, lk_cls, lk_lst, lk_tup, lk_dic, lk_obj, lk_exc, lk_ref, Slot.d, Cell.d, lt_s, le_s, gt_s, ge_s, cIsN, cIsNN, truD, fNeg, fAddI, fSubI, List.getElem?_cons_zero, List.getElem?_cons_succ, List.set_cons_zero, List.set_cons_succ, add_s, cat_s, sub_s, mFld, fFld, mMeth, mSl, pAt, pNo, mTM, mDisp, ppC, mGet1, mGet2, mRef, toRef, noErr, List.lookup_cons]
  | trap => rw [hk] at hx; simp [m__law_tail, b__law_tail, b__law_tail_0, b__law_tail_1, b__law_tail_2, N__law_tail, sb_kind hx, sb_lane hx, sb_at hx, sb_wide hx, sb_tall hx, eq_str, Kd.txt, txt_ne, Mach.tailD, hk, mDef, startD, sSeq, sNext, sSet, sRet, sRetV, sRetN, sIf, sExpr, sRaise, sAug, sPar, sTgt, sApp, sFrz, sTryAs, rBind, R.bind, mMap, mBin, mUn, mCmp, mChain, mFn, mCall, mAnd, mOr, mNot, mTru, mAndV, mOrV, mNotV, mIf, aNil, aCons, oLst, eVar, eC, lift2, liftB, lk_non, lk_bl, lk_int, lk_str, lk_ty, lk_cls, lk_lst, lk_tup, lk_dic, lk_obj, lk_exc, lk_ref, Slot.d, Cell.d, lt_s, le_s, gt_s, ge_s, cIsN, cIsNN, truD, fNeg, fAddI, fSubI, List.getElem?_cons_zero, List.getElem?_cons_succ, List.set_cons_zero, List.set_cons_succ, add_s, cat_s, sub_s, mFld, fFld, mMeth, mSl, pAt, pNo, mTM, mDisp, ppC, mGet1, mGet2, mRef, toRef, noErr, List.lookup_cons]
  | floor =>
    rw [hk] at hx
    have col : (Str.ofString ":").length = 1 := by decide +kernel
    have t : lcLoop [] (gN 1) [.val x, .none] (eC true) (mMap Slot.d (mBin opAdd (mMap Slot.d (mBin opAdd (mMap Slot.d (mBin opAdd (mMap Slot.d (mBin opAdd (mMap Slot.d (mCall fStr (aCons (mMap Slot.d (mBin opSb (eVar 1) (eC (.int (0))))) aNil))) (eC (.str (Str.ofString ":"))))) (mMap Slot.d (mCall fStr (aCons (mMap Slot.d (mBin opSb (eVar 1) (eC (.int (1))))) aNil))))) (eC (.str (Str.ofString ":"))))) (mMap Slot.d (mCall fStr (aCons (mMap Slot.d (mBin opSb (eVar 1) (eC (.int (2))))) aNil))))) (m.walls.map wallD) [] S = .ok (m.walls.map fun z => .str (wallS z)) S := by
      rw [lc_map (fun d => match d with
        | .tup [.int o, .int w, .int t] => .str (wallS (o, w, t))
        | _ => .non) (gok_nil.mpr trivial)]
      · simp [wallD]
      · intro d hd
        obtain ⟨z, hz, rfl⟩ := List.mem_map.mp hd
        obtain ⟨h1, h2, h3, h4, h5, h6⟩ := hm.wl z hz
        have e1 := str_int (S := S) (i := z.1) (by omega) (by omega)
        have e2 := str_int (S := S) (i := z.2.1) (by omega) (by omega)
        have e3 := str_int (S := S) (i := z.2.2) (by omega) (by omega)
        have l1 := len_strI (i := z.1) (by omega) (by omega)
        have l2 := len_strI (i := z.2.1) (by omega) (by omega)
        have l3 := len_strI (i := z.2.2) (by omega) (by omega)
        refine ⟨[.val x, .val (wallD z)], rfl, ?_⟩
        have g : ∀ j n, opSb S (wallD z) (.int j) = some (.val (.int n)) → fStr S [.int n] = some (.val (.str (strI n))) → mMap Slot.d (mCall fStr (aCons (mMap Slot.d (mBin opSb (eVar 1) (eC (.int j)))) aNil)) [.val x, .val (wallD z)] S = .ok (.str (strI n)) S := fun j n h h' => map_eq (f := Slot.d) (x := .val (.str (strI n))) (call_eq (ds := [.int n]) (cons_eq (map_eq (f := Slot.d) (x := .val (.int n)) (bin_eq (x := wallD z) (y := .int j) (S1 := S) rfl rfl h)) rfl) h')
        have c0 := g 0 z.1 rfl e1
        have c1 := g 1 z.2.1 rfl e2
        have c2 := g 2 z.2.2 rfl e3
        have w : wallS z = strI z.1 ++ Str.ofString ":" ++ strI z.2.1 ++ Str.ofString ":" ++ strI z.2.2 := by unfold wallS; rw [join3]
        show _ = R.ok (D.str (wallS z)) S
        rw [w]
        have p1 := app_str (S := S) (a := strI z.1) (b := Str.ofString ":") (by rw [col]; omega)
        have p2 := app_str (S := S) (a := strI z.1 ++ Str.ofString ":") (b := strI z.2.1) (by simp only [PySem.Str.length_append, col]; omega)
        have p3 := app_str (S := S) (a := strI z.1 ++ Str.ofString ":" ++ strI z.2.1) (b := Str.ofString ":") (by simp only [PySem.Str.length_append, col]; omega)
        have p4 := app_str (S := S) (a := strI z.1 ++ Str.ofString ":" ++ strI z.2.1 ++ Str.ofString ":") (b := strI z.2.2) (by simp only [PySem.Str.length_append, col]; omega)
        have q1 := map_eq (f := Slot.d) (bin_eq (b := eC (.str (Str.ofString ":"))) c0 (S2 := S) rfl p1)
        have q2 := map_eq (f := Slot.d) (bin_eq q1 c1 p2)
        have q3 := map_eq (f := Slot.d) (bin_eq (b := eC (.str (Str.ofString ":"))) q2 (S2 := S) rfl p3)
        exact map_eq (f := Slot.d) (bin_eq q3 c2 p4)
    refine mdef_rt (ρ := [.val x, .none]) (by simp [startD, N__law_tail]) ?_
    unfold b__law_tail
    refine seq_nx (by simp [b__law_tail_0, sb_kind hx, eq_str, Kd.txt, txt_ne, mDef, startD, sSeq, sNext, sSet, sRet, sRetV, sRetN, sIf, sExpr, sRaise, sAug, sPar, sTgt, sApp, sFrz, sTryAs, rBind, R.bind, mMap, mBin, mUn, mCmp, mChain, mFn, mCall, mAnd, mOr, mNot, mTru, mAndV, mOrV, mNotV, mIf, aNil, aCons, oLst, eVar, eC, lift2, liftB, lk_non, lk_bl, lk_int, lk_str, lk_ty, lk_cls, lk_lst, lk_tup, lk_dic, lk_obj, lk_exc, lk_ref, Slot.d, Cell.d, lt_s, le_s, gt_s, ge_s, cIsN, cIsNN, truD, fNeg, fAddI, fSubI, List.getElem?_cons_zero, List.getElem?_cons_succ, List.set_cons_zero, List.set_cons_succ, add_s, cat_s, sub_s, mFld, fFld, mMeth, mSl, pAt, pNo, mTM, mDisp, ppC, mGet1, mGet2, mRef, toRef, noErr, List.lookup_cons]; exact ⟨rfl, rfl⟩) ?_
    refine seq_nx (by simp [b__law_tail_1, sb_kind hx, eq_str, Kd.txt, txt_ne, mDef, startD, sSeq, sNext, sSet, sRet, sRetV, sRetN, sIf, sExpr, sRaise, sAug, sPar, sTgt, sApp, sFrz, sTryAs, rBind, R.bind, mMap, mBin, mUn, mCmp, mChain, mFn, mCall, mAnd, mOr, mNot, mTru, mAndV, mOrV, mNotV, mIf, aNil, aCons, oLst, eVar, eC, lift2, liftB, lk_non, lk_bl, lk_int, lk_str, lk_ty, lk_cls, lk_lst, lk_tup, lk_dic, lk_obj, lk_exc, lk_ref, Slot.d, Cell.d, lt_s, le_s, gt_s, ge_s, cIsN, cIsNN, truD, fNeg, fAddI, fSubI, List.getElem?_cons_zero, List.getElem?_cons_succ, List.set_cons_zero, List.set_cons_succ, add_s, cat_s, sub_s, mFld, fFld, mMeth, mSl, pAt, pNo, mTM, mDisp, ppC, mGet1, mGet2, mRef, toRef, noErr, List.lookup_cons]; exact ⟨rfl, rfl⟩) ?_
    refine seq_nx (by simp [b__law_tail_2, sb_kind hx, eq_str, Kd.txt, txt_ne, mDef, startD, sSeq, sNext, sSet, sRet, sRetV, sRetN, sIf, sExpr, sRaise, sAug, sPar, sTgt, sApp, sFrz, sTryAs, rBind, R.bind, mMap, mBin, mUn, mCmp, mChain, mFn, mCall, mAnd, mOr, mNot, mTru, mAndV, mOrV, mNotV, mIf, aNil, aCons, oLst, eVar, eC, lift2, liftB, lk_non, lk_bl, lk_int, lk_str, lk_ty, lk_cls, lk_lst, lk_tup, lk_dic, lk_obj, lk_exc, lk_ref, Slot.d, Cell.d, lt_s, le_s, gt_s, ge_s, cIsN, cIsNN, truD, fNeg, fAddI, fSubI, List.getElem?_cons_zero, List.getElem?_cons_succ, List.set_cons_zero, List.set_cons_succ, add_s, cat_s, sub_s, mFld, fFld, mMeth, mSl, pAt, pNo, mTM, mDisp, ppC, mGet1, mGet2, mRef, toRef, noErr, List.lookup_cons]; exact ⟨rfl, rfl⟩) ?_
    have s : mSeq (mMap Slot.d (mBin opSb (eVar 0) (eC (.str (Str.ofString "walls"))))) [.val x, .none] S = .ok (m.walls.map wallD, []) S := by simp [mSeq, mThenS, fSeq, lstOf, sb_walls hx, mDef, startD, sSeq, sNext, sSet, sRet, sRetV, sRetN, sIf, sExpr, sRaise, sAug, sPar, sTgt, sApp, sFrz, sTryAs, rBind, R.bind, mMap, mBin, mUn, mCmp, mChain, mFn, mCall, mAnd, mOr, mNot, mTru, mAndV, mOrV, mNotV, mIf, aNil, aCons, oLst, eVar, eC, lift2, liftB, lk_non, lk_bl, lk_int, lk_str, lk_ty, lk_cls, lk_lst, lk_tup, lk_dic, lk_obj, lk_exc, lk_ref, Slot.d, Cell.d, lt_s, le_s, gt_s, ge_s, cIsN, cIsNN, truD, fNeg, fAddI, fSubI, List.getElem?_cons_zero, List.getElem?_cons_succ, List.set_cons_zero, List.set_cons_succ, add_s, cat_s, sub_s, mFld, fFld, mMeth, mSl, pAt, pNo, mTM, mDisp, ppC, mGet1, mGet2, mRef, toRef, noErr, List.lookup_cons]
    have l2 : 1 + m.walls.length ≤ 1000000 := by have := hm.wl2; omega
    refine seq_rt (ret_eq (bin_eq (map_eq (lst_eq (cons_eq (map_eq (bin_eq (x := x) (y := .str (Str.ofString "lane")) (S1 := S) rfl rfl (sb_lane hx))) rfl))) (map_eq (lc_eq s (by simp; omega) rfl t)) ?_))
    simp [Slot.d, Cell.d, cat_s, l2, Mach.tailD, hk]
/-! words of refusals -/
end FW
end
section
set_option maxHeartbeats 4000000
/-! the plain law: words of refusals; what a machine tells is right. -/
namespace FW
open PySem
theorem mul1 {S : Sto} {x : Str} (h : x.length ≤ 1000) : opMul S (.str x) (.int 1) = some (.val (.str x)) := by
  have : Txt.mul x 1 = x := by simp [Txt.mul]
  simp [opMul, mulOk, h, this]
theorem mul0 {S : Sto} {x : Str} (h : x.length ≤ 1000) : opMul S (.str x) (.int 0) = some (.val (.str Str.empty)) := by
  have : Txt.mul x 0 = Str.empty := by simp [Txt.mul]
  simp [opMul, mulOk, h, this]
theorem app_e {a : Str} : a ++ Str.empty = a := by apply PySem.Str.ext'; simp [PySem.Str.cps_append, Str.empty]
theorem app_l {a : Str} : Str.empty ++ a = a := by apply PySem.Str.ext'; simp [PySem.Str.cps_append, Str.empty]
theorem add_e {S : Sto} {a : Str} (h : a.length ≤ 1000) : opAdd S (.str a) (.str Str.empty) = some (.val (.str a)) := by
  have z : Str.empty.length = 0 := rfl
  rw [app_str (by rw [z]; omega), app_e]
theorem add_l {S : Sto} {a : Str} (h : a.length ≤ 1000) : opAdd S (.str Str.empty) (.str a) = some (.val (.str a)) := by
  have z : Str.empty.length = 0 := rfl
  rw [app_str (by rw [z]; omega), app_l]
theorem wn : (Str.ofString "number ").length ≤ 1000 ∧ (Str.ofString "name ").length ≤ 1000 ∧ (Str.ofString "stage ").length ≤ 1000 ∧ (Str.ofString "near ").length ≤ 1000 ∧ (Str.ofString "other ").length ≤ 1000 ∧ Str.empty.length ≤ 1000 := by decide +kernel
theorem fint_t {S : Sto} : fInt S [.bl true] = some (.val (.int 1)) := rfl
theorem fint_f {S : Sto} : fInt S [.bl false] = some (.val (.int 0)) := rfl
theorem cls_number {S : Sto} : m__law_classes [.exc "BadNumber" []] S = .ok (.val (.str (Str.ofString "number "))) S := by
  obtain ⟨h1, h2, h3, h4, h5, h6⟩ := wn
  simp [m__law_classes, b__law_classes, b__law_classes_0, b__law_classes_1, b__law_classes_2, b__law_classes_3, b__law_classes_4, N__law_classes, fIsi, isiL, isi1, tyN, T, fint_t, fint_f, mul1 h1, mul0 h2, mul0 h3, mul0 h4, mul0 h5, add_e h1, add_e h6, add_l h6, mDef, startD, sSeq, sNext, sSet, sRet, sRetV, sRetN, sIf, sExpr, sRaise, sAug, sPar, sTgt, sApp, sFrz, sTryAs, rBind, R.bind, mMap, mBin, mUn, mCmp, mChain, mFn, mCall, mAnd, mOr, mNot, mTru, mAndV, mOrV, mNotV, mIf, aNil, aCons, oLst, eVar, eC, lift2, liftB, lk_non, lk_bl, lk_int, lk_str, lk_ty, lk_cls, lk_lst, lk_tup, lk_dic, lk_obj, lk_exc, lk_ref, Slot.d, Cell.d, lt_s, le_s, gt_s, ge_s, cIsN, cIsNN, truD, fNeg, fAddI, fSubI, List.getElem?_cons_zero, List.getElem?_cons_succ, List.set_cons_zero, List.set_cons_succ, add_s, cat_s, sub_s, mFld, fFld, mMeth, mSl, pAt, pNo, mTM, mDisp, ppC, mGet1, mGet2, mRef, toRef, noErr, List.lookup_cons]
theorem cls_name {S : Sto} : m__law_classes [.exc "BadName" []] S = .ok (.val (.str (Str.ofString "name "))) S := by
  obtain ⟨h1, h2, h3, h4, h5, h6⟩ := wn
  simp [m__law_classes, b__law_classes, b__law_classes_0, b__law_classes_1, b__law_classes_2, b__law_classes_3, b__law_classes_4, N__law_classes, fIsi, isiL, isi1, tyN, T, fint_t, fint_f, mul0 h1, mul1 h2, mul0 h3, mul0 h4, mul0 h5, add_e h2, add_e h6, add_l h6, add_l h2, mDef, startD, sSeq, sNext, sSet, sRet, sRetV, sRetN, sIf, sExpr, sRaise, sAug, sPar, sTgt, sApp, sFrz, sTryAs, rBind, R.bind, mMap, mBin, mUn, mCmp, mChain, mFn, mCall, mAnd, mOr, mNot, mTru, mAndV, mOrV, mNotV, mIf, aNil, aCons, oLst, eVar, eC, lift2, liftB, lk_non, lk_bl, lk_int, lk_str, lk_ty, lk_cls, lk_lst, lk_tup, lk_dic, lk_obj, lk_exc, lk_ref, Slot.d, Cell.d, lt_s, le_s, gt_s, ge_s, cIsN, cIsNN, truD, fNeg, fAddI, fSubI, List.getElem?_cons_zero, List.getElem?_cons_succ, List.set_cons_zero, List.set_cons_succ, add_s, cat_s, sub_s, mFld, fFld, mMeth, mSl, pAt, pNo, mTM, mDisp, ppC, mGet1, mGet2, mRef, toRef, noErr, List.lookup_cons]
/-! equal things -/
theorem le_strOk {x : Str} (h : isNm x = true) : PyData.strOk x = true := by
  unfold isNm at h
  simp only [Bool.and_eq_true] at h
  have h2 := h.2
  have key : ∀ c, isLet c = true → c < 0x110000 := fun c hc => by
    unfold isLet letters at hc
    have : ∀ c ∈ (Str.ofString "abcdefghijklmnopqrstuvwxyz").cps.toList, c < 0x110000 := by decide +kernel
    exact this c (of_decide_eq_true hc)
  unfold PyData.strOk
  rw [← Array.all_toList, List.all_eq_true]
  intro c hc
  exact decide_eq_true (key c (List.all_eq_true.mp h2 c hc))
mutual
theorem eqD_refl : ∀ (n : Nat) (d : D), okD n d = true → eqD d d = true
  | _, .non, _ => rfl
  | _, .bl b, _ => by simp [eqD]
  | _, .int i, _ => by simp [eqD]
  | _, .str s, _ => by simp [eqD]
  | 0, .lst _, h => by simp [okD] at h
  | 0, .tup _, h => by simp [okD] at h
  | n + 1, .lst xs, h => by simp only [okD] at h; simp only [eqD]; exact eqDL_refl n xs h
  | n + 1, .tup xs, h => by simp only [okD] at h; simp only [eqD]; exact eqDL_refl n xs h
  | n, .ty _, h => by cases n <;> simp [okD] at h
  | n, .cls _, h => by cases n <;> simp [okD] at h
  | n, .dic _, h => by cases n <;> simp [okD] at h
  | n, .obj _ _, h => by cases n <;> simp [okD] at h
  | n, .exc _ _, h => by cases n <;> simp [okD] at h
  | n, .ref _, h => by cases n <;> simp [okD] at h
theorem eqDL_refl : ∀ (n : Nat) (ds : List D), okDL n ds = true → eqDL ds ds = true
  | _, [], _ => rfl
  | n, d :: ds, h => by
    simp only [okDL, Bool.and_eq_true] at h
    simp only [eqDL, eqD_refl n d h.1, eqDL_refl n ds h.2, Bool.and_self]
end
theorem ceq_lst {S : Sto} {a b : List D} : cEq S (.lst a) (.lst b) = if okD 20 (.lst a) && okD 20 (.lst b) then some (eqD (.lst a) (.lst b)) else none := rfl
theorem ne_same {S : Sto} {a : List D} (h : okDL 19 a = true) : cNe S (.lst a) (.lst a) = some false := by
  have h' : okD 20 (.lst a) = true := by simp only [okD]; exact h
  unfold cNe
  rw [ceq_lst, h', Bool.and_self, if_pos rfl, eqD_refl 20 _ h']
  rfl
theorem okDL_app : ∀ (n : Nat) (a b : List D), okDL n (a ++ b) = (okDL n a && okDL n b)
  | n, [], b => by simp [okDL]
  | n, x :: a, b => by simp [okDL, okDL_app n a b, Bool.and_assoc]
theorem okDL_box : ∀ (bs : List Box), okDL 19 (bs.map boxD) = true
  | [] => rfl
  | b :: bs => by simp [okDL, okD, boxD, okDL_box bs]
theorem isi_mach {m : Mach} {x : D} {S : Sto} (hx : lookD S x = m.obj) {c : String} (hc : T.own.contains c = true) : fIsi T S [x, .cls c] = some (.val (.bl ((T.mro m.k.cls).contains c))) := by
  have hi : T.ic.contains m.k.cls = true := by cases m.k <;> decide
  simp only [fIsi, hx, Mach.obj, isi1, hi, hc, Bool.and_self, if_true, Option.map_some]
section
variable {m : Mach} {S : Sto}
theorem maxA_wide {ρ : List Slot} {i : Nat} {mw : M D} (hm : m.Ok) (hi : i < ρ.length) (hw : mw ρ S = .ok (.lst (m.walls.map wallD)) S) : mCall fMaxA (aCons (mMap Slot.d (mLc (mSeq mw) (gN i) [i] (eC true) (mMap Slot.d (mBin opSb (eVar i) (eC (.int (1))))))) aNil) ρ S = .ok (.val (.int (maxL (m.walls.map (·.2.1))))) S := by
  have s : mSeq mw ρ S = .ok (m.walls.map wallD, []) S := by simp [mSeq, mThenS, hw, fSeq, lstOf]
  have l : (m.walls.map wallD).length ≤ 1000000 := by have := hm.wl2; simp; omega
  have t := int_tys (zs := m.walls) (ρ := wipeD ρ [i]) (i := i) (S := S) (C := []) (gok_nil.mpr trivial) (by rw [wipeD_length]; exact hi)
  refine call_eq (cons_eq (map_eq (lc_eq s l rfl t)) rfl) ?_
  have w := hm.wl1
  have t2 := intsD_wide m.walls
  obtain ⟨z0, zr, e⟩ : ∃ z0 zr, m.walls = z0 :: zr := by
    cases q : m.walls with
    | nil => rw [q] at w; simp at w
    | cons a b => exact ⟨a, b, rfl⟩
  rw [e] at t2 ⊢
  simp only [List.map_cons] at t2
  simp [fMaxA, Slot.d, Cell.d, lk_lst, t2]
theorem maxA_off {ρ : List Slot} {i : Nat} {mw : M D} (hm : m.Ok) (hi : i < ρ.length) (hw : mw ρ S = .ok (.lst (m.walls.map wallD)) S) : mCall fMaxA (aCons (mMap Slot.d (mLc (mSeq mw) (gN i) [i] (eC true) (mMap Slot.d (mBin opSb (eVar i) (eC (.int (0))))))) aNil) ρ S = .ok (.val (.int (maxL (m.walls.map (·.1))))) S := by
  have s : mSeq mw ρ S = .ok (m.walls.map wallD, []) S := by simp [mSeq, mThenS, hw, fSeq, lstOf]
  have l : (m.walls.map wallD).length ≤ 1000000 := by have := hm.wl2; simp; omega
  have t := int_offs (zs := m.walls) (ρ := wipeD ρ [i]) (i := i) (S := S) (C := []) (gok_nil.mpr trivial) (by rw [wipeD_length]; exact hi)
  refine call_eq (cons_eq (map_eq (lc_eq s l rfl t)) rfl) ?_
  have w := hm.wl1
  have t2 := intsD_off m.walls
  obtain ⟨z0, zr, e⟩ : ∃ z0 zr, m.walls = z0 :: zr := by
    cases q : m.walls with
    | nil => rw [q] at w; simp at w
    | cons a b => exact ⟨a, b, rfl⟩
  rw [e] at t2 ⊢
  simp only [List.map_cons] at t2
  simp [fMaxA, Slot.d, Cell.d, lk_lst, t2]
/-- str of each: of numbers and of texts -/
def txtD : D → Str
  | .int i => strI i
  | .str x => x
  | _ => Str.empty
def txtOk : D → Prop
  | .int i => -1000000000 ≤ i ∧ i ≤ 1000000000
  | .str _ => True
  | _ => False
theorem strs_any {ρ : List Slot} {i : Nat} (hi : i < ρ.length) {ds : List D} (h : ∀ d ∈ ds, txtOk d) : lcLoop [] (gN i) ρ (eC true) (mMap Slot.d (mCall fStr (aCons (eVar i) aNil))) ds [] S = .ok ((ds.map txtD).map D.str) S := by
  rw [lc_map (fun d => .str (txtD d)) (gok_nil.mpr trivial)]
  · simp [Function.comp_def]
  · intro d hd
    have := h d hd
    refine ⟨ρ.set i (.val d), rfl, ?_⟩
    have g : eVar i (ρ.set i (.val d)) S = .ok d S := by simp [eVar, hi]
    cases d with
    | int n => exact map_eq (f := Slot.d) (x := .val (.str (strI n))) (call_eq (ds := [.int n]) (cons_eq g rfl) (str_int this.1 this.2))
    | str z => exact map_eq (f := Slot.d) (x := .val (.str z)) (call_eq (ds := [.str z]) (cons_eq g rfl) rfl)
    | _ => exact this.elim
theorem tailD_txt (hm : m.Ok) : (∀ d ∈ m.tailD, txtOk d) ∧ m.tailD.map txtD = m.tailS := by
  have := hm.la1; have := hm.la2; have := hm.at1; have := hm.at2; have := hm.w1; have := hm.w2; have := hm.t1; have := hm.t2
  unfold Mach.tailD Mach.tailS
  cases m.k with
  | floor =>
    refine ⟨fun d hd => ?_, ?_⟩
    · rcases List.mem_cons.mp hd with rfl | hd
      · exact ⟨by omega, by omega⟩
      · obtain ⟨z, _, rfl⟩ := List.mem_map.mp hd; trivial
    · simp [txtD, Function.comp_def]
  | _ =>
    refine ⟨fun d hd => ?_, by simp [txtD]⟩
    simp only [List.mem_cons, List.not_mem_nil, or_false] at hd
    first
      | (rcases hd with rfl | rfl | rfl | rfl <;> exact ⟨by omega, by omega⟩)
      | (rcases hd with rfl | rfl | rfl <;> exact ⟨by omega, by omega⟩)
end
end FW
end
section
set_option maxHeartbeats 4000000
/-! the plain law: what a machine tells is right; places beyond are refused. -/
namespace FW
open PySem
def kindsD (k : Kd) : List D := match k with
  | .line => [.bl true, .bl false, .bl false, .bl false]
  | .wagon => [.bl false, .bl true, .bl false, .bl false]
  | .trap => [.bl false, .bl false, .bl true, .bl false]
  | .floor => [.bl false, .bl false, .bl false, .bl true]
theorem nor_boxes {bs : List Box} : norL (bs.map boxD) = true := by
  induction bs with
  | nil => rfl
  | cons b bs ih => simp [norL, nor, boxD, ih]
theorem nor_obj {m : Mach} : nor m.obj = true := by
  unfold Mach.obj Mach.fs
  cases m.k <;> simp [nor, norF, lineF, wagonF, trapF, floorF, norL_walls]
theorem nor_own {m : Mach} : nor (.dic m.ownD) = true := by simp [Mach.ownD, nor, norK, ownL, norL_walls]
theorem app_eq {i : Nat} {m : M D} {ρ : List Slot} {S S1 : Sto} {xs : List D} {d : D} (h : ρ[i]? = some (.own (.lst xs))) (hm : m ρ S = .ok d S1) (hl : xs.length < 1000000) : sApp i m ρ S = .nx (ρ.set i (.own (.lst (xs ++ [d])))) S1 := by simp only [sApp, h, hm, rBind, hl, if_true]
theorem mif_t {α : Type} {t : M Bool} {a b : M α} {ρ : List Slot} {S S1 : Sto} {r : R α} (h : t ρ S = .ok true S1) (k : a ρ S1 = r) : mIf t a b ρ S = r := by simp only [mIf, h, R.bind, cond_true, k]
theorem mif_f {α : Type} {t : M Bool} {a b : M α} {ρ : List Slot} {S S1 : Sto} {r : R α} (h : t ρ S = .ok false S1) (k : b ρ S1 = r) : mIf t a b ρ S = r := by simp only [mIf, h, R.bind, cond_false, k]
section
variable {m : Mach} {S : Sto}
theorem told_right (hm : m.Ok) : m__law_told_right [m.obj, .dic m.ownD] S = .ok (.val (.bl true)) S := by
  have hx : lookD S m.obj = m.obj := rfl
  have ho : lookD S (.dic m.ownD) = .dic m.ownD := rfl
  have hoL : lookD S (.dic m.ownD) = .dic (ownL (.str m.nm) (.int m.lo) (.int m.hi) (.int m.place) (.int m.pace) (.int m.gain) (.str m.k.txt) (.int m.lane) (.int m.at_) (.int m.wide) (.int m.tall) (.lst (m.walls.map wallD))) := rfl
  have i1 := isi_mach (c := "Line") hx (by decide)
  have i2 := isi_mach (c := "Wagon") hx (by decide)
  have i3 := isi_mach (c := "Trap") hx (by decide)
  have i4 := isi_mach (c := "Floor") hx (by decide)
  have i5 := isi_mach (c := "Machine") hx (by decide)
  have m5 : (T.mro m.k.cls).contains "Machine" = true := by cases m.k <;> decide
  rw [m5] at i5
  have hk0 : [D.bl ((T.mro m.k.cls).contains "Line"), .bl ((T.mro m.k.cls).contains "Wagon"), .bl ((T.mro m.k.cls).contains "Trap"), .bl ((T.mro m.k.cls).contains "Floor")] = kindsD m.k := by cases m.k <;> rfl
  have c1 := sb_name hoL; have c2 := sb_least hoL; have c3 := sb_greatest hoL; have c4 := sb_pace hoL; have c5 := sb_gain hoL; have c6 := sb_place hoL; have c7 := sb_kind hoL; have c8 := sb_lane hoL; have c9 := sb_wide hoL; have c10 := sb_walls hoL
  refine mdef_rt (ρ := [.val m.obj, .val (.dic m.ownD), .none, .none, .none, .none, .none, .none, .none, .none, .none]) (by simp [startD, N__law_told_right]) ?_
  unfold b__law_told_right
  refine seq_nx (ρ1 := [.val m.obj, .val (.dic m.ownD), .own (.lst [D.bl ((T.mro m.k.cls).contains "Line"), .bl ((T.mro m.k.cls).contains "Wagon"), .bl ((T.mro m.k.cls).contains "Trap")]), .none, .none, .none, .none, .none, .none, .none, .none]) (S1 := S) ?_ ?_
  · exact set_eq (lst_eq (cons_eq (map_eq (call_eq (ds := [m.obj, .cls "Line"]) (cons_eq (S1 := S) rfl (cons_eq (S1 := S) rfl rfl)) i1)) (cons_eq (map_eq (call_eq (ds := [m.obj, .cls "Wagon"]) (cons_eq (S1 := S) rfl (cons_eq (S1 := S) rfl rfl)) i2)) (cons_eq (map_eq (call_eq (ds := [m.obj, .cls "Trap"]) (cons_eq (S1 := S) rfl (cons_eq (S1 := S) rfl rfl)) i3)) rfl))))
  have e4 : mMap Slot.d (mCall (fIsi T) (aCons (eVar 0) (aCons (eC (.cls "Floor")) aNil))) [.val m.obj, .val (.dic m.ownD), .own (.lst [D.bl ((T.mro m.k.cls).contains "Line"), .bl ((T.mro m.k.cls).contains "Wagon"), .bl ((T.mro m.k.cls).contains "Trap")]), .none, .none, .none, .none, .none, .none, .none, .none] S = .ok (.bl ((T.mro m.k.cls).contains "Floor")) S := map_eq (f := Slot.d) (call_eq (ds := [m.obj, .cls "Floor"]) (cons_eq (S1 := S) rfl (cons_eq (S1 := S) rfl rfl)) i4)
  refine seq_nx (ρ1 := [.val m.obj, .val (.dic m.ownD), .own (.lst (kindsD m.k)), .none, .none, .none, .none, .none, .none, .none, .none]) (S1 := S) (by rw [← hk0]; unfold b__law_told_right_1; exact (app_eq rfl e4 (by simp)).trans rfl) ?_
  rw [frz_own (i := 2) rfl]
  show sSeq b__law_told_right_2 _ [.val m.obj, .val (.dic m.ownD), .val (.lst (kindsD m.k)), .none, .none, .none, .none, .none, .none, .none, .none] S = _
  refine seq_nx (ρ1 := [.val m.obj, .val (.dic m.ownD), .val (.lst (kindsD m.k)), .own (.lst (kindsD m.k)), .none, .none, .none, .none, .none, .none, .none]) (S1 := S) (by
    simp [b__law_told_right_2, mLc, mSeq, mThenS, fSeq, lcLoop, gok_nil, gN, wipeD, c7, eq_str, mDef, startD, sSeq, sNext, sSet, sRet, sRetV, sRetN, sIf, sExpr, sRaise, sAug, sPar, sTgt, sApp, sFrz, sTryAs, rBind, R.bind, mMap, mBin, mUn, mCmp, mChain, mFn, mCall, mAnd, mOr, mNot, mTru, mAndV, mOrV, mNotV, mIf, aNil, aCons, oLst, eVar, eC, lift2, liftB, lk_non, lk_bl, lk_int, lk_str, lk_ty, lk_cls, lk_lst, lk_tup, lk_dic, lk_obj, lk_exc, lk_ref, Slot.d, Cell.d, lt_s, le_s, gt_s, ge_s, cIsN, cIsNN, truD, fNeg, fAddI, fSubI, List.getElem?_cons_zero, List.getElem?_cons_succ, List.set_cons_zero, List.set_cons_succ, add_s, cat_s, sub_s, mFld, fFld, mMeth, mSl, pAt, pNo, mTM, mDisp, ppC, mGet1, mGet2, mRef, toRef, noErr, List.lookup_cons]
    cases m.k <;> simp [kindsD, Kd.txt, txt_ne]) ?_
  rw [frz_own (i := 3) rfl]
  show sSeq b__law_told_right_3 _ [.val m.obj, .val (.dic m.ownD), .val (.lst (kindsD m.k)), .val (.lst (kindsD m.k)), .none, .none, .none, .none, .none, .none, .none] S = _
  have ok1 : okDL 19 (kindsD m.k) = true := by cases m.k <;> decide
  refine seq_nx (by simp [b__law_told_right_3, i5, ne_same ok1, mDef, startD, sSeq, sNext, sSet, sRet, sRetV, sRetN, sIf, sExpr, sRaise, sAug, sPar, sTgt, sApp, sFrz, sTryAs, rBind, R.bind, mMap, mBin, mUn, mCmp, mChain, mFn, mCall, mAnd, mOr, mNot, mTru, mAndV, mOrV, mNotV, mIf, aNil, aCons, oLst, eVar, eC, lift2, liftB, lk_non, lk_bl, lk_int, lk_str, lk_ty, lk_cls, lk_lst, lk_tup, lk_dic, lk_obj, lk_exc, lk_ref, Slot.d, Cell.d, lt_s, le_s, gt_s, ge_s, cIsN, cIsNN, truD, fNeg, fAddI, fSubI, List.getElem?_cons_zero, List.getElem?_cons_succ, List.set_cons_zero, List.set_cons_succ, add_s, cat_s, sub_s, mFld, fFld, mMeth, mSl, pAt, pNo, mTM, mDisp, ppC, mGet1, mGet2, mRef, toRef, noErr, List.lookup_cons]; exact ⟨rfl, rfl⟩) ?_
  refine seq_nx (ρ1 := [.val m.obj, .val (.dic m.ownD), .val (.lst (kindsD m.k)), .val (.lst (kindsD m.k)), .val (.lst [.str m.nm, .int m.lo, .int m.hi, .int m.pace, .int m.gain, .int m.place]), .none, .none, .none, .none, .none, .none]) (S1 := S) (by
    simp [b__law_told_right_4, sSet, rBind, mMap, oLst, aCons, aNil, mFld, eVar, fl_nm hx, fl_lo hx, fl_hi hx, fl_pace hx, fl_gain hx, fl_place hx, Slot.d, Cell.d]) ?_
  have ok2 : okDL 19 [.str m.nm, .int m.lo, .int m.hi, .int m.pace, .int m.gain, .int m.place] = true := by simp [okDL, okD, le_strOk hm.nm]
  refine seq_nx (by
    simp [b__law_told_right_5, mLc, mSeq, mThenS, fSeq, lcLoop, gok_nil, gN, wipeD, c1, c2, c3, c4, c5, c6, ne_same ok2, mDef, startD, sSeq, sNext, sSet, sRet, sRetV, sRetN, sIf, sExpr, sRaise, sAug, sPar, sTgt, sApp, sFrz, sTryAs, rBind, R.bind, mMap, mBin, mUn, mCmp, mChain, mFn, mCall, mAnd, mOr, mNot, mTru, mAndV, mOrV, mNotV, mIf, aNil, aCons, oLst, eVar, eC, lift2, liftB, lk_non, lk_bl, lk_int, lk_str, lk_ty, lk_cls, lk_lst, lk_tup, lk_dic, lk_obj, lk_exc, lk_ref, Slot.d, Cell.d, lt_s, le_s, gt_s, ge_s, cIsN, cIsNN, truD, fNeg, fAddI, fSubI, List.getElem?_cons_zero, List.getElem?_cons_succ, List.set_cons_zero, List.set_cons_succ, add_s, cat_s, sub_s, mFld, fFld, mMeth, mSl, pAt, pNo, mTM, mDisp, ppC, mGet1, mGet2, mRef, toRef, noErr, List.lookup_cons]
    exact ⟨rfl, rfl⟩) ?_
  refine seq_nx (ρ1 := [.val m.obj, .val (.dic m.ownD), .val (.lst (kindsD m.k)), .val (.lst (kindsD m.k)), .val (.lst [.str m.nm, .int m.lo, .int m.hi, .int m.pace, .int m.gain, .int m.place]), .val (.int m.long), .none, .none, .none, .none, .none]) (S1 := S) (by
    have mw := maxA_wide (m := m) (S := S) (ρ := [.val m.obj, .val (.dic m.ownD), .val (.lst (kindsD m.k)), .val (.lst (kindsD m.k)), .val (.lst [.str m.nm, .int m.lo, .int m.hi, .int m.pace, .int m.gain, .int m.place]), .none, .none, .none, .none, .none, .none]) (i := 9) (mw := mMap Slot.d (mBin opSb (eVar 1) (eC (.str (Str.ofString "walls"))))) hm (by simp) (map_eq (f := Slot.d) (bin_eq (x := .dic m.ownD) (y := .str (Str.ofString "walls")) (S1 := S) rfl rfl c10))
    have kq : mCmp cEq (mMap Slot.d (mBin opSb (eVar 1) (eC (.str (Str.ofString "kind"))))) (eC (.str (Str.ofString "floor"))) [.val m.obj, .val (.dic m.ownD), .val (.lst (kindsD m.k)), .val (.lst (kindsD m.k)), .val (.lst [.str m.nm, .int m.lo, .int m.hi, .int m.pace, .int m.gain, .int m.place]), .none, .none, .none, .none, .none, .none] S = .ok (decide (m.k.txt = Str.ofString "floor")) S := cmp_eq (map_eq (f := Slot.d) (bin_eq (x := .dic m.ownD) (y := .str (Str.ofString "kind")) (S1 := S) rfl rfl c7)) (S2 := S) rfl rfl
    refine set_eq (map_eq (f := Slot.val) (x := (D.int m.long)) (map_eq (f := Slot.d) (x := Slot.val (D.int m.long)) ?_))
    by_cases hk : m.k = .floor
    · have e1 : (D.int m.long) = D.int (maxL (m.walls.map (·.2.1))) := by simp [Mach.long, hk]
      rw [e1]
      exact mif_t (S1 := S) (by rw [kq]; simp [hk, Kd.txt]) mw
    · exact mif_f (S1 := S) (by rw [kq]; cases hh : m.k <;> simp [hh, Kd.txt, txt_ne] at hk ⊢) (by have e2 : m.long = m.wide := by { unfold Mach.long; cases hh : m.k <;> simp [hh] at hk ⊢ }; rw [e2]; exact bin_eq (x := .dic m.ownD) (y := .str (Str.ofString "wide")) (S1 := S) rfl rfl c9)) ?_
  refine seq_nx (ρ1 := [.val m.obj, .val (.dic m.ownD), .val (.lst (kindsD m.k)), .val (.lst (kindsD m.k)), .val (.lst [.str m.nm, .int m.lo, .int m.hi, .int m.pace, .int m.gain, .int m.place]), .val (.int m.long), .val (.int m.off), .none, .none, .none, .none]) (S1 := S) (by
    have mw := maxA_off (m := m) (S := S) (ρ := [.val m.obj, .val (.dic m.ownD), .val (.lst (kindsD m.k)), .val (.lst (kindsD m.k)), .val (.lst [.str m.nm, .int m.lo, .int m.hi, .int m.pace, .int m.gain, .int m.place]), .val (.int m.long), .none, .none, .none, .none, .none]) (i := 9) (mw := mMap Slot.d (mBin opSb (eVar 1) (eC (.str (Str.ofString "walls"))))) hm (by simp) (map_eq (f := Slot.d) (bin_eq (x := .dic m.ownD) (y := .str (Str.ofString "walls")) (S1 := S) rfl rfl c10))
    have kq : mCmp cEq (mMap Slot.d (mBin opSb (eVar 1) (eC (.str (Str.ofString "kind"))))) (eC (.str (Str.ofString "floor"))) [.val m.obj, .val (.dic m.ownD), .val (.lst (kindsD m.k)), .val (.lst (kindsD m.k)), .val (.lst [.str m.nm, .int m.lo, .int m.hi, .int m.pace, .int m.gain, .int m.place]), .val (.int m.long), .none, .none, .none, .none, .none] S = .ok (decide (m.k.txt = Str.ofString "floor")) S := cmp_eq (map_eq (f := Slot.d) (bin_eq (x := .dic m.ownD) (y := .str (Str.ofString "kind")) (S1 := S) rfl rfl c7)) (S2 := S) rfl rfl
    refine set_eq (map_eq (f := Slot.val) (x := (D.int m.off)) (map_eq (f := Slot.d) (x := Slot.val (D.int m.off)) ?_))
    by_cases hk : m.k = .floor
    · have e1 : (D.int m.off) = D.int (maxL (m.walls.map (·.1))) := by simp [Mach.off, hk]
      rw [e1]
      exact mif_t (S1 := S) (by rw [kq]; simp [hk, Kd.txt]) mw
    · exact mif_f (S1 := S) (by rw [kq]; cases hh : m.k <;> simp [hh, Kd.txt, txt_ne] at hk ⊢) (by have e2 : m.off = 0 := by { unfold Mach.off; cases hh : m.k <;> simp [hh] at hk ⊢ }; rw [e2]; rfl)) ?_
  generalize hρ : [Slot.val m.obj, .val (.dic m.ownD), .val (.lst (kindsD m.k)), .val (.lst (kindsD m.k)), .val (.lst [.str m.nm, .int m.lo, .int m.hi, .int m.pace, .int m.gain, .int m.place]), .val (.int m.long), .val (.int m.off), .none, .none, .none, .none] = ρ
  have v0 : eVar 0 ρ S = .ok m.obj S := by subst hρ; rfl
  have v1 : eVar 1 ρ S = .ok (.dic m.ownD) S := by subst hρ; rfl
  have k1 := me_kind (m := m) v0 hx
  have k2 := me_lane (m := m) v0 hx
  have k3 := me_wide (m := m) v0 hx
  have k4 := me_offset (m := m) hm v0 hx
  have okt : PyData.strOk m.k.txt = true := by cases m.k <;> decide +kernel
  have ok3 : okDL 19 [.str m.k.txt, .int m.lane, .int m.long, .int m.off] = true := by simp [okDL, okD, okt]
  have a1 : mMap Slot.d (oLst (aCons (mMap Slot.d (mMeth "kind" t_kind_0 (eVar 0) aNil)) (aCons (mMap Slot.d (mMeth "lane" t_lane_0 (eVar 0) aNil)) (aCons (mMap Slot.d (mMeth "wide" t_wide_0 (eVar 0) aNil)) (aCons (mMap Slot.d (mMeth "offset" t_offset_0 (eVar 0) aNil)) aNil))))) ρ S = .ok (.lst [.str m.k.txt, .int m.lane, .int m.long, .int m.off]) S := map_eq (f := Slot.d) (lst_eq (cons_eq (map_eq k1) (cons_eq (map_eq k2) (cons_eq (map_eq k3) (cons_eq (map_eq k4) rfl)))))
  have a2 : mMap Slot.d (oLst (aCons (mMap Slot.d (mBin opSb (eVar 1) (eC (.str (Str.ofString "kind"))))) (aCons (mMap Slot.d (mBin opSb (eVar 1) (eC (.str (Str.ofString "lane"))))) (aCons (eVar 5) (aCons (eVar 6) aNil))))) ρ S = .ok (.lst [.str m.k.txt, .int m.lane, .int m.long, .int m.off]) S := by
    refine map_eq (f := Slot.d) (lst_eq (cons_eq (map_eq (bin_eq v1 (y := .str (Str.ofString "kind")) (S2 := S) rfl c7)) (cons_eq (map_eq (bin_eq v1 (y := .str (Str.ofString "lane")) (S2 := S) rfl c8)) (cons_eq (x := .int m.long) (S1 := S) ?_ (cons_eq (x := .int m.off) (S1 := S) ?_ rfl)))))
    · subst hρ; rfl
    · subst hρ; rfl
  refine seq_nx (ρ1 := ρ) (S1 := S) (if_f (cmp_eq a1 a2 (ne_same ok3)) rfl) ?_
  obtain ⟨tx1, tx2⟩ := tailD_txt hm
  have r1 : mMap Slot.d (mBin opAdd (mMap Slot.d (mBin opAdd (mMap Slot.d (oLst (aCons (mMap Slot.d (mBin opSb (eVar 1) (eC (.str (Str.ofString "kind"))))) (aCons (mMap Slot.d (mBin opSb (eVar 1) (eC (.str (Str.ofString "name"))))) aNil)))) (mMap Slot.d (mLc (mSeq (mMap Slot.d (mSl (eVar 4) (pAt (eC (.int (1)))) pNo))) (gN 10) [10] (eC true) (mMap Slot.d (mCall fStr (aCons (eVar 10) aNil))))))) (mMap Slot.d (mLc (mSeq (mMap Slot.d (mFn c__law_tail (aCons (eVar 1) aNil)))) (gN 10) [10] (eC true) (mMap Slot.d (mCall fStr (aCons (eVar 10) aNil)))))) ρ S = .ok (.lst (m.partS.map D.str)) S := by
    have q0 := map_eq (f := Slot.d) (lst_eq (cons_eq (map_eq (f := Slot.d) (bin_eq v1 (b := eC (.str (Str.ofString "kind"))) (y := .str (Str.ofString "kind")) (S2 := S) rfl c7)) (cons_eq (map_eq (f := Slot.d) (bin_eq v1 (b := eC (.str (Str.ofString "name"))) (y := .str (Str.ofString "name")) (S2 := S) rfl c1)) (r := aNil) rfl)))
    have s1 : mSeq (mMap Slot.d (mSl (eVar 4) (pAt (eC (.int (1)))) pNo)) ρ S = .ok ([m.lo, m.hi, m.pace, m.gain, m.place].map D.int, []) S := by
      subst hρ
      simp [mSeq, mThenS, opSl, cutD, HT.sIx, fSeq, lstOf, mDef, startD, sSeq, sNext, sSet, sRet, sRetV, sRetN, sIf, sExpr, sRaise, sAug, sPar, sTgt, sApp, sFrz, sTryAs, rBind, R.bind, mMap, mBin, mUn, mCmp, mChain, mFn, mCall, mAnd, mOr, mNot, mTru, mAndV, mOrV, mNotV, mIf, aNil, aCons, oLst, eVar, eC, lift2, liftB, lk_non, lk_bl, lk_int, lk_str, lk_ty, lk_cls, lk_lst, lk_tup, lk_dic, lk_obj, lk_exc, lk_ref, Slot.d, Cell.d, lt_s, le_s, gt_s, ge_s, cIsN, cIsNN, truD, fNeg, fAddI, fSubI, List.getElem?_cons_zero, List.getElem?_cons_succ, List.set_cons_zero, List.set_cons_succ, add_s, cat_s, sub_s, mFld, fFld, mMeth, mSl, pAt, pNo, mTM, mDisp, ppC, mGet1, mGet2, mRef, toRef, noErr, List.lookup_cons]
    have l1 := strs5 (S := S) (ρ := wipeD ρ [10]) (i := 10) (by subst hρ; simp [wipeD]) (ns := [m.lo, m.hi, m.pace, m.gain, m.place]) (by
      intro n hn
      simp only [List.mem_cons, List.not_mem_nil, or_false] at hn
      have := hm.lo1; have := hm.lo2; have := hm.hi1; have := hm.hi2; have := hm.p1; have := hm.p2; have := hm.g1; have := hm.g2; have := hm.pl1; have := hm.pl2
      rcases hn with rfl | rfl | rfl | rfl | rfl <;> omega)
    have q1 := map_eq (f := Slot.d) (lc_eq s1 (by simp) rfl l1)
    have s2 : mSeq (mMap Slot.d (mFn c__law_tail (aCons (eVar 1) aNil))) ρ S = .ok (m.tailD, []) S := by
      have := map_eq (f := Slot.d) (fn_eq (mf := c__law_tail) (cons_eq v1 (r := aNil) rfl) (e_law_tail (S := S) hm hoL))
      simp only [mSeq, mThenS, this, R.bind, Slot.d, Cell.d, fSeq, lstOf]
    have l2 := strs_any (S := S) (ρ := wipeD ρ [10]) (i := 10) (by subst hρ; simp [wipeD]) tx1
    have tl : m.tailD.length ≤ 1000000 := by
      have h1 : m.tailD.length = m.tailS.length := by rw [← tx2]; simp
      have h2 := (len_tailS hm).1
      omega
    have q2 := map_eq (f := Slot.d) (lc_eq s2 tl rfl l2)
    have l3 : m.tailS.length ≤ 5 := (len_tailS hm).1
    rw [tx2] at q2
    refine map_eq (f := Slot.d) (x := .own (.lst (m.partS.map D.str))) (bin_eq (map_eq (f := Slot.d) (x := .own (.lst (([m.k.txt, m.nm] ++ [m.lo, m.hi, m.pace, m.gain, m.place].map strI).map D.str))) (bin_eq q0 q1 ?_)) q2 ?_)
    · simp [Slot.d, Cell.d, cat_s]
    · have : 7 + m.tailS.length ≤ 1000000 := by omega
      simp [Slot.d, Cell.d, cat_s, Mach.partS, this]
  refine seq_nx (set_eq (map_eq (f := Slot.val) r1)) (seq_rt ?_)
  generalize hρ2 : ρ.set 7 (Slot.val (.lst (m.partS.map D.str))) = ρ2
  have v0' : eVar 0 ρ2 S = .ok m.obj S := by subst hρ2 hρ; rfl
  have v7 : eVar 7 ρ2 S = .ok (.lst (m.partS.map D.str)) S := by subst hρ2 hρ; rfl
  have wds := me_words (m := m) hm v0' hx
  exact ret_eq (map_eq (f := Slot.val) (map_eq (f := D.bl) (cmp_eq (map_eq (f := Slot.d) wds) (map_eq (f := Slot.d) (tm_eq (z := Str.ofString " ") (S1 := S) rfl v7 (join_part hm))) (by simp [Slot.d, eq_str]))))
end
end FW
end
section
set_option maxHeartbeats 4000000
/-! the plain law: places beyond are refused; boxes are right. -/
namespace FW
open PySem
theorem try_ex {t : String} {i j : Nat} {m : MS} {ρ ρ' : List Slot} {S S' : Sto} {e : Exc} (h : m ρ S = .ex e ρ' S') (k : exmD T e.c t = some true) : sTryAs T t i j m ρ S = .nx ((ρ'.set i .none).set j (.val (.exc e.c e.fs))) S' := by simp only [sTryAs, h, k]
theorem try_nx {t : String} {i j : Nat} {m : MS} {ρ ρ' : List Slot} {S S' : Sto} (h : m ρ S = .nx ρ' S') : sTryAs T t i j m ρ S = .nx ρ' S' := by simp only [sTryAs, h]
theorem expr_ex {m : M D} {ρ : List Slot} {S S' : Sto} {e : Exc} (h : m ρ S = .err e S') : sExpr m ρ S = .ex e ρ S' := by simp only [sExpr, h, rBind]
theorem map_err {α β : Type} {f : α → β} {m : M α} {ρ : List Slot} {S S1 : Sto} {e : Exc} (h : m ρ S = .err e S1) : mMap f m ρ S = .err e S1 := by simp only [mMap, h, R.bind]
theorem for_nil {C : Gds} {gm : D → List Slot → Option (List Slot)} {b : MS} {ρ : List Slot} {S : Sto} (h : Gok C S) : sForL C gm b [] ρ S = .nx ρ S := by simp only [sForL, if_pos h]
theorem for_nx {C : Gds} {gm : D → List Slot → Option (List Slot)} {b : MS} {x : D} {xs : List D} {ρ ρ1 ρ2 : List Slot} {S S2 : Sto} {r : RS} (h : Gok C S) (g : gm x ρ = some ρ1) (k : b ρ1 S = .nx ρ2 S2) (n : sForL C gm b xs ρ2 S2 = r) : sForL C gm b (x :: xs) ρ S = r := by simp only [sForL, if_pos h, g, k, n]
theorem for_eq {mi : M (List D × Gds)} {gm : D → List Slot → Option (List Slot)} {b : MS} {ρ : List Slot} {S S1 : Sto} {ds : List D} {C : Gds} {r : RS} (h : mi ρ S = .ok (ds, C) S1) (k : sForL C gm b ds ρ S1 = r) : sFor mi gm b ρ S = r := by simp only [sFor, h, rBind, k]
theorem ex_num : exmD T "BadNumber" "StageError" = some true := by decide
theorem ex_nam : exmD T "BadName" "StageError" = some true := by decide
section
variable {m : Mach} {S : Sto}
theorem refused_turn (hm : m.Ok) {p : D} (pl : plain p = true) (np : ¬ isW p m.lo m.hi = true) {xs : List D} {s5 s6 : Slot} {j : Int} (hj : j = 0 ∨ j = 1 ∨ j = 2) (hl : xs.length < 10) : b__law_place_refused_L2 [.val m.obj, .val p, .val (.int m.place), .own (.lst xs), .val (.int j), s5, s6] S = .nx [.val m.obj, .val p, .val (.int m.place), .own (.lst (xs ++ [.str (Str.ofString "number ")])), .val (.int j), .val (.exc "BadNumber" []), .none] S := by
  have hx : lookD S m.obj = m.obj := rfl
  have plk := plain_look (S := S) pl
  have b1 := (me_boxes (m := m) (S := S) (S1 := S) (S2 := S) (x := m.obj) (p := p) (mo := eVar 0) (ma := eVar 1) (ρ := [.val m.obj, .val p, .val (.int m.place), .own (.lst xs), .val (.int j), .val .non, s6]) hm rfl rfl hx hx plk).2 np
  have b2 := (me_taken (m := m) (S := S) (S1 := S) (S2 := S) (S3 := S) (x := m.obj) (p := p) (q := .int m.place) (mo := eVar 0) (ma := eVar 1) (mb := eVar 2) (ρ := [.val m.obj, .val p, .val (.int m.place), .own (.lst xs), .val (.int j), .val .non, s6]) hm rfl rfl rfl hx hx plk rfl).2 (fun z => np z.1)
  have b3 := (me_taken (m := m) (S := S) (S1 := S) (S2 := S) (S3 := S) (x := m.obj) (q := p) (p := .int m.place) (mo := eVar 0) (ma := eVar 2) (mb := eVar 1) (ρ := [.val m.obj, .val p, .val (.int m.place), .own (.lst xs), .val (.int j), .val .non, s6]) hm rfl rfl rfl hx hx rfl plk).2 (fun z => np z.2)
  unfold b__law_place_refused_L2
  refine seq_nx (ρ1 := [.val m.obj, .val p, .val (.int m.place), .own (.lst xs), .val (.int j), .val .non, s6]) (S1 := S) rfl ?_
  have l1 : b__law_place_refused_L1 [.val m.obj, .val p, .val (.int m.place), .own (.lst xs), .val (.int j), .val .non, s6] S = .ex badNumber [.val m.obj, .val p, .val (.int m.place), .own (.lst xs), .val (.int j), .val .non, s6] S := by
    unfold b__law_place_refused_L1
    refine seq_ex ?_
    have q0 : ∀ n : Int, mCmp cEq (eVar 4) (eC (.int n)) [.val m.obj, .val p, .val (.int m.place), .own (.lst xs), .val (.int j), .val .non, s6] S = .ok (decide (j = n)) S := fun n => rfl
    rcases hj with rfl | rfl | rfl
    · exact if_t (S1 := S) (q0 0) (seq_ex (expr_ex (map_err b1)))
    · exact if_f (S1 := S) (q0 0) (seq_ex (if_t (S1 := S) (q0 1) (seq_ex (expr_ex (map_err b2)))))
    · exact if_f (S1 := S) (q0 0) (seq_ex (if_f (S1 := S) (q0 1) (seq_ex (expr_ex (map_err b3)))))
  refine seq_nx (try_ex l1 ex_num) ?_
  refine seq_nx ((app_eq (i := 3) (xs := xs) (d := .str (Str.ofString "number ")) rfl (map_eq (f := Slot.d) (x := .val (.str (Str.ofString "number "))) (fn_eq (cons_eq (x := .exc "BadNumber" []) (S1 := S) rfl (xs := []) rfl) cls_number)) (by omega)).trans rfl) ?_
  rfl
theorem e_place_refused (hm : m.Ok) {p : D} (pl : plain p = true) (np : ¬ isW p m.lo m.hi = true) : m__law_place_refused [m.obj, p, .int m.place] S = .ok (.val (.bl true)) S := by
  refine mdef_rt (ρ := [.val m.obj, .val p, .val (.int m.place), .none, .none, .none, .none]) (by simp [startD, N__law_place_refused]) ?_
  unfold b__law_place_refused
  refine seq_nx (ρ1 := [.val m.obj, .val p, .val (.int m.place), .own (.lst []), .none, .none, .none]) (S1 := S) rfl ?_
  have ok : Gok [] S := gok_nil.mpr trivial
  have t0 := refused_turn (S := S) hm pl np (xs := []) (s5 := .none) (s6 := .none) (j := 0) (by simp) (by simp)
  have t1 := refused_turn (S := S) hm pl np (xs := [.str (Str.ofString "number ")]) (s5 := .val (.exc "BadNumber" [])) (s6 := .none) (j := 1) (by simp) (by simp)
  have t2 := refused_turn (S := S) hm pl np (xs := [.str (Str.ofString "number "), .str (Str.ofString "number ")]) (s5 := .val (.exc "BadNumber" [])) (s6 := .none) (j := 2) (by simp) (by simp)
  refine seq_nx (for_eq (ds := [.int 0, .int 1, .int 2]) (C := []) (S1 := S) rfl (for_nx ok rfl t0 (for_nx ok rfl t1 (for_nx ok rfl t2 (for_nil ok))))) ?_
  rw [frz_own (i := 3) rfl]
  refine seq_rt (ret_eq (map_eq (f := Slot.val) (map_eq (f := D.bl) (cmp_eq (x := .lst [.str (Str.ofString "number "), .str (Str.ofString "number "), .str (Str.ofString "number ")]) (y := .lst [.str (Str.ofString "number "), .str (Str.ofString "number "), .str (Str.ofString "number ")]) (S1 := S) rfl ?_ ?_))))
  · rfl
  · have o : PyData.strOk (Str.ofString "number ") = true := by decide +kernel
    simp [ceq_lst, okD, okDL, o, eqD, eqDL]
end
end FW
end
section
set_option maxHeartbeats 4000000
/-! the plain law: boxes are right. -/
namespace FW
open PySem
theorem look_eq {b : M Bool} {ρ ρ' : List Slot} {S S' : Sto} {r : Bool} (h : ρ.map (Slot.vw S) = ρ') (k : b ρ' [] = .ok r S') : mLookT b ρ S = .ok r S := by simp only [mLookT, h, k]
theorem vw_val {S : Sto} {d : D} (h : nor d = true) : Slot.vw S (.val d) = .val d := by simp only [Slot.vw, deref, h, if_true]
theorem vw_own {S : Sto} {c : Cell} (h : nor c.d = true) : Slot.vw S (.own c) = .val c.d := by simp only [Slot.vw, deref, h, if_true]
theorem or_f {a b : M Bool} {ρ : List Slot} {S S1 S2 : Sto} {r : Bool} (h : a ρ S = .ok false S1) (k : b ρ S1 = .ok r S2) : mOr a b ρ S = .ok r S2 := by simp only [mOr, h, R.bind, cond_false, k]
theorem or_t {a b : M Bool} {ρ : List Slot} {S S1 : Sto} (h : a ρ S = .ok true S1) : mOr a b ρ S = .ok true S1 := by simp only [mOr, h, R.bind, cond_true]
theorem not_eq {a : M Bool} {ρ : List Slot} {S S1 : Sto} {r : Bool} (h : a ρ S = .ok r S1) : mNot a ρ S = .ok (!r) S1 := by simp only [mNot, mMap, h, R.bind]
theorem tru_eq {m : M D} {ρ : List Slot} {S S1 : Sto} {d : D} {r : Bool} (h : m ρ S = .ok d S1) (k : truD S1 d = some r) : mTru m ρ S = .ok r S1 := by simp only [mTru, h, R.bind, k]
theorem isi_list {S : Sto} {ds : List D} : fIsi T S [.lst ds, .ty "list"] = some (.val (.bl true)) := rfl
theorem len_swept {m : Mach} (hm : m.Ok) (a b : Int) : (m.swept a b).length ≤ 4 := by
  unfold Mach.swept
  cases m.k with
  | floor => simpa using hm.wl2
  | trap => by_cases h : a < 0 <;> simp [h]
  | _ => simp
section
variable {m : Mach} {S : Sto}
theorem nor_bx {bs : List Box} : nor (.lst (bs.map boxD)) = true := by simp only [nor]; exact nor_boxes
theorem boxes_turn (hm : m.Ok) {d mid p : Int} {x0 x1 x2 x3 : Int} (hp : m.lo ≤ p ∧ p ≤ m.hi) (h0 : m.lo ≤ x0 ∧ x0 ≤ m.hi) (h1 : m.lo ≤ x1 ∧ x1 ≤ m.hi) (h2 : m.lo ≤ x2 ∧ x2 ≤ m.hi) (h3 : m.lo ≤ x3 ∧ x3 ≤ m.hi) {s6 s7 s8 s9 : Slot} :
    ∃ t6 t7 t8, b__law_boxes_right_L1 [.val m.obj, .val (.dic m.ownD), .val (.int d), .val (.int mid), .val (.lst [.int x0, .int x1, .int x2, .int x3]), .val (.int p), s6, s7, s8, s9] S = .nx [.val m.obj, .val (.dic m.ownD), .val (.int d), .val (.int mid), .val (.lst [.int x0, .int x1, .int x2, .int x3]), .val (.int p), t6, t7, t8, s9] S := by
  obtain ⟨q, hq, hqq⟩ : ∃ q : Int, opSb S (.lst [.int x0, .int x1, .int x2, .int x3]) (.int (d / 7 % 4)) = some (.val (.int q)) ∧ (m.lo ≤ q ∧ q ≤ m.hi) := by
    have k1 := Int.emod_nonneg (d / 7) (b := 4) (by decide)
    have k2 := Int.emod_lt_of_pos (d / 7) (b := 4) (by decide)
    generalize d / 7 % 4 = k at k1 k2
    have : k = 0 ∨ k = 1 ∨ k = 2 ∨ k = 3 := by omega
    rcases this with rfl | rfl | rfl | rfl
    · exact ⟨x0, rfl, h0⟩
    · exact ⟨x1, rfl, h1⟩
    · exact ⟨x2, rfl, h2⟩
    · exact ⟨x3, rfl, h3⟩
  have wl : m.walls.length ≤ 1000 := Nat.le_trans hm.wl2 (by decide)
  have hx : ∀ S : Sto, lookD S m.obj = m.obj := fun S => rfl
  have ho : ∀ S : Sto, lookD S (.dic m.ownD) = .dic m.ownD := fun S => rfl
  have isp : isW (.int p) m.lo m.hi = true := by simp [isW, hp]
  have isq : isW (.int q) m.lo m.hi = true := by simp [isW, hqq]
  have bx : ∀ {ρ : List Slot} {S : Sto}, eVar 0 ρ S = .ok m.obj S → eVar 5 ρ S = .ok (.int p) S → mMeth "boxes" t_boxes_1 (eVar 0) (aCons (eVar 5) aNil) ρ S = .ok (.own (.lst ((m.swept p p).map boxD))) S := fun {ρ S} v0 v5 => by
    obtain ⟨i, e, _, _, r⟩ := (me_boxes (m := m) (x := m.obj) (p := .int p) hm v0 v5 (hx S) (hx S) rfl).1 isp
    injection e with e; subst e; exact r
  have tk : ∀ {ρ : List Slot} {S : Sto} {i j : Nat} {a b : Int}, eVar 0 ρ S = .ok m.obj S → eVar i ρ S = .ok (.int a) S → eVar j ρ S = .ok (.int b) S → isW (.int a) m.lo m.hi = true → isW (.int b) m.lo m.hi = true → mMeth "taken" t_taken_2 (eVar 0) (aCons (eVar i) (aCons (eVar j) aNil)) ρ S = .ok (.own (.lst ((m.swept (min a b) (max a b)).map boxD))) S := fun {ρ S i j a b} v0 va vb ia ib => by
    obtain ⟨i, j, e, e', _, _, _, _, r⟩ := (me_taken (m := m) (x := m.obj) (p := .int a) (q := .int b) hm v0 va vb (hx S) (hx S) rfl rfl).1 ⟨ia, ib⟩
    injection e with e; injection e' with e'; subst e; subst e'; exact r
  unfold b__law_boxes_right_L1
  refine ⟨.own (.lst ((m.swept (min p q) (max p q)).map boxD ++ [.non])), .val (.int q), .val (.lst ((m.swept (min p q) (max p q)).map boxD)), ?_⟩
  refine seq_nx (set_eq (bx rfl rfl)) ?_
  show sSeq _ _ [.val m.obj, .val (.dic m.ownD), .val (.int d), .val (.int mid), .val (.lst [.int x0, .int x1, .int x2, .int x3]), .val (.int p), .own (.lst ((m.swept p p).map boxD)), s7, s8, s9] S = _
  have nl : nor (.lst [.int x0, .int x1, .int x2, .int x3]) = true := rfl
  have vw1 : ([.val m.obj, .val (.dic m.ownD), .val (.int d), .val (.int mid), .val (.lst [.int x0, .int x1, .int x2, .int x3]), .val (.int p), .own (.lst ((m.swept p p).map boxD)), s7, s8, s9] : List Slot).map (Slot.vw S) = [.val m.obj, .val (.dic m.ownD), .val (.int d), .val (.int mid), .val (.lst [.int x0, .int x1, .int x2, .int x3]), .val (.int p), .val (.lst ((m.swept p p).map boxD)), Slot.vw S s7, Slot.vw S s8, Slot.vw S s9] := by
    simp only [List.map_cons, List.map_nil, vw_val nor_obj, vw_val nor_own, vw_val (S := S) (d := .int d) rfl, vw_val (S := S) (d := .int mid) rfl, vw_val (S := S) (d := .int p) rfl, vw_val (S := S) nl, vw_own (S := S) (c := .lst ((m.swept p p).map boxD)) nor_bx, Cell.d]
  refine seq_nx (if_f (look_eq vw1 (or_f (r := false) (not_eq (tru_eq (d := .bl true) (map_eq (f := Slot.d) (call_eq (ds := [.lst ((m.swept p p).map boxD), .ty "list"]) (cons_eq (S1 := []) rfl (cons_eq (S1 := []) rfl rfl)) isi_list)) rfl)) (cmp_eq (x := .lst ((m.swept p p).map boxD)) (y := .lst ((m.swept p p).map boxD)) (S1 := []) (S2 := []) rfl (map_eq (f := Slot.d) (fn_eq (ds := [.dic m.ownD, .int p, .int p]) (cons_eq (S1 := []) rfl (cons_eq (S1 := []) rfl (cons_eq (S1 := []) rfl rfl))) (e_takes (ho []) wl))) (ne_same (okDL_box _))))) rfl) ?_
  have l4 := len_swept hm p p
  refine seq_nx (app_eq (d := .non) (S1 := S) (xs := (m.swept p p).map boxD) rfl rfl (by simp; omega)) ?_
  refine seq_nx (set_eq (s := .val (.int q)) (S1 := S) (map_eq (f := Slot.val) (map_eq (f := Slot.d) (bin_eq (x := .lst [.int x0, .int x1, .int x2, .int x3]) (y := .int (d / 7 % 4)) (S1 := S) (S2 := S) rfl ?_ hq)))) ?_
  · have e1 := div_s (S := S) (i := d) (j := 7) (by decide) (by decide)
    have e2 := mod_s (S := S) (i := d / 7) (j := 4) (by decide)
    exact map_eq (f := Slot.d) (bin_eq (x := .int (d / 7)) (y := .int 4) (S1 := S) (map_eq (f := Slot.d) (bin_eq (x := .int d) (y := .int 7) (S1 := S) rfl rfl e1)) rfl e2)
  refine seq_nx (set_eq (tk (a := p) (b := q) rfl rfl rfl isp isq)) ?_
  have mn : fMinA S [.int p, .int q] = some (.val (.int (min p q))) := rfl
  have mx : fMaxA S [.int p, .int q] = some (.val (.int (max p q))) := rfl
  generalize hB : (m.swept (min p q) (max p q)).map boxD = B at *
  have okB : okDL 19 B = true := by rw [← hB]; exact okDL_box _
  have nB : nor (.lst B) = true := by rw [← hB]; exact nor_bx
  have lB : B.length ≤ 4 := by rw [← hB]; simpa using len_swept hm (min p q) (max p q)
  refine seq_nx (set_eq (s := .val (.lst B)) (S1 := S) (map_eq (f := Slot.val) (map_eq (f := Slot.d) (x := .own (.lst B)) (fn_eq (ds := [.dic m.ownD, .int (min p q), .int (max p q)]) (cons_eq (S1 := S) rfl (cons_eq (S1 := S) (map_eq (f := Slot.d) (call_eq (ds := [.int p, .int q]) (cons_eq (S1 := S) rfl (cons_eq (S1 := S) rfl rfl)) mn)) (cons_eq (S1 := S) (map_eq (f := Slot.d) (call_eq (ds := [.int p, .int q]) (cons_eq (S1 := S) rfl (cons_eq (S1 := S) rfl rfl)) mx)) rfl))) ?_)))) ?_
  · rw [← hB]; exact e_takes (ho S) wl
  show sSeq _ _ [.val m.obj, .val (.dic m.ownD), .val (.int d), .val (.int mid), .val (.lst [.int x0, .int x1, .int x2, .int x3]), .val (.int p), .own (.lst B), .val (.int q), .val (.lst B), s9] S = _
  have vw2 : ([.val m.obj, .val (.dic m.ownD), .val (.int d), .val (.int mid), .val (.lst [.int x0, .int x1, .int x2, .int x3]), .val (.int p), .own (.lst B), .val (.int q), .val (.lst B), s9] : List Slot).map (Slot.vw S) = [.val m.obj, .val (.dic m.ownD), .val (.int d), .val (.int mid), .val (.lst [.int x0, .int x1, .int x2, .int x3]), .val (.int p), .val (.lst B), .val (.int q), .val (.lst B), Slot.vw S s9] := by
    simp only [List.map_cons, List.map_nil, vw_val nor_obj, vw_val nor_own, vw_val (S := S) (d := .int d) rfl, vw_val (S := S) (d := .int mid) rfl, vw_val (S := S) (d := .int p) rfl, vw_val (S := S) (d := .int q) rfl, vw_val (S := S) nl, vw_val (S := S) nB, vw_own (S := S) (c := .lst B) nB, Cell.d]
  have tk2 := tk (ρ := [.val m.obj, .val (.dic m.ownD), .val (.int d), .val (.int mid), .val (.lst [.int x0, .int x1, .int x2, .int x3]), .val (.int p), .val (.lst B), .val (.int q), .val (.lst B), Slot.vw S s9]) (S := []) (i := 7) (j := 5) (a := q) (b := p) rfl rfl rfl isq isp
  rw [Int.min_comm, Int.max_comm, hB] at tk2
  refine seq_nx (if_f (look_eq vw2 (or_f (r := false) (not_eq (tru_eq (d := .bl true) (map_eq (f := Slot.d) (call_eq (ds := [.lst B, .ty "list"]) (cons_eq (S1 := []) rfl (cons_eq (S1 := []) rfl rfl)) isi_list)) rfl)) (or_f (cmp_eq (x := .lst B) (y := .lst B) (S1 := []) (S2 := []) rfl rfl (ne_same okB)) (cmp_eq (x := .lst B) (y := .lst B) (S1 := []) (S2 := []) (map_eq (f := Slot.d) tk2) rfl (ne_same okB))))) rfl) ?_
  refine seq_nx (app_eq (d := .non) (S1 := S) (xs := B) rfl rfl (by omega)) ?_
  have tk3 := tk (ρ := [.val m.obj, .val (.dic m.ownD), .val (.int d), .val (.int mid), .val (.lst [.int x0, .int x1, .int x2, .int x3]), .val (.int p), .own (.lst (B ++ [.non])), .val (.int q), .val (.lst B), s9]) (S := S) (i := 5) (j := 7) (a := p) (b := q) rfl rfl rfl isp isq
  rw [hB] at tk3
  exact seq_nx (if_f (cmp_eq (x := .lst B) (y := .lst B) (S1 := S) (S2 := S) (map_eq (f := Slot.d) tk3) rfl (ne_same okB)) rfl) rfl
end
end FW
end
section
set_option maxHeartbeats 4000000
/-! the plain law: boxes are right, all of it. -/
namespace FW
open PySem
section
variable {m : Mach} {S : Sto}
theorem odd_turn (hm : m.Ok) {p : D} (pl : plain p = true) (np : ¬ isW p m.lo m.hi = true) {s2 s3 s4 s5 s6 s7 s8 : Slot} : b__law_boxes_right_L2 [.val m.obj, .val (.dic m.ownD), s2, s3, s4, s5, s6, s7, s8, .val p] S = .nx [.val m.obj, .val (.dic m.ownD), s2, s3, s4, s5, s6, s7, s8, .val p] S := by
  have ho : lookD S (.dic m.ownD) = .dic m.ownD := rfl
  have c6 := sb_place ho
  unfold b__law_boxes_right_L2
  refine seq_nx (if_f (not_eq (r := true) (tru_eq (d := .bl true) (S1 := S) (map_eq (f := Slot.d) (x := .val (.bl true)) (fn_eq (ds := [m.obj, p, .int m.place]) (S1 := S) (cons_eq (S1 := S) rfl (cons_eq (S1 := S) rfl (cons_eq (S1 := S) (map_eq (f := Slot.d) (x := .val (.int m.place)) (bin_eq (x := .dic m.ownD) (y := .str (Str.ofString "place")) (S1 := S) rfl rfl c6)) rfl))) (e_place_refused hm pl np))) rfl)) rfl) rfl
theorem e_boxes_right (hm : m.Ok) {d : Int} : m__law_boxes_right [m.obj, .dic m.ownD, .int d] S = .ok (.val (.bl true)) S := by
  have ho : lookD S (.dic m.ownD) = .dic m.ownD := rfl
  have c2 := sb_least ho; have c3 := sb_greatest ho; have c6 := sb_place ho
  have ok : Gok [] S := gok_nil.mpr trivial
  have w1 := hm.hi1; have w2 := hm.pl1; have w3 := hm.pl2
  have k1 := Int.emod_nonneg d (b := m.hi - m.lo + 1) (by omega)
  have k2 := Int.emod_lt_of_pos d (b := m.hi - m.lo + 1) (by omega)
  have e1 := mod_s (S := S) (i := d) (j := m.hi - m.lo + 1) (by omega)
  obtain ⟨mid, hmid⟩ : ∃ mid, mid = m.lo + d % (m.hi - m.lo + 1) := ⟨_, rfl⟩
  refine mdef_rt (ρ := [.val m.obj, .val (.dic m.ownD), .val (.int d), .none, .none, .none, .none, .none, .none, .none]) (by simp [startD, N__law_boxes_right]) ?_
  unfold b__law_boxes_right
  refine seq_nx (ρ1 := [.val m.obj, .val (.dic m.ownD), .val (.int d), .val (.int mid), .none, .none, .none, .none, .none, .none]) (S1 := S) (by rw [hmid]; simp [b__law_boxes_right_0, c2, c3, e1, mDef, startD, sSeq, sNext, sSet, sRet, sRetV, sRetN, sIf, sExpr, sRaise, sAug, sPar, sTgt, sApp, sFrz, sTryAs, rBind, R.bind, mMap, mBin, mUn, mCmp, mChain, mFn, mCall, mAnd, mOr, mNot, mTru, mAndV, mOrV, mNotV, mIf, aNil, aCons, oLst, eVar, eC, lift2, liftB, lk_non, lk_bl, lk_int, lk_str, lk_ty, lk_cls, lk_lst, lk_tup, lk_dic, lk_obj, lk_exc, lk_ref, Slot.d, Cell.d, lt_s, le_s, gt_s, ge_s, cIsN, cIsNN, truD, fNeg, fAddI, fSubI, List.getElem?_cons_zero, List.getElem?_cons_succ, List.set_cons_zero, List.set_cons_succ, add_s, cat_s, sub_s, mFld, fFld, mMeth, mSl, pAt, pNo, mTM, mDisp, ppC, mGet1, mGet2, mRef, toRef, noErr, List.lookup_cons]) ?_
  refine seq_nx (ρ1 := [.val m.obj, .val (.dic m.ownD), .val (.int d), .val (.int mid), .val (.lst [.int m.lo, .int m.hi, .int m.place, .int mid]), .none, .none, .none, .none, .none]) (S1 := S) (by simp [b__law_boxes_right_1, c2, c3, c6, mDef, startD, sSeq, sNext, sSet, sRet, sRetV, sRetN, sIf, sExpr, sRaise, sAug, sPar, sTgt, sApp, sFrz, sTryAs, rBind, R.bind, mMap, mBin, mUn, mCmp, mChain, mFn, mCall, mAnd, mOr, mNot, mTru, mAndV, mOrV, mNotV, mIf, aNil, aCons, oLst, eVar, eC, lift2, liftB, lk_non, lk_bl, lk_int, lk_str, lk_ty, lk_cls, lk_lst, lk_tup, lk_dic, lk_obj, lk_exc, lk_ref, Slot.d, Cell.d, lt_s, le_s, gt_s, ge_s, cIsN, cIsNN, truD, fNeg, fAddI, fSubI, List.getElem?_cons_zero, List.getElem?_cons_succ, List.set_cons_zero, List.set_cons_succ, add_s, cat_s, sub_s, mFld, fFld, mMeth, mSl, pAt, pNo, mTM, mDisp, ppC, mGet1, mGet2, mRef, toRef, noErr, List.lookup_cons]) ?_
  have tn : ∀ {p : Int} {s6 s7 s8 s9 : Slot}, m.lo ≤ p ∧ p ≤ m.hi → _ := fun {p s6 s7 s8 s9} hp => boxes_turn (S := S) (d := d) (mid := mid) (p := p) (x0 := m.lo) (x1 := m.hi) (x2 := m.place) (x3 := mid) (s6 := s6) (s7 := s7) (s8 := s8) (s9 := s9) hm hp ⟨by omega, by omega⟩ ⟨by omega, by omega⟩ ⟨w2, w3⟩ ⟨by omega, by omega⟩
  obtain ⟨a6, a7, a8, ta⟩ := tn (p := m.lo) (s6 := .none) (s7 := .none) (s8 := .none) (s9 := .none) ⟨by omega, by omega⟩
  obtain ⟨b6, b7, b8, tb⟩ := tn (p := m.hi) (s6 := a6) (s7 := a7) (s8 := a8) (s9 := .none) ⟨by omega, by omega⟩
  obtain ⟨d6, d7, d8, td⟩ := tn (p := m.place) (s6 := b6) (s7 := b7) (s8 := b8) (s9 := .none) ⟨by omega, by omega⟩
  obtain ⟨e6, e7, e8, te⟩ := tn (p := mid) (s6 := d6) (s7 := d7) (s8 := d8) (s9 := .none) ⟨by omega, by omega⟩
  refine seq_nx (for_eq (ds := [.int m.lo, .int m.hi, .int m.place, .int mid]) (C := []) (S1 := S) rfl (for_nx ok rfl ta (for_nx ok rfl tb (for_nx ok rfl td (for_nx ok rfl te (for_nil ok)))))) ?_
  have mi : (mSeq (mMap D.tup (aCons (mMap Slot.d (mBin opSub (mMap Slot.d (mBin opSb (eVar 1) (eC (.str (Str.ofString "least"))))) (eC (.int (1))))) (aCons (mMap Slot.d (mBin opAdd (mMap Slot.d (mBin opSb (eVar 1) (eC (.str (Str.ofString "greatest"))))) (eC (.int (1))))) (aCons (eC .non) (aCons (eC (.bl true)) (aCons (eC (.str (Str.ofString "1"))) (aCons (mMap Slot.d (oLst (aCons (mMap Slot.d (mBin opSb (eVar 1) (eC (.str (Str.ofString "place"))))) aNil))) aNil)))))))) [.val m.obj, .val (.dic m.ownD), .val (.int d), .val (.int mid), .val (.lst [.int m.lo, .int m.hi, .int m.place, .int mid]), .val (.int mid), e6, e7, e8, .none] S = .ok ([.int (m.lo - 1), .int (m.hi + 1), .non, .bl true, .str (Str.ofString "1"), .lst [.int m.place]], []) S := by
    simp [mSeq, mThenS, fSeq, lstOf, c2, c3, c6, mDef, startD, sSeq, sNext, sSet, sRet, sRetV, sRetN, sIf, sExpr, sRaise, sAug, sPar, sTgt, sApp, sFrz, sTryAs, rBind, R.bind, mMap, mBin, mUn, mCmp, mChain, mFn, mCall, mAnd, mOr, mNot, mTru, mAndV, mOrV, mNotV, mIf, aNil, aCons, oLst, eVar, eC, lift2, liftB, lk_non, lk_bl, lk_int, lk_str, lk_ty, lk_cls, lk_lst, lk_tup, lk_dic, lk_obj, lk_exc, lk_ref, Slot.d, Cell.d, lt_s, le_s, gt_s, ge_s, cIsN, cIsNN, truD, fNeg, fAddI, fSubI, List.getElem?_cons_zero, List.getElem?_cons_succ, List.set_cons_zero, List.set_cons_succ, add_s, cat_s, sub_s, mFld, fFld, mMeth, mSl, pAt, pNo, mTM, mDisp, ppC, mGet1, mGet2, mRef, toRef, noErr, List.lookup_cons]
  have o0 := odd_turn (S := S) hm (p := .int (m.lo - 1)) (s2 := .val (.int d)) (s3 := .val (.int mid)) (s4 := .val (.lst [.int m.lo, .int m.hi, .int m.place, .int mid])) (s5 := .val (.int mid)) (s6 := e6) (s7 := e7) (s8 := e8) rfl (by simp [isW] <;> omega)
  have o1 := odd_turn (S := S) hm (p := .int (m.hi + 1)) (s2 := .val (.int d)) (s3 := .val (.int mid)) (s4 := .val (.lst [.int m.lo, .int m.hi, .int m.place, .int mid])) (s5 := .val (.int mid)) (s6 := e6) (s7 := e7) (s8 := e8) rfl (by simp [isW] <;> omega)
  have o2 := odd_turn (S := S) hm (p := .non) (s2 := .val (.int d)) (s3 := .val (.int mid)) (s4 := .val (.lst [.int m.lo, .int m.hi, .int m.place, .int mid])) (s5 := .val (.int mid)) (s6 := e6) (s7 := e7) (s8 := e8) rfl (by simp [isW] <;> omega)
  have o3 := odd_turn (S := S) hm (p := .bl true) (s2 := .val (.int d)) (s3 := .val (.int mid)) (s4 := .val (.lst [.int m.lo, .int m.hi, .int m.place, .int mid])) (s5 := .val (.int mid)) (s6 := e6) (s7 := e7) (s8 := e8) rfl (by simp [isW] <;> omega)
  have o4 := odd_turn (S := S) hm (p := .str (Str.ofString "1")) (s2 := .val (.int d)) (s3 := .val (.int mid)) (s4 := .val (.lst [.int m.lo, .int m.hi, .int m.place, .int mid])) (s5 := .val (.int mid)) (s6 := e6) (s7 := e7) (s8 := e8) rfl (by simp [isW] <;> omega)
  have o5 := odd_turn (S := S) hm (p := .lst [.int m.place]) (s2 := .val (.int d)) (s3 := .val (.int mid)) (s4 := .val (.lst [.int m.lo, .int m.hi, .int m.place, .int mid])) (s5 := .val (.int mid)) (s6 := e6) (s7 := e7) (s8 := e8) rfl (by simp [isW] <;> omega)
  refine seq_nx (for_eq mi (for_nx ok rfl o0 (for_nx ok rfl o1 (for_nx ok rfl o2 (for_nx ok rfl o3 (for_nx ok rfl o4 (for_nx ok rfl o5 (for_nil ok)))))))) (seq_rt rfl)
end
end FW
end
section
set_option maxHeartbeats 4000000
/-! the plain law: the machine that is drawn. -/
namespace FW
open L2 (cutS)
open PySem
def pick3 (g A B C : Int) : Int := if g = 0 then A else if g = 1 then B else C
theorem pk3 {S : Sto} {g A B C : Int} (h : 0 ≤ g) (h2 : g < 3) : opSb S (.lst [.int A, .int B, .int C]) (.int g) = some (.val (.int (pick3 g A B C))) := by
  have : g = 0 ∨ g = 1 ∨ g = 2 := by omega
  rcases this with rfl | rfl | rfl <;> rfl
def spread (d j : Int) : Int := (d + 3) * (48271 + 2 * j * j + j) % 2147483647
theorem spread_in (d j : Int) : 0 ≤ spread d j ∧ spread d j ≤ 2147483646 := by
  have h1 := Int.emod_nonneg ((d + 3) * (48271 + 2 * j * j + j)) (b := 2147483647) (by decide)
  have h2 := Int.emod_lt_of_pos ((d + 3) * (48271 + 2 * j * j + j)) (b := 2147483647) (by decide)
  unfold spread
  omega
theorem e_spread {S : Sto} {d j : Int} (h0 : 0 ≤ j) (h1 : j ≤ 100) : m__law_spread [.int d, .int j] S = .ok (.val (.int (spread d j))) S := by
  have jj : 0 ≤ 2 * j * j ∧ 2 * j * j ≤ 20000 := by
    constructor
    · exact Int.mul_nonneg (by omega) h0
    · have := Int.mul_le_mul (a := 2 * j) (c := 200) (b := j) (d := 100) (by omega) h1 h0 (by decide)
      omega
  have e1 : opMul S (.int 2) (.int j) = some (.val (.int (2 * j))) := mul_b (by omega) (by omega)
  have e2 : opMul S (.int (2 * j)) (.int j) = some (.val (.int (2 * j * j))) := mul_b (by omega) (by omega)
  have e3 : opMul S (.int (d + 3)) (.int (48271 + 2 * j * j + j)) = some (.val (.int ((d + 3) * (48271 + 2 * j * j + j)))) := mul_b (by omega) (by omega)
  have e4 := mod_s (S := S) (i := (d + 3) * (48271 + 2 * j * j + j)) (j := 2147483647) (by decide)
  simp only [m__law_spread, b__law_spread, N__law_spread, mDef, startD, sSeq, sRet, rBind, mBin, mMap, eVar, eC, R.bind, lift2, List.map_cons, List.map_nil, List.length_cons, List.length_nil, List.cons_append, List.nil_append, List.replicate, List.getElem?_cons_zero, List.getElem?_cons_succ, Slot.d, add_s, e1, e2, e3, e4, spread]
def wallOf (d j : Int) : Wall := (if spread d j / 720 % 2 = 0 then spread d j % 720 else 719, 1 + spread d j / 1440 % 30, 1 + spread d j / 43200 % 9)
theorem wallOf_ok (d j : Int) : wallOk (wallOf d j) := by
  obtain ⟨h1, h2⟩ := spread_in d j
  unfold wallOk wallOf
  generalize spread d j = s at *
  refine ⟨?_, ?_, ?_, ?_, ?_, ?_⟩ <;> dsimp only <;> (try split) <;> omega
def nmS (a b : Nat) : Str := cutS (cutS (Str.ofString "abcdefgh") (some (a : Int)) none) none (some (b : Int))
theorem nmS_ok {a b : Nat} (ha : a < 8) (h1 : 1 ≤ b) (h2 : b ≤ 8) : isNm (nmS a b) = true := by
  have : ∀ a ∈ List.range 8, ∀ b ∈ List.range 9, b = 0 ∨ isNm (nmS a b) = true := by decide +kernel
  rcases this a (List.mem_range.mpr ha) b (List.mem_range.mpr (by omega)) with h | h
  · omega
  · exact h
def kdOf (k : Int) : Kd := if k % 4 = 0 then .line else if k % 4 = 1 then .wagon else if k % 4 = 2 then .floor else .trap
def loOf (d : Int) : Int := pick3 (d / 7 % 3) (d % 41 - 20) (-1000000000) (d % 1000000000 - 500000000)
def hiOf (d : Int) : Int := loOf d + pick3 (d / 7 % 3) (d / 41 % 60) 1000000000 (d / 9 % 100000000)
def drawn (d k : Int) : Mach where
  k := kdOf k
  nm := nmS (d / 3 % 8).toNat (1 + d / 24 % 8).toNat
  lo := loOf d
  hi := hiOf d
  place := loOf d + d / 5 % (hiOf d - loOf d + 1)
  pace := pick3 (d / 7 % 3) (1 + d / 11 % 30) 1000000000 (1 + d % 1000000000)
  gain := pick3 (d / 7 % 3) (1 + d / 13 % 9) 1000000000 (1 + d / 3 % 1000000000)
  lane := d / 17 % 10
  at_ := pick3 (d / 7 % 3) (d / 19 % 101 - 50) (-1000000000) 1000000000
  wide := pick3 (d / 7 % 3) (1 + d / 23 % 20) 1000000 (1 + d % 1000000)
  tall := pick3 (d / 7 % 3) (1 + d / 29 % 20) (1 + d / 5 % 1000000) 1000000
  walls := (List.range (1 + d / 31 % 4).toNat).map fun (j : Nat) => wallOf d (j : Int)
theorem lohi (d : Int) : -1000000000 ≤ loOf d ∧ loOf d ≤ hiOf d ∧ hiOf d ≤ 1000000000 := by
  unfold hiOf loOf pick3
  split
  · omega
  · split <;> omega
theorem drawn_ok (d k : Int) : (drawn d k).Ok := by
  obtain ⟨q1, q2, q3⟩ := lohi d
  have p1 := Int.emod_nonneg (d / 5) (b := hiOf d - loOf d + 1) (by omega)
  have p2 := Int.emod_lt_of_pos (d / 5) (b := hiOf d - loOf d + 1) (by omega)
  constructor
  case nm => exact nmS_ok (by omega) (by omega) (by omega)
  case wl => intro z hz; obtain ⟨j, _, rfl⟩ := List.mem_map.mp hz; exact wallOf_ok _ _
  case wl1 => simp [drawn]; omega
  case wl2 => simp [drawn]; omega
  case lo1 => exact q1
  case lo2 => exact Int.le_trans q2 q3
  case hi1 => exact q2
  case hi2 => exact q3
  case pl1 => show loOf d ≤ loOf d + _; omega
  case pl2 => show loOf d + _ ≤ hiOf d; omega
  case la1 => show 0 ≤ d / 17 % 10; omega
  case la2 => show d / 17 % 10 ≤ 9; omega
  all_goals
    simp only [drawn, pick3]
    split
    · omega
    · split <;> omega
end FW
end
section
set_option maxHeartbeats 4000000
/-! the plain law: the dict that is drawn. -/
namespace FW
open PySem
def dk (l : List (String × D)) : List (L2.Key × D) := l.map fun p => (.inr (Str.ofString p.1), p.2)
def fresh (l : List (String × D)) (k : String) : Bool := l.all fun p => !(p.1 == k)
def dist : List (String × D) → Bool
  | [] => true
  | p :: r => fresh r p.1 && dist r
theorem put_new : ∀ {l : List (String × D)} {k : String} {d : D}, fresh l k = true → putD (dk l) (.inr (Str.ofString k)) d = dk (l ++ [(k, d)])
  | [], k, d, _ => rfl
  | p :: r, k, d, h => by
    have h2 : (!(p.1 == k)) = true ∧ fresh r k = true := by
      simp only [fresh, List.all_cons, Bool.and_eq_true] at h ⊢
      exact h
    have ne : p.1 ≠ k := by simpa using h2.1
    have : ¬ (Sum.inr (Str.ofString p.1) : L2.Key) = .inr (Str.ofString k) := by simp [ofString_inj, ne]
    have ih := put_new (d := d) h2.2
    simp only [dk, List.map_cons, List.cons_append] at ih ⊢
    simp only [putD, if_neg this, ih]
theorem has_new : ∀ {l : List (String × D)} {k : String}, fresh l k = true → hasD (dk l) (.inr (Str.ofString k)) = false
  | [], k, _ => rfl
  | p :: r, k, h => by
    have h2 : (!(p.1 == k)) = true ∧ fresh r k = true := by
      simp only [fresh, List.all_cons, Bool.and_eq_true] at h ⊢
      exact h
    have ne : p.1 ≠ k := by simpa using h2.1
    have ih := has_new h2.2
    simp only [dk, List.map_cons] at ih ⊢
    simp [hasD, ih, ofString_inj, ne]
theorem keys_dist : ∀ {l : List (String × D)}, dist l = true → keysD (dk l) = true
  | [], _ => rfl
  | p :: r, h => by
    simp only [dist, Bool.and_eq_true] at h
    have a := has_new h.1
    have b := keys_dist h.2
    simp only [dk, List.map_cons] at a b ⊢
    simp [keysD, a, b]
theorem put_eq2 {mo mi m : M D} {ρ : List Slot} {S X U : Sto} {l : List (String × D)} {k : String} {d : D} (h : m ρ U = .ok d (S ++ some (.dic (dk l)) :: X)) (ho : mo ρ (S ++ some (.dic (dk l)) :: X) = .ok (.ref S.length) (S ++ some (.dic (dk l)) :: X)) (hi : mi ρ (S ++ some (.dic (dk l)) :: X) = .ok (.str (Str.ofString k)) (S ++ some (.dic (dk l)) :: X))
    (f : fresh l k = true) (g : dist l = true) (hl : l.length < 1000000) : sPut mo mi m ρ U = .nx ρ (S ++ some (.dic (dk (l ++ [(k, d)]))) :: X) := by
  have e : (S ++ some (.dic (dk l)) :: X)[S.length]? = some (some (.dic (dk l))) := by rw [List.getElem?_append_right (Nat.le_refl _), Nat.sub_self]; rfl
  have l' : (dk l).length < 1000000 := by simpa [dk] using hl
  have s : (S ++ some (.dic (dk l)) :: X).set S.length (some (.dic (dk (l ++ [(k, d)])))) = S ++ some (.dic (dk (l ++ [(k, d)]))) :: X := by
    rw [List.set_append_right _ _ (Nat.le_refl _), Nat.sub_self]; rfl
  simp only [sPut, h, ho, hi, rBind, putAt, e, keyD, keys_dist g, l', decide_true, Bool.and_true, if_true, put_new f, s]
theorem put_eq {mo mi m : M D} {ρ : List Slot} {S X : Sto} {l : List (String × D)} {k : String} {d : D} (h : m ρ (S ++ some (.dic (dk l)) :: X) = .ok d (S ++ some (.dic (dk l)) :: X)) (ho : mo ρ (S ++ some (.dic (dk l)) :: X) = .ok (.ref S.length) (S ++ some (.dic (dk l)) :: X)) (hi : mi ρ (S ++ some (.dic (dk l)) :: X) = .ok (.str (Str.ofString k)) (S ++ some (.dic (dk l)) :: X))
    (f : fresh l k = true) (g : dist l = true) (hl : l.length < 1000000) : sPut mo mi m ρ (S ++ some (.dic (dk l)) :: X) = .nx ρ (S ++ some (.dic (dk (l ++ [(k, d)]))) :: X) := put_eq2 h ho hi f g hl
section
variable {S : Sto} {d k : Int}
theorem pick_k {S : Sto} {k : Int} : opSb S (.lst [.str (Str.ofString "line"), .str (Str.ofString "wagon"), .str (Str.ofString "floor"), .str (Str.ofString "trap")]) (.int (k % 4)) = some (.val (.str (kdOf k).txt)) := by
  have h1 := Int.emod_nonneg k (b := 4) (by decide)
  have h2 := Int.emod_lt_of_pos k (b := 4) (by decide)
  have : k % 4 = 0 ∨ k % 4 = 1 ∨ k % 4 = 2 ∨ k % 4 = 3 := by omega
  rcases this with h | h | h | h <;> simp only [kdOf, h] <;> rfl
theorem pick2 {S : Sto} {g A B : Int} (h : 0 ≤ g) (h2 : g < 2) : opSb S (.lst [.int A, .int B]) (.int g) = some (.val (.int (if g = 0 then A else B))) := by
  have : g = 0 ∨ g = 1 := by omega
  rcases this with rfl | rfl <;> rfl
theorem p9 : (10 : Int) ^ (9 : Int).toNat = 1000000000 := by decide
theorem p8 : (10 : Int) ^ (8 : Int).toNat = 100000000 := by decide
theorem p6 : (10 : Int) ^ (6 : Int).toNat = 1000000 := by decide
theorem wall_add {nm : Str} {l : List (String × D)} {zs : List Wall} {k' s2 s3 s4 s5 s8 : Slot} {j : Int} (h0 : 0 ≤ j) (h1 : j ≤ 100) (hz : zs.length < 100) (hl : valD (dk l) (.inr (Str.ofString "walls")) = some (.ref (S.length + 1))) :
    b__law_drawn_L1 [.val (.int d), k', s2, s3, s4, s5, .val (.ref S.length), .val (.int j), s8] (S ++ some (.dic (dk l)) :: [some (.lst (zs.map wallD))]) = .nx [.val (.int d), k', s2, s3, s4, s5, .val (.ref S.length), .val (.int j), .val (.int (spread d j))] (S ++ some (.dic (dk l)) :: [some (.lst ((zs ++ [wallOf d j]).map wallD))]) := by
  have e0 : (S ++ some (.dic (dk l)) :: [some (.lst (zs.map wallD))])[S.length]? = some (some (.dic (dk l))) := by rw [List.getElem?_append_right (Nat.le_refl _), Nat.sub_self]; rfl
  have e1 : (S ++ some (.dic (dk l)) :: [some (.lst (zs.map wallD))])[S.length + 1]? = some (some (.lst (zs.map wallD))) := by rw [List.getElem?_append_right (by omega), show S.length + 1 - S.length = 1 by omega]; rfl
  have s1 : ∀ c : Option Cell, (S ++ some (Cell.dic (dk l)) :: [some (Cell.lst (zs.map wallD))]).set (S.length + 1) c = S ++ some (.dic (dk l)) :: [c] := fun c => by
    rw [List.set_append_right _ _ (by omega), show S.length + 1 - S.length = 1 by omega]; rfl
  generalize hT : S ++ some (.dic (dk l)) :: [some (.lst (zs.map wallD))] = S' at *
  unfold b__law_drawn_L1
  refine seq_nx (set_eq (map_eq (f := Slot.val) (map_eq (f := Slot.d) (fn_eq (ds := [.int d, .int j]) (cons_eq (S1 := S') rfl (cons_eq (S1 := S') rfl rfl)) (e_spread h0 h1))))) ?_
  show sSeq _ _ [.val (.int d), k', s2, s3, s4, s5, .val (.ref S.length), .val (.int j), .val (.int (spread d j))] S' = _
  have w := wallOf d j
  obtain ⟨t1, t2⟩ := spread_in d j
  have hw : wallD (wallOf d j) = .tup [.int (if spread d j / 720 % 2 = 0 then spread d j % 720 else 719), .int (1 + spread d j / 1440 % 30), .int (1 + spread d j / 43200 % 9)] := rfl
  generalize spread d j = s at *
  have z : (zs.map wallD).length < 1000000 := by simp; omega
  have sb : opSb S' (.ref S.length) (.str (Str.ofString "walls")) = some (.val (.ref (S.length + 1))) := by
    have hd : lookD S' (.ref S.length) = .dic (dk l) := by simp only [lk_ref, e0, Cell.d]
    simp only [opSb, hd, keyD, hl, Option.map_some]
  have tp : mMap D.tup (aCons (mMap Slot.d (mBin opSb (mMap Slot.d (oLst (aCons (mMap Slot.d (mBin (opI2 fMod) (eVar 8) (eC (.int (720))))) (aCons (eC (.int (719))) aNil)))) (mMap Slot.d (mBin (opI2 fMod) (mMap Slot.d (mBin (opI2 fDiv) (eVar 8) (eC (.int (720))))) (eC (.int (2))))))) (aCons (mMap Slot.d (mBin opAdd (eC (.int (1))) (mMap Slot.d (mBin (opI2 fMod) (mMap Slot.d (mBin (opI2 fDiv) (eVar 8) (eC (.int (1440))))) (eC (.int (30))))))) (aCons (mMap Slot.d (mBin opAdd (eC (.int (1))) (mMap Slot.d (mBin (opI2 fMod) (mMap Slot.d (mBin (opI2 fDiv) (eVar 8) (eC (.int (43200))))) (eC (.int (9))))))) aNil))) [.val (.int d), k', s2, s3, s4, s5, .val (.ref S.length), .val (.int j), .val (.int s)] S' = .ok (wallD (wallOf d j)) S' := by
    rw [hw]
    have q := pick2 (S := S') (g := s / 720 % 2) (A := s % 720) (B := 719) (by omega) (by omega)
    simp (disch := omega) [div_s, mod_s, q, mDef, startD, sSeq, sNext, sSet, sRet, sRetV, sRetN, sIf, sExpr, sRaise, sAug, sPar, sTgt, sApp, sFrz, sTryAs, rBind, R.bind, mMap, mBin, mUn, mCmp, mChain, mFn, mCall, mAnd, mOr, mNot, mTru, mAndV, mOrV, mNotV, mIf, aNil, aCons, oLst, eVar, eC, lift2, liftB, lk_non, lk_bl, lk_int, lk_str, lk_ty, lk_cls, lk_lst, lk_tup, lk_dic, lk_obj, lk_exc, lk_ref, Slot.d, Cell.d, lt_s, le_s, gt_s, ge_s, cIsN, cIsNN, truD, fNeg, fAddI, fSubI, List.getElem?_cons_zero, List.getElem?_cons_succ, List.set_cons_zero, List.set_cons_succ, add_s, cat_s, sub_s, mFld, fFld, mMeth, mSl, pAt, pNo, mTM, mDisp, ppC, mGet1, mGet2, mRef, toRef, noErr, List.lookup_cons]
  have mo : mMap Slot.d (mBin opSb (eVar 6) (eC (.str (Str.ofString "walls")))) [.val (.int d), k', s2, s3, s4, s5, .val (.ref S.length), .val (.int j), .val (.int s)] S' = .ok (.ref (S.length + 1)) S' := map_eq (f := Slot.d) (x := .val (.ref (S.length + 1))) (bin_eq (x := .ref S.length) (y := .str (Str.ofString "walls")) (S1 := S') rfl rfl sb)
  refine seq_nx (ρ1 := [.val (.int d), k', s2, s3, s4, s5, .val (.ref S.length), .val (.int j), .val (.int s)]) (S1 := S ++ some (.dic (dk l)) :: [some (.lst ((zs ++ [wallOf d j]).map wallD))]) ?_ rfl
  simp only [sAppR, mo, rBind, e1, tp, z, if_true, s1, List.map_append, List.map_cons, List.map_nil]
theorem walls_loop {l : List (String × D)} {k' s2 s3 s4 s5 : Slot} (hl : valD (dk l) (.inr (Str.ofString "walls")) = some (.ref (S.length + 1))) : ∀ (js : List Nat) (zs : List Wall) (s7 s8 : Slot), (∀ j ∈ js, j ≤ 100) → zs.length + js.length < 100 → ∃ y7 y8,
    sForL [] (gN 7) b__law_drawn_L1 (js.map fun (i : Nat) => D.int (0 + (i : Int))) [.val (.int d), k', s2, s3, s4, s5, .val (.ref S.length), s7, s8] (S ++ some (.dic (dk l)) :: [some (.lst (zs.map wallD))]) = .nx [.val (.int d), k', s2, s3, s4, s5, .val (.ref S.length), y7, y8] (S ++ some (.dic (dk l)) :: [some (.lst ((zs ++ js.map fun (j : Nat) => wallOf d (j : Int)).map wallD))])
  | [], zs, s7, s8, _, _ => ⟨s7, s8, by simp [sForL, gok_nil]⟩
  | j :: js, zs, s7, s8, hj, hz => by
    have h1 := hj j (by simp)
    simp only [List.length_cons] at hz
    obtain ⟨y7, y8, e⟩ := walls_loop (l := l) (k' := k') (s2 := s2) (s3 := s3) (s4 := s4) (s5 := s5) hl js (zs ++ [wallOf d (j : Int)]) (.val (.int (j : Int))) (.val (.int (spread d (j : Int)))) (fun i hi => hj i (by simp [hi])) (by simp; omega)
    refine ⟨y7, y8, ?_⟩
    have t := wall_add (S := S) (d := d) (nm := Str.empty) (l := l) (zs := zs) (k' := k') (s2 := s2) (s3 := s3) (s4 := s4) (s5 := s5) (s8 := s8) (j := (j : Int)) (by omega) (by omega) (by omega) hl
    have z : (0 : Int) + (j : Int) = j := by omega
    rw [List.map_cons, z]
    refine for_nx (gok_nil.mpr trivial) rfl t ?_
    rw [e]
    simp
end
end FW
end
section
set_option maxHeartbeats 4000000
/-! the plain law: the dict that is drawn. -/
namespace FW
open L2 (cutS)
open PySem
theorem pow9 {S : Sto} : opI2 fPow S (.int 10) (.int 9) = some (.val (.int 1000000000)) := rfl
theorem pow8 {S : Sto} : opI2 fPow S (.int 10) (.int 8) = some (.val (.int 100000000)) := rfl
theorem pow6 {S : Sto} : opI2 fPow S (.int 10) (.int 6) = some (.val (.int 1000000)) := rfl
theorem mul58 {S : Sto} : opMul S (.int 5) (.int 100000000) = some (.val (.int 500000000)) := by
  have := mul_b (S := S) (i := 5) (j := 100000000) (by decide) (by decide)
  exact this
theorem neg9 : fNeg (.int 1000000000) = some (.int (-1000000000)) := rfl
theorem len8 : (Str.ofString "abcdefgh").length ≤ 1000000 := by decide +kernel
theorem sl_from {S : Sto} {a : Int} : opSl S (.str (Str.ofString "abcdefgh")) (some a) none = some (.val (.str (cutS (Str.ofString "abcdefgh") (some a) none))) := by
  show (if (Str.ofString "abcdefgh").length ≤ 1000000 then some (Slot.val (.str (cutS (Str.ofString "abcdefgh") (some a) none))) else none) = _
  rw [if_pos len8]
theorem sl_to {S : Sto} {a b : Int} : opSl S (.str (cutS (Str.ofString "abcdefgh") (some a) none)) none (some b) = some (.val (.str (cutS (cutS (Str.ofString "abcdefgh") (some a) none) none (some b)))) := by
  have l : (cutS (Str.ofString "abcdefgh") (some a) none).length ≤ 1000000 := Nat.le_trans (L2.cutS_length _ _ _) len8
  show (if (cutS (Str.ofString "abcdefgh") (some a) none).length ≤ 1000000 then some (Slot.val (.str (cutS (cutS (Str.ofString "abcdefgh") (some a) none) none (some b)))) else none) = _
  rw [if_pos l]
section
variable {S : Sto} {d k : Int}
def d3 (d : Int) : List (String × D) := [("name", .str (drawn d 0).nm), ("least", .int (loOf d)), ("greatest", .int (hiOf d))]
def dAll (d k : Int) (W : D) : List (String × D) := [("name", .str (drawn d k).nm), ("least", .int (drawn d k).lo), ("greatest", .int (drawn d k).hi), ("place", .int (drawn d k).place), ("pace", .int (drawn d k).pace), ("gain", .int (drawn d k).gain), ("kind", .str (drawn d k).k.txt),
  ("lane", .int (drawn d k).lane), ("at", .int (drawn d k).at_), ("wide", .int (drawn d k).wide), ("tall", .int (drawn d k).tall), ("walls", W)]
theorem g3 (d : Int) : 0 ≤ d / 7 % 3 ∧ d / 7 % 3 < 3 := by omega
theorem drawn_steps (hd : 0 ≤ d) : b__law_drawn [.val (.int d), .val (.int k), .none, .none, .none, .none, .none, .none, .none] S = .rt (.val (.ref S.length)) (S ++ some (.dic (dk (dAll d k (.ref (S.length + 1))))) :: [some (.lst ((drawn d k).walls.map wallD))]) := by
  obtain ⟨g0, g1⟩ := g3 d
  have q3 := fun (S : Sto) (A B C : Int) => pk3 (S := S) (A := A) (B := B) (C := C) g0 g1
  obtain ⟨q1, q2, _⟩ := lohi d
  obtain ⟨low, hlow⟩ : ∃ low : D, low = .lst [.int (d % 41 - 20), .int (-1000000000), .int (d % 1000000000 - 500000000)] := ⟨_, rfl⟩
  unfold b__law_drawn
  refine seq_nx (ρ1 := [.val (.int d), .val (.int k), .val (.int (d / 7 % 3)), .none, .none, .none, .none, .none, .none]) (S1 := S) (by simp (disch := omega) [b__law_drawn_0, div_s, mod_s, mDef, startD, sSeq, sNext, sSet, sRet, sRetV, sRetN, sIf, sExpr, sRaise, sAug, sPar, sTgt, sApp, sFrz, sTryAs, rBind, R.bind, mMap, mBin, mUn, mCmp, mChain, mFn, mCall, mAnd, mOr, mNot, mTru, mAndV, mOrV, mNotV, mIf, aNil, aCons, oLst, eVar, eC, lift2, liftB, lk_non, lk_bl, lk_int, lk_str, lk_ty, lk_cls, lk_lst, lk_tup, lk_dic, lk_obj, lk_exc, lk_ref, Slot.d, Cell.d, lt_s, le_s, gt_s, ge_s, cIsN, cIsNN, truD, fNeg, fAddI, fSubI, List.getElem?_cons_zero, List.getElem?_cons_succ, List.set_cons_zero, List.set_cons_succ, add_s, cat_s, sub_s, mFld, fFld, mMeth, mSl, pAt, pNo, mTM, mDisp, ppC, mGet1, mGet2, mRef, toRef, noErr, List.lookup_cons]) ?_
  refine seq_nx (ρ1 := [.val (.int d), .val (.int k), .val (.int (d / 7 % 3)), .val low, .none, .none, .none, .none, .none]) (S1 := S) (by rw [hlow]; simp (disch := omega) [b__law_drawn_1, div_s, mod_s, pow9, pow8, mul58, neg9, mUn, mDef, startD, sSeq, sNext, sSet, sRet, sRetV, sRetN, sIf, sExpr, sRaise, sAug, sPar, sTgt, sApp, sFrz, sTryAs, rBind, R.bind, mMap, mBin, mUn, mCmp, mChain, mFn, mCall, mAnd, mOr, mNot, mTru, mAndV, mOrV, mNotV, mIf, aNil, aCons, oLst, eVar, eC, lift2, liftB, lk_non, lk_bl, lk_int, lk_str, lk_ty, lk_cls, lk_lst, lk_tup, lk_dic, lk_obj, lk_exc, lk_ref, Slot.d, Cell.d, lt_s, le_s, gt_s, ge_s, cIsN, cIsNN, truD, fNeg, fAddI, fSubI, List.getElem?_cons_zero, List.getElem?_cons_succ, List.set_cons_zero, List.set_cons_succ, add_s, cat_s, sub_s, mFld, fFld, mMeth, mSl, pAt, pNo, mTM, mDisp, ppC, mGet1, mGet2, mRef, toRef, noErr, List.lookup_cons]) ?_
  refine seq_nx (ρ1 := [.val (.int d), .val (.int k), .val (.int (d / 7 % 3)), .val low, .val (.int (loOf d)), .none, .none, .none, .none]) (S1 := S) (by
    rw [hlow]
    exact set_eq (map_eq (f := Slot.val) (map_eq (f := Slot.d) (bin_eq (S1 := S) rfl rfl (q3 S _ _ _))))) ?_
  refine seq_nx (ρ1 := [.val (.int d), .val (.int k), .val (.int (d / 7 % 3)), .val low, .val (.int (loOf d)), .val (.int (hiOf d)), .none, .none, .none]) (S1 := S) (by simp (disch := omega) [b__law_drawn_3, div_s, mod_s, pow9, pow8, q3, hiOf, mDef, startD, sSeq, sNext, sSet, sRet, sRetV, sRetN, sIf, sExpr, sRaise, sAug, sPar, sTgt, sApp, sFrz, sTryAs, rBind, R.bind, mMap, mBin, mUn, mCmp, mChain, mFn, mCall, mAnd, mOr, mNot, mTru, mAndV, mOrV, mNotV, mIf, aNil, aCons, oLst, eVar, eC, lift2, liftB, lk_non, lk_bl, lk_int, lk_str, lk_ty, lk_cls, lk_lst, lk_tup, lk_dic, lk_obj, lk_exc, lk_ref, Slot.d, Cell.d, lt_s, le_s, gt_s, ge_s, cIsN, cIsNN, truD, fNeg, fAddI, fSubI, List.getElem?_cons_zero, List.getElem?_cons_succ, List.set_cons_zero, List.set_cons_succ, add_s, cat_s, sub_s, mFld, fFld, mMeth, mSl, pAt, pNo, mTM, mDisp, ppC, mGet1, mGet2, mRef, toRef, noErr, List.lookup_cons]) ?_
  refine seq_nx (ρ1 := [.val (.int d), .val (.int k), .val (.int (d / 7 % 3)), .val low, .val (.int (loOf d)), .val (.int (hiOf d)), .val (.ref S.length), .none, .none]) (S1 := S ++ [some (.dic (dk (d3 d)))]) (by
    have n1 : ((d / 3 % 8).toNat : Int) = d / 3 % 8 := by omega
    have n2 : ((1 + d / 24 % 8).toNat : Int) = 1 + d / 24 % 8 := by omega
    have nm : (drawn d 0).nm = cutS (cutS (Str.ofString "abcdefgh") (some (d / 3 % 8)) none) none (some (1 + d / 24 % 8)) := by simp only [drawn, nmS, n1, n2]
    simp (disch := omega) [b__law_drawn_4, div_s, mod_s, sl_from, sl_to, keysOf, keyD, mergeD, putD, ofString_inj, d3, dk, nm, mRef, toRef, mDef, startD, sSeq, sNext, sSet, sRet, sRetV, sRetN, sIf, sExpr, sRaise, sAug, sPar, sTgt, sApp, sFrz, sTryAs, rBind, R.bind, mMap, mBin, mUn, mCmp, mChain, mFn, mCall, mAnd, mOr, mNot, mTru, mAndV, mOrV, mNotV, mIf, aNil, aCons, oLst, eVar, eC, lift2, liftB, lk_non, lk_bl, lk_int, lk_str, lk_ty, lk_cls, lk_lst, lk_tup, lk_dic, lk_obj, lk_exc, lk_ref, Slot.d, Cell.d, lt_s, le_s, gt_s, ge_s, cIsN, cIsNN, truD, fNeg, fAddI, fSubI, List.getElem?_cons_zero, List.getElem?_cons_succ, List.set_cons_zero, List.set_cons_succ, add_s, cat_s, sub_s, mFld, fFld, mMeth, mSl, pAt, pNo, mTM, mDisp, ppC, mGet1, mGet2, mRef, toRef, noErr, List.lookup_cons]) ?_
  obtain ⟨ρ, hρ⟩ : ∃ ρ : List Slot, ρ = [.val (.int d), .val (.int k), .val (.int (d / 7 % 3)), .val low, .val (.int (loOf d)), .val (.int (hiOf d)), .val (.ref S.length), .none, .none] := ⟨_, rfl⟩
  rw [← hρ]
  have v6 : ∀ S' : Sto, eVar 6 ρ S' = .ok (.ref S.length) S' := fun S' => by rw [hρ]; rfl
  have pl : (drawn d k).place = loOf d + d / 5 % (hiOf d - loOf d + 1) := rfl
  have m5 := fun S' : Sto => mod_s (S := S') (i := d / 5) (j := hiOf d - loOf d + 1) (by omega)
  refine seq_nx (put_eq (X := []) (l := d3 d) (k := "place") (d := .int (drawn d k).place) (by rw [hρ, pl]; simp (disch := omega) [div_s, m5, mDef, startD, sSeq, sNext, sSet, sRet, sRetV, sRetN, sIf, sExpr, sRaise, sAug, sPar, sTgt, sApp, sFrz, sTryAs, rBind, R.bind, mMap, mBin, mUn, mCmp, mChain, mFn, mCall, mAnd, mOr, mNot, mTru, mAndV, mOrV, mNotV, mIf, aNil, aCons, oLst, eVar, eC, lift2, liftB, lk_non, lk_bl, lk_int, lk_str, lk_ty, lk_cls, lk_lst, lk_tup, lk_dic, lk_obj, lk_exc, lk_ref, Slot.d, Cell.d, lt_s, le_s, gt_s, ge_s, cIsN, cIsNN, truD, fNeg, fAddI, fSubI, List.getElem?_cons_zero, List.getElem?_cons_succ, List.set_cons_zero, List.set_cons_succ, add_s, cat_s, sub_s, mFld, fFld, mMeth, mSl, pAt, pNo, mTM, mDisp, ppC, mGet1, mGet2, mRef, toRef, noErr, List.lookup_cons]) (v6 _) rfl rfl rfl (by simp [d3])) ?_
  refine seq_nx (put_eq (X := []) (k := "pace") (d := .int (drawn d k).pace) (by rw [hρ]; simp (disch := omega) [div_s, mod_s, pow9, q3, drawn, mDef, startD, sSeq, sNext, sSet, sRet, sRetV, sRetN, sIf, sExpr, sRaise, sAug, sPar, sTgt, sApp, sFrz, sTryAs, rBind, R.bind, mMap, mBin, mUn, mCmp, mChain, mFn, mCall, mAnd, mOr, mNot, mTru, mAndV, mOrV, mNotV, mIf, aNil, aCons, oLst, eVar, eC, lift2, liftB, lk_non, lk_bl, lk_int, lk_str, lk_ty, lk_cls, lk_lst, lk_tup, lk_dic, lk_obj, lk_exc, lk_ref, Slot.d, Cell.d, lt_s, le_s, gt_s, ge_s, cIsN, cIsNN, truD, fNeg, fAddI, fSubI, List.getElem?_cons_zero, List.getElem?_cons_succ, List.set_cons_zero, List.set_cons_succ, add_s, cat_s, sub_s, mFld, fFld, mMeth, mSl, pAt, pNo, mTM, mDisp, ppC, mGet1, mGet2, mRef, toRef, noErr, List.lookup_cons]) (v6 _) rfl rfl rfl (by simp [d3])) ?_
  refine seq_nx (put_eq (X := []) (k := "gain") (d := .int (drawn d k).gain) (by rw [hρ]; simp (disch := omega) [div_s, mod_s, pow9, q3, drawn, mDef, startD, sSeq, sNext, sSet, sRet, sRetV, sRetN, sIf, sExpr, sRaise, sAug, sPar, sTgt, sApp, sFrz, sTryAs, rBind, R.bind, mMap, mBin, mUn, mCmp, mChain, mFn, mCall, mAnd, mOr, mNot, mTru, mAndV, mOrV, mNotV, mIf, aNil, aCons, oLst, eVar, eC, lift2, liftB, lk_non, lk_bl, lk_int, lk_str, lk_ty, lk_cls, lk_lst, lk_tup, lk_dic, lk_obj, lk_exc, lk_ref, Slot.d, Cell.d, lt_s, le_s, gt_s, ge_s, cIsN, cIsNN, truD, fNeg, fAddI, fSubI, List.getElem?_cons_zero, List.getElem?_cons_succ, List.set_cons_zero, List.set_cons_succ, add_s, cat_s, sub_s, mFld, fFld, mMeth, mSl, pAt, pNo, mTM, mDisp, ppC, mGet1, mGet2, mRef, toRef, noErr, List.lookup_cons]) (v6 _) rfl rfl rfl (by simp [d3])) ?_
  refine seq_nx (put_eq (X := []) (k := "kind") (d := .str (drawn d k).k.txt) (by rw [hρ]; simp (disch := omega) [div_s, mod_s, pick_k, drawn, mDef, startD, sSeq, sNext, sSet, sRet, sRetV, sRetN, sIf, sExpr, sRaise, sAug, sPar, sTgt, sApp, sFrz, sTryAs, rBind, R.bind, mMap, mBin, mUn, mCmp, mChain, mFn, mCall, mAnd, mOr, mNot, mTru, mAndV, mOrV, mNotV, mIf, aNil, aCons, oLst, eVar, eC, lift2, liftB, lk_non, lk_bl, lk_int, lk_str, lk_ty, lk_cls, lk_lst, lk_tup, lk_dic, lk_obj, lk_exc, lk_ref, Slot.d, Cell.d, lt_s, le_s, gt_s, ge_s, cIsN, cIsNN, truD, fNeg, fAddI, fSubI, List.getElem?_cons_zero, List.getElem?_cons_succ, List.set_cons_zero, List.set_cons_succ, add_s, cat_s, sub_s, mFld, fFld, mMeth, mSl, pAt, pNo, mTM, mDisp, ppC, mGet1, mGet2, mRef, toRef, noErr, List.lookup_cons]) (v6 _) rfl rfl rfl (by simp [d3])) ?_
  refine seq_nx (put_eq (X := []) (k := "lane") (d := .int (drawn d k).lane) (by rw [hρ]; simp (disch := omega) [div_s, mod_s, drawn, mDef, startD, sSeq, sNext, sSet, sRet, sRetV, sRetN, sIf, sExpr, sRaise, sAug, sPar, sTgt, sApp, sFrz, sTryAs, rBind, R.bind, mMap, mBin, mUn, mCmp, mChain, mFn, mCall, mAnd, mOr, mNot, mTru, mAndV, mOrV, mNotV, mIf, aNil, aCons, oLst, eVar, eC, lift2, liftB, lk_non, lk_bl, lk_int, lk_str, lk_ty, lk_cls, lk_lst, lk_tup, lk_dic, lk_obj, lk_exc, lk_ref, Slot.d, Cell.d, lt_s, le_s, gt_s, ge_s, cIsN, cIsNN, truD, fNeg, fAddI, fSubI, List.getElem?_cons_zero, List.getElem?_cons_succ, List.set_cons_zero, List.set_cons_succ, add_s, cat_s, sub_s, mFld, fFld, mMeth, mSl, pAt, pNo, mTM, mDisp, ppC, mGet1, mGet2, mRef, toRef, noErr, List.lookup_cons]) (v6 _) rfl rfl rfl (by simp [d3])) ?_
  refine seq_nx (put_eq (X := []) (k := "at") (d := .int (drawn d k).at_) (by rw [hρ]; simp (disch := omega) [div_s, mod_s, pow9, neg9, mUn, q3, drawn, mDef, startD, sSeq, sNext, sSet, sRet, sRetV, sRetN, sIf, sExpr, sRaise, sAug, sPar, sTgt, sApp, sFrz, sTryAs, rBind, R.bind, mMap, mBin, mUn, mCmp, mChain, mFn, mCall, mAnd, mOr, mNot, mTru, mAndV, mOrV, mNotV, mIf, aNil, aCons, oLst, eVar, eC, lift2, liftB, lk_non, lk_bl, lk_int, lk_str, lk_ty, lk_cls, lk_lst, lk_tup, lk_dic, lk_obj, lk_exc, lk_ref, Slot.d, Cell.d, lt_s, le_s, gt_s, ge_s, cIsN, cIsNN, truD, fNeg, fAddI, fSubI, List.getElem?_cons_zero, List.getElem?_cons_succ, List.set_cons_zero, List.set_cons_succ, add_s, cat_s, sub_s, mFld, fFld, mMeth, mSl, pAt, pNo, mTM, mDisp, ppC, mGet1, mGet2, mRef, toRef, noErr, List.lookup_cons]) (v6 _) rfl rfl rfl (by simp [d3])) ?_
  refine seq_nx (put_eq (X := []) (k := "wide") (d := .int (drawn d k).wide) (by rw [hρ]; simp (disch := omega) [div_s, mod_s, pow6, q3, drawn, mDef, startD, sSeq, sNext, sSet, sRet, sRetV, sRetN, sIf, sExpr, sRaise, sAug, sPar, sTgt, sApp, sFrz, sTryAs, rBind, R.bind, mMap, mBin, mUn, mCmp, mChain, mFn, mCall, mAnd, mOr, mNot, mTru, mAndV, mOrV, mNotV, mIf, aNil, aCons, oLst, eVar, eC, lift2, liftB, lk_non, lk_bl, lk_int, lk_str, lk_ty, lk_cls, lk_lst, lk_tup, lk_dic, lk_obj, lk_exc, lk_ref, Slot.d, Cell.d, lt_s, le_s, gt_s, ge_s, cIsN, cIsNN, truD, fNeg, fAddI, fSubI, List.getElem?_cons_zero, List.getElem?_cons_succ, List.set_cons_zero, List.set_cons_succ, add_s, cat_s, sub_s, mFld, fFld, mMeth, mSl, pAt, pNo, mTM, mDisp, ppC, mGet1, mGet2, mRef, toRef, noErr, List.lookup_cons]) (v6 _) rfl rfl rfl (by simp [d3])) ?_
  refine seq_nx (put_eq (X := []) (k := "tall") (d := .int (drawn d k).tall) (by rw [hρ]; simp (disch := omega) [div_s, mod_s, pow6, q3, drawn, mDef, startD, sSeq, sNext, sSet, sRet, sRetV, sRetN, sIf, sExpr, sRaise, sAug, sPar, sTgt, sApp, sFrz, sTryAs, rBind, R.bind, mMap, mBin, mUn, mCmp, mChain, mFn, mCall, mAnd, mOr, mNot, mTru, mAndV, mOrV, mNotV, mIf, aNil, aCons, oLst, eVar, eC, lift2, liftB, lk_non, lk_bl, lk_int, lk_str, lk_ty, lk_cls, lk_lst, lk_tup, lk_dic, lk_obj, lk_exc, lk_ref, Slot.d, Cell.d, lt_s, le_s, gt_s, ge_s, cIsN, cIsNN, truD, fNeg, fAddI, fSubI, List.getElem?_cons_zero, List.getElem?_cons_succ, List.set_cons_zero, List.set_cons_succ, add_s, cat_s, sub_s, mFld, fFld, mMeth, mSl, pAt, pNo, mTM, mDisp, ppC, mGet1, mGet2, mRef, toRef, noErr, List.lookup_cons]) (v6 _) rfl rfl rfl (by simp [d3])) ?_
  have fin : d3 d ++ [("place", D.int (drawn d k).place)] ++ [("pace", D.int (drawn d k).pace)] ++ [("gain", D.int (drawn d k).gain)] ++ [("kind", D.str (drawn d k).k.txt)] ++ [("lane", D.int (drawn d k).lane)] ++ [("at", D.int (drawn d k).at_)] ++ [("wide", D.int (drawn d k).wide)] ++ [("tall", D.int (drawn d k).tall)] ++ [("walls", D.ref (S.length + 1))] = dAll d k (.ref (S.length + 1)) := rfl
  refine seq_nx (put_eq2 (S := S) (X := [some (.lst [])]) (l := d3 d ++ [("place", D.int (drawn d k).place)] ++ [("pace", D.int (drawn d k).pace)] ++ [("gain", D.int (drawn d k).gain)] ++ [("kind", D.str (drawn d k).k.txt)] ++ [("lane", D.int (drawn d k).lane)] ++ [("at", D.int (drawn d k).at_)] ++ [("wide", D.int (drawn d k).wide)] ++ [("tall", D.int (drawn d k).tall)]) (k := "walls") (d := .ref (S.length + 1)) (by simp [mRef, toRef, oLst, aNil, mMap, R.bind]) (v6 _) rfl rfl rfl (by simp [d3])) ?_
  rw [fin]
  have rg : mRange (aCons (mMap Slot.d (mBin opAdd (eC (.int (1))) (mMap Slot.d (mBin (opI2 fMod) (mMap Slot.d (mBin (opI2 fDiv) (eVar 0) (eC (.int (31))))) (eC (.int (4))))))) aNil) ρ (S ++ some (.dic (dk (dAll d k (.ref (S.length + 1))))) :: [some (.lst (([] : List Wall).map wallD))]) = .ok (rangeD 0 (1 + d / 31 % 4).toNat, []) (S ++ some (.dic (dk (dAll d k (.ref (S.length + 1))))) :: [some (.lst (([] : List Wall).map wallD))]) := by
    have c : (1 + d / 31 % 4 ≤ 1000000) ∧ (-1000000000000 ≤ 1 + d / 31 % 4) := by omega
    rw [hρ]
    simp (disch := omega) [mRange, mThen, fRange, div_s, mod_s, c, mDef, startD, sSeq, sNext, sSet, sRet, sRetV, sRetN, sIf, sExpr, sRaise, sAug, sPar, sTgt, sApp, sFrz, sTryAs, rBind, R.bind, mMap, mBin, mUn, mCmp, mChain, mFn, mCall, mAnd, mOr, mNot, mTru, mAndV, mOrV, mNotV, mIf, aNil, aCons, oLst, eVar, eC, lift2, liftB, lk_non, lk_bl, lk_int, lk_str, lk_ty, lk_cls, lk_lst, lk_tup, lk_dic, lk_obj, lk_exc, lk_ref, Slot.d, Cell.d, lt_s, le_s, gt_s, ge_s, cIsN, cIsNN, truD, fNeg, fAddI, fSubI, List.getElem?_cons_zero, List.getElem?_cons_succ, List.set_cons_zero, List.set_cons_succ, add_s, cat_s, sub_s, mFld, fFld, mMeth, mSl, pAt, pNo, mTM, mDisp, ppC, mGet1, mGet2, mRef, toRef, noErr, List.lookup_cons]
  have hl : valD (dk (dAll d k (.ref (S.length + 1)))) (.inr (Str.ofString "walls")) = some (.ref (S.length + 1)) := by simp [dk, dAll, valD, ofString_inj]
  obtain ⟨y7, y8, e⟩ := walls_loop (S := S) (d := d) (l := dAll d k (.ref (S.length + 1))) (k' := .val (.int k)) (s2 := .val (.int (d / 7 % 3))) (s3 := .val low) (s4 := .val (.int (loOf d))) (s5 := .val (.int (hiOf d))) hl (List.range (1 + d / 31 % 4).toNat) [] .none .none (by
    intro j hj
    have := List.mem_range.mp hj
    omega) (by simp; omega)
  rw [← hρ] at e
  exact seq_nx (for_eq rg e) (seq_rt rfl)
theorem e_drawn (hd : 0 ≤ d) : c__law_drawn [.int d, .int k] S = .ok (.val (.dic (drawn d k).ownD)) S := by
  have a := mdef_rt (N := N__law_drawn) (ds := [.int d, .int k]) (ρ := [.val (.int d), .val (.int k), .none, .none, .none, .none, .none, .none, .none]) (by simp [startD, N__law_drawn]) (drawn_steps (S := S) (k := k) hd)
  have e0 : (S ++ some (.dic (dk (dAll d k (.ref (S.length + 1))))) :: [some (.lst ((drawn d k).walls.map wallD))])[S.length]? = some (some (.dic (dk (dAll d k (.ref (S.length + 1)))))) := by rw [List.getElem?_append_right (Nat.le_refl _), Nat.sub_self]; rfl
  have e1 : (S ++ some (.dic (dk (dAll d k (.ref (S.length + 1))))) :: [some (.lst ((drawn d k).walls.map wallD))])[S.length + 1]? = some (some (.lst ((drawn d k).walls.map wallD))) := by rw [List.getElem?_append_right (by omega), show S.length + 1 - S.length = 1 by omega]; rfl
  have tk : (S ++ some (Cell.dic (dk (dAll d k (.ref (S.length + 1))))) :: [some (Cell.lst ((drawn d k).walls.map wallD))]).take S.length = S := by simp
  unfold c__law_drawn mFin m__law_drawn
  rw [a]
  generalize S ++ some (.dic (dk (dAll d k (.ref (S.length + 1))))) :: [some (.lst ((drawn d k).walls.map wallD))] = S' at *
  have w : sub (tabN S.length S' 4) (.lst ((drawn d k).walls.map wallD)) = some (.lst ((drawn d k).walls.map wallD)) := sub_nor _ _ (by simp only [nor]; exact norL_walls _)
  have t1 : tabN S.length S' 5 (S.length + 1) = some (.lst ((drawn d k).walls.map wallD)) := by
    rw [tabN, if_neg (by omega), e1]; exact w
  have t0 : tabN S.length S' 6 S.length = some (.dic (drawn d k).ownD) := by
    rw [tabN, if_neg (by omega), e0]
    simp only [Cell.d, dk, dAll, List.map_cons, List.map_nil, sub, subK, t1]
    rfl
  simp only [finOut, tk, if_true, finD, nor, sub, t0, Bool.false_eq_true, if_false]
end
end FW
end
section
set_option maxHeartbeats 4000000
/-! the plain law: one thing that is none put in. -/
namespace FW
open PySem
def okAll (k : Kd) (lo hi pl pc gn la at_ wd tl W : D) : Bool := okCom lo hi pc gn pl && match k with
  | .line => isW la 0 9 && (isW at_ (-1000000000) 1000000000 && (isW wd 1 1000000 && isW tl 1 1000000))
  | .wagon => isW la 0 9 && (isW wd 1 1000000 && isW tl 1 1000000)
  | .trap => isW la 0 9 && (isW at_ (-1000000000) 1000000000 && isW wd 1 1000000)
  | .floor => isW la 0 9 && isWalls W
theorem lawMake_bad {k : Kd} {nm lo hi pl pc gn la at_ wd tl W : D} {S : Sto} (h0 : plainS nm = true) (h : [lo, hi, pl, pc, gn, la, at_, wd, tl, W].all plain = true) (hw : ∀ ws, W = .lst ws → ws.all plain2 = true) (hb : okAll k lo hi pl pc gn la at_ wd tl W = false) : lawMake k nm lo hi pl pc gn la at_ wd tl W S = .err (if isName nm then badNumber else badName) S := by
  simp only [List.all_cons, List.all_nil, Bool.and_true, Bool.and_eq_true] at h
  obtain ⟨h1, h2, h3, h4, h5, h6, h7, h8, h9, h10⟩ := h
  have p1 := plain_look (S := S) h1; have p2 := plain_look (S := S) h2; have p3 := plain_look (S := S) h3; have p4 := plain_look (S := S) h4; have p5 := plain_look (S := S) h5
  have p6 := plain_look (S := S) h6; have p7 := plain_look (S := S) h7; have p8 := plain_look (S := S) h8; have p9 := plain_look (S := S) h9; have p10 := plain_look (S := S) h10
  have lw := look_plain (S := S) h10
  cases k with
  | line =>
    have e := make_Line h0 p1 p2 p4 p5 p3 p6 p7 p8 p9
    simp only [okAll] at hb
    unfold lawMake
    rw [e, hb]
    by_cases q : isName nm = true <;> simp [q]
  | wagon =>
    have e := make_Wagon h0 p1 p2 p4 p5 p3 p6 p8 p9
    simp only [okAll] at hb
    unfold lawMake
    rw [e, hb]
    by_cases q : isName nm = true <;> simp [q]
  | trap =>
    have e := make_Trap h0 p1 p2 p4 p5 p3 p6 p7 p8
    simp only [okAll] at hb
    unfold lawMake
    rw [e, hb]
    by_cases q : isName nm = true <;> simp [q]
  | floor =>
    have e := make_Floor h0 p1 p2 p4 p5 p3 p6 p10 (by rw [lw]; exact hw)
    simp only [okAll] at hb
    rw [lw] at e
    simp only [hb] at e
    unfold lawMake
    by_cases q : isName nm = true
    · simp only [q, if_true, Bool.false_eq_true, if_false] at e ⊢; exact e
    · simp only [q, Bool.false_eq_true, if_false] at e ⊢; exact e
theorem pick_mem {S : Sto} {xs : List D} {i : Int} (h0 : 0 ≤ i) (h1 : i < xs.length) : ∃ x ∈ xs, opSb S (.lst xs) (.int i) = some (.val x) := by
  have hl : i.toNat < xs.length := by omega
  refine ⟨xs[i.toNat], List.getElem_mem hl, ?_⟩
  show (atD xs i).map Slot.val = _
  rw [atD, if_pos h0, List.getElem?_eq_getElem hl]
  rfl
/-- an odd thing, of those that the law puts in -/
def oddV (b o : D) : List D := [b, .non, .bl true, .str (Str.ofString "1"), .lst [o], .int (-10000000000000000000000000000000000000000)]
def badKs (lo hi : Int) : List (L2.Key × D) := dk [("least", .int (hi + 1)), ("greatest", .int 1000000001), ("pace", .int 0), ("gain", .int 1000000001), ("lane", .int 10), ("place", .int (lo - 1)), ("at", .int (-1000000001)), ("wide", .int 1000001), ("tall", .int 0)]
def shuts : List D := [.tup [.int 720, .int 1, .int 1], .tup [.int 0, .int 0, .int 1], .tup [.int 0, .int 1, .int 1000001], .tup [.int 1, .int 1], .lst [.int 1, .int 1, .int 1], .tup [.bl true, .int 1, .int 1], .tup [.int 0, .non, .int 1]]
theorem shuts_bad : ∀ x ∈ shuts, isWall x = false ∧ plain2 x = true ∧ nor x = true ∧ okD 10 x = true := by
  intro x hx
  simp only [shuts, List.mem_cons, List.not_mem_nil, or_false] at hx
  rcases hx with rfl | rfl | rfl | rfl | rfl | rfl | rfl <;> exact ⟨rfl, rfl, rfl, rfl⟩
def names : List D := [.str (Str.ofString ""), .str (Str.ofString "abcdefghi"), .str (Str.ofString "A"), .str (Str.ofString "a1"), .non, .int 5, .lst [.str (Str.ofString "a")], .str (Str.ofString "a b")]
theorem names_bad : ∀ x ∈ names, isName x = false ∧ plainS x = true ∧ nor x = true ∧ okD 20 x = true := by
  intro x hx
  simp only [names, List.mem_cons, List.not_mem_nil, or_false] at hx
  rcases hx with rfl | rfl | rfl | rfl | rfl | rfl | rfl | rfl <;> exact ⟨by decide +kernel, by decide +kernel, by decide +kernel, by decide +kernel⟩
/-- the words of which one is spoilt -/
def spots (k : Kd) : List String := ["least", "greatest", "pace", "gain", "place", "lane"] ++ match k with
  | .line => ["at", "wide", "tall"]
  | .wagon => ["wide", "tall"]
  | .trap => ["at", "wide"]
  | .floor => ["walls"]
/-- a dict of the law, one of its numbers another one: what is made of it is refused -/
structure Spoilt (m : Mach) (ks : List (L2.Key × D)) : Prop where
  ex : ∃ lo hi pl pc gn la at_ wd tl W, ks = ownL (.str m.nm) lo hi pl pc gn (.str m.k.txt) la at_ wd tl W ∧ [lo, hi, pl, pc, gn, la, at_, wd, tl, W].all plain = true ∧ (∀ ws, W = .lst ws → ws.all plain2 = true) ∧ norL [lo, hi, pl, pc, gn, la, at_, wd, tl, W] = true ∧ okAll m.k lo hi pl pc gn la at_ wd tl W = false
def oldOf (m : Mach) (w : String) : D := if w = "least" then .int m.lo else if w = "greatest" then .int m.hi else if w = "pace" then .int m.pace else if w = "gain" then .int m.gain else if w = "place" then .int m.place else if w = "lane" then .int m.lane else if w = "at" then .int m.at_ else if w = "wide" then .int m.wide else .int m.tall
theorem plain2_walls : ∀ zs : List Wall, (zs.map wallD).all plain2 = true
  | [] => rfl
  | z :: zs => by simp only [List.map_cons, List.all_cons, plain2_walls zs, Bool.and_true]; rfl
section
variable {m : Mach}
theorem spoilt_num (hm : m.Ok) {w : String} (hw : w ∈ spots m.k) (hn : w ≠ "walls") {b v : D} (hb : valD (badKs m.lo m.hi) (.inr (Str.ofString w)) = some b) (hv : v ∈ oddV b (oldOf m w)) : Spoilt m (putD m.ownD (.inr (Str.ofString w)) v) := by
  have := hm.lo1; have := hm.lo2; have := hm.hi1; have := hm.hi2; have := hm.la1; have := hm.la2
  have w2 := plain2_walls m.walls
  have w3 : nor (.lst (m.walls.map wallD)) = true := by simp only [nor]; exact norL_walls _
  have w4 : ∀ ws, D.lst (m.walls.map wallD) = .lst ws → ws.all plain2 = true := fun ws e => by injection e with e; rw [← e]; exact w2
  have cs : w = "least" ∨ w = "greatest" ∨ w = "pace" ∨ w = "gain" ∨ w = "place" ∨ w = "lane" ∨ (w = "at" ∧ (m.k = .line ∨ m.k = .trap)) ∨ (w = "wide" ∧ (m.k = .line ∨ m.k = .wagon ∨ m.k = .trap)) ∨ (w = "tall" ∧ (m.k = .line ∨ m.k = .wagon)) := by
    cases hk : m.k <;> rw [hk] at hw <;> simp [spots, hn] at hw ⊢ <;> exact hw
  rcases cs with rfl | rfl | rfl | rfl | rfl | rfl | ⟨rfl, hk⟩ | ⟨rfl, hk⟩ | ⟨rfl, hk⟩
  · simp [badKs, dk, valD, ofString_inj] at hb
    subst hb
    have pn : plain v = true ∧ nor v = true := by
      simp only [oddV, oldOf, List.mem_cons, List.not_mem_nil, or_false] at hv
      rcases hv with rfl | rfl | rfl | rfl | rfl | rfl <;> exact ⟨rfl, rfl⟩
    refine ⟨v, .int m.hi, .int m.place, .int m.pace, .int m.gain, .int m.lane, .int m.at_, .int m.wide, .int m.tall, .lst (m.walls.map wallD), by simp [Mach.ownD, ownL, putD, ofString_inj], ?_, w4, ?_, ?_⟩
    · simp only [List.all_cons, List.all_nil, pn.1, Bool.and_true, Bool.true_and] <;> rfl
    · simp [norL, pn.2, w3, nor, norL_walls]
    · simp only [oddV, List.mem_cons, List.not_mem_nil, or_false] at hv
      have oc : okCom v (.int m.hi) (.int m.pace) (.int m.gain) (.int m.place) = false := by
        rcases hv with rfl | rfl | rfl | rfl | rfl | rfl <;> first | (simp [okCom, isW, zD]; done) | (rw [Bool.eq_false_iff]; intro h; simp [okCom, isW, zD] at h; done) | (rw [Bool.eq_false_iff]; intro h; simp only [okCom, zD] at h; simp [isW] at h; omega)
      unfold okAll; rw [oc]; rfl
  · simp [badKs, dk, valD, ofString_inj] at hb
    subst hb
    have pn : plain v = true ∧ nor v = true := by
      simp only [oddV, oldOf, List.mem_cons, List.not_mem_nil, or_false] at hv
      rcases hv with rfl | rfl | rfl | rfl | rfl | rfl <;> exact ⟨rfl, rfl⟩
    refine ⟨.int m.lo, v, .int m.place, .int m.pace, .int m.gain, .int m.lane, .int m.at_, .int m.wide, .int m.tall, .lst (m.walls.map wallD), by simp [Mach.ownD, ownL, putD, ofString_inj], ?_, w4, ?_, ?_⟩
    · simp only [List.all_cons, List.all_nil, pn.1, Bool.and_true, Bool.true_and] <;> rfl
    · simp [norL, pn.2, w3, nor, norL_walls]
    · simp only [oddV, List.mem_cons, List.not_mem_nil, or_false] at hv
      have oc : okCom (.int m.lo) v (.int m.pace) (.int m.gain) (.int m.place) = false := by
        rcases hv with rfl | rfl | rfl | rfl | rfl | rfl <;> first | (simp [okCom, isW, zD]; done) | (rw [Bool.eq_false_iff]; intro h; simp [okCom, isW, zD] at h; done) | (rw [Bool.eq_false_iff]; intro h; simp only [okCom, zD] at h; simp [isW] at h; omega)
      unfold okAll; rw [oc]; rfl
  · simp [badKs, dk, valD, ofString_inj] at hb
    subst hb
    have pn : plain v = true ∧ nor v = true := by
      simp only [oddV, oldOf, List.mem_cons, List.not_mem_nil, or_false] at hv
      rcases hv with rfl | rfl | rfl | rfl | rfl | rfl <;> exact ⟨rfl, rfl⟩
    refine ⟨.int m.lo, .int m.hi, .int m.place, v, .int m.gain, .int m.lane, .int m.at_, .int m.wide, .int m.tall, .lst (m.walls.map wallD), by simp [Mach.ownD, ownL, putD, ofString_inj], ?_, w4, ?_, ?_⟩
    · simp only [List.all_cons, List.all_nil, pn.1, Bool.and_true, Bool.true_and] <;> rfl
    · simp [norL, pn.2, w3, nor, norL_walls]
    · simp only [oddV, List.mem_cons, List.not_mem_nil, or_false] at hv
      have oc : okCom (.int m.lo) (.int m.hi) v (.int m.gain) (.int m.place) = false := by
        rcases hv with rfl | rfl | rfl | rfl | rfl | rfl <;> first | (simp [okCom, isW, zD]; done) | (rw [Bool.eq_false_iff]; intro h; simp [okCom, isW, zD] at h; done) | (rw [Bool.eq_false_iff]; intro h; simp only [okCom, zD] at h; simp [isW] at h; omega)
      unfold okAll; rw [oc]; rfl
  · simp [badKs, dk, valD, ofString_inj] at hb
    subst hb
    have pn : plain v = true ∧ nor v = true := by
      simp only [oddV, oldOf, List.mem_cons, List.not_mem_nil, or_false] at hv
      rcases hv with rfl | rfl | rfl | rfl | rfl | rfl <;> exact ⟨rfl, rfl⟩
    refine ⟨.int m.lo, .int m.hi, .int m.place, .int m.pace, v, .int m.lane, .int m.at_, .int m.wide, .int m.tall, .lst (m.walls.map wallD), by simp [Mach.ownD, ownL, putD, ofString_inj], ?_, w4, ?_, ?_⟩
    · simp only [List.all_cons, List.all_nil, pn.1, Bool.and_true, Bool.true_and] <;> rfl
    · simp [norL, pn.2, w3, nor, norL_walls]
    · simp only [oddV, List.mem_cons, List.not_mem_nil, or_false] at hv
      have oc : okCom (.int m.lo) (.int m.hi) (.int m.pace) v (.int m.place) = false := by
        rcases hv with rfl | rfl | rfl | rfl | rfl | rfl <;> first | (simp [okCom, isW, zD]; done) | (rw [Bool.eq_false_iff]; intro h; simp [okCom, isW, zD] at h; done) | (rw [Bool.eq_false_iff]; intro h; simp only [okCom, zD] at h; simp [isW] at h; omega)
      unfold okAll; rw [oc]; rfl
  · simp [badKs, dk, valD, ofString_inj] at hb
    subst hb
    have pn : plain v = true ∧ nor v = true := by
      simp only [oddV, oldOf, List.mem_cons, List.not_mem_nil, or_false] at hv
      rcases hv with rfl | rfl | rfl | rfl | rfl | rfl <;> exact ⟨rfl, rfl⟩
    refine ⟨.int m.lo, .int m.hi, v, .int m.pace, .int m.gain, .int m.lane, .int m.at_, .int m.wide, .int m.tall, .lst (m.walls.map wallD), by simp [Mach.ownD, ownL, putD, ofString_inj], ?_, w4, ?_, ?_⟩
    · simp only [List.all_cons, List.all_nil, pn.1, Bool.and_true, Bool.true_and] <;> rfl
    · simp [norL, pn.2, w3, nor, norL_walls]
    · simp only [oddV, List.mem_cons, List.not_mem_nil, or_false] at hv
      have oc : okCom (.int m.lo) (.int m.hi) (.int m.pace) (.int m.gain) v = false := by
        rcases hv with rfl | rfl | rfl | rfl | rfl | rfl <;> first | (simp [okCom, isW, zD]; done) | (rw [Bool.eq_false_iff]; intro h; simp [okCom, isW, zD] at h; done) | (rw [Bool.eq_false_iff]; intro h; simp only [okCom, zD] at h; simp [isW] at h; omega)
      unfold okAll; rw [oc]; rfl
  · simp [badKs, dk, valD, ofString_inj] at hb
    subst hb
    have pn : plain v = true ∧ nor v = true := by
      simp only [oddV, oldOf, List.mem_cons, List.not_mem_nil, or_false] at hv
      rcases hv with rfl | rfl | rfl | rfl | rfl | rfl <;> exact ⟨rfl, rfl⟩
    refine ⟨.int m.lo, .int m.hi, .int m.place, .int m.pace, .int m.gain, v, .int m.at_, .int m.wide, .int m.tall, .lst (m.walls.map wallD), by simp [Mach.ownD, ownL, putD, ofString_inj], ?_, w4, ?_, ?_⟩
    · simp only [List.all_cons, List.all_nil, pn.1, Bool.and_true, Bool.true_and] <;> rfl
    · simp [norL, pn.2, w3, nor, norL_walls]
    · simp only [oddV, List.mem_cons, List.not_mem_nil, or_false] at hv
      rcases hv with rfl | rfl | rfl | rfl | rfl | rfl <;> cases m.k <;> simp [okAll, isW]
  · simp [badKs, dk, valD, ofString_inj] at hb
    subst hb
    have pn : plain v = true ∧ nor v = true := by
      simp only [oddV, oldOf, List.mem_cons, List.not_mem_nil, or_false] at hv
      rcases hv with rfl | rfl | rfl | rfl | rfl | rfl <;> exact ⟨rfl, rfl⟩
    refine ⟨.int m.lo, .int m.hi, .int m.place, .int m.pace, .int m.gain, .int m.lane, v, .int m.wide, .int m.tall, .lst (m.walls.map wallD), by simp [Mach.ownD, ownL, putD, ofString_inj], ?_, w4, ?_, ?_⟩
    · simp only [List.all_cons, List.all_nil, pn.1, Bool.and_true, Bool.true_and] <;> rfl
    · simp [norL, pn.2, w3, nor, norL_walls]
    · simp only [oddV, List.mem_cons, List.not_mem_nil, or_false] at hv
      rcases hk with hk | hk <;> rw [hk] <;> rcases hv with rfl | rfl | rfl | rfl | rfl | rfl <;> simp [okAll, isW]
  · simp [badKs, dk, valD, ofString_inj] at hb
    subst hb
    have pn : plain v = true ∧ nor v = true := by
      simp only [oddV, oldOf, List.mem_cons, List.not_mem_nil, or_false] at hv
      rcases hv with rfl | rfl | rfl | rfl | rfl | rfl <;> exact ⟨rfl, rfl⟩
    refine ⟨.int m.lo, .int m.hi, .int m.place, .int m.pace, .int m.gain, .int m.lane, .int m.at_, v, .int m.tall, .lst (m.walls.map wallD), by simp [Mach.ownD, ownL, putD, ofString_inj], ?_, w4, ?_, ?_⟩
    · simp only [List.all_cons, List.all_nil, pn.1, Bool.and_true, Bool.true_and] <;> rfl
    · simp [norL, pn.2, w3, nor, norL_walls]
    · simp only [oddV, List.mem_cons, List.not_mem_nil, or_false] at hv
      rcases hk with hk | hk | hk <;> rw [hk] <;> rcases hv with rfl | rfl | rfl | rfl | rfl | rfl <;> simp [okAll, isW]
  · simp [badKs, dk, valD, ofString_inj] at hb
    subst hb
    have pn : plain v = true ∧ nor v = true := by
      simp only [oddV, oldOf, List.mem_cons, List.not_mem_nil, or_false] at hv
      rcases hv with rfl | rfl | rfl | rfl | rfl | rfl <;> exact ⟨rfl, rfl⟩
    refine ⟨.int m.lo, .int m.hi, .int m.place, .int m.pace, .int m.gain, .int m.lane, .int m.at_, .int m.wide, v, .lst (m.walls.map wallD), by simp [Mach.ownD, ownL, putD, ofString_inj], ?_, w4, ?_, ?_⟩
    · simp only [List.all_cons, List.all_nil, pn.1, Bool.and_true, Bool.true_and] <;> rfl
    · simp [norL, pn.2, w3, nor, norL_walls]
    · simp only [oddV, List.mem_cons, List.not_mem_nil, or_false] at hv
      rcases hk with hk | hk <;> rw [hk] <;> rcases hv with rfl | rfl | rfl | rfl | rfl | rfl <;> simp [okAll, isW]
end
end FW
end
section
set_option maxHeartbeats 4000000
/-! the plain law: the dict that is spoilt. -/
namespace FW
open PySem
def wallsV (m : Mach) (shut : D) : List D := [.lst (cutD (m.walls.map wallD) none (some 3) ++ [shut]), .lst [], .tup (m.walls.map wallD), .non, .lst [.tup [.int 0, .int 1, .int 1], .tup [.int 0, .int 1, .int 1], .tup [.int 0, .int 1, .int 1], .tup [.int 0, .int 1, .int 1], .tup [.int 0, .int 1, .int 1]], .int 5]
theorem cut_sub {xs : List D} {n : Int} {x : D} (h : x ∈ cutD xs none (some n)) : x ∈ xs := List.mem_of_mem_drop (List.mem_of_mem_take h)
theorem nor_mem : ∀ {xs : List D}, norL xs = true → ∀ x ∈ xs, nor x = true
  | [], _, _, h => by cases h
  | y :: ys, n, x, h => by
    simp only [norL, Bool.and_eq_true] at n
    rcases List.mem_cons.mp h with rfl | h
    · exact n.1
    · exact nor_mem n.2 x h
theorem nor_of : ∀ {xs : List D}, (∀ x ∈ xs, nor x = true) → norL xs = true
  | [], _ => rfl
  | y :: ys, h => by
    have a := h y (by simp)
    have b := nor_of (xs := ys) (fun x hx => h x (List.mem_cons_of_mem _ hx))
    simp only [norL, a, b, Bool.and_self]
section
variable {m : Mach} {S : Sto}
theorem spoilt_walls (hm : m.Ok) (hk : m.k = .floor) {shut v : D} (hs : shut ∈ shuts) (hv : v ∈ wallsV m shut) : Spoilt m (putD m.ownD (.inr (Str.ofString "walls")) v) := by
  obtain ⟨s1, s2, s3, s4⟩ := shuts_bad shut hs
  have w2 := plain2_walls m.walls
  have w5 : norL (m.walls.map wallD) = true := norL_walls _
  have all2 : ∀ x ∈ cutD (m.walls.map wallD) none (some 3) ++ [shut], plain2 x = true := fun x hx => by
    rcases List.mem_append.mp hx with h | h
    · exact List.all_eq_true.mp w2 x (cut_sub h)
    · rw [List.mem_singleton.mp h]; exact s2
  have alln : ∀ x ∈ cutD (m.walls.map wallD) none (some 3) ++ [shut], nor x = true := fun x hx => by
    rcases List.mem_append.mp hx with h | h
    · exact nor_mem w5 x (cut_sub h)
    · rw [List.mem_singleton.mp h]; exact s3
  have pv : plain v = true ∧ nor v = true ∧ (∀ ws, v = .lst ws → ws.all plain2 = true) ∧ isWalls v = false := by
    simp only [wallsV, List.mem_cons, List.not_mem_nil, or_false] at hv
    rcases hv with rfl | rfl | rfl | rfl | rfl | rfl
    · refine ⟨rfl, by simp only [nor]; exact nor_of alln, fun ws e => ?_, ?_⟩
      · injection e with e; rw [← e]; exact List.all_eq_true.mpr all2
      · simp [isWalls, s1]
    · exact ⟨rfl, rfl, fun ws e => by injection e with e; rw [← e]; rfl, rfl⟩
    · exact ⟨rfl, by simp only [nor]; exact w5, fun ws e => by injection e, rfl⟩
    · exact ⟨rfl, rfl, fun ws e => by (injection e), rfl⟩
    · exact ⟨rfl, rfl, fun ws e => by injection e with e; rw [← e]; rfl, rfl⟩
    · exact ⟨rfl, rfl, fun ws e => by (injection e), rfl⟩
  obtain ⟨p1, p2, p3, p4⟩ := pv
  refine ⟨.int m.lo, .int m.hi, .int m.place, .int m.pace, .int m.gain, .int m.lane, .int m.at_, .int m.wide, .int m.tall, v, by simp [Mach.ownD, ownL, putD, ofString_inj], ?_, p3, ?_, ?_⟩
  · simp only [List.all_cons, List.all_nil, p1, Bool.and_true, Bool.true_and] <;> rfl
  · simp [norL, p2, nor]
  · rw [hk]; simp [okAll, p4]
def wrdsD (ws : List String) : List D := ws.map fun w => .str (Str.ofString w)
def sp2 (k : Kd) : List String := ["least", "greatest", "pace", "gain", "place", "lane"] ++ match k with
  | .line => ["at"] | .trap => ["at"] | _ => []
def sp3 (k : Kd) : List String := sp2 k ++ match k with
  | .floor => ["walls"] | _ => ["wide"]
theorem sp4 (k : Kd) : spots k = sp3 k ++ match k with
  | .line => ["tall"] | .wagon => ["tall"] | _ => [] := by cases k <;> rfl
theorem spot2 {i1 s2 s4 s5 s6 s7 : Slot} : b__law_spoilt_2 [.val (.dic m.ownD), i1, s2, .val (.lst (wrdsD ["least", "greatest", "pace", "gain", "place", "lane"])), s4, s5, s6, s7] S = .nx [.val (.dic m.ownD), i1, s2, .val (.lst (wrdsD (sp2 m.k))), s4, s5, s6, s7] S := by
  have ho : lookD S (.dic m.ownD) = .dic m.ownD := rfl
  have c7 := sb_kind ho
  cases hk : m.k <;> rw [hk] at c7 <;> simp [b__law_spoilt_2, c7, cIn, flatD, eqD, Kd.txt, txt_ne, sp2, wrdsD, mDef, startD, sSeq, sNext, sSet, sRet, sRetV, sRetN, sIf, sExpr, sRaise, sAug, sPar, sTgt, sApp, sFrz, sTryAs, rBind, R.bind, mMap, mBin, mUn, mCmp, mChain, mFn, mCall, mAnd, mOr, mNot, mTru, mAndV, mOrV, mNotV, mIf, aNil, aCons, oLst, eVar, eC, lift2, liftB, lk_non, lk_bl, lk_int, lk_str, lk_ty, lk_cls, lk_lst, lk_tup, lk_dic, lk_obj, lk_exc, lk_ref, Slot.d, Cell.d, lt_s, le_s, gt_s, ge_s, cIsN, cIsNN, truD, fNeg, fAddI, fSubI, List.getElem?_cons_zero, List.getElem?_cons_succ, List.set_cons_zero, List.set_cons_succ, add_s, cat_s, sub_s, mFld, fFld, mMeth, mSl, pAt, pNo, mTM, mDisp, ppC, mGet1, mGet2, mRef, toRef, noErr, List.lookup_cons]
theorem spot3 {i1 s2 s4 s5 s6 s7 : Slot} : b__law_spoilt_3 [.val (.dic m.ownD), i1, s2, .val (.lst (wrdsD (sp2 m.k))), s4, s5, s6, s7] S = .nx [.val (.dic m.ownD), i1, s2, .val (.lst (wrdsD (sp3 m.k))), s4, s5, s6, s7] S := by
  have ho : lookD S (.dic m.ownD) = .dic m.ownD := rfl
  have c7 := sb_kind ho
  cases hk : m.k <;> rw [hk] at c7 <;> simp [b__law_spoilt_3, c7, eq_str, Kd.txt, txt_ne, sp2, sp3, wrdsD, mDef, startD, sSeq, sNext, sSet, sRet, sRetV, sRetN, sIf, sExpr, sRaise, sAug, sPar, sTgt, sApp, sFrz, sTryAs, rBind, R.bind, mMap, mBin, mUn, mCmp, mChain, mFn, mCall, mAnd, mOr, mNot, mTru, mAndV, mOrV, mNotV, mIf, aNil, aCons, oLst, eVar, eC, lift2, liftB, lk_non, lk_bl, lk_int, lk_str, lk_ty, lk_cls, lk_lst, lk_tup, lk_dic, lk_obj, lk_exc, lk_ref, Slot.d, Cell.d, lt_s, le_s, gt_s, ge_s, cIsN, cIsNN, truD, fNeg, fAddI, fSubI, List.getElem?_cons_zero, List.getElem?_cons_succ, List.set_cons_zero, List.set_cons_succ, add_s, cat_s, sub_s, mFld, fFld, mMeth, mSl, pAt, pNo, mTM, mDisp, ppC, mGet1, mGet2, mRef, toRef, noErr, List.lookup_cons]
theorem spot4 {i1 s2 s4 s5 s6 s7 : Slot} : b__law_spoilt_4 [.val (.dic m.ownD), i1, s2, .val (.lst (wrdsD (sp3 m.k))), s4, s5, s6, s7] S = .nx [.val (.dic m.ownD), i1, s2, .val (.lst (wrdsD (spots m.k))), s4, s5, s6, s7] S := by
  have ho : lookD S (.dic m.ownD) = .dic m.ownD := rfl
  have c7 := sb_kind ho
  rw [sp4]
  cases hk : m.k <;> rw [hk] at c7 <;> simp [b__law_spoilt_4, c7, cIn, flatD, eqD, Kd.txt, txt_ne, sp2, sp3, wrdsD, mDef, startD, sSeq, sNext, sSet, sRet, sRetV, sRetN, sIf, sExpr, sRaise, sAug, sPar, sTgt, sApp, sFrz, sTryAs, rBind, R.bind, mMap, mBin, mUn, mCmp, mChain, mFn, mCall, mAnd, mOr, mNot, mTru, mAndV, mOrV, mNotV, mIf, aNil, aCons, oLst, eVar, eC, lift2, liftB, lk_non, lk_bl, lk_int, lk_str, lk_ty, lk_cls, lk_lst, lk_tup, lk_dic, lk_obj, lk_exc, lk_ref, Slot.d, Cell.d, lt_s, le_s, gt_s, ge_s, cIsN, cIsNN, truD, fNeg, fAddI, fSubI, List.getElem?_cons_zero, List.getElem?_cons_succ, List.set_cons_zero, List.set_cons_succ, add_s, cat_s, sub_s, mFld, fFld, mMeth, mSl, pAt, pNo, mTM, mDisp, ppC, mGet1, mGet2, mRef, toRef, noErr, List.lookup_cons]
theorem spot5 {d : Int} {s2 s4 s5 s6 s7 : Slot} : ∃ w ∈ spots m.k, b__law_spoilt_5 [.val (.dic m.ownD), .val (.int d), s2, .val (.lst (wrdsD (spots m.k))), s4, s5, s6, s7] S = .nx [.val (.dic m.ownD), .val (.int d), s2, .val (.lst (wrdsD (spots m.k))), .val (.str (Str.ofString w)), s5, s6, s7] S := by
  have l0 : 0 < (wrdsD (spots m.k)).length := by cases m.k <;> simp [wrdsD, spots]
  have k1 := Int.emod_nonneg d (b := ((wrdsD (spots m.k)).length : Int)) (by omega)
  have k2 := Int.emod_lt_of_pos d (b := ((wrdsD (spots m.k)).length : Int)) (by omega)
  obtain ⟨x, hx, e⟩ := pick_mem (S := S) k1 k2
  obtain ⟨w, hw, rfl⟩ := List.mem_map.mp hx
  refine ⟨w, hw, ?_⟩
  have ln : fLen S [.lst (wrdsD (spots m.k))] = some (.val (.int ((wrdsD (spots m.k)).length : Int))) := rfl
  have md := mod_s (S := S) (i := d) (j := ((wrdsD (spots m.k)).length : Int)) (by omega)
  generalize wrdsD (spots m.k) = xs at *
  unfold b__law_spoilt_5
  exact set_eq (map_eq (f := Slot.val) (map_eq (f := Slot.d) (x := .val (.str (Str.ofString w))) (bin_eq (x := .lst xs) (y := .int (d % (xs.length : Int))) (S1 := S) rfl (map_eq (f := Slot.d) (x := .val (.int (d % (xs.length : Int)))) (bin_eq (x := .int d) (y := .int (xs.length : Int)) (S1 := S) rfl (map_eq (f := Slot.d) (x := .val (.int (xs.length : Int))) (call_eq (ds := [.lst xs]) (cons_eq (S1 := S) rfl rfl) ln)) md)) e)))
end
end FW
end
section
set_option maxHeartbeats 4000000
/-! the plain law: the dict that is spoilt, all of it. -/
namespace FW
open PySem
theorem keys_own {nm lo hi pl pc gn kd la at_ wd tl W : D} : keysD (ownL nm lo hi pl pc gn kd la at_ wd tl W) = true := by simp [keysD, hasD, ownL, ofString_inj]
theorem put_at {S X : Sto} {ks : List (L2.Key × D)} {k : Str} {d : D} (g : keysD ks = true) (hl : ks.length < 1000000) : putAt (S ++ some (.dic ks) :: X) (.ref S.length) (.str k) d = some (S ++ some (.dic (putD ks (.inr k) d)) :: X) := by
  have e : (S ++ some (Cell.dic ks) :: X)[S.length]? = some (some (.dic ks)) := by rw [List.getElem?_append_right (Nat.le_refl _), Nat.sub_self]; rfl
  have s : (S ++ some (Cell.dic ks) :: X).set S.length (some (.dic (putD ks (.inr k) d))) = S ++ some (.dic (putD ks (.inr k) d)) :: X := by
    rw [List.set_append_right _ _ (Nat.le_refl _), Nat.sub_self]; rfl
  simp only [putAt, e, keyD, g, hl, decide_true, Bool.and_true, if_true, s]
theorem put_nx {mo mi m : M D} {ρ : List Slot} {S S1 S2 S3 S4 : Sto} {d x j : D} (h : m ρ S = .ok d S1) (ho : mo ρ S1 = .ok x S2) (hi : mi ρ S2 = .ok j S3) (hp : putAt S3 x j d = some S4) : sPut mo mi m ρ S = .nx ρ S4 := by simp only [sPut, h, ho, hi, rBind, hp]
theorem pow40 {S : Sto} : opI2 fPow S (.int 10) (.int 40) = some (.val (.int 10000000000000000000000000000000000000000)) := rfl
theorem neg40 : fNeg (.int 10000000000000000000000000000000000000000) = some (.int (-10000000000000000000000000000000000000000)) := rfl
theorem neg9' : fNeg (.int 1000000000) = some (.int (-1000000000)) := rfl
section
variable {m : Mach} {S : Sto} {d : Int}
theorem vals_of {w : String} (hw : w ∈ spots m.k) : (w = "walls" ∧ m.k = .floor) ∨ (w ≠ "walls" ∧ (∃ b, valD (badKs m.lo m.hi) (.inr (Str.ofString w)) = some b) ∧ valD m.ownD (.inr (Str.ofString w)) = some (oldOf m w)) := by
  have cs : (w = "walls" ∧ m.k = .floor) ∨ w = "least" ∨ w = "greatest" ∨ w = "pace" ∨ w = "gain" ∨ w = "place" ∨ w = "lane" ∨ w = "at" ∨ w = "wide" ∨ w = "tall" := by
    cases hk : m.k <;> rw [hk] at hw <;> simp [spots] at hw ⊢ <;> (first | (rcases hw with rfl | rfl | rfl | rfl | rfl | rfl | rfl | rfl | rfl <;> simp) | (rcases hw with rfl | rfl | rfl | rfl | rfl | rfl | rfl | rfl <;> simp) | (rcases hw with rfl | rfl | rfl | rfl | rfl | rfl | rfl <;> simp))
  rcases cs with h | rfl | rfl | rfl | rfl | rfl | rfl | rfl | rfl | rfl
  · exact .inl h
  all_goals exact .inr ⟨by decide, by simp [badKs, dk, valD, ofString_inj], by simp [Mach.ownD, ownL, valD, ofString_inj, oldOf]⟩
theorem step6 {ρ : List Slot} {s2 s3 s4 s6 s7 : Slot} {S1 : Sto} (h : S1.length = S.length + 1) : b__law_spoilt_6 [.val (.dic m.ownD), .val (.int d), s2, s3, s4, .none, s6, s7] S1 = .nx [.val (.dic m.ownD), .val (.int d), s2, s3, s4, .val (.ref (S.length + 1)), s6, s7] (S1 ++ [some (.dic (dk [("least", .int (m.hi + 1)), ("greatest", .int 1000000001), ("pace", .int 0), ("gain", .int 1000000001), ("lane", .int 10)]))]) := by
  have ho : lookD S1 (.dic m.ownD) = .dic m.ownD := rfl
  have c3 := sb_greatest ho
  simp [b__law_spoilt_6, c3, pow9, keysOf, keyD, mergeD, putD, ofString_inj, dk, mRef, toRef, h, mDef, startD, sSeq, sNext, sSet, sRet, sRetV, sRetN, sIf, sExpr, sRaise, sAug, sPar, sTgt, sApp, sFrz, sTryAs, rBind, R.bind, mMap, mBin, mUn, mCmp, mChain, mFn, mCall, mAnd, mOr, mNot, mTru, mAndV, mOrV, mNotV, mIf, aNil, aCons, oLst, eVar, eC, lift2, liftB, lk_non, lk_bl, lk_int, lk_str, lk_ty, lk_cls, lk_lst, lk_tup, lk_dic, lk_obj, lk_exc, lk_ref, Slot.d, Cell.d, lt_s, le_s, gt_s, ge_s, cIsN, cIsNN, truD, fNeg, fAddI, fSubI, List.getElem?_cons_zero, List.getElem?_cons_succ, List.set_cons_zero, List.set_cons_succ, add_s, cat_s, sub_s, mFld, fFld, mMeth, mSl, pAt, pNo, mTM, mDisp, ppC, mGet1, mGet2, mRef, toRef, noErr, List.lookup_cons]
theorem step7 {s2 s3 s4 s6 s7 : Slot} : b__law_spoilt_7 [.val (.dic m.ownD), .val (.int d), s2, s3, s4, .val (.ref (S.length + 1)), s6, s7] (S ++ some (.dic m.ownD) :: [some (.dic (dk [("least", .int (m.hi + 1)), ("greatest", .int 1000000001), ("pace", .int 0), ("gain", .int 1000000001), ("lane", .int 10)]))]) = .nx [.val (.dic m.ownD), .val (.int d), s2, s3, s4, .val (.ref (S.length + 1)), s6, s7] (S ++ some (.dic m.ownD) :: [some (.dic (badKs m.lo m.hi))]) := by
  have ho : ∀ S1, lookD S1 (.dic m.ownD) = .dic m.ownD := fun _ => rfl
  have e1 : (S ++ some (Cell.dic m.ownD) :: [some (Cell.dic (dk [("least", D.int (m.hi + 1)), ("greatest", .int 1000000001), ("pace", .int 0), ("gain", .int 1000000001), ("lane", .int 10)]))])[S.length + 1]? = some (some (.dic (dk [("least", .int (m.hi + 1)), ("greatest", .int 1000000001), ("pace", .int 0), ("gain", .int 1000000001), ("lane", .int 10)]))) := by rw [List.getElem?_append_right (by omega), show S.length + 1 - S.length = 1 by omega]; rfl
  have s1 : ∀ c : Option Cell, (S ++ some (Cell.dic m.ownD) :: [some (Cell.dic (dk [("least", D.int (m.hi + 1)), ("greatest", .int 1000000001), ("pace", .int 0), ("gain", .int 1000000001), ("lane", .int 10)]))]).set (S.length + 1) c = S ++ some (Cell.dic m.ownD) :: [c] := fun c => by
    rw [List.set_append_right _ _ (by omega), show S.length + 1 - S.length = 1 by omega]; rfl
  have kk : keysD (dk [("least", .int (m.hi + 1)), ("greatest", .int 1000000001), ("pace", .int 0), ("gain", .int 1000000001), ("lane", .int 10)]) = true := keys_dist rfl
  generalize hS : S ++ some (.dic m.ownD) :: [some (.dic (dk [("least", .int (m.hi + 1)), ("greatest", .int 1000000001), ("pace", .int 0), ("gain", .int 1000000001), ("lane", .int 10)]))] = S1 at *
  have c2 := sb_least (ho S1)
  have dm : mMap Slot.d (mDisp (ppC (eC (.str (Str.ofString "place"))) (mMap Slot.d (mBin opSub (mMap Slot.d (mBin opSb (eVar 0) (eC (.str (Str.ofString "least"))))) (eC (.int (1))))) (ppC (eC (.str (Str.ofString "at"))) (mMap Slot.d (mBin opSub (mUn fNeg (mMap Slot.d (mBin (opI2 fPow) (eC (.int (10))) (eC (.int (9)))))) (eC (.int (1))))) (ppC (eC (.str (Str.ofString "wide"))) (mMap Slot.d (mBin opAdd (mMap Slot.d (mBin (opI2 fPow) (eC (.int (10))) (eC (.int (6))))) (eC (.int (1))))) (ppC (eC (.str (Str.ofString "tall"))) (eC (.int (0))) (eC [])))))) [.val (.dic m.ownD), .val (.int d), s2, s3, s4, .val (.ref (S.length + 1)), s6, s7] S1 = .ok (.dic (dk [("place", .int (m.lo - 1)), ("at", .int (-1000000001)), ("wide", .int 1000001), ("tall", .int 0)])) S1 := by
    simp [c2, pow9, pow6, neg9', mUn, keysOf, keyD, mergeD, putD, ofString_inj, dk, mDef, startD, sSeq, sNext, sSet, sRet, sRetV, sRetN, sIf, sExpr, sRaise, sAug, sPar, sTgt, sApp, sFrz, sTryAs, rBind, R.bind, mMap, mBin, mUn, mCmp, mChain, mFn, mCall, mAnd, mOr, mNot, mTru, mAndV, mOrV, mNotV, mIf, aNil, aCons, oLst, eVar, eC, lift2, liftB, lk_non, lk_bl, lk_int, lk_str, lk_ty, lk_cls, lk_lst, lk_tup, lk_dic, lk_obj, lk_exc, lk_ref, Slot.d, Cell.d, lt_s, le_s, gt_s, ge_s, cIsN, cIsNN, truD, fNeg, fAddI, fSubI, List.getElem?_cons_zero, List.getElem?_cons_succ, List.set_cons_zero, List.set_cons_succ, add_s, cat_s, sub_s, mFld, fFld, mMeth, mSl, pAt, pNo, mTM, mDisp, ppC, mGet1, mGet2, mRef, toRef, noErr, List.lookup_cons]
  unfold b__law_spoilt_7 sUpd
  rw [show eVar 5 [.val (.dic m.ownD), .val (.int d), s2, s3, s4, .val (.ref (S.length + 1)), s6, s7] S1 = .ok (.ref (S.length + 1)) S1 from rfl]
  simp only [rBind, e1, dm, kk, s1]
  simp [dk, mergeD, putD, ofString_inj, badKs]
theorem step8 {s2 s3 s4 s5 s7 : Slot} : ∃ x ∈ shuts, b__law_spoilt_8 [.val (.dic m.ownD), .val (.int d), s2, s3, s4, s5, .none, s7] S = .nx [.val (.dic m.ownD), .val (.int d), s2, s3, s4, s5, .val x, s7] S := by
  have k1 := Int.emod_nonneg (d / 50) (b := 7) (by decide)
  have k2 := Int.emod_lt_of_pos (d / 50) (b := 7) (by decide)
  obtain ⟨x, hx, e⟩ := pick_mem (S := S) (xs := shuts) k1 (by simpa [shuts] using k2)
  refine ⟨x, hx, ?_⟩
  unfold b__law_spoilt_8
  refine set_eq (map_eq (f := Slot.val) (map_eq (f := Slot.d) (x := .val x) (bin_eq (x := .lst shuts) (y := .int (d / 50 % 7)) (S1 := S) ?_ ?_ e)))
  · simp [shuts, pow6, mDef, startD, sSeq, sNext, sSet, sRet, sRetV, sRetN, sIf, sExpr, sRaise, sAug, sPar, sTgt, sApp, sFrz, sTryAs, rBind, R.bind, mMap, mBin, mUn, mCmp, mChain, mFn, mCall, mAnd, mOr, mNot, mTru, mAndV, mOrV, mNotV, mIf, aNil, aCons, oLst, eVar, eC, lift2, liftB, lk_non, lk_bl, lk_int, lk_str, lk_ty, lk_cls, lk_lst, lk_tup, lk_dic, lk_obj, lk_exc, lk_ref, Slot.d, Cell.d, lt_s, le_s, gt_s, ge_s, cIsN, cIsNN, truD, fNeg, fAddI, fSubI, List.getElem?_cons_zero, List.getElem?_cons_succ, List.set_cons_zero, List.set_cons_succ, add_s, cat_s, sub_s, mFld, fFld, mMeth, mSl, pAt, pNo, mTM, mDisp, ppC, mGet1, mGet2, mRef, toRef, noErr, List.lookup_cons]
  · simp (disch := omega) [div_s, mod_s, mDef, startD, sSeq, sNext, sSet, sRet, sRetV, sRetN, sIf, sExpr, sRaise, sAug, sPar, sTgt, sApp, sFrz, sTryAs, rBind, R.bind, mMap, mBin, mUn, mCmp, mChain, mFn, mCall, mAnd, mOr, mNot, mTru, mAndV, mOrV, mNotV, mIf, aNil, aCons, oLst, eVar, eC, lift2, liftB, lk_non, lk_bl, lk_int, lk_str, lk_ty, lk_cls, lk_lst, lk_tup, lk_dic, lk_obj, lk_exc, lk_ref, Slot.d, Cell.d, lt_s, le_s, gt_s, ge_s, cIsN, cIsNN, truD, fNeg, fAddI, fSubI, List.getElem?_cons_zero, List.getElem?_cons_succ, List.set_cons_zero, List.set_cons_succ, add_s, cat_s, sub_s, mFld, fFld, mMeth, mSl, pAt, pNo, mTM, mDisp, ppC, mGet1, mGet2, mRef, toRef, noErr, List.lookup_cons]
end
end FW
end
section
set_option maxHeartbeats 4000000
/-! the plain law: the dict that is spoilt, all of it. -/
namespace FW
open PySem
section
variable {m : Mach} {S : Sto} {d : Int}
theorem lk_n {X : Sto} {c : Cell} : (S ++ some c :: X)[S.length]? = some (some c) := by rw [List.getElem?_append_right (Nat.le_refl _), Nat.sub_self]; rfl
theorem lk_n1 {X : Sto} {c e : Cell} : (S ++ some c :: some e :: X)[S.length + 1]? = some (some e) := by rw [List.getElem?_append_right (by omega), show S.length + 1 - S.length = 1 by omega]; rfl
theorem get_in {S : Sto} {x y z v : D} {ks : List (L2.Key × D)} {k : L2.Key} (hx : lookD S x = .dic ks) (hk : keyD y = some k) (h : valD ks k = some v) : isDic S x = true ∧ getD_ S x y z = some v := by
  constructor
  · simp only [isDic, hx]
  · simp only [getD_, hx, hk, h]
theorem get_out {S : Sto} {x y z : D} {ks : List (L2.Key × D)} {k : L2.Key} (hx : lookD S x = .dic ks) (hk : keyD y = some k) (h : valD ks k = none) : isDic S x = true ∧ getD_ S x y z = some z := by
  constructor
  · simp only [isDic, hx]
  · simp only [getD_, hx, hk, h]
theorem get1_eq {mo me : M D} {ρ : List Slot} {S S1 S2 : Sto} {x y v : D} (h1 : mo ρ S = .ok x S1) (h2 : me ρ S1 = .ok y S2) (h3 : isDic S1 x = true) (h4 : getD_ S2 x y .non = some v) : mGet1 mo me ρ S = .ok v S2 := by simp only [mGet1, h1, h2, h3, h4, R.bind, if_true]
theorem get2_eq {mo me mz : M D} {ρ : List Slot} {S S1 S2 S3 : Sto} {x y z v : D} (h1 : mo ρ S = .ok x S1) (h2 : me ρ S1 = .ok y S2) (h5 : mz ρ S2 = .ok z S3) (h3 : isDic S1 x = true) (h4 : getD_ S3 x y z = some v) : mGet2 mo me mz ρ S = .ok v S3 := by simp only [mGet2, h1, h2, h3, h4, h5, R.bind, if_true]
theorem walls_plus {ρ : List Slot} {sh : D} (hm : m.Ok) (h0 : eVar 0 ρ S = .ok (.dic m.ownD) S) (h6 : eVar 6 ρ S = .ok sh S) : mMap Slot.d (mBin opAdd (mMap Slot.d (mBin opSb (eVar 0) (eC (.str (Str.ofString "walls"))))) (mMap Slot.d (oLst (aCons (eVar 6) aNil)))) ρ S = .ok (.lst (m.walls.map wallD ++ [sh])) S := by
  have ho : lookD S (.dic m.ownD) = .dic m.ownD := rfl
  have c := sb_walls ho
  have l : m.walls.length + 1 ≤ 1000000 := by have := hm.wl2; omega
  exact map_eq (f := Slot.d) (x := .own (.lst (m.walls.map wallD ++ [sh]))) (bin_eq (x := .lst (m.walls.map wallD)) (y := .lst [sh]) (S1 := S) (map_eq (f := Slot.d) (bin_eq h0 rfl c)) (map_eq (f := Slot.d) (x := .own (.lst [sh])) (lst_eq (cons_eq h6 rfl))) (by simp [cat_s, l]))
theorem step9 {s3 s7 sh : D} {w : String} {r1 r2 : D} {n3 : Slot} (hm : m.Ok) {B : List (L2.Key × D)}
    (hb : getD_ (S ++ some (.dic m.ownD) :: [some (.dic B)]) (.ref (S.length + 1)) (.str (Str.ofString w)) (.lst (m.walls.map wallD ++ [sh])) = some r1) (ho : valD m.ownD (.inr (Str.ofString w)) = some r2) :
    b__law_spoilt_9 [.val (.dic m.ownD), .val (.int d), .val (.ref S.length), n3, .val (.str (Str.ofString w)), .val (.ref (S.length + 1)), .val sh, .none] (S ++ some (.dic m.ownD) :: [some (.dic B)]) = .nx [.val (.dic m.ownD), .val (.int d), .val (.ref S.length), n3, .val (.str (Str.ofString w)), .val (.ref (S.length + 1)), .val sh, .val (.lst (oddV r1 r2))] (S ++ some (.dic m.ownD) :: [some (.dic B)]) := by
  have hl : lookD (S ++ some (.dic m.ownD) :: [some (.dic B)]) (.ref (S.length + 1)) = .dic B := by simp only [lk_ref, lk_n1, Cell.d]
  have isd : isDic (S ++ some (.dic m.ownD) :: [some (.dic B)]) (.ref (S.length + 1)) = true := by simp only [isDic, hl]
  generalize hS : S ++ some (.dic m.ownD) :: [some (.dic B)] = S1 at *
  have g2 := get_in (S := S1) (x := .dic m.ownD) (y := .str (Str.ofString w)) (z := .non) (ks := m.ownD) rfl rfl ho
  have wp := walls_plus (S := S1) (ρ := [.val (.dic m.ownD), .val (.int d), .val (.ref S.length), n3, .val (.str (Str.ofString w)), .val (.ref (S.length + 1)), .val sh, .none]) (sh := sh) hm rfl rfl
  unfold b__law_spoilt_9
  refine set_eq (map_eq (f := Slot.val) (map_eq (f := Slot.d) (x := .own (.lst (oddV r1 r2))) (lst_eq (cons_eq (get2_eq (x := .ref (S.length + 1)) (y := .str (Str.ofString w)) (S1 := S1) (S2 := S1) rfl rfl wp isd hb) (cons_eq (x := .non) (S1 := S1) rfl (cons_eq (x := .bl true) (S1 := S1) rfl (cons_eq (x := .str (Str.ofString "1")) (S1 := S1) rfl (cons_eq (x := .lst [r2]) (S1 := S1) (map_eq (f := Slot.d) (x := .own (.lst [r2])) (lst_eq (cons_eq (get1_eq (x := .dic m.ownD) (y := .str (Str.ofString w)) (S1 := S1) rfl rfl g2.1 g2.2) rfl))) (cons_eq (x := .int (-10000000000000000000000000000000000000000)) (S1 := S1) ?_ rfl)))))))))
  simp [pow40, neg40, mUn, mDef, startD, sSeq, sNext, sSet, sRet, sRetV, sRetN, sIf, sExpr, sRaise, sAug, sPar, sTgt, sApp, sFrz, sTryAs, rBind, R.bind, mMap, mBin, mUn, mCmp, mChain, mFn, mCall, mAnd, mOr, mNot, mTru, mAndV, mOrV, mNotV, mIf, aNil, aCons, oLst, eVar, eC, lift2, liftB, lk_non, lk_bl, lk_int, lk_str, lk_ty, lk_cls, lk_lst, lk_tup, lk_dic, lk_obj, lk_exc, lk_ref, Slot.d, Cell.d, lt_s, le_s, gt_s, ge_s, cIsN, cIsNN, truD, fNeg, fAddI, fSubI, List.getElem?_cons_zero, List.getElem?_cons_succ, List.set_cons_zero, List.set_cons_succ, add_s, cat_s, sub_s, mFld, fFld, mMeth, mSl, pAt, pNo, mTM, mDisp, ppC, mGet1, mGet2, mRef, toRef, noErr, List.lookup_cons]
theorem step10n {ρ : List Slot} {w : String} (hw : w ≠ "walls") (h4 : eVar 4 ρ S = .ok (.str (Str.ofString w)) S) : b__law_spoilt_10 ρ S = .nx ρ S := by
  unfold b__law_spoilt_10
  refine if_f (S1 := S) (cmp_eq (x := .str (Str.ofString w)) (y := .str (Str.ofString "walls")) (S1 := S) h4 rfl ?_) rfl
  simp [eq_str, ofString_inj, hw]
theorem step10w {s2 s3 s5 s7 : Slot} {sh : D} (hm : m.Ok) : b__law_spoilt_10 [.val (.dic m.ownD), .val (.int d), s2, s3, .val (.str (Str.ofString "walls")), s5, .val sh, s7] S = .nx [.val (.dic m.ownD), .val (.int d), s2, s3, .val (.str (Str.ofString "walls")), s5, .val sh, .val (.lst (wallsV m sh))] S := by
  have ho : lookD S (.dic m.ownD) = .dic m.ownD := rfl
  have c := sb_walls ho
  have l : (cutD (m.walls.map wallD) none (some 3)).length + 1 ≤ 1000000 := by
    have h1 : (cutD (m.walls.map wallD) none (some 3)).length ≤ (m.walls.map wallD).length := by
      unfold cutD
      exact Nat.le_trans (List.length_take_le' _ _) (by simp)
    have h2 := hm.wl2
    simp only [List.length_map] at h1
    omega
  unfold b__law_spoilt_10
  refine if_t (S1 := S) (cmp_eq (x := .str (Str.ofString "walls")) (y := .str (Str.ofString "walls")) (S1 := S) rfl rfl (by simp [eq_str])) ?_
  refine seq_nx (set_eq (map_eq (f := Slot.val) (map_eq (f := Slot.d) (x := .own (.lst (wallsV m sh))) (lst_eq (ds := wallsV m sh) (S1 := S) ?_)))) rfl
  have wv : mMap Slot.d (mBin opSb (eVar 0) (eC (.str (Str.ofString "walls")))) [.val (.dic m.ownD), .val (.int d), s2, s3, .val (.str (Str.ofString "walls")), s5, .val sh, s7] S = .ok (.lst (m.walls.map wallD)) S := map_eq (f := Slot.d) (bin_eq (x := .dic m.ownD) (y := .str (Str.ofString "walls")) (S1 := S) rfl rfl c)
  refine cons_eq (S1 := S) (map_eq (f := Slot.d) (x := .own (.lst (cutD (m.walls.map wallD) none (some 3) ++ [sh]))) (bin_eq (x := .lst (cutD (m.walls.map wallD) none (some 3))) (y := .lst [sh]) (S1 := S) (map_eq (f := Slot.d) (x := .own (.lst (cutD (m.walls.map wallD) none (some 3)))) ?_) rfl (by simp [cat_s, l]))) ?_
  · simp only [mSl, wv, R.bind, pNo, pAt, eC, opSl, lk_lst]
  · refine cons_eq (S1 := S) rfl (cons_eq (S1 := S) (map_eq (f := Slot.d) (x := .val (.tup (m.walls.map wallD))) (call_eq (cons_eq wv rfl) rfl)) (cons_eq (S1 := S) rfl (cons_eq (S1 := S) ?_ rfl)))
    rfl
end
end FW
end
section
set_option maxHeartbeats 4000000
/-! the plain law: the dict that is spoilt; it is refused. -/
namespace FW
open PySem
/-- the dict that is spoilt -/
structure SpoiltD (m : Mach) (ks : List (L2.Key × D)) : Prop where
  ex : ∃ nm lo hi pl pc gn la at_ wd tl W, ks = ownL nm lo hi pl pc gn (.str m.k.txt) la at_ wd tl W ∧ [lo, hi, pl, pc, gn, la, at_, wd, tl, W].all plain = true ∧ (∀ ws, W = .lst ws → ws.all plain2 = true) ∧ okAll m.k lo hi pl pc gn la at_ wd tl W = false ∧ (nm = .str m.nm ∨ nm ∈ names)
section
variable {m : Mach} {S : Sto} {d : Int}
theorem nor_put {nm lo hi pl pc gn la at_ wd tl W : D} {k : Str} (h0 : nor nm = true) (h : norL [lo, hi, pl, pc, gn, la, at_, wd, tl, W] = true) : nor (.dic (ownL nm lo hi pl pc gn (.str k) la at_ wd tl W)) = true := by
  simp only [norL, Bool.and_eq_true] at h
  simp [nor, norK, ownL, h0, h]
theorem put_name {nm nm2 lo hi pl pc gn kd la at_ wd tl W : D} : putD (ownL nm lo hi pl pc gn kd la at_ wd tl W) (.inr (Str.ofString "name")) nm2 = ownL nm2 lo hi pl pc gn kd la at_ wd tl W := by simp [ownL, putD]
theorem step12 {ρ : List Slot} {B : List (L2.Key × D)} {nm lo hi pl pc gn kd la at_ wd tl W : D} (h1 : ∀ S, eVar 1 ρ S = .ok (.int d) S) (h2 : ∀ S', eVar 2 ρ S' = .ok (.ref S.length) S') :
    ∃ nm2, (nm2 = nm ∨ nm2 ∈ names) ∧ b__law_spoilt_12 ρ (S ++ some (.dic (ownL nm lo hi pl pc gn kd la at_ wd tl W)) :: [some (.dic B)]) = .nx ρ (S ++ some (.dic (ownL nm2 lo hi pl pc gn kd la at_ wd tl W)) :: [some (.dic B)]) := by
  have ct : mCmp cEq (mMap Slot.d (mBin (opI2 fMod) (mMap Slot.d (mBin (opI2 fDiv) (eVar 1) (eC (.int (2400))))) (eC (.int (3))))) (eC (.int (1))) ρ (S ++ some (.dic (ownL nm lo hi pl pc gn kd la at_ wd tl W)) :: [some (.dic B)]) = .ok (decide (d / 2400 % 3 = 1)) (S ++ some (.dic (ownL nm lo hi pl pc gn kd la at_ wd tl W)) :: [some (.dic B)]) := by
    refine cmp_eq (x := .int (d / 2400 % 3)) (y := .int 1) (map_eq (f := Slot.d) (bin_eq (x := .int (d / 2400)) (y := .int 3) (map_eq (f := Slot.d) (bin_eq (x := .int d) (y := .int 2400) (h1 _) rfl (div_s (by decide) (by decide)))) rfl (mod_s (by decide)))) rfl rfl
  unfold b__law_spoilt_12
  by_cases q : d / 2400 % 3 = 1
  · have k1 := Int.emod_nonneg (d / 7200) (b := 8) (by decide)
    have k2 := Int.emod_lt_of_pos (d / 7200) (b := 8) (by decide)
    obtain ⟨x, hx, e⟩ := pick_mem (S := S ++ some (.dic (ownL nm lo hi pl pc gn kd la at_ wd tl W)) :: [some (.dic B)]) (xs := names) k1 (by simpa [names] using k2)
    refine ⟨x, .inr hx, if_t (S1 := S ++ some (.dic (ownL nm lo hi pl pc gn kd la at_ wd tl W)) :: [some (.dic B)]) (by rw [ct]; simp [q]) (seq_nx (put_nx (d := x) (x := .ref S.length) (j := .str (Str.ofString "name")) (map_eq (f := Slot.d) (x := .val x) (bin_eq (x := .lst names) (y := .int (d / 7200 % 8)) (S1 := S ++ some (.dic (ownL nm lo hi pl pc gn kd la at_ wd tl W)) :: [some (.dic B)]) ?_ ?_ e)) (h2 _) rfl ((put_at keys_own (by simp [ownL])).trans (by rw [put_name]))) rfl)⟩
    · rfl
    · exact map_eq (f := Slot.d) (bin_eq (x := .int (d / 7200)) (y := .int 8) (map_eq (f := Slot.d) (bin_eq (x := .int d) (y := .int 7200) (h1 _) rfl (div_s (by decide) (by decide)))) rfl (mod_s (by decide)))
  · exact ⟨nm, .inl rfl, if_f (S1 := S ++ some (.dic (ownL nm lo hi pl pc gn kd la at_ wd tl W)) :: [some (.dic B)]) (by rw [ct]; simp [q]) rfl⟩
theorem own_len : m.ownD.length < 1000000 := by simp [Mach.ownD, ownL]
theorem spoilt_steps (hm : m.Ok) : ∃ ks, SpoiltD m ks ∧ nor (.dic ks) = true ∧ b__law_spoilt [.val (.dic m.ownD), .val (.int d), .none, .none, .none, .none, .none, .none] S = .rt (.val (.ref S.length)) (S ++ some (.dic ks) :: [some (.dic (badKs m.lo m.hi))]) := by
  have a0 : b__law_spoilt_0 [.val (.dic m.ownD), .val (.int d), .none, .none, .none, .none, .none, .none] S = .nx [.val (.dic m.ownD), .val (.int d), .val (.ref S.length), .none, .none, .none, .none, .none] (S ++ [some (.dic m.ownD)]) := by
    simp [b__law_spoilt_0, fDict, mRef, toRef, mDef, startD, sSeq, sNext, sSet, sRet, sRetV, sRetN, sIf, sExpr, sRaise, sAug, sPar, sTgt, sApp, sFrz, sTryAs, rBind, R.bind, mMap, mBin, mUn, mCmp, mChain, mFn, mCall, mAnd, mOr, mNot, mTru, mAndV, mOrV, mNotV, mIf, aNil, aCons, oLst, eVar, eC, lift2, liftB, lk_non, lk_bl, lk_int, lk_str, lk_ty, lk_cls, lk_lst, lk_tup, lk_dic, lk_obj, lk_exc, lk_ref, Slot.d, Cell.d, lt_s, le_s, gt_s, ge_s, cIsN, cIsNN, truD, fNeg, fAddI, fSubI, List.getElem?_cons_zero, List.getElem?_cons_succ, List.set_cons_zero, List.set_cons_succ, add_s, cat_s, sub_s, mFld, fFld, mMeth, mSl, pAt, pNo, mTM, mDisp, ppC, mGet1, mGet2, mRef, toRef, noErr, List.lookup_cons]
  have a1 : b__law_spoilt_1 [.val (.dic m.ownD), .val (.int d), .val (.ref S.length), .none, .none, .none, .none, .none] (S ++ [some (.dic m.ownD)]) = .nx [.val (.dic m.ownD), .val (.int d), .val (.ref S.length), .val (.lst (wrdsD ["least", "greatest", "pace", "gain", "place", "lane"])), .none, .none, .none, .none] (S ++ [some (.dic m.ownD)]) := by
    simp [b__law_spoilt_1, wrdsD, mDef, startD, sSeq, sNext, sSet, sRet, sRetV, sRetN, sIf, sExpr, sRaise, sAug, sPar, sTgt, sApp, sFrz, sTryAs, rBind, R.bind, mMap, mBin, mUn, mCmp, mChain, mFn, mCall, mAnd, mOr, mNot, mTru, mAndV, mOrV, mNotV, mIf, aNil, aCons, oLst, eVar, eC, lift2, liftB, lk_non, lk_bl, lk_int, lk_str, lk_ty, lk_cls, lk_lst, lk_tup, lk_dic, lk_obj, lk_exc, lk_ref, Slot.d, Cell.d, lt_s, le_s, gt_s, ge_s, cIsN, cIsNN, truD, fNeg, fAddI, fSubI, List.getElem?_cons_zero, List.getElem?_cons_succ, List.set_cons_zero, List.set_cons_succ, add_s, cat_s, sub_s, mFld, fFld, mMeth, mSl, pAt, pNo, mTM, mDisp, ppC, mGet1, mGet2, mRef, toRef, noErr, List.lookup_cons]
  obtain ⟨w, hw, a5⟩ := spot5 (m := m) (S := S ++ [some (.dic m.ownD)]) (d := d) (s2 := .val (.ref S.length)) (s4 := .none) (s5 := .none) (s6 := .none) (s7 := .none)
  have a6 := step6 (m := m) (S := S) (d := d) (s2 := .val (.ref S.length)) (s3 := .val (.lst (wrdsD (spots m.k)))) (s4 := .val (.str (Str.ofString w))) (s6 := .none) (s7 := .none) (ρ := []) (S1 := S ++ [some (.dic m.ownD)]) (by simp)
  rw [List.append_assoc, List.singleton_append] at a6
  have a7 := step7 (m := m) (S := S) (d := d) (s2 := .val (.ref S.length)) (s3 := .val (.lst (wrdsD (spots m.k)))) (s4 := .val (.str (Str.ofString w))) (s6 := .none) (s7 := .none)
  obtain ⟨sh, hs, a8⟩ := step8 (m := m) (S := S ++ some (.dic m.ownD) :: [some (.dic (badKs m.lo m.hi))]) (d := d) (s2 := .val (.ref S.length)) (s3 := .val (.lst (wrdsD (spots m.k)))) (s4 := .val (.str (Str.ofString w))) (s5 := .val (.ref (S.length + 1))) (s7 := .none)
  have hl : lookD (S ++ some (.dic m.ownD) :: [some (.dic (badKs m.lo m.hi))]) (.ref (S.length + 1)) = .dic (badKs m.lo m.hi) := by simp only [lk_ref, lk_n1, Cell.d]
  -- what is put in
  have key : ∃ some6 : List D, some6.length = 6 ∧ (∀ v ∈ some6, Spoilt m (putD m.ownD (.inr (Str.ofString w)) v)) ∧ ∀ k : MS, sSeq b__law_spoilt_9 (sSeq b__law_spoilt_10 k) [.val (.dic m.ownD), .val (.int d), .val (.ref S.length), .val (.lst (wrdsD (spots m.k))), .val (.str (Str.ofString w)), .val (.ref (S.length + 1)), .val sh, .none] (S ++ some (.dic m.ownD) :: [some (.dic (badKs m.lo m.hi))]) = k [.val (.dic m.ownD), .val (.int d), .val (.ref S.length), .val (.lst (wrdsD (spots m.k))), .val (.str (Str.ofString w)), .val (.ref (S.length + 1)), .val sh, .val (.lst some6)] (S ++ some (.dic m.ownD) :: [some (.dic (badKs m.lo m.hi))]) := by
    rcases vals_of hw with ⟨rfl, hk⟩ | ⟨hn, ⟨b, hb⟩, ho⟩
    · have g := get_out (S := S ++ some (.dic m.ownD) :: [some (.dic (badKs m.lo m.hi))]) (x := .ref (S.length + 1)) (y := .str (Str.ofString "walls")) (z := .lst (m.walls.map wallD ++ [sh])) (k := .inr (Str.ofString "walls")) hl rfl (by simp [badKs, dk, valD, ofString_inj])
      have a9 := step9 (S := S) (d := d) (s3 := .non) (s7 := .non) (sh := sh) (w := "walls") (n3 := .val (.lst (wrdsD (spots m.k)))) hm g.2 (r2 := .lst (m.walls.map wallD)) (by simp [Mach.ownD, ownL, valD, ofString_inj])
      exact ⟨wallsV m sh, rfl, fun v hv => spoilt_walls hm hk hs hv, fun k => seq_nx a9 (seq_nx (step10w hm) rfl)⟩
    · have g := get_in (S := S ++ some (.dic m.ownD) :: [some (.dic (badKs m.lo m.hi))]) (x := .ref (S.length + 1)) (y := .str (Str.ofString w)) (z := .lst (m.walls.map wallD ++ [sh])) (k := .inr (Str.ofString w)) hl rfl hb
      have a9 := step9 (S := S) (d := d) (s3 := .non) (s7 := .non) (sh := sh) (w := w) (n3 := .val (.lst (wrdsD (spots m.k)))) hm g.2 ho
      exact ⟨oddV b (oldOf m w), rfl, fun v hv => spoilt_num hm hw hn hb hv, fun k => seq_nx a9 (seq_nx (step10n hn rfl) rfl)⟩
  obtain ⟨some6, l6, sp, go⟩ := key
  have k1 := Int.emod_nonneg (d / 400) (b := 6) (by decide)
  have k2 := Int.emod_lt_of_pos (d / 400) (b := 6) (by decide)
  obtain ⟨v, hv, e⟩ := pick_mem (S := S ++ some (.dic m.ownD) :: [some (.dic (badKs m.lo m.hi))]) (xs := some6) k1 (by rw [l6]; exact k2)
  obtain ⟨lo, hi, pl, pc, gn, la, at_, wd, tl, W, e1, e2, e3, e4, e5⟩ := (sp v hv).ex
  have a11 : b__law_spoilt_11 [.val (.dic m.ownD), .val (.int d), .val (.ref S.length), .val (.lst (wrdsD (spots m.k))), .val (.str (Str.ofString w)), .val (.ref (S.length + 1)), .val sh, .val (.lst some6)] (S ++ some (.dic m.ownD) :: [some (.dic (badKs m.lo m.hi))]) = .nx [.val (.dic m.ownD), .val (.int d), .val (.ref S.length), .val (.lst (wrdsD (spots m.k))), .val (.str (Str.ofString w)), .val (.ref (S.length + 1)), .val sh, .val (.lst some6)] (S ++ some (.dic (ownL (.str m.nm) lo hi pl pc gn (.str m.k.txt) la at_ wd tl W)) :: [some (.dic (badKs m.lo m.hi))]) := by
    rw [← e1]
    refine put_nx (d := v) (x := .ref S.length) (j := .str (Str.ofString w)) (map_eq (f := Slot.d) (x := .val v) (bin_eq (x := .lst some6) (y := .int (d / 400 % 6)) rfl ?_ e)) rfl rfl (put_at keys_own own_len)
    exact map_eq (f := Slot.d) (bin_eq (x := .int (d / 400)) (y := .int 6) (map_eq (f := Slot.d) (bin_eq (x := .int d) (y := .int 400) rfl rfl (div_s (by decide) (by decide)))) rfl (mod_s (by decide)))
  obtain ⟨nm2, hnm, a12⟩ := step12 (S := S) (d := d) (ρ := [.val (.dic m.ownD), .val (.int d), .val (.ref S.length), .val (.lst (wrdsD (spots m.k))), .val (.str (Str.ofString w)), .val (.ref (S.length + 1)), .val sh, .val (.lst some6)]) (B := badKs m.lo m.hi) (nm := .str m.nm) (lo := lo) (hi := hi) (pl := pl) (pc := pc) (gn := gn) (kd := .str m.k.txt) (la := la) (at_ := at_) (wd := wd) (tl := tl) (W := W) (fun _ => rfl) (fun _ => rfl)
  have nn : nor nm2 = true := by
    rcases hnm with h | h
    · rw [h]; rfl
    · exact (names_bad _ h).2.2.1
  refine ⟨ownL nm2 lo hi pl pc gn (.str m.k.txt) la at_ wd tl W, ⟨nm2, lo, hi, pl, pc, gn, la, at_, wd, tl, W, rfl, e2, e3, e5, hnm⟩, nor_put nn e4, ?_⟩
  unfold b__law_spoilt
  refine seq_nx a0 (seq_nx a1 (seq_nx spot2 (seq_nx spot3 (seq_nx spot4 (seq_nx a5 (seq_nx a6 (seq_nx a7 (seq_nx a8 ?_))))))))
  rw [go]
  exact seq_nx a11 (seq_nx a12 (seq_rt rfl))
theorem e_spoilt (hm : m.Ok) : ∃ ks, SpoiltD m ks ∧ c__law_spoilt [.dic m.ownD, .int d] S = .ok (.val (.dic ks)) S := by
  obtain ⟨ks, sp, nk, h⟩ := spoilt_steps (S := S) (d := d) hm
  have a := mdef_rt (N := N__law_spoilt) (ds := [.dic m.ownD, .int d]) (ρ := [.val (.dic m.ownD), .val (.int d), .none, .none, .none, .none, .none, .none]) (by simp [startD, N__law_spoilt]) h
  refine ⟨ks, sp, ?_⟩
  have e0 := lk_n (S := S) (X := [some (.dic (badKs m.lo m.hi))]) (c := .dic ks)
  have tk : (S ++ some (Cell.dic ks) :: [some (Cell.dic (badKs m.lo m.hi))]).take S.length = S := by simp
  unfold c__law_spoilt mFin m__law_spoilt
  rw [a]
  generalize S ++ some (.dic ks) :: [some (.dic (badKs m.lo m.hi))] = S' at *
  have t0 : tabN S.length S' 6 S.length = some (.dic ks) := by
    rw [tabN, if_neg (by omega), e0]
    exact sub_nor _ _ nk
  simp only [finOut, tk, if_true, finD, nor, sub, t0, Bool.false_eq_true, if_false]
end
end FW
end
section
set_option maxHeartbeats 4000000
/-! the plain law: what is spoilt is refused. -/
namespace FW
open PySem
section
variable {m : Mach} {S : Sto} {d : Int}
theorem names_ne (hm : m.Ok) {nm : D} (h : nm ∈ names) : cEq S nm (.str m.nm) = some false := by
  have sok := le_strOk hm.nm
  have hb := (names_bad nm h).1
  have key : ∀ x : Str, isName (.str x) = false → cEq S (.str x) (.str m.nm) = some false := fun x hx => by
    have : x ≠ m.nm := fun e => by
      rw [e] at hx
      have := hm.nm
      simp only [isName] at hx
      rw [this] at hx
      cases hx
    simp [eq_str, this]
  simp only [names, List.mem_cons, List.not_mem_nil, or_false] at h
  have o : PyData.strOk (Str.ofString "a") = true := by decide +kernel
  rcases h with rfl | rfl | rfl | rfl | rfl | rfl | rfl | rfl
  · exact key _ hb
  · exact key _ hb
  · exact key _ hb
  · exact key _ hb
  · show (if okD 20 .non && okD 20 (.str m.nm) then some (eqD .non (.str m.nm)) else none) = _
    simp [okD, sok, eqD]
  · show (if okD 20 (.int 5) && okD 20 (.str m.nm) then some (eqD (.int 5) (.str m.nm)) else none) = _
    simp [okD, sok, eqD]
  · show (if okD 20 (.lst [.str (Str.ofString "a")]) && okD 20 (.str m.nm) then some (eqD (.lst [.str (Str.ofString "a")]) (.str m.nm)) else none) = _
    simp [okD, okDL, o, sok, eqD]
  · exact key _ hb
theorem e_refused (hm : m.Ok) : m__law_refused [.dic m.ownD, .int d] S = .ok (.val (.bl true)) S := by
  obtain ⟨ks, ⟨nm, lo, hi, pl, pc, gn, la, at_, wd, tl, W, e1, e2, e3, e4, e5⟩, a0⟩ := e_spoilt (S := S) (d := d) hm
  have hx : lookD S (.dic ks) = .dic (ownL nm lo hi pl pc gn (.str m.k.txt) la at_ wd tl W) := by rw [e1]; rfl
  have ho : lookD S (.dic m.ownD) = .dic m.ownD := rfl
  have pn : plainS nm = true := by
    rcases e5 with h | h
    · rw [h]
      have := (len_nm hm.nm).2
      simp only [plainS, decide_eq_true_eq]
      omega
    · exact (names_bad _ h).2.1
  have mk := lawMake_bad (k := m.k) (S := S) pn e2 e3 e4
  have lm := e_law_machine (k := m.k) hx
  rw [mk] at lm
  refine mdef_rt (ρ := [.val (.dic m.ownD), .val (.int d), .none, .none, .none]) (by simp [startD, N__law_refused]) ?_
  unfold b__law_refused
  refine seq_nx (ρ1 := [.val (.dic m.ownD), .val (.int d), .val (.dic ks), .none, .none]) (S1 := S) (set_eq (map_eq (f := Slot.val) (map_eq (f := Slot.d) (x := .val (.dic ks)) (fn_eq (ds := [.dic m.ownD, .int d]) (cons_eq (S1 := S) rfl (cons_eq (S1 := S) rfl rfl)) a0)))) ?_
  refine seq_nx (ρ1 := [.val (.dic m.ownD), .val (.int d), .val (.dic ks), .val .non, .none]) (S1 := S) rfl ?_
  have cn := sb_name hx
  have co := sb_name ho
  have l1 : ∀ e, m__law_machine [.dic ks] S = .err e S → b__law_refused_L1 [.val (.dic m.ownD), .val (.int d), .val (.dic ks), .val .non, .none] S = .ex e [.val (.dic m.ownD), .val (.int d), .val (.dic ks), .val .non, .none] S := fun e he => by
    unfold b__law_refused_L1
    refine seq_ex (expr_ex (map_err ?_))
    exact fn_eq (ds := [.dic ks]) (cons_eq (S1 := S) rfl rfl) he
  have b1 : ∀ ρ : List Slot, eVar 2 ρ S = .ok (.dic ks) S → mMap Slot.d (mBin opSb (eVar 2) (eC (.str (Str.ofString "name")))) ρ S = .ok nm S := fun ρ h => map_eq (f := Slot.d) (bin_eq (x := .dic ks) (y := .str (Str.ofString "name")) (S1 := S) h rfl cn)
  have b2 : ∀ ρ : List Slot, eVar 0 ρ S = .ok (.dic m.ownD) S → mMap Slot.d (mBin opSb (eVar 0) (eC (.str (Str.ofString "name")))) ρ S = .ok (.str m.nm) S := fun ρ h => map_eq (f := Slot.d) (bin_eq (x := .dic m.ownD) (y := .str (Str.ofString "name")) (S1 := S) h rfl co)
  rcases e5 with h | h
  · have q : isName nm = true := by rw [h]; exact hm.nm
    rw [if_pos q] at lm
    refine seq_nx (try_ex (l1 _ lm) ex_num) ?_
    show sSeq b__law_refused_3 sNext [.val (.dic m.ownD), .val (.int d), .val (.dic ks), .val (.exc "BadNumber" []), .none] S = _
    exact seq_rt (ret_eq (map_eq (f := Slot.val) (map_eq (f := D.bl) (cmp_eq (x := .str (Str.ofString "number ")) (y := .str (Str.ofString "number ")) (S1 := S) (map_eq (f := Slot.d) (x := .val (.str (Str.ofString "number "))) (fn_eq (ds := [.exc "BadNumber" []]) (cons_eq (S1 := S) rfl rfl) cls_number)) (mif_t (S1 := S) (cmp_eq (b1 _ rfl) (b2 _ rfl) (by rw [h]; simp [eq_str])) rfl) (by simp [eq_str])))))
  · have q : ¬ isName nm = true := by rw [(names_bad _ h).1]; decide
    rw [if_neg q] at lm
    refine seq_nx (try_ex (l1 _ lm) ex_nam) ?_
    show sSeq b__law_refused_3 sNext [.val (.dic m.ownD), .val (.int d), .val (.dic ks), .val (.exc "BadName" []), .none] S = _
    exact seq_rt (ret_eq (map_eq (f := Slot.val) (map_eq (f := D.bl) (cmp_eq (x := .str (Str.ofString "name ")) (y := .str (Str.ofString "name ")) (S1 := S) (map_eq (f := Slot.d) (x := .val (.str (Str.ofString "name "))) (fn_eq (ds := [.exc "BadName" []]) (cons_eq (S1 := S) rfl rfl) cls_name)) (mif_f (S1 := S) (cmp_eq (b1 _ rfl) (b2 _ rfl) (names_ne hm h)) rfl) (by simp [eq_str])))))
end
end FW
end
section
set_option maxHeartbeats 4000000
/-! the plain law: its loop. -/
namespace FW
open PySem
theorem wallD_inj : ∀ {a b : List Wall}, a.map wallD = b.map wallD → a = b
  | [], [], _ => rfl
  | [], _ :: _, h => by simp at h
  | _ :: _, [], h => by simp at h
  | x :: a, y :: b, h => by
    simp only [List.map_cons, List.cons.injEq] at h
    have e := h.1
    simp only [wallD, D.tup.injEq, List.cons.injEq, D.int.injEq, and_true] at e
    have : x = y := Prod.ext e.1 (Prod.ext e.2.1 e.2.2)
    rw [this, wallD_inj h.2]
section
variable {m : Mach} {S : Sto}
theorem lawMake_ok (hm : m.Ok) {W : D} (hW : lookD S W = .lst (m.walls.map wallD)) : lawMake m.k (.str m.nm) (.int m.lo) (.int m.hi) (.int m.place) (.int m.pace) (.int m.gain) (.int m.lane) (.int m.at_) (.int m.wide) (.int m.tall) W S = .ok (.val m.obj) S := by
  have ps : plainS (.str m.nm) = true := by
    have := (len_nm hm.nm).2
    simp only [plainS, decide_eq_true_eq]; omega
  have pi : ∀ i : Int, plain (lookD S (.int i)) = true := fun _ => rfl
  have n1 : isName (.str m.nm) = true := hm.nm
  have oc : okCom (.int m.lo) (.int m.hi) (.int m.pace) (.int m.gain) (.int m.place) = true := by
    simp only [okCom, zD]; simp [isW, hm.lo1, hm.lo2, hm.hi1, hm.hi2, hm.p1, hm.p2, hm.g1, hm.g2, hm.pl1, hm.pl2]
  have o6 : isW (.int m.lane) 0 9 = true := by simp [isW, hm.la1, hm.la2]
  have o7 : isW (.int m.at_) (-1000000000) 1000000000 = true := by simp [isW, hm.at1, hm.at2]
  have o8 : isW (.int m.wide) 1 1000000 = true := by simp [isW, hm.w1, hm.w2]
  have o9 : isW (.int m.tall) 1 1000000 = true := by simp [isW, hm.t1, hm.t2]
  unfold lawMake Mach.obj Mach.fs
  cases hk : m.k with
  | line =>
    have e := make_Line (S := S) ps (pi m.lo) (pi m.hi) (pi m.pace) (pi m.gain) (pi m.place) (pi m.lane) (pi m.at_) (pi m.wide) (pi m.tall)
    simp only [n1, oc, o6, o7, o8, o9, Bool.and_self, if_true] at e
    exact e
  | wagon =>
    have e := make_Wagon (S := S) ps (pi m.lo) (pi m.hi) (pi m.pace) (pi m.gain) (pi m.place) (pi m.lane) (pi m.wide) (pi m.tall)
    simp only [n1, oc, o6, o7, o8, o9, Bool.and_self, if_true] at e
    exact e
  | trap =>
    have e := make_Trap (S := S) ps (pi m.lo) (pi m.hi) (pi m.pace) (pi m.gain) (pi m.place) (pi m.lane) (pi m.at_) (pi m.wide)
    simp only [n1, oc, o6, o7, o8, o9, Bool.and_self, if_true] at e
    exact e
  | floor =>
    have e := make_Floor (S := S) (W := W) ps (pi m.lo) (pi m.hi) (pi m.pace) (pi m.gain) (pi m.place) (pi m.lane) (by rw [hW]; rfl) (fun ws h => by rw [hW] at h; injection h with h; rw [← h]; exact plain2_walls _)
    have iw : isWalls (.lst (m.walls.map wallD)) = true := by
      simp only [isWalls, List.length_map, walls_all hm.wl, hm.wl1, hm.wl2, decide_true, Bool.and_self]
    rw [hW] at e
    simp only [n1, oc, o6, iw, Bool.and_self, if_true] at e
    obtain ⟨zs, ez, e⟩ := e
    injection ez with ez
    have := wallD_inj ez
    subst this
    exact e
theorem law_turn {sc : Slot} {k c : Int} (h0 : 0 ≤ k) (h1 : k ≤ 100) {s3 s4 s5 s6 : Slot} : ∃ t3 t4 t5 t6 S', b_law_L1 [sc, .val (.int k), .val (.int c), s3, s4, s5, s6] S = .nx [sc, .val (.int k), .val (.int c), t3, t4, t5, t6] S' := by
  obtain ⟨d0, d1⟩ := spread_in c k
  have sp := fun S => e_spread (S := S) (d := c) h0 h1
  generalize spread c k = dr at *
  have hm := drawn_ok dr (dr / 3)
  have dn := e_drawn (S := S) (k := dr / 3) d0
  generalize drawn dr (dr / 3) = m at *
  have hp : putD m.ownD (.inr (Str.ofString "walls")) (.ref (S.length + 1)) = ownL (.str m.nm) (.int m.lo) (.int m.hi) (.int m.place) (.int m.pace) (.int m.gain) (.str m.k.txt) (.int m.lane) (.int m.at_) (.int m.wide) (.int m.tall) (.ref (S.length + 1)) := by simp [Mach.ownD, ownL, putD, ofString_inj]
  obtain ⟨ks, hks⟩ : ∃ ks, ks = ownL (.str m.nm) (.int m.lo) (.int m.hi) (.int m.place) (.int m.pace) (.int m.gain) (.str m.k.txt) (.int m.lane) (.int m.at_) (.int m.wide) (.int m.tall) (.ref (S.length + 1)) := ⟨_, rfl⟩
  rw [← hks] at hp
  obtain ⟨S2, hS2⟩ : ∃ S2 : Sto, S2 = S ++ some (.dic ks) :: [some (.lst (m.walls.map wallD))] := ⟨_, rfl⟩
  obtain ⟨S3, hS3⟩ : ∃ S3 : Sto, S3 = S ++ some (.dic ks) :: [some (.lst [])] := ⟨_, rfl⟩
  have hx : lookD S2 (.ref S.length) = .dic ks := by rw [hS2]; simp only [lk_ref, lk_n, Cell.d]
  have hw1 : S2[S.length + 1]? = some (some (.lst (m.walls.map wallD))) := by rw [hS2]; exact lk_n1
  have hw : lookD S2 (.ref (S.length + 1)) = .lst (m.walls.map wallD) := by simp only [lk_ref, hw1, Cell.d]
  have hs1 : S2.set (S.length + 1) (some (.lst [])) = S3 := by
    rw [hS2, hS3, List.set_append_right _ _ (by omega), show S.length + 1 - S.length = 1 by omega]; rfl
  refine ⟨.val (.int dr), .val (.dic m.ownD), .val (.ref S.length), .val m.obj, S3, ?_⟩
  unfold b_law_L1
  refine seq_nx (set_eq (map_eq (f := Slot.val) (map_eq (f := Slot.d) (fn_eq (ds := [.int c, .int k]) (cons_eq (S1 := S) rfl (cons_eq (S1 := S) rfl rfl)) (sp S))))) ?_
  have ed := div_s (S := S) (i := dr) (j := 3) (by decide) (by decide)
  refine seq_nx (set_eq (map_eq (f := Slot.val) (map_eq (f := Slot.d) (fn_eq (ds := [.int dr, .int (dr / 3)]) (cons_eq (S1 := S) rfl (cons_eq (S1 := S) (map_eq (f := Slot.d) (bin_eq (x := .int dr) (y := .int 3) (S1 := S) rfl rfl ed)) rfl)) dn)))) ?_
  show sSeq _ _ [sc, .val (.int k), .val (.int c), .val (.int dr), .val (.dic m.ownD), s5, s6] S = _
  refine seq_nx (ρ1 := [sc, .val (.int k), .val (.int c), .val (.int dr), .val (.dic m.ownD), .val (.ref S.length), s6]) (S1 := S ++ [some (.dic m.ownD)]) (by simp [fDict, mRef, toRef, mDef, startD, sSeq, sNext, sSet, sRet, sRetV, sRetN, sIf, sExpr, sRaise, sAug, sPar, sTgt, sApp, sFrz, sTryAs, rBind, R.bind, mMap, mBin, mUn, mCmp, mChain, mFn, mCall, mAnd, mOr, mNot, mTru, mAndV, mOrV, mNotV, mIf, aNil, aCons, oLst, eVar, eC, lift2, liftB, lk_non, lk_bl, lk_int, lk_str, lk_ty, lk_cls, lk_lst, lk_tup, lk_dic, lk_obj, lk_exc, lk_ref, Slot.d, Cell.d, lt_s, le_s, gt_s, ge_s, cIsN, cIsNN, truD, fNeg, fAddI, fSubI, List.getElem?_cons_zero, List.getElem?_cons_succ, List.set_cons_zero, List.set_cons_succ, add_s, cat_s, sub_s, mFld, fFld, mMeth, mSl, pAt, pNo, mTM, mDisp, ppC, mGet1, mGet2, mRef, toRef, noErr, List.lookup_cons]) ?_
  have cw := sb_walls (S := S ++ [some (.dic m.ownD)]) (x := .dic m.ownD) rfl
  refine seq_nx (put_nx (S1 := S ++ some (.dic m.ownD) :: [some (.lst (m.walls.map wallD))]) (d := .ref (S.length + 1)) (x := .ref S.length) (j := .str (Str.ofString "walls")) (S4 := S2) ?_ rfl rfl ((put_at (ks := m.ownD) keys_own own_len).trans (by rw [hp, hS2]))) ?_
  · simp [mRef, toRef, fList, cw, mDef, startD, sSeq, sNext, sSet, sRet, sRetV, sRetN, sIf, sExpr, sRaise, sAug, sPar, sTgt, sApp, sFrz, sTryAs, rBind, R.bind, mMap, mBin, mUn, mCmp, mChain, mFn, mCall, mAnd, mOr, mNot, mTru, mAndV, mOrV, mNotV, mIf, aNil, aCons, oLst, eVar, eC, lift2, liftB, lk_non, lk_bl, lk_int, lk_str, lk_ty, lk_cls, lk_lst, lk_tup, lk_dic, lk_obj, lk_exc, lk_ref, Slot.d, Cell.d, lt_s, le_s, gt_s, ge_s, cIsN, cIsNN, truD, fNeg, fAddI, fSubI, List.getElem?_cons_zero, List.getElem?_cons_succ, List.set_cons_zero, List.set_cons_succ, add_s, cat_s, sub_s, mFld, fFld, mMeth, mSl, pAt, pNo, mTM, mDisp, ppC, mGet1, mGet2, mRef, toRef, noErr, List.lookup_cons]
  have lm := e_law_machine (k := m.k) (x := .ref S.length) (S := S2) (by rw [hx, hks])
  rw [lawMake_ok hm hw] at lm
  refine seq_nx (set_eq (map_eq (f := Slot.val) (map_eq (f := Slot.d) (x := .val m.obj) (fn_eq (ds := [.ref S.length]) (cons_eq (S1 := S2) rfl rfl) lm)))) ?_
  show sSeq _ _ [sc, .val (.int k), .val (.int c), .val (.int dr), .val (.dic m.ownD), .val (.ref S.length), .val m.obj] S2 = _
  have cw2 : mMap Slot.d (mBin opSb (eVar 5) (eC (.str (Str.ofString "walls")))) [sc, .val (.int k), .val (.int c), .val (.int dr), .val (.dic m.ownD), .val (.ref S.length), .val m.obj] S2 = .ok (.ref (S.length + 1)) S2 := map_eq (f := Slot.d) (x := .val (.ref (S.length + 1))) (bin_eq (x := .ref S.length) (y := .str (Str.ofString "walls")) (S1 := S2) rfl rfl (sb_walls (by rw [hx, hks])))
  refine seq_nx (ρ1 := [sc, .val (.int k), .val (.int c), .val (.int dr), .val (.dic m.ownD), .val (.ref S.length), .val m.obj]) (S1 := S3) (by simp only [sClear, cw2, rBind, hw1, hs1]) ?_
  have e11 := div_s (S := S3) (i := dr) (j := 11) (by decide) (by decide)
  have e13 := div_s (S := S3) (i := dr) (j := 13) (by decide) (by decide)
  refine seq_nx (if_f (or_f (not_eq (r := true) (tru_eq (d := .bl true) (map_eq (f := Slot.d) (x := .val (.bl true)) (fn_eq (ds := [m.obj, .dic m.ownD]) (cons_eq (S1 := S3) rfl (cons_eq (S1 := S3) rfl rfl)) (told_right hm))) rfl)) (not_eq (r := true) (tru_eq (d := .bl true) (map_eq (f := Slot.d) (x := .val (.bl true)) (fn_eq (ds := [m.obj, .dic m.ownD, .int (dr / 11)]) (cons_eq (S1 := S3) rfl (cons_eq (S1 := S3) rfl (cons_eq (S1 := S3) (map_eq (f := Slot.d) (bin_eq (x := .int dr) (y := .int 11) (S1 := S3) rfl rfl e11)) rfl))) (e_boxes_right hm))) rfl))) rfl) ?_
  exact seq_nx (if_f (not_eq (r := true) (tru_eq (d := .bl true) (map_eq (f := Slot.d) (x := .val (.bl true)) (fn_eq (ds := [.dic m.ownD, .int (dr / 13)]) (cons_eq (S1 := S3) rfl (cons_eq (S1 := S3) (map_eq (f := Slot.d) (bin_eq (x := .int dr) (y := .int 13) (S1 := S3) rfl rfl e13)) rfl)) (e_refused hm))) rfl)) rfl) rfl
theorem law_loop {sc : Slot} : ∀ (xs : List Int) (i : Nat) (S : Sto) (s1 s2 s3 s4 s5 s6 : Slot), i + xs.length ≤ 100 → ∃ ρ' S', sForL [] (gT [1, 2]) b_law_L1 (enumD i (xs.map D.int)) [sc, s1, s2, s3, s4, s5, s6] S = .nx ρ' S'
  | [], i, S, s1, s2, s3, s4, s5, s6, _ => ⟨_, _, for_nil (gok_nil.mpr trivial)⟩
  | x :: xs, i, S, s1, s2, s3, s4, s5, s6, h => by
    simp only [List.length_cons] at h
    obtain ⟨t3, t4, t5, t6, S', e⟩ := law_turn (S := S) (sc := sc) (k := (i : Int)) (c := x) (by omega) (by omega) (s3 := s3) (s4 := s4) (s5 := s5) (s6 := s6)
    obtain ⟨ρ', S2, e2⟩ := law_loop (sc := sc) xs (i + 1) S' (.val (.int (i : Int))) (.val (.int x)) t3 t4 t5 t6 (by omega)
    refine ⟨ρ', S2, for_nx (gok_nil.mpr trivial) rfl e ?_⟩
    exact e2
theorem cut_ints (ns : List Int) : ∃ ms : List Int, cutD (ns.map D.int) none (some 60) = ms.map D.int ∧ ms.length ≤ ns.length := by
  refine ⟨(ns.drop (HT.sIx (ns.map D.int).length 0 none)).take (HT.sIx (ns.map D.int).length (ns.map D.int).length (some 60) - HT.sIx (ns.map D.int).length 0 none), ?_, ?_⟩
  · unfold cutD
    rw [List.map_take, List.map_drop]
  · exact Nat.le_trans (List.length_take_le' _ _) (by simp)
theorem e_law (ns : List Int) (h : ns.length ≤ 63) : ∃ S', m_law [.lst (ns.map D.int)] [] = .ok (.val (.bl true)) S' := by
  obtain ⟨ms, e1, e2⟩ := cut_ints ns
  obtain ⟨ρ', S', e⟩ := law_loop (sc := .val (.lst (ns.map D.int))) (ms ++ [5, 6, 7, 8]) 0 [] .none .none .none .none .none .none (by simp; omega)
  refine ⟨S', mdef_rt (ρ := [.val (.lst (ns.map D.int)), .none, .none, .none, .none, .none, .none]) (by simp [startD, N_law]) ?_⟩
  unfold b_law
  refine seq_nx (for_eq (ds := enumD 0 ((ms ++ [5, 6, 7, 8]).map D.int)) (C := []) (S1 := []) ?_ e) (seq_rt rfl)
  have l : ms.length + 4 ≤ 1000000 := by omega
  have a : mMap Slot.d (mBin opAdd (mMap Slot.d (mSl (eVar 0) pNo (pAt (eC (.int (60)))))) (mMap Slot.d (oLst (aCons (eC (.int (5))) (aCons (eC (.int (6))) (aCons (eC (.int (7))) (aCons (eC (.int (8))) aNil))))))) [.val (.lst (ns.map D.int)), .none, .none, .none, .none, .none, .none] [] = .ok (.lst ((ms ++ [5, 6, 7, 8]).map D.int)) [] := by
    have x1 : mMap Slot.d (mSl (eVar 0) pNo (pAt (eC (.int (60))))) [.val (.lst (ns.map D.int)), .none, .none, .none, .none, .none, .none] [] = .ok (.lst (ms.map D.int)) [] := by rw [← e1]; rfl
    have x2 : mMap Slot.d (oLst (aCons (eC (.int (5))) (aCons (eC (.int (6))) (aCons (eC (.int (7))) (aCons (eC (.int (8))) aNil))))) [.val (.lst (ns.map D.int)), .none, .none, .none, .none, .none, .none] [] = .ok (.lst [.int 5, .int 6, .int 7, .int 8]) [] := rfl
    have x3 : opAdd [] (.lst (ms.map D.int)) (.lst [.int 5, .int 6, .int 7, .int 8]) = some (.own (.lst ((ms ++ [5, 6, 7, 8]).map D.int))) := by simp [cat_s, l]
    exact map_eq (f := Slot.d) (bin_eq x1 x2 x3)
  simp only [mThenS, aCons, aNil, a, R.bind, fEnum, lstOf, Option.map_some]
end
end FW
end
section
set_option maxHeartbeats 4000000
/-! printed by gen2.py: the head of k04_machines_and_boxes. -/
namespace FW
open PySem PySem.Spec PyProof.Rows L2
def cfnL : List (String × String) := [("Machine", "__init__")]
def kbL (K : PySem.W.Frag) : Bool := kitB_ T K && cfnL.all fun p => cfnB K p.1 p.2
theorem kbL_ok {K : PySem.W.Frag} (h : kbL K = true) : kitB_ T K = true ∧ (cfnL.all fun p => cfnB K p.1 p.2) = true := by
  unfold kbL at h; rwa [Bool.and_eq_true] at h
theorem cfn_of {K : PySem.W.Frag} (h : (cfnL.all fun p => cfnB K p.1 p.2) = true) (i : Nat) {p : String × String} (e : cfnL[i]? = some p) : cfnB K p.1 p.2 = true := List.all_eq_true.mp h p (List.mem_of_getElem? e)
def fnL : List He.DefD := [⟨("is_whole", none), "is_whole", "is_whole", defArgs st_is_whole, defBody st_is_whole, defScope st_is_whole, [], []⟩, ⟨("need_whole", none), "need_whole", "need_whole", defArgs st_need_whole, defBody st_need_whole, defScope st_need_whole, [], []⟩, ⟨("is_name", none), "is_name", "is_name", defArgs st_is_name, defBody st_is_name, defScope st_is_name, [], []⟩, ⟨("need_place", none), "need_place", "need_place", defArgs st_need_place, defBody st_need_place, defScope st_need_place, [], []⟩, ⟨("need_sizes", none), "need_sizes", "need_sizes", defArgs st_need_sizes, defBody st_need_sizes, defScope st_need_sizes, [], []⟩, ⟨("_law_draw", none), "_law_draw", "_law_draw", defArgs st__law_draw, defBody st__law_draw, defScope st__law_draw, [], []⟩, ⟨("_law_spread", none), "_law_spread", "_law_spread", defArgs st__law_spread, defBody st__law_spread, defScope st__law_spread, [], []⟩, ⟨("_law_takes", none), "_law_takes", "_law_takes", defArgs st__law_takes, defBody st__law_takes, defScope st__law_takes, [], []⟩, ⟨("_law_machine", none), "_law_machine", "_law_machine", defArgs st__law_machine, defBody st__law_machine, defScope st__law_machine, [], []⟩, ⟨("_law_classes", none), "_law_classes", "_law_classes", defArgs st__law_classes, defBody st__law_classes, defScope st__law_classes, [], []⟩, ⟨("_law_drawn", none), "_law_drawn", "_law_drawn", defArgs st__law_drawn, defBody st__law_drawn, defScope st__law_drawn, [], []⟩, ⟨("_law_tail", none), "_law_tail", "_law_tail", defArgs st__law_tail, defBody st__law_tail, defScope st__law_tail, [], []⟩, ⟨("_law_told_right", none), "_law_told_right", "_law_told_right", defArgs st__law_told_right, defBody st__law_told_right, defScope st__law_told_right, [], []⟩, ⟨("_law_place_refused", none), "_law_place_refused", "_law_place_refused", defArgs st__law_place_refused, defBody st__law_place_refused, defScope st__law_place_refused, [], []⟩, ⟨("_law_boxes_right", none), "_law_boxes_right", "_law_boxes_right", defArgs st__law_boxes_right, defBody st__law_boxes_right, defScope st__law_boxes_right, [], []⟩, ⟨("_law_spoilt", none), "_law_spoilt", "_law_spoilt", defArgs st__law_spoilt, defBody st__law_spoilt, defScope st__law_spoilt, [], []⟩, ⟨("_law_refused", none), "_law_refused", "_law_refused", defArgs st__law_refused, defBody st__law_refused, defScope st__law_refused, [], []⟩, ⟨("law", none), "law", "law", defArgs st_law, defBody st_law, defScope st_law, [], []⟩, ⟨("Machine", some "__init__"), "__init__", "Machine.__init__", defArgs st_Machine_init, defBody st_Machine_init, defScope st_Machine_init, [], []⟩, ⟨("Line", some "__init__"), "__init__", "Line.__init__", defArgs st_Line_init, defBody st_Line_init, defScope st_Line_init, [], []⟩, ⟨("Wagon", some "__init__"), "__init__", "Wagon.__init__", defArgs st_Wagon_init, defBody st_Wagon_init, defScope st_Wagon_init, [], []⟩, ⟨("Trap", some "__init__"), "__init__", "Trap.__init__", defArgs st_Trap_init, defBody st_Trap_init, defScope st_Trap_init, [], []⟩, ⟨("Floor", some "__init__"), "__init__", "Floor.__init__", defArgs st_Floor_init, defBody st_Floor_init, defScope st_Floor_init, [], []⟩, ⟨("Machine", some "kind"), "kind", "Machine.kind", defArgs st_Machine_kind, defBody st_Machine_kind, defScope st_Machine_kind, [], []⟩, ⟨("Line", some "kind"), "kind", "Line.kind", defArgs st_Line_kind, defBody st_Line_kind, defScope st_Line_kind, [], []⟩, ⟨("Wagon", some "kind"), "kind", "Wagon.kind", defArgs st_Wagon_kind, defBody st_Wagon_kind, defScope st_Wagon_kind, [], []⟩, ⟨("Floor", some "kind"), "kind", "Floor.kind", defArgs st_Floor_kind, defBody st_Floor_kind, defScope st_Floor_kind, [], []⟩, ⟨("Trap", some "kind"), "kind", "Trap.kind", defArgs st_Trap_kind, defBody st_Trap_kind, defScope st_Trap_kind, [], []⟩, ⟨("Machine", some "tail"), "tail", "Machine.tail", defArgs st_Machine_tail, defBody st_Machine_tail, defScope st_Machine_tail, [], []⟩, ⟨("Line", some "tail"), "tail", "Line.tail", defArgs st_Line_tail, defBody st_Line_tail, defScope st_Line_tail, [], []⟩, ⟨("Wagon", some "tail"), "tail", "Wagon.tail", defArgs st_Wagon_tail, defBody st_Wagon_tail, defScope st_Wagon_tail, [], []⟩, ⟨("Floor", some "tail"), "tail", "Floor.tail", defArgs st_Floor_tail, defBody st_Floor_tail, defScope st_Floor_tail, [], []⟩, ⟨("Trap", some "tail"), "tail", "Trap.tail", defArgs st_Trap_tail, defBody st_Trap_tail, defScope st_Trap_tail, [], []⟩, ⟨("Machine", some "offset"), "offset", "Machine.offset", defArgs st_Machine_offset, defBody st_Machine_offset, defScope st_Machine_offset, [], []⟩, ⟨("Line", some "offset"), "offset", "Machine.offset", defArgs st_Machine_offset, defBody st_Machine_offset, defScope st_Machine_offset, [], []⟩, ⟨("Wagon", some "offset"), "offset", "Machine.offset", defArgs st_Machine_offset, defBody st_Machine_offset, defScope st_Machine_offset, [], []⟩, ⟨("Floor", some "offset"), "offset", "Floor.offset", defArgs st_Floor_offset, defBody st_Floor_offset, defScope st_Floor_offset, [], []⟩, ⟨("Trap", some "offset"), "offset", "Machine.offset", defArgs st_Machine_offset, defBody st_Machine_offset, defScope st_Machine_offset, [], []⟩, ⟨("Machine", some "wide"), "wide", "Machine.wide", defArgs st_Machine_wide, defBody st_Machine_wide, defScope st_Machine_wide, [], []⟩, ⟨("Line", some "wide"), "wide", "Machine.wide", defArgs st_Machine_wide, defBody st_Machine_wide, defScope st_Machine_wide, [], []⟩, ⟨("Wagon", some "wide"), "wide", "Machine.wide", defArgs st_Machine_wide, defBody st_Machine_wide, defScope st_Machine_wide, [], []⟩, ⟨("Floor", some "wide"), "wide", "Machine.wide", defArgs st_Machine_wide, defBody st_Machine_wide, defScope st_Machine_wide, [], []⟩, ⟨("Trap", some "wide"), "wide", "Machine.wide", defArgs st_Machine_wide, defBody st_Machine_wide, defScope st_Machine_wide, [], []⟩, ⟨("Machine", some "lane"), "lane", "Machine.lane", defArgs st_Machine_lane, defBody st_Machine_lane, defScope st_Machine_lane, [], []⟩, ⟨("Line", some "lane"), "lane", "Machine.lane", defArgs st_Machine_lane, defBody st_Machine_lane, defScope st_Machine_lane, [], []⟩, ⟨("Wagon", some "lane"), "lane", "Machine.lane", defArgs st_Machine_lane, defBody st_Machine_lane, defScope st_Machine_lane, [], []⟩, ⟨("Floor", some "lane"), "lane", "Machine.lane", defArgs st_Machine_lane, defBody st_Machine_lane, defScope st_Machine_lane, [], []⟩, ⟨("Trap", some "lane"), "lane", "Machine.lane", defArgs st_Machine_lane, defBody st_Machine_lane, defScope st_Machine_lane, [], []⟩, ⟨("Machine", some "words"), "words", "Machine.words", defArgs st_Machine_words, defBody st_Machine_words, defScope st_Machine_words, [], []⟩, ⟨("Line", some "words"), "words", "Machine.words", defArgs st_Machine_words, defBody st_Machine_words, defScope st_Machine_words, [], []⟩, ⟨("Wagon", some "words"), "words", "Machine.words", defArgs st_Machine_words, defBody st_Machine_words, defScope st_Machine_words, [], []⟩, ⟨("Floor", some "words"), "words", "Machine.words", defArgs st_Machine_words, defBody st_Machine_words, defScope st_Machine_words, [], []⟩, ⟨("Trap", some "words"), "words", "Machine.words", defArgs st_Machine_words, defBody st_Machine_words, defScope st_Machine_words, [], []⟩, ⟨("Machine", some "need_within"), "need_within", "Machine.need_within", defArgs st_Machine_need_within, defBody st_Machine_need_within, defScope st_Machine_need_within, [], []⟩, ⟨("Line", some "need_within"), "need_within", "Machine.need_within", defArgs st_Machine_need_within, defBody st_Machine_need_within, defScope st_Machine_need_within, [], []⟩, ⟨("Wagon", some "need_within"), "need_within", "Machine.need_within", defArgs st_Machine_need_within, defBody st_Machine_need_within, defScope st_Machine_need_within, [], []⟩, ⟨("Floor", some "need_within"), "need_within", "Machine.need_within", defArgs st_Machine_need_within, defBody st_Machine_need_within, defScope st_Machine_need_within, [], []⟩, ⟨("Trap", some "need_within"), "need_within", "Machine.need_within", defArgs st_Machine_need_within, defBody st_Machine_need_within, defScope st_Machine_need_within, [], []⟩, ⟨("Machine", some "swept"), "swept", "Machine.swept", defArgs st_Machine_swept, defBody st_Machine_swept, defScope st_Machine_swept, [], []⟩, ⟨("Line", some "swept"), "swept", "Line.swept", defArgs st_Line_swept, defBody st_Line_swept, defScope st_Line_swept, [], []⟩, ⟨("Wagon", some "swept"), "swept", "Wagon.swept", defArgs st_Wagon_swept, defBody st_Wagon_swept, defScope st_Wagon_swept, [], []⟩, ⟨("Floor", some "swept"), "swept", "Floor.swept", defArgs st_Floor_swept, defBody st_Floor_swept, defScope st_Floor_swept, [], []⟩, ⟨("Trap", some "swept"), "swept", "Trap.swept", defArgs st_Trap_swept, defBody st_Trap_swept, defScope st_Trap_swept, [], []⟩, ⟨("Machine", some "boxes"), "boxes", "Machine.boxes", defArgs st_Machine_boxes, defBody st_Machine_boxes, defScope st_Machine_boxes, [], []⟩, ⟨("Line", some "boxes"), "boxes", "Machine.boxes", defArgs st_Machine_boxes, defBody st_Machine_boxes, defScope st_Machine_boxes, [], []⟩, ⟨("Wagon", some "boxes"), "boxes", "Machine.boxes", defArgs st_Machine_boxes, defBody st_Machine_boxes, defScope st_Machine_boxes, [], []⟩, ⟨("Floor", some "boxes"), "boxes", "Machine.boxes", defArgs st_Machine_boxes, defBody st_Machine_boxes, defScope st_Machine_boxes, [], []⟩, ⟨("Trap", some "boxes"), "boxes", "Machine.boxes", defArgs st_Machine_boxes, defBody st_Machine_boxes, defScope st_Machine_boxes, [], []⟩, ⟨("Machine", some "taken"), "taken", "Machine.taken", defArgs st_Machine_taken, defBody st_Machine_taken, defScope st_Machine_taken, [], []⟩, ⟨("Line", some "taken"), "taken", "Machine.taken", defArgs st_Machine_taken, defBody st_Machine_taken, defScope st_Machine_taken, [], []⟩, ⟨("Wagon", some "taken"), "taken", "Machine.taken", defArgs st_Machine_taken, defBody st_Machine_taken, defScope st_Machine_taken, [], []⟩, ⟨("Floor", some "taken"), "taken", "Machine.taken", defArgs st_Machine_taken, defBody st_Machine_taken, defScope st_Machine_taken, [], []⟩, ⟨("Trap", some "taken"), "taken", "Machine.taken", defArgs st_Machine_taken, defBody st_Machine_taken, defScope st_Machine_taken, [], []⟩]
def faL : List He.Fa := [.free "ValueError", .free "all", .free "bool", .free "dict", .free "enumerate", .free "int", .free "isinstance", .free "len", .free "list", .free "max", .free "min", .free "range", .free "str", .free "tuple", .int "MOST_LANE" (9), .int "MOST_LETTERS" (8), .int "MOST_OFFSET" (719), .int "MOST_PACE" (1000000000), .int "MOST_PLACE" (1000000000), .int "MOST_SIZE" (1000000), .int "MOST_WALLS" (4), .str "LETTERS" "abcdefghijklmnopqrstuvwxyz", .glo "BadName", .glo "BadNumber", .glo "BadRow", .glo "BadSheet", .glo "BadStage", .glo "Busy", .glo "Floor", .glo "Line", .glo "Machine", .glo "Moving", .glo "NoCue", .glo "NotStopped", .glo "StageError", .glo "Stopped", .glo "TooLong", .glo "TooNear", .glo "Trap", .glo "Wagon", .exc "BadName", .exc "BadNumber", .cls "Machine", .noat "Machine" "gain", .cls "Line", .noat "Line" "gain", .cls "Wagon", .noat "Wagon" "gain", .cls "Floor", .noat "Floor" "gain", .cls "Trap", .noat "Trap" "gain", .noat "Machine" "greatest", .noat "Line" "greatest", .noat "Wagon" "greatest", .noat "Floor" "greatest", .noat "Trap" "greatest", .noat "Line" "high", .noat "Wagon" "high", .noat "Machine" "least", .noat "Line" "least", .noat "Wagon" "least", .noat "Floor" "least", .noat "Trap" "least", .noat "Machine" "long", .noat "Line" "long", .noat "Wagon" "long", .noat "Floor" "long", .noat "Trap" "long", .noat "Machine" "name", .noat "Line" "name", .noat "Wagon" "name", .noat "Floor" "name", .noat "Trap" "name", .noat "Machine" "pace", .noat "Line" "pace", .noat "Wagon" "pace", .noat "Floor" "pace", .noat "Trap" "pace", .noat "Machine" "place", .noat "Line" "place", .noat "Wagon" "place", .noat "Floor" "place", .noat "Trap" "place", .noat "Machine" "rail", .noat "Line" "rail", .noat "Wagon" "rail", .noat "Floor" "rail", .noat "Trap" "rail", .noat "Line" "spot", .noat "Trap" "spot", .noat "Floor" "walls", .glo "is_whole", .glo "need_whole", .glo "is_name", .glo "need_place", .glo "need_sizes", .glo "_law_draw", .glo "_law_spread", .glo "_law_takes", .glo "_law_machine", .glo "_law_classes", .glo "_law_drawn", .glo "_law_tail", .glo "_law_told_right", .glo "_law_place_refused", .glo "_law_boxes_right", .glo "_law_spoilt", .glo "_law_refused", .glo "law", .mkr "Line", .mkr "Wagon", .mkr "Trap", .mkr "Floor", .meth "Machine" "offset", .meth "Line" "offset", .meth "Wagon" "offset", .meth "Floor" "offset", .meth "Trap" "offset", .meth "Machine" "wide", .meth "Line" "wide", .meth "Wagon" "wide", .meth "Floor" "wide", .meth "Trap" "wide", .meth "Machine" "lane", .meth "Line" "lane", .meth "Wagon" "lane", .meth "Floor" "lane", .meth "Trap" "lane", .meth "Machine" "kind", .meth "Line" "kind", .meth "Wagon" "kind", .meth "Floor" "kind", .meth "Trap" "kind", .meth "Machine" "tail", .meth "Line" "tail", .meth "Wagon" "tail", .meth "Floor" "tail", .meth "Trap" "tail", .meth "Machine" "words", .meth "Line" "words", .meth "Wagon" "words", .meth "Floor" "words", .meth "Trap" "words", .meth "Machine" "need_within", .meth "Line" "need_within", .meth "Wagon" "need_within", .meth "Floor" "need_within", .meth "Trap" "need_within", .meth "Machine" "swept", .meth "Line" "swept", .meth "Wagon" "swept", .meth "Floor" "swept", .meth "Trap" "swept", .meth "Machine" "boxes", .meth "Line" "boxes", .meth "Wagon" "boxes", .meth "Floor" "boxes", .meth "Trap" "boxes", .meth "Machine" "taken", .meth "Line" "taken", .meth "Wagon" "taken", .meth "Floor" "taken", .meth "Trap" "taken"]
section
variable {P : Program} {w : World} {K : PySem.W.Frag} {h : Heap} {mg : Str → Option Value} {fa : Addr}
theorem facts (X : K.In h) (G : h.Ns mainGlobals mg) (hfa : mg "law" = some (.ref fa)) (kb : kitB_ T K = true ∧ (cfnL.all fun p => cfnB K p.1 p.2) = true) (c : He.SaysD faL fnL K) :
    ∃ fd : FuncData, (∀ (s : Shared) (v : Value), BindsTo s fd ⟨[v], []⟩ [("_law_script", v)]) ∧ ∀ base : Heap, K.In base → base.Ns mainGlobals mg → FnOk P w K mg base (L2.CX P w) 9 fa fd ["_law_script"] (spD K 1 m_law) := by
  have ev : Ev K mg := ⟨(kitB_ok kb.1).1, (kitB_ok kb.1).2, He.free_ok X G (c.fact 0 (f := .free "ValueError") rfl), He.free_ok X G (c.fact 1 (f := .free "all") rfl), He.free_ok X G (c.fact 2 (f := .free "bool") rfl), He.free_ok X G (c.fact 3 (f := .free "dict") rfl), He.free_ok X G (c.fact 4 (f := .free "enumerate") rfl), He.free_ok X G (c.fact 5 (f := .free "int") rfl), He.free_ok X G (c.fact 6 (f := .free "isinstance") rfl), He.free_ok X G (c.fact 7 (f := .free "len") rfl), He.free_ok X G (c.fact 8 (f := .free "list") rfl), He.free_ok X G (c.fact 9 (f := .free "max") rfl), He.free_ok X G (c.fact 10 (f := .free "min") rfl), He.free_ok X G (c.fact 11 (f := .free "range") rfl), He.free_ok X G (c.fact 12 (f := .free "str") rfl), He.free_ok X G (c.fact 13 (f := .free "tuple") rfl), He.int_ok X G (c.fact 14 (f := .int "MOST_LANE" (9)) rfl), He.int_ok X G (c.fact 15 (f := .int "MOST_LETTERS" (8)) rfl), He.int_ok X G (c.fact 16 (f := .int "MOST_OFFSET" (719)) rfl), He.int_ok X G (c.fact 17 (f := .int "MOST_PACE" (1000000000)) rfl), He.int_ok X G (c.fact 18 (f := .int "MOST_PLACE" (1000000000)) rfl), He.int_ok X G (c.fact 19 (f := .int "MOST_SIZE" (1000000)) rfl), He.int_ok X G (c.fact 20 (f := .int "MOST_WALLS" (4)) rfl), He.str_ok X G (c.fact 21 (f := .str "LETTERS" "abcdefghijklmnopqrstuvwxyz") rfl), He.glo_ok X G (c.fact 22 (f := .glo "BadName") rfl), He.glo_ok X G (c.fact 23 (f := .glo "BadNumber") rfl), He.glo_ok X G (c.fact 24 (f := .glo "BadRow") rfl), He.glo_ok X G (c.fact 25 (f := .glo "BadSheet") rfl), He.glo_ok X G (c.fact 26 (f := .glo "BadStage") rfl), He.glo_ok X G (c.fact 27 (f := .glo "Busy") rfl), He.glo_ok X G (c.fact 28 (f := .glo "Floor") rfl), He.glo_ok X G (c.fact 29 (f := .glo "Line") rfl), He.glo_ok X G (c.fact 30 (f := .glo "Machine") rfl), He.glo_ok X G (c.fact 31 (f := .glo "Moving") rfl), He.glo_ok X G (c.fact 32 (f := .glo "NoCue") rfl), He.glo_ok X G (c.fact 33 (f := .glo "NotStopped") rfl), He.glo_ok X G (c.fact 34 (f := .glo "StageError") rfl), He.glo_ok X G (c.fact 35 (f := .glo "Stopped") rfl), He.glo_ok X G (c.fact 36 (f := .glo "TooLong") rfl), He.glo_ok X G (c.fact 37 (f := .glo "TooNear") rfl), He.glo_ok X G (c.fact 38 (f := .glo "Trap") rfl), He.glo_ok X G (c.fact 39 (f := .glo "Wagon") rfl), c.fact 40 (f := .exc "BadName") rfl, c.fact 41 (f := .exc "BadNumber") rfl, (by
      intro x hx
      simp only [cs_gain, List.mem_cons, List.not_mem_nil, or_false] at hx
      rcases hx with rfl | rfl | rfl | rfl | rfl
      · exact ⟨He.cls_ok (c.fact 42 (f := .cls "Machine") rfl), He.noat_ok (c.fact 43 (f := .noat "Machine" "gain") rfl)⟩
      · exact ⟨He.cls_ok (c.fact 44 (f := .cls "Line") rfl), He.noat_ok (c.fact 45 (f := .noat "Line" "gain") rfl)⟩
      · exact ⟨He.cls_ok (c.fact 46 (f := .cls "Wagon") rfl), He.noat_ok (c.fact 47 (f := .noat "Wagon" "gain") rfl)⟩
      · exact ⟨He.cls_ok (c.fact 48 (f := .cls "Floor") rfl), He.noat_ok (c.fact 49 (f := .noat "Floor" "gain") rfl)⟩
      · exact ⟨He.cls_ok (c.fact 50 (f := .cls "Trap") rfl), He.noat_ok (c.fact 51 (f := .noat "Trap" "gain") rfl)⟩), (by
      intro x hx
      simp only [cs_greatest, List.mem_cons, List.not_mem_nil, or_false] at hx
      rcases hx with rfl | rfl | rfl | rfl | rfl
      · exact ⟨He.cls_ok (c.fact 42 (f := .cls "Machine") rfl), He.noat_ok (c.fact 52 (f := .noat "Machine" "greatest") rfl)⟩
      · exact ⟨He.cls_ok (c.fact 44 (f := .cls "Line") rfl), He.noat_ok (c.fact 53 (f := .noat "Line" "greatest") rfl)⟩
      · exact ⟨He.cls_ok (c.fact 46 (f := .cls "Wagon") rfl), He.noat_ok (c.fact 54 (f := .noat "Wagon" "greatest") rfl)⟩
      · exact ⟨He.cls_ok (c.fact 48 (f := .cls "Floor") rfl), He.noat_ok (c.fact 55 (f := .noat "Floor" "greatest") rfl)⟩
      · exact ⟨He.cls_ok (c.fact 50 (f := .cls "Trap") rfl), He.noat_ok (c.fact 56 (f := .noat "Trap" "greatest") rfl)⟩), (by
      intro x hx
      simp only [cs_high, List.mem_cons, List.not_mem_nil, or_false] at hx
      rcases hx with rfl | rfl
      · exact ⟨He.cls_ok (c.fact 44 (f := .cls "Line") rfl), He.noat_ok (c.fact 57 (f := .noat "Line" "high") rfl)⟩
      · exact ⟨He.cls_ok (c.fact 46 (f := .cls "Wagon") rfl), He.noat_ok (c.fact 58 (f := .noat "Wagon" "high") rfl)⟩), (by
      intro x hx
      simp only [cs_least, List.mem_cons, List.not_mem_nil, or_false] at hx
      rcases hx with rfl | rfl | rfl | rfl | rfl
      · exact ⟨He.cls_ok (c.fact 42 (f := .cls "Machine") rfl), He.noat_ok (c.fact 59 (f := .noat "Machine" "least") rfl)⟩
      · exact ⟨He.cls_ok (c.fact 44 (f := .cls "Line") rfl), He.noat_ok (c.fact 60 (f := .noat "Line" "least") rfl)⟩
      · exact ⟨He.cls_ok (c.fact 46 (f := .cls "Wagon") rfl), He.noat_ok (c.fact 61 (f := .noat "Wagon" "least") rfl)⟩
      · exact ⟨He.cls_ok (c.fact 48 (f := .cls "Floor") rfl), He.noat_ok (c.fact 62 (f := .noat "Floor" "least") rfl)⟩
      · exact ⟨He.cls_ok (c.fact 50 (f := .cls "Trap") rfl), He.noat_ok (c.fact 63 (f := .noat "Trap" "least") rfl)⟩), (by
      intro x hx
      simp only [cs_long, List.mem_cons, List.not_mem_nil, or_false] at hx
      rcases hx with rfl | rfl | rfl | rfl | rfl
      · exact ⟨He.cls_ok (c.fact 42 (f := .cls "Machine") rfl), He.noat_ok (c.fact 64 (f := .noat "Machine" "long") rfl)⟩
      · exact ⟨He.cls_ok (c.fact 44 (f := .cls "Line") rfl), He.noat_ok (c.fact 65 (f := .noat "Line" "long") rfl)⟩
      · exact ⟨He.cls_ok (c.fact 46 (f := .cls "Wagon") rfl), He.noat_ok (c.fact 66 (f := .noat "Wagon" "long") rfl)⟩
      · exact ⟨He.cls_ok (c.fact 48 (f := .cls "Floor") rfl), He.noat_ok (c.fact 67 (f := .noat "Floor" "long") rfl)⟩
      · exact ⟨He.cls_ok (c.fact 50 (f := .cls "Trap") rfl), He.noat_ok (c.fact 68 (f := .noat "Trap" "long") rfl)⟩), (by
      intro x hx
      simp only [cs_name, List.mem_cons, List.not_mem_nil, or_false] at hx
      rcases hx with rfl | rfl | rfl | rfl | rfl
      · exact ⟨He.cls_ok (c.fact 42 (f := .cls "Machine") rfl), He.noat_ok (c.fact 69 (f := .noat "Machine" "name") rfl)⟩
      · exact ⟨He.cls_ok (c.fact 44 (f := .cls "Line") rfl), He.noat_ok (c.fact 70 (f := .noat "Line" "name") rfl)⟩
      · exact ⟨He.cls_ok (c.fact 46 (f := .cls "Wagon") rfl), He.noat_ok (c.fact 71 (f := .noat "Wagon" "name") rfl)⟩
      · exact ⟨He.cls_ok (c.fact 48 (f := .cls "Floor") rfl), He.noat_ok (c.fact 72 (f := .noat "Floor" "name") rfl)⟩
      · exact ⟨He.cls_ok (c.fact 50 (f := .cls "Trap") rfl), He.noat_ok (c.fact 73 (f := .noat "Trap" "name") rfl)⟩), (by
      intro x hx
      simp only [cs_pace, List.mem_cons, List.not_mem_nil, or_false] at hx
      rcases hx with rfl | rfl | rfl | rfl | rfl
      · exact ⟨He.cls_ok (c.fact 42 (f := .cls "Machine") rfl), He.noat_ok (c.fact 74 (f := .noat "Machine" "pace") rfl)⟩
      · exact ⟨He.cls_ok (c.fact 44 (f := .cls "Line") rfl), He.noat_ok (c.fact 75 (f := .noat "Line" "pace") rfl)⟩
      · exact ⟨He.cls_ok (c.fact 46 (f := .cls "Wagon") rfl), He.noat_ok (c.fact 76 (f := .noat "Wagon" "pace") rfl)⟩
      · exact ⟨He.cls_ok (c.fact 48 (f := .cls "Floor") rfl), He.noat_ok (c.fact 77 (f := .noat "Floor" "pace") rfl)⟩
      · exact ⟨He.cls_ok (c.fact 50 (f := .cls "Trap") rfl), He.noat_ok (c.fact 78 (f := .noat "Trap" "pace") rfl)⟩), (by
      intro x hx
      simp only [cs_place, List.mem_cons, List.not_mem_nil, or_false] at hx
      rcases hx with rfl | rfl | rfl | rfl | rfl
      · exact ⟨He.cls_ok (c.fact 42 (f := .cls "Machine") rfl), He.noat_ok (c.fact 79 (f := .noat "Machine" "place") rfl)⟩
      · exact ⟨He.cls_ok (c.fact 44 (f := .cls "Line") rfl), He.noat_ok (c.fact 80 (f := .noat "Line" "place") rfl)⟩
      · exact ⟨He.cls_ok (c.fact 46 (f := .cls "Wagon") rfl), He.noat_ok (c.fact 81 (f := .noat "Wagon" "place") rfl)⟩
      · exact ⟨He.cls_ok (c.fact 48 (f := .cls "Floor") rfl), He.noat_ok (c.fact 82 (f := .noat "Floor" "place") rfl)⟩
      · exact ⟨He.cls_ok (c.fact 50 (f := .cls "Trap") rfl), He.noat_ok (c.fact 83 (f := .noat "Trap" "place") rfl)⟩), (by
      intro x hx
      simp only [cs_rail, List.mem_cons, List.not_mem_nil, or_false] at hx
      rcases hx with rfl | rfl | rfl | rfl | rfl
      · exact ⟨He.cls_ok (c.fact 42 (f := .cls "Machine") rfl), He.noat_ok (c.fact 84 (f := .noat "Machine" "rail") rfl)⟩
      · exact ⟨He.cls_ok (c.fact 44 (f := .cls "Line") rfl), He.noat_ok (c.fact 85 (f := .noat "Line" "rail") rfl)⟩
      · exact ⟨He.cls_ok (c.fact 46 (f := .cls "Wagon") rfl), He.noat_ok (c.fact 86 (f := .noat "Wagon" "rail") rfl)⟩
      · exact ⟨He.cls_ok (c.fact 48 (f := .cls "Floor") rfl), He.noat_ok (c.fact 87 (f := .noat "Floor" "rail") rfl)⟩
      · exact ⟨He.cls_ok (c.fact 50 (f := .cls "Trap") rfl), He.noat_ok (c.fact 88 (f := .noat "Trap" "rail") rfl)⟩), (by
      intro x hx
      simp only [cs_spot, List.mem_cons, List.not_mem_nil, or_false] at hx
      rcases hx with rfl | rfl
      · exact ⟨He.cls_ok (c.fact 44 (f := .cls "Line") rfl), He.noat_ok (c.fact 89 (f := .noat "Line" "spot") rfl)⟩
      · exact ⟨He.cls_ok (c.fact 50 (f := .cls "Trap") rfl), He.noat_ok (c.fact 90 (f := .noat "Trap" "spot") rfl)⟩), (by
      intro x hx
      simp only [cs_walls, List.mem_cons, List.not_mem_nil, or_false] at hx
      rcases hx with rfl
      · exact ⟨He.cls_ok (c.fact 48 (f := .cls "Floor") rfl), He.noat_ok (c.fact 91 (f := .noat "Floor" "walls") rfl)⟩)⟩
  obtain ⟨fd_is_whole, D_is_whole⟩ := c.def_ 0 rfl
  have g_is_whole := He.glo_ok X G (c.fact 92 (f := .glo "is_whole") rfl)
  obtain ⟨fd_need_whole, D_need_whole⟩ := c.def_ 1 rfl
  have g_need_whole := He.glo_ok X G (c.fact 93 (f := .glo "need_whole") rfl)
  obtain ⟨fd_is_name, D_is_name⟩ := c.def_ 2 rfl
  have g_is_name := He.glo_ok X G (c.fact 94 (f := .glo "is_name") rfl)
  obtain ⟨fd_need_place, D_need_place⟩ := c.def_ 3 rfl
  have g_need_place := He.glo_ok X G (c.fact 95 (f := .glo "need_place") rfl)
  obtain ⟨fd_need_sizes, D_need_sizes⟩ := c.def_ 4 rfl
  have g_need_sizes := He.glo_ok X G (c.fact 96 (f := .glo "need_sizes") rfl)
  obtain ⟨fd__law_draw, D__law_draw⟩ := c.def_ 5 rfl
  have g__law_draw := He.glo_ok X G (c.fact 97 (f := .glo "_law_draw") rfl)
  obtain ⟨fd__law_spread, D__law_spread⟩ := c.def_ 6 rfl
  have g__law_spread := He.glo_ok X G (c.fact 98 (f := .glo "_law_spread") rfl)
  obtain ⟨fd__law_takes, D__law_takes⟩ := c.def_ 7 rfl
  have g__law_takes := He.glo_ok X G (c.fact 99 (f := .glo "_law_takes") rfl)
  obtain ⟨fd__law_machine, D__law_machine⟩ := c.def_ 8 rfl
  have g__law_machine := He.glo_ok X G (c.fact 100 (f := .glo "_law_machine") rfl)
  obtain ⟨fd__law_classes, D__law_classes⟩ := c.def_ 9 rfl
  have g__law_classes := He.glo_ok X G (c.fact 101 (f := .glo "_law_classes") rfl)
  obtain ⟨fd__law_drawn, D__law_drawn⟩ := c.def_ 10 rfl
  have g__law_drawn := He.glo_ok X G (c.fact 102 (f := .glo "_law_drawn") rfl)
  obtain ⟨fd__law_tail, D__law_tail⟩ := c.def_ 11 rfl
  have g__law_tail := He.glo_ok X G (c.fact 103 (f := .glo "_law_tail") rfl)
  obtain ⟨fd__law_told_right, D__law_told_right⟩ := c.def_ 12 rfl
  have g__law_told_right := He.glo_ok X G (c.fact 104 (f := .glo "_law_told_right") rfl)
  obtain ⟨fd__law_place_refused, D__law_place_refused⟩ := c.def_ 13 rfl
  have g__law_place_refused := He.glo_ok X G (c.fact 105 (f := .glo "_law_place_refused") rfl)
  obtain ⟨fd__law_boxes_right, D__law_boxes_right⟩ := c.def_ 14 rfl
  have g__law_boxes_right := He.glo_ok X G (c.fact 106 (f := .glo "_law_boxes_right") rfl)
  obtain ⟨fd__law_spoilt, D__law_spoilt⟩ := c.def_ 15 rfl
  have g__law_spoilt := He.glo_ok X G (c.fact 107 (f := .glo "_law_spoilt") rfl)
  obtain ⟨fd__law_refused, D__law_refused⟩ := c.def_ 16 rfl
  have g__law_refused := He.glo_ok X G (c.fact 108 (f := .glo "_law_refused") rfl)
  obtain ⟨fd_law, D_law⟩ := c.def_ 17 rfl
  have g_law := He.glo_ok X G (c.fact 109 (f := .glo "law") rfl)
  obtain ⟨fd_Machine_init, D_Machine_init⟩ := c.def_ 18 rfl
  obtain ⟨fd_Line_init, D_Line_init⟩ := c.def_ 19 rfl
  obtain ⟨fd_Wagon_init, D_Wagon_init⟩ := c.def_ 20 rfl
  obtain ⟨fd_Trap_init, D_Trap_init⟩ := c.def_ 21 rfl
  obtain ⟨fd_Floor_init, D_Floor_init⟩ := c.def_ 22 rfl
  obtain ⟨fd_Machine_kind, D_Machine_kind⟩ := c.def_ 23 rfl
  obtain ⟨fd_Line_kind, D_Line_kind⟩ := c.def_ 24 rfl
  obtain ⟨fd_Wagon_kind, D_Wagon_kind⟩ := c.def_ 25 rfl
  obtain ⟨fd_Floor_kind, D_Floor_kind⟩ := c.def_ 26 rfl
  obtain ⟨fd_Trap_kind, D_Trap_kind⟩ := c.def_ 27 rfl
  obtain ⟨fd_Machine_tail, D_Machine_tail⟩ := c.def_ 28 rfl
  obtain ⟨fd_Line_tail, D_Line_tail⟩ := c.def_ 29 rfl
  obtain ⟨fd_Wagon_tail, D_Wagon_tail⟩ := c.def_ 30 rfl
  obtain ⟨fd_Floor_tail, D_Floor_tail⟩ := c.def_ 31 rfl
  obtain ⟨fd_Trap_tail, D_Trap_tail⟩ := c.def_ 32 rfl
  obtain ⟨fd_Machine_offset, D_Machine_offset⟩ := c.def_ 33 rfl
  obtain ⟨fd_Line_offset, D_Line_offset⟩ := c.def_ 34 rfl
  obtain ⟨fd_Wagon_offset, D_Wagon_offset⟩ := c.def_ 35 rfl
  obtain ⟨fd_Floor_offset, D_Floor_offset⟩ := c.def_ 36 rfl
  obtain ⟨fd_Trap_offset, D_Trap_offset⟩ := c.def_ 37 rfl
  obtain ⟨fd_Machine_wide, D_Machine_wide⟩ := c.def_ 38 rfl
  obtain ⟨fd_Line_wide, D_Line_wide⟩ := c.def_ 39 rfl
  obtain ⟨fd_Wagon_wide, D_Wagon_wide⟩ := c.def_ 40 rfl
  obtain ⟨fd_Floor_wide, D_Floor_wide⟩ := c.def_ 41 rfl
  obtain ⟨fd_Trap_wide, D_Trap_wide⟩ := c.def_ 42 rfl
  obtain ⟨fd_Machine_lane, D_Machine_lane⟩ := c.def_ 43 rfl
  obtain ⟨fd_Line_lane, D_Line_lane⟩ := c.def_ 44 rfl
  obtain ⟨fd_Wagon_lane, D_Wagon_lane⟩ := c.def_ 45 rfl
  obtain ⟨fd_Floor_lane, D_Floor_lane⟩ := c.def_ 46 rfl
  obtain ⟨fd_Trap_lane, D_Trap_lane⟩ := c.def_ 47 rfl
  obtain ⟨fd_Machine_words, D_Machine_words⟩ := c.def_ 48 rfl
  obtain ⟨fd_Line_words, D_Line_words⟩ := c.def_ 49 rfl
  obtain ⟨fd_Wagon_words, D_Wagon_words⟩ := c.def_ 50 rfl
  obtain ⟨fd_Floor_words, D_Floor_words⟩ := c.def_ 51 rfl
  obtain ⟨fd_Trap_words, D_Trap_words⟩ := c.def_ 52 rfl
  obtain ⟨fd_Machine_need_within, D_Machine_need_within⟩ := c.def_ 53 rfl
  obtain ⟨fd_Line_need_within, D_Line_need_within⟩ := c.def_ 54 rfl
  obtain ⟨fd_Wagon_need_within, D_Wagon_need_within⟩ := c.def_ 55 rfl
  obtain ⟨fd_Floor_need_within, D_Floor_need_within⟩ := c.def_ 56 rfl
  obtain ⟨fd_Trap_need_within, D_Trap_need_within⟩ := c.def_ 57 rfl
  obtain ⟨fd_Machine_swept, D_Machine_swept⟩ := c.def_ 58 rfl
  obtain ⟨fd_Line_swept, D_Line_swept⟩ := c.def_ 59 rfl
  obtain ⟨fd_Wagon_swept, D_Wagon_swept⟩ := c.def_ 60 rfl
  obtain ⟨fd_Floor_swept, D_Floor_swept⟩ := c.def_ 61 rfl
  obtain ⟨fd_Trap_swept, D_Trap_swept⟩ := c.def_ 62 rfl
  obtain ⟨fd_Machine_boxes, D_Machine_boxes⟩ := c.def_ 63 rfl
  obtain ⟨fd_Line_boxes, D_Line_boxes⟩ := c.def_ 64 rfl
  obtain ⟨fd_Wagon_boxes, D_Wagon_boxes⟩ := c.def_ 65 rfl
  obtain ⟨fd_Floor_boxes, D_Floor_boxes⟩ := c.def_ 66 rfl
  obtain ⟨fd_Trap_boxes, D_Trap_boxes⟩ := c.def_ 67 rfl
  obtain ⟨fd_Machine_taken, D_Machine_taken⟩ := c.def_ 68 rfl
  obtain ⟨fd_Line_taken, D_Line_taken⟩ := c.def_ 69 rfl
  obtain ⟨fd_Wagon_taken, D_Wagon_taken⟩ := c.def_ 70 rfl
  obtain ⟨fd_Floor_taken, D_Floor_taken⟩ := c.def_ 71 rfl
  obtain ⟨fd_Trap_taken, D_Trap_taken⟩ := c.def_ 72 rfl
  have e := hfa.symm.trans g_law
  cases e
  have bl := FunD.bindsA (ps := ["_law_script"]) D_law fun _ _ _ _ _ _ us hl => match us, hl with | [_], _ => rfl
  refine ⟨fd_law, fun s v => bl s [v] rfl, fun base _ _ => ?_⟩
  have A_F__law_spread0 : DFn P w K mg base 1 "_law_spread" 2 m__law_spread := ⟨_, _, _, (G__law_spread (P := P) (w := w) (base := base) ev D__law_spread).1, g__law_spread, D__law_spread.kp, (G__law_spread (P := P) (w := w) (base := base) ev D__law_spread).2⟩
  have A_F__law_spread : DFn P w K mg base 1 "_law_spread" 2 c__law_spread := A_F__law_spread0
  have A_F__law_drawn0 : DFn P w K mg base 2 "_law_drawn" 2 m__law_drawn := ⟨_, _, _, (G__law_drawn (P := P) (w := w) (base := base) ev (A_F__law_spread.mono (by decide)) D__law_drawn).1, g__law_drawn, D__law_drawn.kp, (G__law_drawn (P := P) (w := w) (base := base) ev (A_F__law_spread.mono (by decide)) D__law_drawn).2⟩
  have A_F__law_drawn : DFn P w K mg base 2 "_law_drawn" 2 c__law_drawn := A_F__law_drawn0.fin
  have A_F_is_name0 : DFn P w K mg base 1 "is_name" 1 m_is_name := ⟨_, _, _, (G_is_name (P := P) (w := w) (base := base) ev D_is_name).1, g_is_name, D_is_name.kp, (G_is_name (P := P) (w := w) (base := base) ev D_is_name).2⟩
  have A_F_is_name : DFn P w K mg base 1 "is_name" 1 c_is_name := A_F_is_name0
  have A_F_is_whole0 : DFn P w K mg base 1 "is_whole" 3 m_is_whole := ⟨_, _, _, (G_is_whole (P := P) (w := w) (base := base) ev D_is_whole).1, g_is_whole, D_is_whole.kp, (G_is_whole (P := P) (w := w) (base := base) ev D_is_whole).2⟩
  have A_F_is_whole : DFn P w K mg base 1 "is_whole" 3 c_is_whole := A_F_is_whole0
  have A_F_need_whole0 : DFn P w K mg base 2 "need_whole" 3 m_need_whole := ⟨_, _, _, (G_need_whole (P := P) (w := w) (base := base) ev (A_F_is_whole.mono (by decide)) D_need_whole).1, g_need_whole, D_need_whole.kp, (G_need_whole (P := P) (w := w) (base := base) ev (A_F_is_whole.mono (by decide)) D_need_whole).2⟩
  have A_F_need_whole : DFn P w K mg base 2 "need_whole" 3 c_need_whole := A_F_need_whole0
  have A_F_need_place0 : DFn P w K mg base 3 "need_place" 1 m_need_place := ⟨_, _, _, (G_need_place (P := P) (w := w) (base := base) ev (A_F_need_whole.mono (by decide)) D_need_place).1, g_need_place, D_need_place.kp, (G_need_place (P := P) (w := w) (base := base) ev (A_F_need_whole.mono (by decide)) D_need_place).2⟩
  have A_F_need_place : DFn P w K mg base 3 "need_place" 1 c_need_place := A_F_need_place0
  have A_K_Machine_init : CFn P w K mg base 4 "Machine" "__init__" 7 m_Machine_init := ⟨_, _, _, _, (G_Machine_init (P := P) (w := w) (base := base) ev (A_F_is_name.mono (by decide)) (A_F_need_place.mono (by decide)) (A_F_need_whole.mono (by decide)) D_Machine_init).1, (cfnB_ok (cfn_of kb.2 0 rfl)).1, (cfnB_ok (cfn_of kb.2 0 rfl)).2, D_Machine_init.kp, (G_Machine_init (P := P) (w := w) (base := base) ev (A_F_is_name.mono (by decide)) (A_F_need_place.mono (by decide)) (A_F_need_whole.mono (by decide)) D_Machine_init).2⟩
  have A_F_need_sizes0 : DFn P w K mg base 3 "need_sizes" 2 m_need_sizes := ⟨_, _, _, (G_need_sizes (P := P) (w := w) (base := base) ev (A_F_need_whole.mono (by decide)) D_need_sizes).1, g_need_sizes, D_need_sizes.kp, (G_need_sizes (P := P) (w := w) (base := base) ev (A_F_need_whole.mono (by decide)) D_need_sizes).2⟩
  have A_F_need_sizes : DFn P w K mg base 3 "need_sizes" 2 c_need_sizes := A_F_need_sizes0
  have A_I_Line : Ini P w K mg base 5 "Line" 10 m_Line_init := ⟨_, _, _, (G_Line_init (P := P) (w := w) (base := base) ev (A_K_Machine_init.mono (by decide)) (A_F_need_whole.mono (by decide)) (A_F_need_place.mono (by decide)) (A_F_need_sizes.mono (by decide)) D_Line_init).1, He.mkr_ok (c.fact 110 (f := .mkr "Line") rfl), (G_Line_init (P := P) (w := w) (base := base) ev (A_K_Machine_init.mono (by decide)) (A_F_need_whole.mono (by decide)) (A_F_need_place.mono (by decide)) (A_F_need_sizes.mono (by decide)) D_Line_init).2⟩
  have A_I_Wagon : Ini P w K mg base 5 "Wagon" 9 m_Wagon_init := ⟨_, _, _, (G_Wagon_init (P := P) (w := w) (base := base) ev (A_K_Machine_init.mono (by decide)) (A_F_need_whole.mono (by decide)) (A_F_need_sizes.mono (by decide)) D_Wagon_init).1, He.mkr_ok (c.fact 111 (f := .mkr "Wagon") rfl), (G_Wagon_init (P := P) (w := w) (base := base) ev (A_K_Machine_init.mono (by decide)) (A_F_need_whole.mono (by decide)) (A_F_need_sizes.mono (by decide)) D_Wagon_init).2⟩
  have A_I_Trap : Ini P w K mg base 5 "Trap" 9 m_Trap_init := ⟨_, _, _, (G_Trap_init (P := P) (w := w) (base := base) ev (A_K_Machine_init.mono (by decide)) (A_F_need_whole.mono (by decide)) (A_F_need_place.mono (by decide)) D_Trap_init).1, He.mkr_ok (c.fact 112 (f := .mkr "Trap") rfl), (G_Trap_init (P := P) (w := w) (base := base) ev (A_K_Machine_init.mono (by decide)) (A_F_need_whole.mono (by decide)) (A_F_need_place.mono (by decide)) D_Trap_init).2⟩
  have A_I_Floor : Ini P w K mg base 5 "Floor" 8 m_Floor_init := ⟨_, _, _, (G_Floor_init (P := P) (w := w) (base := base) ev (A_K_Machine_init.mono (by decide)) (A_F_need_whole.mono (by decide)) (A_F_need_sizes.mono (by decide)) D_Floor_init).1, He.mkr_ok (c.fact 113 (f := .mkr "Floor") rfl), (G_Floor_init (P := P) (w := w) (base := base) ev (A_K_Machine_init.mono (by decide)) (A_F_need_whole.mono (by decide)) (A_F_need_sizes.mono (by decide)) D_Floor_init).2⟩
  have A_F__law_machine0 : DFn P w K mg base 7 "_law_machine" 1 m__law_machine := ⟨_, _, _, (G__law_machine (P := P) (w := w) (base := base) ev (A_I_Line.mono (by decide)) (A_I_Wagon.mono (by decide)) (A_I_Trap.mono (by decide)) (A_I_Floor.mono (by decide)) D__law_machine).1, g__law_machine, D__law_machine.kp, (G__law_machine (P := P) (w := w) (base := base) ev (A_I_Line.mono (by decide)) (A_I_Wagon.mono (by decide)) (A_I_Trap.mono (by decide)) (A_I_Floor.mono (by decide)) D__law_machine).2⟩
  have A_F__law_machine : DFn P w K mg base 7 "_law_machine" 1 c__law_machine := A_F__law_machine0
  have A_Mth_Machine_offset_0 : Mth P w K mg base 1 "Machine" "offset" 0 c_Machine_offset := (show Mth P w K mg base 1 "Machine" "offset" 0 m_Machine_offset from ⟨_, _, _, (G_Machine_offset (P := P) (w := w) (base := base) ev D_Machine_offset).1, He.meth_ok (c.fact 114 (f := .meth "Machine" "offset") rfl), (G_Machine_offset (P := P) (w := w) (base := base) ev D_Machine_offset).2, He.cls_ok (c.fact 42 (f := .cls "Machine") rfl)⟩)
  have A_Mth_Line_offset_0 : Mth P w K mg base 1 "Line" "offset" 0 c_Machine_offset := (show Mth P w K mg base 1 "Line" "offset" 0 m_Machine_offset from ⟨_, _, _, (G_Machine_offset (P := P) (w := w) (base := base) ev D_Line_offset).1, He.meth_ok (c.fact 115 (f := .meth "Line" "offset") rfl), (G_Machine_offset (P := P) (w := w) (base := base) ev D_Line_offset).2, He.cls_ok (c.fact 44 (f := .cls "Line") rfl)⟩)
  have A_Mth_Wagon_offset_0 : Mth P w K mg base 1 "Wagon" "offset" 0 c_Machine_offset := (show Mth P w K mg base 1 "Wagon" "offset" 0 m_Machine_offset from ⟨_, _, _, (G_Machine_offset (P := P) (w := w) (base := base) ev D_Wagon_offset).1, He.meth_ok (c.fact 116 (f := .meth "Wagon" "offset") rfl), (G_Machine_offset (P := P) (w := w) (base := base) ev D_Wagon_offset).2, He.cls_ok (c.fact 46 (f := .cls "Wagon") rfl)⟩)
  have A_Mth_Floor_offset_0 : Mth P w K mg base 1 "Floor" "offset" 0 c_Floor_offset := (show Mth P w K mg base 1 "Floor" "offset" 0 m_Floor_offset from ⟨_, _, _, (G_Floor_offset (P := P) (w := w) (base := base) ev D_Floor_offset).1, He.meth_ok (c.fact 117 (f := .meth "Floor" "offset") rfl), (G_Floor_offset (P := P) (w := w) (base := base) ev D_Floor_offset).2, He.cls_ok (c.fact 48 (f := .cls "Floor") rfl)⟩)
  have A_Mth_Trap_offset_0 : Mth P w K mg base 1 "Trap" "offset" 0 c_Machine_offset := (show Mth P w K mg base 1 "Trap" "offset" 0 m_Machine_offset from ⟨_, _, _, (G_Machine_offset (P := P) (w := w) (base := base) ev D_Trap_offset).1, He.meth_ok (c.fact 118 (f := .meth "Trap" "offset") rfl), (G_Machine_offset (P := P) (w := w) (base := base) ev D_Trap_offset).2, He.cls_ok (c.fact 50 (f := .cls "Trap") rfl)⟩)
  have A_M_offset_0 : ∀ c mf, t_offset_0 c = some mf → Mth P w K mg base 1 c "offset" 0 mf := by
    intro c mf hh
    unfold t_offset_0 at hh
    split at hh
    · cases hh; exact A_Mth_Machine_offset_0.mono (by decide)
    · cases hh; exact A_Mth_Line_offset_0.mono (by decide)
    · cases hh; exact A_Mth_Wagon_offset_0.mono (by decide)
    · cases hh; exact A_Mth_Floor_offset_0.mono (by decide)
    · cases hh; exact A_Mth_Trap_offset_0.mono (by decide)
    · cases hh
  have A_Mth_Machine_wide_0 : Mth P w K mg base 1 "Machine" "wide" 0 c_Machine_wide := (show Mth P w K mg base 1 "Machine" "wide" 0 m_Machine_wide from ⟨_, _, _, (G_Machine_wide (P := P) (w := w) (base := base) ev D_Machine_wide).1, He.meth_ok (c.fact 119 (f := .meth "Machine" "wide") rfl), (G_Machine_wide (P := P) (w := w) (base := base) ev D_Machine_wide).2, He.cls_ok (c.fact 42 (f := .cls "Machine") rfl)⟩)
  have A_Mth_Line_wide_0 : Mth P w K mg base 1 "Line" "wide" 0 c_Machine_wide := (show Mth P w K mg base 1 "Line" "wide" 0 m_Machine_wide from ⟨_, _, _, (G_Machine_wide (P := P) (w := w) (base := base) ev D_Line_wide).1, He.meth_ok (c.fact 120 (f := .meth "Line" "wide") rfl), (G_Machine_wide (P := P) (w := w) (base := base) ev D_Line_wide).2, He.cls_ok (c.fact 44 (f := .cls "Line") rfl)⟩)
  have A_Mth_Wagon_wide_0 : Mth P w K mg base 1 "Wagon" "wide" 0 c_Machine_wide := (show Mth P w K mg base 1 "Wagon" "wide" 0 m_Machine_wide from ⟨_, _, _, (G_Machine_wide (P := P) (w := w) (base := base) ev D_Wagon_wide).1, He.meth_ok (c.fact 121 (f := .meth "Wagon" "wide") rfl), (G_Machine_wide (P := P) (w := w) (base := base) ev D_Wagon_wide).2, He.cls_ok (c.fact 46 (f := .cls "Wagon") rfl)⟩)
  have A_Mth_Floor_wide_0 : Mth P w K mg base 1 "Floor" "wide" 0 c_Machine_wide := (show Mth P w K mg base 1 "Floor" "wide" 0 m_Machine_wide from ⟨_, _, _, (G_Machine_wide (P := P) (w := w) (base := base) ev D_Floor_wide).1, He.meth_ok (c.fact 122 (f := .meth "Floor" "wide") rfl), (G_Machine_wide (P := P) (w := w) (base := base) ev D_Floor_wide).2, He.cls_ok (c.fact 48 (f := .cls "Floor") rfl)⟩)
  have A_Mth_Trap_wide_0 : Mth P w K mg base 1 "Trap" "wide" 0 c_Machine_wide := (show Mth P w K mg base 1 "Trap" "wide" 0 m_Machine_wide from ⟨_, _, _, (G_Machine_wide (P := P) (w := w) (base := base) ev D_Trap_wide).1, He.meth_ok (c.fact 123 (f := .meth "Trap" "wide") rfl), (G_Machine_wide (P := P) (w := w) (base := base) ev D_Trap_wide).2, He.cls_ok (c.fact 50 (f := .cls "Trap") rfl)⟩)
  have A_M_wide_0 : ∀ c mf, t_wide_0 c = some mf → Mth P w K mg base 1 c "wide" 0 mf := by
    intro c mf hh
    unfold t_wide_0 at hh
    split at hh
    · cases hh; exact A_Mth_Machine_wide_0.mono (by decide)
    · cases hh; exact A_Mth_Line_wide_0.mono (by decide)
    · cases hh; exact A_Mth_Wagon_wide_0.mono (by decide)
    · cases hh; exact A_Mth_Floor_wide_0.mono (by decide)
    · cases hh; exact A_Mth_Trap_wide_0.mono (by decide)
    · cases hh
  have A_Mth_Machine_lane_0 : Mth P w K mg base 1 "Machine" "lane" 0 c_Machine_lane := (show Mth P w K mg base 1 "Machine" "lane" 0 m_Machine_lane from ⟨_, _, _, (G_Machine_lane (P := P) (w := w) (base := base) ev D_Machine_lane).1, He.meth_ok (c.fact 124 (f := .meth "Machine" "lane") rfl), (G_Machine_lane (P := P) (w := w) (base := base) ev D_Machine_lane).2, He.cls_ok (c.fact 42 (f := .cls "Machine") rfl)⟩)
  have A_Mth_Line_lane_0 : Mth P w K mg base 1 "Line" "lane" 0 c_Machine_lane := (show Mth P w K mg base 1 "Line" "lane" 0 m_Machine_lane from ⟨_, _, _, (G_Machine_lane (P := P) (w := w) (base := base) ev D_Line_lane).1, He.meth_ok (c.fact 125 (f := .meth "Line" "lane") rfl), (G_Machine_lane (P := P) (w := w) (base := base) ev D_Line_lane).2, He.cls_ok (c.fact 44 (f := .cls "Line") rfl)⟩)
  have A_Mth_Wagon_lane_0 : Mth P w K mg base 1 "Wagon" "lane" 0 c_Machine_lane := (show Mth P w K mg base 1 "Wagon" "lane" 0 m_Machine_lane from ⟨_, _, _, (G_Machine_lane (P := P) (w := w) (base := base) ev D_Wagon_lane).1, He.meth_ok (c.fact 126 (f := .meth "Wagon" "lane") rfl), (G_Machine_lane (P := P) (w := w) (base := base) ev D_Wagon_lane).2, He.cls_ok (c.fact 46 (f := .cls "Wagon") rfl)⟩)
  have A_Mth_Floor_lane_0 : Mth P w K mg base 1 "Floor" "lane" 0 c_Machine_lane := (show Mth P w K mg base 1 "Floor" "lane" 0 m_Machine_lane from ⟨_, _, _, (G_Machine_lane (P := P) (w := w) (base := base) ev D_Floor_lane).1, He.meth_ok (c.fact 127 (f := .meth "Floor" "lane") rfl), (G_Machine_lane (P := P) (w := w) (base := base) ev D_Floor_lane).2, He.cls_ok (c.fact 48 (f := .cls "Floor") rfl)⟩)
  have A_Mth_Trap_lane_0 : Mth P w K mg base 1 "Trap" "lane" 0 c_Machine_lane := (show Mth P w K mg base 1 "Trap" "lane" 0 m_Machine_lane from ⟨_, _, _, (G_Machine_lane (P := P) (w := w) (base := base) ev D_Trap_lane).1, He.meth_ok (c.fact 128 (f := .meth "Trap" "lane") rfl), (G_Machine_lane (P := P) (w := w) (base := base) ev D_Trap_lane).2, He.cls_ok (c.fact 50 (f := .cls "Trap") rfl)⟩)
  have A_M_lane_0 : ∀ c mf, t_lane_0 c = some mf → Mth P w K mg base 1 c "lane" 0 mf := by
    intro c mf hh
    unfold t_lane_0 at hh
    split at hh
    · cases hh; exact A_Mth_Machine_lane_0.mono (by decide)
    · cases hh; exact A_Mth_Line_lane_0.mono (by decide)
    · cases hh; exact A_Mth_Wagon_lane_0.mono (by decide)
    · cases hh; exact A_Mth_Floor_lane_0.mono (by decide)
    · cases hh; exact A_Mth_Trap_lane_0.mono (by decide)
    · cases hh
  have A_Mth_Machine_kind_0 : Mth P w K mg base 1 "Machine" "kind" 0 c_Machine_kind := (show Mth P w K mg base 1 "Machine" "kind" 0 m_Machine_kind from ⟨_, _, _, (G_Machine_kind (P := P) (w := w) (base := base) ev D_Machine_kind).1, He.meth_ok (c.fact 129 (f := .meth "Machine" "kind") rfl), (G_Machine_kind (P := P) (w := w) (base := base) ev D_Machine_kind).2, He.cls_ok (c.fact 42 (f := .cls "Machine") rfl)⟩)
  have A_Mth_Line_kind_0 : Mth P w K mg base 1 "Line" "kind" 0 c_Line_kind := (show Mth P w K mg base 1 "Line" "kind" 0 m_Line_kind from ⟨_, _, _, (G_Line_kind (P := P) (w := w) (base := base) ev D_Line_kind).1, He.meth_ok (c.fact 130 (f := .meth "Line" "kind") rfl), (G_Line_kind (P := P) (w := w) (base := base) ev D_Line_kind).2, He.cls_ok (c.fact 44 (f := .cls "Line") rfl)⟩)
  have A_Mth_Wagon_kind_0 : Mth P w K mg base 1 "Wagon" "kind" 0 c_Wagon_kind := (show Mth P w K mg base 1 "Wagon" "kind" 0 m_Wagon_kind from ⟨_, _, _, (G_Wagon_kind (P := P) (w := w) (base := base) ev D_Wagon_kind).1, He.meth_ok (c.fact 131 (f := .meth "Wagon" "kind") rfl), (G_Wagon_kind (P := P) (w := w) (base := base) ev D_Wagon_kind).2, He.cls_ok (c.fact 46 (f := .cls "Wagon") rfl)⟩)
  have A_Mth_Floor_kind_0 : Mth P w K mg base 1 "Floor" "kind" 0 c_Floor_kind := (show Mth P w K mg base 1 "Floor" "kind" 0 m_Floor_kind from ⟨_, _, _, (G_Floor_kind (P := P) (w := w) (base := base) ev D_Floor_kind).1, He.meth_ok (c.fact 132 (f := .meth "Floor" "kind") rfl), (G_Floor_kind (P := P) (w := w) (base := base) ev D_Floor_kind).2, He.cls_ok (c.fact 48 (f := .cls "Floor") rfl)⟩)
  have A_Mth_Trap_kind_0 : Mth P w K mg base 1 "Trap" "kind" 0 c_Trap_kind := (show Mth P w K mg base 1 "Trap" "kind" 0 m_Trap_kind from ⟨_, _, _, (G_Trap_kind (P := P) (w := w) (base := base) ev D_Trap_kind).1, He.meth_ok (c.fact 133 (f := .meth "Trap" "kind") rfl), (G_Trap_kind (P := P) (w := w) (base := base) ev D_Trap_kind).2, He.cls_ok (c.fact 50 (f := .cls "Trap") rfl)⟩)
  have A_M_kind_0 : ∀ c mf, t_kind_0 c = some mf → Mth P w K mg base 1 c "kind" 0 mf := by
    intro c mf hh
    unfold t_kind_0 at hh
    split at hh
    · cases hh; exact A_Mth_Machine_kind_0.mono (by decide)
    · cases hh; exact A_Mth_Line_kind_0.mono (by decide)
    · cases hh; exact A_Mth_Wagon_kind_0.mono (by decide)
    · cases hh; exact A_Mth_Floor_kind_0.mono (by decide)
    · cases hh; exact A_Mth_Trap_kind_0.mono (by decide)
    · cases hh
  have A_F__law_tail0 : DFn P w K mg base 1 "_law_tail" 1 m__law_tail := ⟨_, _, _, (G__law_tail (P := P) (w := w) (base := base) ev D__law_tail).1, g__law_tail, D__law_tail.kp, (G__law_tail (P := P) (w := w) (base := base) ev D__law_tail).2⟩
  have A_F__law_tail : DFn P w K mg base 1 "_law_tail" 1 c__law_tail := A_F__law_tail0
  have A_Mth_Machine_tail_0 : Mth P w K mg base 1 "Machine" "tail" 0 c_Machine_tail := (show Mth P w K mg base 1 "Machine" "tail" 0 m_Machine_tail from ⟨_, _, _, (G_Machine_tail (P := P) (w := w) (base := base) ev D_Machine_tail).1, He.meth_ok (c.fact 134 (f := .meth "Machine" "tail") rfl), (G_Machine_tail (P := P) (w := w) (base := base) ev D_Machine_tail).2, He.cls_ok (c.fact 42 (f := .cls "Machine") rfl)⟩)
  have A_Mth_Line_tail_0 : Mth P w K mg base 1 "Line" "tail" 0 c_Line_tail := (show Mth P w K mg base 1 "Line" "tail" 0 m_Line_tail from ⟨_, _, _, (G_Line_tail (P := P) (w := w) (base := base) ev D_Line_tail).1, He.meth_ok (c.fact 135 (f := .meth "Line" "tail") rfl), (G_Line_tail (P := P) (w := w) (base := base) ev D_Line_tail).2, He.cls_ok (c.fact 44 (f := .cls "Line") rfl)⟩)
  have A_Mth_Wagon_tail_0 : Mth P w K mg base 1 "Wagon" "tail" 0 c_Wagon_tail := (show Mth P w K mg base 1 "Wagon" "tail" 0 m_Wagon_tail from ⟨_, _, _, (G_Wagon_tail (P := P) (w := w) (base := base) ev D_Wagon_tail).1, He.meth_ok (c.fact 136 (f := .meth "Wagon" "tail") rfl), (G_Wagon_tail (P := P) (w := w) (base := base) ev D_Wagon_tail).2, He.cls_ok (c.fact 46 (f := .cls "Wagon") rfl)⟩)
  have A_Mth_Floor_tail_0 : Mth P w K mg base 1 "Floor" "tail" 0 c_Floor_tail := (show Mth P w K mg base 1 "Floor" "tail" 0 m_Floor_tail from ⟨_, _, _, (G_Floor_tail (P := P) (w := w) (base := base) ev D_Floor_tail).1, He.meth_ok (c.fact 137 (f := .meth "Floor" "tail") rfl), (G_Floor_tail (P := P) (w := w) (base := base) ev D_Floor_tail).2, He.cls_ok (c.fact 48 (f := .cls "Floor") rfl)⟩)
  have A_Mth_Trap_tail_0 : Mth P w K mg base 1 "Trap" "tail" 0 c_Trap_tail := (show Mth P w K mg base 1 "Trap" "tail" 0 m_Trap_tail from ⟨_, _, _, (G_Trap_tail (P := P) (w := w) (base := base) ev D_Trap_tail).1, He.meth_ok (c.fact 138 (f := .meth "Trap" "tail") rfl), (G_Trap_tail (P := P) (w := w) (base := base) ev D_Trap_tail).2, He.cls_ok (c.fact 50 (f := .cls "Trap") rfl)⟩)
  have A_M_tail_0 : ∀ c mf, t_tail_0 c = some mf → Mth P w K mg base 1 c "tail" 0 mf := by
    intro c mf hh
    unfold t_tail_0 at hh
    split at hh
    · cases hh; exact A_Mth_Machine_tail_0.mono (by decide)
    · cases hh; exact A_Mth_Line_tail_0.mono (by decide)
    · cases hh; exact A_Mth_Wagon_tail_0.mono (by decide)
    · cases hh; exact A_Mth_Floor_tail_0.mono (by decide)
    · cases hh; exact A_Mth_Trap_tail_0.mono (by decide)
    · cases hh
  have A_Mth_Machine_words_0 : Mth P w K mg base 2 "Machine" "words" 0 c_Machine_words := (show Mth P w K mg base 2 "Machine" "words" 0 m_Machine_words from ⟨_, _, _, (G_Machine_words (P := P) (w := w) (base := base) ev (fun c mf h => (A_M_kind_0 c mf h).mono (by decide)) (fun c mf h => (A_M_tail_0 c mf h).mono (by decide)) D_Machine_words).1, He.meth_ok (c.fact 139 (f := .meth "Machine" "words") rfl), (G_Machine_words (P := P) (w := w) (base := base) ev (fun c mf h => (A_M_kind_0 c mf h).mono (by decide)) (fun c mf h => (A_M_tail_0 c mf h).mono (by decide)) D_Machine_words).2, He.cls_ok (c.fact 42 (f := .cls "Machine") rfl)⟩)
  have A_Mth_Line_words_0 : Mth P w K mg base 2 "Line" "words" 0 c_Machine_words := (show Mth P w K mg base 2 "Line" "words" 0 m_Machine_words from ⟨_, _, _, (G_Machine_words (P := P) (w := w) (base := base) ev (fun c mf h => (A_M_kind_0 c mf h).mono (by decide)) (fun c mf h => (A_M_tail_0 c mf h).mono (by decide)) D_Line_words).1, He.meth_ok (c.fact 140 (f := .meth "Line" "words") rfl), (G_Machine_words (P := P) (w := w) (base := base) ev (fun c mf h => (A_M_kind_0 c mf h).mono (by decide)) (fun c mf h => (A_M_tail_0 c mf h).mono (by decide)) D_Line_words).2, He.cls_ok (c.fact 44 (f := .cls "Line") rfl)⟩)
  have A_Mth_Wagon_words_0 : Mth P w K mg base 2 "Wagon" "words" 0 c_Machine_words := (show Mth P w K mg base 2 "Wagon" "words" 0 m_Machine_words from ⟨_, _, _, (G_Machine_words (P := P) (w := w) (base := base) ev (fun c mf h => (A_M_kind_0 c mf h).mono (by decide)) (fun c mf h => (A_M_tail_0 c mf h).mono (by decide)) D_Wagon_words).1, He.meth_ok (c.fact 141 (f := .meth "Wagon" "words") rfl), (G_Machine_words (P := P) (w := w) (base := base) ev (fun c mf h => (A_M_kind_0 c mf h).mono (by decide)) (fun c mf h => (A_M_tail_0 c mf h).mono (by decide)) D_Wagon_words).2, He.cls_ok (c.fact 46 (f := .cls "Wagon") rfl)⟩)
  have A_Mth_Floor_words_0 : Mth P w K mg base 2 "Floor" "words" 0 c_Machine_words := (show Mth P w K mg base 2 "Floor" "words" 0 m_Machine_words from ⟨_, _, _, (G_Machine_words (P := P) (w := w) (base := base) ev (fun c mf h => (A_M_kind_0 c mf h).mono (by decide)) (fun c mf h => (A_M_tail_0 c mf h).mono (by decide)) D_Floor_words).1, He.meth_ok (c.fact 142 (f := .meth "Floor" "words") rfl), (G_Machine_words (P := P) (w := w) (base := base) ev (fun c mf h => (A_M_kind_0 c mf h).mono (by decide)) (fun c mf h => (A_M_tail_0 c mf h).mono (by decide)) D_Floor_words).2, He.cls_ok (c.fact 48 (f := .cls "Floor") rfl)⟩)
  have A_Mth_Trap_words_0 : Mth P w K mg base 2 "Trap" "words" 0 c_Machine_words := (show Mth P w K mg base 2 "Trap" "words" 0 m_Machine_words from ⟨_, _, _, (G_Machine_words (P := P) (w := w) (base := base) ev (fun c mf h => (A_M_kind_0 c mf h).mono (by decide)) (fun c mf h => (A_M_tail_0 c mf h).mono (by decide)) D_Trap_words).1, He.meth_ok (c.fact 143 (f := .meth "Trap" "words") rfl), (G_Machine_words (P := P) (w := w) (base := base) ev (fun c mf h => (A_M_kind_0 c mf h).mono (by decide)) (fun c mf h => (A_M_tail_0 c mf h).mono (by decide)) D_Trap_words).2, He.cls_ok (c.fact 50 (f := .cls "Trap") rfl)⟩)
  have A_M_words_0 : ∀ c mf, t_words_0 c = some mf → Mth P w K mg base 2 c "words" 0 mf := by
    intro c mf hh
    unfold t_words_0 at hh
    split at hh
    · cases hh; exact A_Mth_Machine_words_0.mono (by decide)
    · cases hh; exact A_Mth_Line_words_0.mono (by decide)
    · cases hh; exact A_Mth_Wagon_words_0.mono (by decide)
    · cases hh; exact A_Mth_Floor_words_0.mono (by decide)
    · cases hh; exact A_Mth_Trap_words_0.mono (by decide)
    · cases hh
  have A_F__law_told_right0 : DFn P w K mg base 3 "_law_told_right" 2 m__law_told_right := ⟨_, _, _, (G__law_told_right (P := P) (w := w) (base := base) ev (fun c mf h => (A_M_offset_0 c mf h).mono (by decide)) (fun c mf h => (A_M_wide_0 c mf h).mono (by decide)) (fun c mf h => (A_M_lane_0 c mf h).mono (by decide)) (fun c mf h => (A_M_kind_0 c mf h).mono (by decide)) (A_F__law_tail.mono (by decide)) (fun c mf h => (A_M_words_0 c mf h).mono (by decide)) D__law_told_right).1, g__law_told_right, D__law_told_right.kp, (G__law_told_right (P := P) (w := w) (base := base) ev (fun c mf h => (A_M_offset_0 c mf h).mono (by decide)) (fun c mf h => (A_M_wide_0 c mf h).mono (by decide)) (fun c mf h => (A_M_lane_0 c mf h).mono (by decide)) (fun c mf h => (A_M_kind_0 c mf h).mono (by decide)) (A_F__law_tail.mono (by decide)) (fun c mf h => (A_M_words_0 c mf h).mono (by decide)) D__law_told_right).2⟩
  have A_F__law_told_right : DFn P w K mg base 3 "_law_told_right" 2 c__law_told_right := A_F__law_told_right0
  have A_Mth_Machine_need_within_1 : Mth P w K mg base 3 "Machine" "need_within" 1 c_Machine_need_within := (show Mth P w K mg base 3 "Machine" "need_within" 1 m_Machine_need_within from ⟨_, _, _, (G_Machine_need_within (P := P) (w := w) (base := base) ev (A_F_need_whole.mono (by decide)) D_Machine_need_within).1, He.meth_ok (c.fact 144 (f := .meth "Machine" "need_within") rfl), (G_Machine_need_within (P := P) (w := w) (base := base) ev (A_F_need_whole.mono (by decide)) D_Machine_need_within).2, He.cls_ok (c.fact 42 (f := .cls "Machine") rfl)⟩)
  have A_Mth_Line_need_within_1 : Mth P w K mg base 3 "Line" "need_within" 1 c_Machine_need_within := (show Mth P w K mg base 3 "Line" "need_within" 1 m_Machine_need_within from ⟨_, _, _, (G_Machine_need_within (P := P) (w := w) (base := base) ev (A_F_need_whole.mono (by decide)) D_Line_need_within).1, He.meth_ok (c.fact 145 (f := .meth "Line" "need_within") rfl), (G_Machine_need_within (P := P) (w := w) (base := base) ev (A_F_need_whole.mono (by decide)) D_Line_need_within).2, He.cls_ok (c.fact 44 (f := .cls "Line") rfl)⟩)
  have A_Mth_Wagon_need_within_1 : Mth P w K mg base 3 "Wagon" "need_within" 1 c_Machine_need_within := (show Mth P w K mg base 3 "Wagon" "need_within" 1 m_Machine_need_within from ⟨_, _, _, (G_Machine_need_within (P := P) (w := w) (base := base) ev (A_F_need_whole.mono (by decide)) D_Wagon_need_within).1, He.meth_ok (c.fact 146 (f := .meth "Wagon" "need_within") rfl), (G_Machine_need_within (P := P) (w := w) (base := base) ev (A_F_need_whole.mono (by decide)) D_Wagon_need_within).2, He.cls_ok (c.fact 46 (f := .cls "Wagon") rfl)⟩)
  have A_Mth_Floor_need_within_1 : Mth P w K mg base 3 "Floor" "need_within" 1 c_Machine_need_within := (show Mth P w K mg base 3 "Floor" "need_within" 1 m_Machine_need_within from ⟨_, _, _, (G_Machine_need_within (P := P) (w := w) (base := base) ev (A_F_need_whole.mono (by decide)) D_Floor_need_within).1, He.meth_ok (c.fact 147 (f := .meth "Floor" "need_within") rfl), (G_Machine_need_within (P := P) (w := w) (base := base) ev (A_F_need_whole.mono (by decide)) D_Floor_need_within).2, He.cls_ok (c.fact 48 (f := .cls "Floor") rfl)⟩)
  have A_Mth_Trap_need_within_1 : Mth P w K mg base 3 "Trap" "need_within" 1 c_Machine_need_within := (show Mth P w K mg base 3 "Trap" "need_within" 1 m_Machine_need_within from ⟨_, _, _, (G_Machine_need_within (P := P) (w := w) (base := base) ev (A_F_need_whole.mono (by decide)) D_Trap_need_within).1, He.meth_ok (c.fact 148 (f := .meth "Trap" "need_within") rfl), (G_Machine_need_within (P := P) (w := w) (base := base) ev (A_F_need_whole.mono (by decide)) D_Trap_need_within).2, He.cls_ok (c.fact 50 (f := .cls "Trap") rfl)⟩)
  have A_M_need_within_1 : ∀ c mf, t_need_within_1 c = some mf → Mth P w K mg base 3 c "need_within" 1 mf := by
    intro c mf hh
    unfold t_need_within_1 at hh
    split at hh
    · cases hh; exact A_Mth_Machine_need_within_1.mono (by decide)
    · cases hh; exact A_Mth_Line_need_within_1.mono (by decide)
    · cases hh; exact A_Mth_Wagon_need_within_1.mono (by decide)
    · cases hh; exact A_Mth_Floor_need_within_1.mono (by decide)
    · cases hh; exact A_Mth_Trap_need_within_1.mono (by decide)
    · cases hh
  have A_Mth_Machine_swept_2 : Mth P w K mg base 1 "Machine" "swept" 2 c_Machine_swept := (show Mth P w K mg base 1 "Machine" "swept" 2 m_Machine_swept from ⟨_, _, _, (G_Machine_swept (P := P) (w := w) (base := base) ev D_Machine_swept).1, He.meth_ok (c.fact 149 (f := .meth "Machine" "swept") rfl), (G_Machine_swept (P := P) (w := w) (base := base) ev D_Machine_swept).2, He.cls_ok (c.fact 42 (f := .cls "Machine") rfl)⟩)
  have A_Mth_Line_swept_2 : Mth P w K mg base 1 "Line" "swept" 2 c_Line_swept := (show Mth P w K mg base 1 "Line" "swept" 2 m_Line_swept from ⟨_, _, _, (G_Line_swept (P := P) (w := w) (base := base) ev D_Line_swept).1, He.meth_ok (c.fact 150 (f := .meth "Line" "swept") rfl), (G_Line_swept (P := P) (w := w) (base := base) ev D_Line_swept).2, He.cls_ok (c.fact 44 (f := .cls "Line") rfl)⟩)
  have A_Mth_Wagon_swept_2 : Mth P w K mg base 1 "Wagon" "swept" 2 c_Wagon_swept := (show Mth P w K mg base 1 "Wagon" "swept" 2 m_Wagon_swept from ⟨_, _, _, (G_Wagon_swept (P := P) (w := w) (base := base) ev D_Wagon_swept).1, He.meth_ok (c.fact 151 (f := .meth "Wagon" "swept") rfl), (G_Wagon_swept (P := P) (w := w) (base := base) ev D_Wagon_swept).2, He.cls_ok (c.fact 46 (f := .cls "Wagon") rfl)⟩)
  have A_Mth_Floor_swept_2 : Mth P w K mg base 1 "Floor" "swept" 2 c_Floor_swept := (show Mth P w K mg base 1 "Floor" "swept" 2 m_Floor_swept from ⟨_, _, _, (G_Floor_swept (P := P) (w := w) (base := base) ev D_Floor_swept).1, He.meth_ok (c.fact 152 (f := .meth "Floor" "swept") rfl), (G_Floor_swept (P := P) (w := w) (base := base) ev D_Floor_swept).2, He.cls_ok (c.fact 48 (f := .cls "Floor") rfl)⟩)
  have A_Mth_Trap_swept_2 : Mth P w K mg base 1 "Trap" "swept" 2 c_Trap_swept := (show Mth P w K mg base 1 "Trap" "swept" 2 m_Trap_swept from ⟨_, _, _, (G_Trap_swept (P := P) (w := w) (base := base) ev D_Trap_swept).1, He.meth_ok (c.fact 153 (f := .meth "Trap" "swept") rfl), (G_Trap_swept (P := P) (w := w) (base := base) ev D_Trap_swept).2, He.cls_ok (c.fact 50 (f := .cls "Trap") rfl)⟩)
  have A_M_swept_2 : ∀ c mf, t_swept_2 c = some mf → Mth P w K mg base 1 c "swept" 2 mf := by
    intro c mf hh
    unfold t_swept_2 at hh
    split at hh
    · cases hh; exact A_Mth_Machine_swept_2.mono (by decide)
    · cases hh; exact A_Mth_Line_swept_2.mono (by decide)
    · cases hh; exact A_Mth_Wagon_swept_2.mono (by decide)
    · cases hh; exact A_Mth_Floor_swept_2.mono (by decide)
    · cases hh; exact A_Mth_Trap_swept_2.mono (by decide)
    · cases hh
  have A_Mth_Machine_boxes_1 : Mth P w K mg base 4 "Machine" "boxes" 1 c_Machine_boxes := (show Mth P w K mg base 4 "Machine" "boxes" 1 m_Machine_boxes from ⟨_, _, _, (G_Machine_boxes (P := P) (w := w) (base := base) ev (fun c mf h => (A_M_need_within_1 c mf h).mono (by decide)) (fun c mf h => (A_M_swept_2 c mf h).mono (by decide)) D_Machine_boxes).1, He.meth_ok (c.fact 154 (f := .meth "Machine" "boxes") rfl), (G_Machine_boxes (P := P) (w := w) (base := base) ev (fun c mf h => (A_M_need_within_1 c mf h).mono (by decide)) (fun c mf h => (A_M_swept_2 c mf h).mono (by decide)) D_Machine_boxes).2, He.cls_ok (c.fact 42 (f := .cls "Machine") rfl)⟩)
  have A_Mth_Line_boxes_1 : Mth P w K mg base 4 "Line" "boxes" 1 c_Machine_boxes := (show Mth P w K mg base 4 "Line" "boxes" 1 m_Machine_boxes from ⟨_, _, _, (G_Machine_boxes (P := P) (w := w) (base := base) ev (fun c mf h => (A_M_need_within_1 c mf h).mono (by decide)) (fun c mf h => (A_M_swept_2 c mf h).mono (by decide)) D_Line_boxes).1, He.meth_ok (c.fact 155 (f := .meth "Line" "boxes") rfl), (G_Machine_boxes (P := P) (w := w) (base := base) ev (fun c mf h => (A_M_need_within_1 c mf h).mono (by decide)) (fun c mf h => (A_M_swept_2 c mf h).mono (by decide)) D_Line_boxes).2, He.cls_ok (c.fact 44 (f := .cls "Line") rfl)⟩)
  have A_Mth_Wagon_boxes_1 : Mth P w K mg base 4 "Wagon" "boxes" 1 c_Machine_boxes := (show Mth P w K mg base 4 "Wagon" "boxes" 1 m_Machine_boxes from ⟨_, _, _, (G_Machine_boxes (P := P) (w := w) (base := base) ev (fun c mf h => (A_M_need_within_1 c mf h).mono (by decide)) (fun c mf h => (A_M_swept_2 c mf h).mono (by decide)) D_Wagon_boxes).1, He.meth_ok (c.fact 156 (f := .meth "Wagon" "boxes") rfl), (G_Machine_boxes (P := P) (w := w) (base := base) ev (fun c mf h => (A_M_need_within_1 c mf h).mono (by decide)) (fun c mf h => (A_M_swept_2 c mf h).mono (by decide)) D_Wagon_boxes).2, He.cls_ok (c.fact 46 (f := .cls "Wagon") rfl)⟩)
  have A_Mth_Floor_boxes_1 : Mth P w K mg base 4 "Floor" "boxes" 1 c_Machine_boxes := (show Mth P w K mg base 4 "Floor" "boxes" 1 m_Machine_boxes from ⟨_, _, _, (G_Machine_boxes (P := P) (w := w) (base := base) ev (fun c mf h => (A_M_need_within_1 c mf h).mono (by decide)) (fun c mf h => (A_M_swept_2 c mf h).mono (by decide)) D_Floor_boxes).1, He.meth_ok (c.fact 157 (f := .meth "Floor" "boxes") rfl), (G_Machine_boxes (P := P) (w := w) (base := base) ev (fun c mf h => (A_M_need_within_1 c mf h).mono (by decide)) (fun c mf h => (A_M_swept_2 c mf h).mono (by decide)) D_Floor_boxes).2, He.cls_ok (c.fact 48 (f := .cls "Floor") rfl)⟩)
  have A_Mth_Trap_boxes_1 : Mth P w K mg base 4 "Trap" "boxes" 1 c_Machine_boxes := (show Mth P w K mg base 4 "Trap" "boxes" 1 m_Machine_boxes from ⟨_, _, _, (G_Machine_boxes (P := P) (w := w) (base := base) ev (fun c mf h => (A_M_need_within_1 c mf h).mono (by decide)) (fun c mf h => (A_M_swept_2 c mf h).mono (by decide)) D_Trap_boxes).1, He.meth_ok (c.fact 158 (f := .meth "Trap" "boxes") rfl), (G_Machine_boxes (P := P) (w := w) (base := base) ev (fun c mf h => (A_M_need_within_1 c mf h).mono (by decide)) (fun c mf h => (A_M_swept_2 c mf h).mono (by decide)) D_Trap_boxes).2, He.cls_ok (c.fact 50 (f := .cls "Trap") rfl)⟩)
  have A_M_boxes_1 : ∀ c mf, t_boxes_1 c = some mf → Mth P w K mg base 4 c "boxes" 1 mf := by
    intro c mf hh
    unfold t_boxes_1 at hh
    split at hh
    · cases hh; exact A_Mth_Machine_boxes_1.mono (by decide)
    · cases hh; exact A_Mth_Line_boxes_1.mono (by decide)
    · cases hh; exact A_Mth_Wagon_boxes_1.mono (by decide)
    · cases hh; exact A_Mth_Floor_boxes_1.mono (by decide)
    · cases hh; exact A_Mth_Trap_boxes_1.mono (by decide)
    · cases hh
  have A_F__law_takes0 : DFn P w K mg base 1 "_law_takes" 3 m__law_takes := ⟨_, _, _, (G__law_takes (P := P) (w := w) (base := base) ev D__law_takes).1, g__law_takes, D__law_takes.kp, (G__law_takes (P := P) (w := w) (base := base) ev D__law_takes).2⟩
  have A_F__law_takes : DFn P w K mg base 1 "_law_takes" 3 c__law_takes := A_F__law_takes0
  have A_Mth_Machine_taken_2 : Mth P w K mg base 4 "Machine" "taken" 2 c_Machine_taken := (show Mth P w K mg base 4 "Machine" "taken" 2 m_Machine_taken from ⟨_, _, _, (G_Machine_taken (P := P) (w := w) (base := base) ev (fun c mf h => (A_M_need_within_1 c mf h).mono (by decide)) (fun c mf h => (A_M_swept_2 c mf h).mono (by decide)) D_Machine_taken).1, He.meth_ok (c.fact 159 (f := .meth "Machine" "taken") rfl), (G_Machine_taken (P := P) (w := w) (base := base) ev (fun c mf h => (A_M_need_within_1 c mf h).mono (by decide)) (fun c mf h => (A_M_swept_2 c mf h).mono (by decide)) D_Machine_taken).2, He.cls_ok (c.fact 42 (f := .cls "Machine") rfl)⟩)
  have A_Mth_Line_taken_2 : Mth P w K mg base 4 "Line" "taken" 2 c_Machine_taken := (show Mth P w K mg base 4 "Line" "taken" 2 m_Machine_taken from ⟨_, _, _, (G_Machine_taken (P := P) (w := w) (base := base) ev (fun c mf h => (A_M_need_within_1 c mf h).mono (by decide)) (fun c mf h => (A_M_swept_2 c mf h).mono (by decide)) D_Line_taken).1, He.meth_ok (c.fact 160 (f := .meth "Line" "taken") rfl), (G_Machine_taken (P := P) (w := w) (base := base) ev (fun c mf h => (A_M_need_within_1 c mf h).mono (by decide)) (fun c mf h => (A_M_swept_2 c mf h).mono (by decide)) D_Line_taken).2, He.cls_ok (c.fact 44 (f := .cls "Line") rfl)⟩)
  have A_Mth_Wagon_taken_2 : Mth P w K mg base 4 "Wagon" "taken" 2 c_Machine_taken := (show Mth P w K mg base 4 "Wagon" "taken" 2 m_Machine_taken from ⟨_, _, _, (G_Machine_taken (P := P) (w := w) (base := base) ev (fun c mf h => (A_M_need_within_1 c mf h).mono (by decide)) (fun c mf h => (A_M_swept_2 c mf h).mono (by decide)) D_Wagon_taken).1, He.meth_ok (c.fact 161 (f := .meth "Wagon" "taken") rfl), (G_Machine_taken (P := P) (w := w) (base := base) ev (fun c mf h => (A_M_need_within_1 c mf h).mono (by decide)) (fun c mf h => (A_M_swept_2 c mf h).mono (by decide)) D_Wagon_taken).2, He.cls_ok (c.fact 46 (f := .cls "Wagon") rfl)⟩)
  have A_Mth_Floor_taken_2 : Mth P w K mg base 4 "Floor" "taken" 2 c_Machine_taken := (show Mth P w K mg base 4 "Floor" "taken" 2 m_Machine_taken from ⟨_, _, _, (G_Machine_taken (P := P) (w := w) (base := base) ev (fun c mf h => (A_M_need_within_1 c mf h).mono (by decide)) (fun c mf h => (A_M_swept_2 c mf h).mono (by decide)) D_Floor_taken).1, He.meth_ok (c.fact 162 (f := .meth "Floor" "taken") rfl), (G_Machine_taken (P := P) (w := w) (base := base) ev (fun c mf h => (A_M_need_within_1 c mf h).mono (by decide)) (fun c mf h => (A_M_swept_2 c mf h).mono (by decide)) D_Floor_taken).2, He.cls_ok (c.fact 48 (f := .cls "Floor") rfl)⟩)
  have A_Mth_Trap_taken_2 : Mth P w K mg base 4 "Trap" "taken" 2 c_Machine_taken := (show Mth P w K mg base 4 "Trap" "taken" 2 m_Machine_taken from ⟨_, _, _, (G_Machine_taken (P := P) (w := w) (base := base) ev (fun c mf h => (A_M_need_within_1 c mf h).mono (by decide)) (fun c mf h => (A_M_swept_2 c mf h).mono (by decide)) D_Trap_taken).1, He.meth_ok (c.fact 163 (f := .meth "Trap" "taken") rfl), (G_Machine_taken (P := P) (w := w) (base := base) ev (fun c mf h => (A_M_need_within_1 c mf h).mono (by decide)) (fun c mf h => (A_M_swept_2 c mf h).mono (by decide)) D_Trap_taken).2, He.cls_ok (c.fact 50 (f := .cls "Trap") rfl)⟩)
  have A_M_taken_2 : ∀ c mf, t_taken_2 c = some mf → Mth P w K mg base 4 c "taken" 2 mf := by
    intro c mf hh
    unfold t_taken_2 at hh
    split at hh
    · cases hh; exact A_Mth_Machine_taken_2.mono (by decide)
    · cases hh; exact A_Mth_Line_taken_2.mono (by decide)
    · cases hh; exact A_Mth_Wagon_taken_2.mono (by decide)
    · cases hh; exact A_Mth_Floor_taken_2.mono (by decide)
    · cases hh; exact A_Mth_Trap_taken_2.mono (by decide)
    · cases hh
  have A_F__law_classes0 : DFn P w K mg base 1 "_law_classes" 1 m__law_classes := ⟨_, _, _, (G__law_classes (P := P) (w := w) (base := base) ev D__law_classes).1, g__law_classes, D__law_classes.kp, (G__law_classes (P := P) (w := w) (base := base) ev D__law_classes).2⟩
  have A_F__law_classes : DFn P w K mg base 1 "_law_classes" 1 c__law_classes := A_F__law_classes0
  have A_F__law_place_refused0 : DFn P w K mg base 5 "_law_place_refused" 3 m__law_place_refused := ⟨_, _, _, (G__law_place_refused (P := P) (w := w) (base := base) ev (fun c mf h => (A_M_boxes_1 c mf h).mono (by decide)) (fun c mf h => (A_M_taken_2 c mf h).mono (by decide)) (A_F__law_classes.mono (by decide)) D__law_place_refused).1, g__law_place_refused, D__law_place_refused.kp, (G__law_place_refused (P := P) (w := w) (base := base) ev (fun c mf h => (A_M_boxes_1 c mf h).mono (by decide)) (fun c mf h => (A_M_taken_2 c mf h).mono (by decide)) (A_F__law_classes.mono (by decide)) D__law_place_refused).2⟩
  have A_F__law_place_refused : DFn P w K mg base 5 "_law_place_refused" 3 c__law_place_refused := A_F__law_place_refused0
  have A_F__law_boxes_right0 : DFn P w K mg base 6 "_law_boxes_right" 3 m__law_boxes_right := ⟨_, _, _, (G__law_boxes_right (P := P) (w := w) (base := base) ev (fun c mf h => (A_M_boxes_1 c mf h).mono (by decide)) (A_F__law_takes.mono (by decide)) (fun c mf h => (A_M_taken_2 c mf h).mono (by decide)) (A_F__law_place_refused.mono (by decide)) D__law_boxes_right).1, g__law_boxes_right, D__law_boxes_right.kp, (G__law_boxes_right (P := P) (w := w) (base := base) ev (fun c mf h => (A_M_boxes_1 c mf h).mono (by decide)) (A_F__law_takes.mono (by decide)) (fun c mf h => (A_M_taken_2 c mf h).mono (by decide)) (A_F__law_place_refused.mono (by decide)) D__law_boxes_right).2⟩
  have A_F__law_boxes_right : DFn P w K mg base 6 "_law_boxes_right" 3 c__law_boxes_right := A_F__law_boxes_right0
  have A_F__law_spoilt0 : DFn P w K mg base 1 "_law_spoilt" 2 m__law_spoilt := ⟨_, _, _, (G__law_spoilt (P := P) (w := w) (base := base) ev D__law_spoilt).1, g__law_spoilt, D__law_spoilt.kp, (G__law_spoilt (P := P) (w := w) (base := base) ev D__law_spoilt).2⟩
  have A_F__law_spoilt : DFn P w K mg base 1 "_law_spoilt" 2 c__law_spoilt := A_F__law_spoilt0.fin
  have A_F__law_refused0 : DFn P w K mg base 8 "_law_refused" 2 m__law_refused := ⟨_, _, _, (G__law_refused (P := P) (w := w) (base := base) ev (A_F__law_spoilt.mono (by decide)) (A_F__law_machine.mono (by decide)) (A_F__law_classes.mono (by decide)) D__law_refused).1, g__law_refused, D__law_refused.kp, (G__law_refused (P := P) (w := w) (base := base) ev (A_F__law_spoilt.mono (by decide)) (A_F__law_machine.mono (by decide)) (A_F__law_classes.mono (by decide)) D__law_refused).2⟩
  have A_F__law_refused : DFn P w K mg base 8 "_law_refused" 2 c__law_refused := A_F__law_refused0
  exact (G_law ev (A_F__law_spread.mono (by decide)) (A_F__law_drawn.mono (by decide)) (A_F__law_machine.mono (by decide)) (A_F__law_told_right.mono (by decide)) (A_F__law_boxes_right.mono (by decide)) (A_F__law_refused.mono (by decide)) D_law).1
end
abbrev RL : PySem.W.OpenRow := PySem.W.OpenLaw.row PySem.Challenge.rw_flywright_k04_machines_and_boxes
abbrev hkL : PySem.W.Hook := hookF 5 kbL faL fnL
def obL (s : PySem.W.SharedT) : AlF := obsFG 5 kbL faL fnL (HandSHeadRun.getT s)
theorem obL_eq (s : PySem.W.SharedT) : obL s = hkL.obs s.abs := obsFG_eq (HandSHeadRun.getT_eq s)
def looseL0 : List Str := ["StageError", "BadNumber", "BadName", "BadStage", "BadSheet", "TooLong", "Busy", "TooNear", "Stopped", "NotStopped", "Moving", "NoCue", "BadRow", "MOST_PACE", "is_whole", "need_whole"]
def looseL1 : List Str := ["LETTERS", "MOST_LETTERS", "MOST_PLACE", "MOST_LANE", "MOST_SIZE", "MOST_OFFSET", "MOST_WALLS", "is_name", "need_place", "need_sizes", "Machine", "Line", "Wagon", "Floor", "Trap", "_law_draw"]
def looseL2 : List Str := ["_law_spread", "_law_takes", "_law_machine", "_law_classes", "_law_drawn", "_law_tail", "_law_told_right", "_law_boxes_right", "_law_place_refused", "_law_spoilt", "_law_refused"]
def looseL : List Str := looseL0 ++ looseL1 ++ looseL2
theorem runL (w : World) : HandSHeadRun.RunEq RL (PySem.W.view RL.prog [47]) hkL obL 12000 looseL w := by
  intro os
  kernel_rfl
open PySem.W PySem.Calls in
theorem holdsL (hlaw : ∀ ns : List Int, ns.length ≤ 63 → ∃ S', m_law [.lst (ns.map D.int)] [] = .ok (.val (.bl true)) S') : PySem.Challenge.rw_flywright_k04_machines_and_boxes.Holds := by
  w_on; o_law
  refine HandSHeadRun.head_any (r := OpenLaw.row PySem.Challenge.rw_flywright_k04_machines_and_boxes) (q := view (OpenLaw.row PySem.Challenge.rw_flywright_k04_machines_and_boxes).prog [47]) (H := hkL) (ob := obL) (M := 12000) (loose := looseL) (d := HandSHeadRun.topDef (OpenLaw.row PySem.Challenge.rw_flywright_k04_machines_and_boxes).prog 47) (kwd := []) obL_eq
    (by kernel_rfl) (fun s => by kernel_rfl) runL (by kernel_rfl) (by kernel_rfl) (by kernel_rfl) (by rfl) (by first | assumption | decide +kernel) (by decide +kernel) ⟨rfl, rfl, rfl, rfl, rfl, by decide +kernel⟩ ?hw ?hc
  case hw => w_witness2
  case hc =>
    refine walk_ofE (CX := CXW (PySem.Challenge.rw_flywright_k04_machines_and_boxes).prog) (l := PySem.Challenge.rw_flywright_k04_machines_and_boxes) (n := 63) (k := 9) (x := "_law_script") rfl (by decide) (by kernel_rfl) ⟨rfl, by decide, by decide⟩ ?F (fun _ _ _ _ h => h.elim fun _ z => cx_none z)
    intro w mg fa h Y G hmg0
    obtain ⟨K, KX, kb, c⟩ := Y
    have hmg : mg ("law" : PySem.Str) = some (.ref fa) := by
      have e : (HandSHeadRun.topDef (OpenLaw.row PySem.Challenge.rw_flywright_k04_machines_and_boxes).prog 47).name = ("law" : PySem.Str) := by kernel_rfl
      rw [← e]
      exact hmg0
    obtain ⟨fd, hb, hF⟩ := facts (P := (PySem.Challenge.rw_flywright_k04_machines_and_boxes).prog) (w := w) KX G hmg (kbL_ok kb) c
    exact ⟨K, fd, spD K 1 m_law, KX, hb, fun H a ns hl hO hS => sp_law hlaw H a ns hl hO hS, fun base b1 b2 => FnOk.any (hF base b1 b2)⟩
end FW
end
section
theorem PySem.Challenge.cw_flywright_k04_machines_and_boxes_holds : PySem.Challenge.rw_flywright_k04_machines_and_boxes.Holds := by
  exact FW.holdsL FW.e_law
end
