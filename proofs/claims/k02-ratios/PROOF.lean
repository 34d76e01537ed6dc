import PyProof.Rows.All
import Wide.All
import OpenK.AllK
import Wide.FinOn
import HandS.ForMost
import HandS.ForExc
import HandS.CallSlots
import HandS.ExcInit
import HandS.Wide
import HandS.WideBits
import HandS.SlotsOwn
import HandS.Defaults
import HandS.MakeKw
import HandS.MakeKwOnly
import KE.KOpsOwn
import HandS.IsInst
import PyProof.InstNe
import HandS.ExcField
import HandS.TryOnly
import HandS.Words
import HandS.Head2
import HandS.HeadEnd
import HandS.HeadHook2
import PyProof.ReprRoads
import PySem.Challenge.RW_filterorders_k02_ratios
set_option Elab.async false
set_option linter.all false
set_option maxRecDepth 100000
set_option maxHeartbeats 4000000
namespace Q
abbrev St := L2.St
open PySem L2
/-! ## 1. Data, and how the abstract heap bears them -/
/-- the classes of the program, the errors among them -/
inductive Cn where
  | ratio | poly | root | formula | table | facts | desk | trial
  | filterError | byZero | badNumber | badText | zeroPolynomial | badRoot | badStretch | badRow | badTable | noLine | unlikeTables | badBeam | notFilter | notMirror
  | badCounts | badAnswer | badShare | never | badLine | clash | nothingToUndo | nothingToRedo
  deriving DecidableEq
/-- their fields, in the order in which they are stored -/
def Cn.fields : Cn → List Str
  | .ratio => ["top", "bottom"]
  | .poly => ["kept"]
  | .root => ["low", "high", "polynomial"]
  | .formula => ["form"]
  | .table => ["kept"]
  | .facts => ["nothing", "never_negative", "not_nothing", "somewhere_negative"]
  | .desk => ["tables", "beams", "made", "spot"]
  | .trial => ["held_desk", "made", "beams", "spot"]
  | .badNumber => ["given"]
  | .badShare => ["given"]
  | .badRow => ["row"]
  | .noLine => ["name"]
  | .badAnswer => ["answer"]
  | .never => ["answer"]
  | .badLine => ["line"]
  | _ => []
inductive D where
  | non | bl (b : Bool) | int (i : Int) | str (x : Str) | rat (q : Rat) | cls (c : Cn) | scr (ns : List Int)
  | lst (xs : List D) | tup (xs : List D) | dic (kvs : List (Key × D)) | ins (c : Cn) (fs : List D) | fr (d : D)
structure Cf where
  K : PySem.W.Frag
  cl : Cn → Addr
mutual
def Rep (F : Cf) (G : Hp) : D → V → Prop
  | .non, v => v = .non
  | .bl b, v => v = .bl b
  | .int i, v => v = .int i
  | .str x, v => v = .str x
  | .rat q, v => ∃ a dx, v = .ref a ∧ G a = some (.ins (F.cl .ratio) dx [("top", .int q.num), ("bottom", .int (q.den : Int))])
  | .cls c, v => v = .ref (F.cl c)
  | .scr ns, v => ∃ a, v = .ref a ∧ SqL F.K G a (ns.map V.int)
  | .lst ds, v => ∃ a vs, v = .ref a ∧ G a = some (.lst vs) ∧ Reps F G ds vs
  | .tup ds, v => ∃ a vs, v = .ref a ∧ SqT F.K G a vs ∧ Reps F G ds vs
  | .dic kvs, v => ∃ a ws, v = .ref a ∧ G a = some (.dK ws) ∧ RepK F G kvs ws
  | .ins c ds, v => ∃ a dx vs, v = .ref a ∧ G a = some (.ins (F.cl c) dx (c.fields.zip vs)) ∧ Reps F G ds vs
  | .fr _, _ => False
def Reps (F : Cf) (G : Hp) : List D → List V → Prop
  | [], vs => vs = []
  | d :: ds, vs => ∃ v r, vs = v :: r ∧ Rep F G d v ∧ Reps F G ds r
def RepK (F : Cf) (G : Hp) : List (Key × D) → List (Key × V) → Prop
  | [], vs => vs = []
  | (k, d) :: ds, vs => ∃ v r, vs = (k, v) :: r ∧ Rep F G d v ∧ RepK F G ds r
end
/-- G is part of G' -/
def Inc (G G' : Hp) : Prop := ∀ a o, G a = some o → G' a = some o
theorem Inc.refl (G : Hp) : Inc G G := fun _ _ h => h
theorem Inc.trans {G G1 G2 : Hp} (a : Inc G G1) (b : Inc G1 G2) : Inc G G2 := fun x o h => b x o (a x o h)
theorem Inc.new {G : Hp} {p : Addr} {o : HO} (h : G p = none) : Inc G (upd G p o) := fun a u e => by
  rw [upd_ne (ne_of_none e h)]
  exact e
theorem Inc.back {G G' : Hp} (i : Inc G G') {p : Addr} (h : G' p = none) : G p = none := by
  cases e : G p with
  | none => rfl
  | some o =>
    rw [i p o e] at h
    cases h
theorem rd_inc {G G' : Hp} {a : Addr} {u : HO} (i : Inc G G') (h : Rd G a u) : Rd G' a u := by
  rcases h with h | ⟨o, h⟩
  · exact .inl (i _ _ h)
  · exact .inr ⟨o, i _ _ h⟩
theorem sqL_inc {K : PySem.W.Frag} {G G' : Hp} {a : Addr} {vs : List V} (i : Inc G G') (h : SqL K G a vs) : SqL K G' a vs := by
  rcases h with h | h
  · exact .inl (rd_inc i h)
  · exact .inr h
theorem sqT_inc {K : PySem.W.Frag} {G G' : Hp} {a : Addr} {vs : List V} (i : Inc G G') (h : SqT K G a vs) : SqT K G' a vs := by
  rcases h with h | h
  · exact .inl (rd_inc i h)
  · exact .inr h
mutual
theorem Rep.inc {F : Cf} {G G' : Hp} (i : Inc G G') : ∀ {d : D} {v : V}, Rep F G d v → Rep F G' d v
  | .non, _, h => h
  | .bl _, _, h => h
  | .int _, _, h => h
  | .str _, _, h => h
  | .rat _, _, h => let ⟨a, dx, e, s⟩ := h; ⟨a, dx, e, i _ _ s⟩
  | .cls _, _, h => h
  | .scr _, _, h => let ⟨a, e, s⟩ := h; ⟨a, e, sqL_inc i s⟩
  | .lst _, _, h => let ⟨a, vs, e, s, r⟩ := h; ⟨a, vs, e, i _ _ s, Reps.inc i r⟩
  | .tup _, _, h => let ⟨a, vs, e, s, r⟩ := h; ⟨a, vs, e, sqT_inc i s, Reps.inc i r⟩
  | .dic _, _, h => let ⟨a, ws, e, s, r⟩ := h; ⟨a, ws, e, i _ _ s, RepK.inc i r⟩
  | .ins _ _, _, h => let ⟨a, dx, ws, e, s, r⟩ := h; ⟨a, dx, ws, e, i _ _ s, Reps.inc i r⟩
  | .fr _, _, h => h
theorem Reps.inc {F : Cf} {G G' : Hp} (i : Inc G G') : ∀ {ds : List D} {vs : List V}, Reps F G ds vs → Reps F G' ds vs
  | [], _, h => h
  | _ :: _, _, h => let ⟨v, r, e, a, b⟩ := h; ⟨v, r, e, Rep.inc i a, Reps.inc i b⟩
theorem RepK.inc {F : Cf} {G G' : Hp} (i : Inc G G') : ∀ {ds : List (Key × D)} {vs : List (Key × V)}, RepK F G ds vs → RepK F G' ds vs
  | [], _, h => h
  | (_, _) :: _, _, h => let ⟨v, r, e, a, b⟩ := h; ⟨v, r, e, Rep.inc i a, RepK.inc i b⟩
end
theorem Reps.len {F : Cf} {G : Hp} : ∀ {ds : List D} {vs : List V}, Reps F G ds vs → vs.length = ds.length
  | [], _, h => by cases (show _ = [] from h); rfl
  | _ :: ds, _, h => by
    obtain ⟨v, r, rfl, _, b⟩ := h
    rw [List.length_cons, List.length_cons, Reps.len b]
theorem Reps.get {F : Cf} {G : Hp} : ∀ {ds : List D} {vs : List V} {i : Nat} {d : D}, Reps F G ds vs → ds[i]? = some d → ∃ v, vs[i]? = some v ∧ Rep F G d v
  | [], _, _, _, _, e => by simp at e
  | d :: ds, _, 0, x, h, e => by
    obtain ⟨v, r, rfl, a, _⟩ := h
    simp at e
    subst e
    exact ⟨v, rfl, a⟩
  | _ :: ds, _, i + 1, x, h, e => by
    obtain ⟨v, r, rfl, _, b⟩ := h
    obtain ⟨u, e1, r1⟩ := Reps.get (i := i) b (by simpa using e)
    exact ⟨u, by simpa using e1, r1⟩
theorem Reps.get' {F : Cf} {G : Hp} : ∀ {ds : List D} {vs : List V} {i : Nat} {v : V}, Reps F G ds vs → vs[i]? = some v → ∃ d, ds[i]? = some d ∧ Rep F G d v
  | [], _, _, _, h, e => by cases (show _ = [] from h); simp at e
  | d :: ds, _, 0, x, h, e => by
    obtain ⟨v, r, rfl, a, _⟩ := h
    simp at e
    subst e
    exact ⟨d, rfl, a⟩
  | _ :: ds, _, i + 1, x, h, e => by
    obtain ⟨v, r, rfl, _, b⟩ := h
    obtain ⟨u, e1, r1⟩ := Reps.get' (i := i) b (by simpa using e)
    exact ⟨u, by simpa using e1, r1⟩
theorem Reps.append {F : Cf} {G : Hp} : ∀ {ds es : List D} {vs ws : List V}, Reps F G ds vs → Reps F G es ws → Reps F G (ds ++ es) (vs ++ ws)
  | [], _, _, _, h, k => by cases (show _ = [] from h); exact k
  | _ :: ds, _, _, _, h, k => by
    obtain ⟨v, r, rfl, a, b⟩ := h
    exact ⟨v, _, rfl, a, Reps.append b k⟩
theorem Reps.one {F : Cf} {G : Hp} {d : D} {v : V} (h : Rep F G d v) : Reps F G [d] [v] := ⟨v, [], rfl, h, rfl⟩
theorem Reps.set {F : Cf} {G : Hp} {x : D} {u : V} (hx : Rep F G x u) : ∀ {ds : List D} {vs : List V} (i : Nat), Reps F G ds vs → Reps F G (ds.set i x) (vs.set i u)
  | [], _, _, h => by cases (show _ = [] from h); exact rfl
  | _ :: _, _, 0, h => by
    obtain ⟨v, r, rfl, a, b⟩ := h
    exact ⟨u, r, rfl, hx, b⟩
  | _ :: _, _, i + 1, h => by
    obtain ⟨v, r, rfl, a, b⟩ := h
    exact ⟨v, _, rfl, a, Reps.set hx i b⟩
theorem Reps.take {F : Cf} {G : Hp} : ∀ {ds : List D} {vs : List V} (n : Nat), Reps F G ds vs → Reps F G (ds.take n) (vs.take n)
  | _, _, 0, _ => by simp [Reps]
  | [], _, _ + 1, h => by cases (show _ = [] from h); exact rfl
  | _ :: _, _, n + 1, h => by
    obtain ⟨v, r, rfl, a, b⟩ := h
    exact ⟨v, _, rfl, a, Reps.take n b⟩
theorem Reps.drop {F : Cf} {G : Hp} : ∀ {ds : List D} {vs : List V} (n : Nat), Reps F G ds vs → Reps F G (ds.drop n) (vs.drop n)
  | _, _, 0, h => h
  | [], _, _ + 1, h => by cases (show _ = [] from h); exact rfl
  | _ :: _, _, n + 1, h => by
    obtain ⟨v, r, rfl, a, b⟩ := h
    exact Reps.drop n b
/-- what may be locked -/
def canF : HO → Bool
  | .dK _ => true
  | _ => false
/-- what G says may be read in H -/
def Sub (G H : Hp) : Prop := ∀ a o, G a = some o → H a = some o ∨ (canF o = true ∧ ∃ ob, H a = some (.frz ob o))
theorem Sub.rd {G H : Hp} (s : Sub G H) {a : Addr} {u : HO} (h : Rd G a u) : Rd H a u := by
  rcases h with h | ⟨o, h⟩
  · rcases s _ _ h with e | ⟨_, ob, e⟩
    · exact .inl e
    · exact .inr ⟨ob, e⟩
  · rcases s _ _ h with e | ⟨z, _⟩
    · exact .inr ⟨o, e⟩
    · cases z
theorem Sub.l {K : PySem.W.Frag} {G H : Hp} (s : Sub G H) {a : Addr} {vs : List V} (h : SqL K G a vs) : SqL K H a vs := by
  rcases h with h | h
  · exact .inl (s.rd h)
  · exact .inr h
theorem Sub.t {K : PySem.W.Frag} {G H : Hp} (s : Sub G H) {a : Addr} {vs : List V} (h : SqT K G a vs) : SqT K H a vs := by
  rcases h with h | h
  · exact .inl (s.rd h)
  · exact .inr h
theorem Sub.i {G H : Hp} (s : Sub G H) {a C dx : Addr} {fs : List (Str × V)} (h : G a = some (.ins C dx fs)) : H a = some (.ins C dx fs) := by
  rcases s _ _ h with e | ⟨z, _⟩
  · exact e
  · cases z
theorem Sub.ex {G H : Hp} (s : Sub G H) {a : Addr} {o : HO} (h : G a = some o) : ∃ u, H a = some u := by
  rcases s _ _ h with e | ⟨_, ob, e⟩
  · exact ⟨_, e⟩
  · exact ⟨_, e⟩
theorem Sub.no {G H : Hp} (s : Sub G H) {a : Addr} (h : H a = none) : G a = none := by
  cases e : G a with
  | none => rfl
  | some o =>
    obtain ⟨u, q⟩ := s.ex e
    rw [q] at h
    cases h
theorem Sub.m {G H : Hp} (s : Sub G H) {a : Addr} {vs : List V} (h : G a = some (.lst vs)) : H a = some (.lst vs) := by
  rcases s _ _ h with e | ⟨z, _⟩
  · exact e
  · cases z
/-- a new thing, told -/
theorem Sub.new {G H : Hp} (s : Sub G H) {p : Addr} (hp : H p = none) (o : HO) : Sub (upd G p o) (upd H p o) := fun a u e => by
  by_cases h : a = p
  · subst h
    rw [upd_same] at e ⊢
    exact .inl e
  · rw [upd_ne h] at e ⊢
    exact s a u e
/-- something that G does not tell of is changed -/
theorem Sub.off {G H : Hp} (s : Sub G H) {p : Addr} (hp : G p = none) (o : HO) : Sub G (upd H p o) := fun a u e => by
  rw [upd_ne (ne_of_none e hp)]
  exact s a u e
/-! ## 2. Slots -/
/-- a thing that may change: a list, a dict, an instance -/
inductive MO where
  | lst (xs : List D) | dic (kvs : List (Key × D)) | ins (c : Cn) (fs : List D)
/-- a slot: not told; a datum; a changing thing of one's own; a changing thing that was handed in; the exception that is handled -/
inductive Slot where
  | no | val (d : D) | own (o : MO) | bor (o : MO) | exc (c : Cn) (fs : List D)
abbrev Env := List Slot
def Slot.mo : Slot → Option MO
  | .own o => some o
  | .bor o => some o
  | _ => none
def MRep (F : Cf) (G H : Hp) : MO → Addr → Prop
  | .lst ds, a => ∃ vs, H a = some (.lst vs) ∧ Reps F G ds vs
  | .dic kvs, a => ∃ ws, H a = some (.dK ws) ∧ RepK F G kvs ws
  | .ins c ds, a => ∃ dx vs, H a = some (.ins (F.cl c) dx (c.fields.zip vs)) ∧ Reps F G ds vs
theorem MRep.ex {F : Cf} {G H : Hp} {o : MO} {a : Addr} (h : MRep F G H o a) : ∃ u, H a = some u := by
  cases o with
  | lst ds => obtain ⟨vs, e, _⟩ := h; exact ⟨_, e⟩
  | dic ds => obtain ⟨vs, e, _⟩ := h; exact ⟨_, e⟩
  | ins c ds => obtain ⟨dx, vs, e, _⟩ := h; exact ⟨_, e⟩
theorem MRep.inc {F : Cf} {G G' H H' : Hp} {o : MO} {a : Addr} (i : Inc G G') (e : H' a = H a) (h : MRep F G H o a) : MRep F G' H' o a := by
  cases o with
  | lst ds => obtain ⟨vs, q, r⟩ := h; exact ⟨vs, e.trans q, r.inc i⟩
  | dic ds => obtain ⟨vs, q, r⟩ := h; exact ⟨vs, e.trans q, r.inc i⟩
  | ins c ds => obtain ⟨dx, vs, q, r⟩ := h; exact ⟨dx, vs, e.trans q, r.inc i⟩
/-- a thing that may change, as a datum -/
def moD : D → Option MO
  | .lst xs => some (.lst xs)
  | .dic xs => some (.dic xs)
  | .ins c xs => some (.ins c xs)
  | _ => none
/-- the datum of a result: a new thing that nobody knows is that thing -/
def unfr : D → D
  | .fr d => d
  | d => d
/-- a result: a datum, or a new thing that nobody knows yet -/
def RepR (F : Cf) (H0 G H : Hp) : D → V → Prop
  | .fr d, v => ∃ o a, moD d = some o ∧ v = .ref a ∧ G a = none ∧ MRep F G H o a ∧ H0 a = none
  | d, v => Rep F G d v
theorem RepR.of {F : Cf} {H0 G H : Hp} {d : D} {v : V} (h : Rep F G d v) : RepR F H0 G H d v := by
  cases d <;> first | exact h | exact h.elim
/-- the frame of a body: what stood at its entry, what of it may change; the exception that is handled, its own dict -/
structure Fx extends Cf where
  G0 : Hp
  H0 : Hp
  B : List Addr
  pin : List (Option Addr)
  xa : Addr := 0
  xd : Option Addr := none
  xc : Cn := .byZero
def SlotOk (F : Fx) (G H : Hp) : Option V → Slot → Prop
  | _, .no => True
  | some v, .val d => Rep F.toCf G d v
  | some v, .own o => ∃ a, v = .ref a ∧ G a = none ∧ MRep F.toCf G H o a ∧ F.H0 a = none
  | some v, .bor o => ∃ a, v = .ref a ∧ G a = none ∧ MRep F.toCf G H o a ∧ a ∈ F.B
  | some v, .exc c fs => v = .ref F.xa ∧ c = F.xc ∧ (fs = [] ∨ ∃ dd vs, F.xd = some dd ∧ H dd = some (.xd (c.fields.zip vs)) ∧ Reps F.toCf G fs vs)
  | none, _ => False
def Slots (F : Fx) (G H : Hp) : St → Env → Prop
  | [], [] => True
  | v :: σ, s :: Γ => SlotOk F G H v s ∧ Slots F G H σ Γ
  | _, _ => False
/-- the addresses of the slots that may change -/
def mutA : St → Env → List Addr
  | some (.ref a) :: σ, .own _ :: Γ => a :: mutA σ Γ
  | some (.ref a) :: σ, .bor _ :: Γ => a :: mutA σ Γ
  | _ :: σ, _ :: Γ => mutA σ Γ
  | _, _ => []
structure Ok (F : Fx) (G H : Hp) (σ : St) (Γ : Env) : Prop where
  sub : Sub G H
  g0 : Inc F.G0 G
  fresh : ∀ a o, G a = some o → F.G0 a = some o ∨ F.H0 a = none
  frame : ∀ a o, F.H0 a = some o → a ∉ F.B → H a = some o
  bor : ∀ a, a ∈ F.B → ∃ o, H a = some o
  slots : Slots F G H σ Γ
  nd : (mutA σ Γ).Nodup
  pin : ∀ (i : Nat) (a : Addr), F.pin[i]? = some (some a) → σ[i]? = some (some (V.ref a)) ∧ ∃ o, Γ[i]? = some (Slot.bor o)
  pl : F.pin.length ≤ Γ.length
section
variable {F : Fx} {G G' H H' : Hp} {σ : St} {Γ : Env}
theorem Slots.get : ∀ {σ : St} {Γ : Env} {i : Nat} {s : Slot}, Slots F G H σ Γ → Γ[i]? = some s → ∃ v, σ[i]? = some v ∧ SlotOk F G H v s
  | [], [], _, _, _, e => by simp at e
  | v :: σ, t :: Γ, 0, s, h, e => by
    simp at e
    subst e
    exact ⟨v, rfl, h.1⟩
  | v :: σ, t :: Γ, i + 1, s, h, e => by
    obtain ⟨u, e1, r⟩ := Slots.get (i := i) h.2 (by simpa using e)
    exact ⟨u, by simpa using e1, r⟩
  | [], _ :: _, _, _, h, _ => h.elim
  | _ :: _, [], _, _, h, _ => h.elim
theorem Slots.len : ∀ {σ : St} {Γ : Env}, Slots F G H σ Γ → σ.length = Γ.length
  | [], [], _ => rfl
  | _ :: _, _ :: _, h => by rw [List.length_cons, List.length_cons, Slots.len h.2]
  | [], _ :: _, h => h.elim
  | _ :: _, [], h => h.elim
theorem Slots.set {v : Option V} {s : Slot} (hv : SlotOk F G H v s) : ∀ {σ : St} {Γ : Env} (i : Nat), Slots F G H σ Γ → Slots F G H (σ.set i v) (Γ.set i s)
  | [], [], _, h => h
  | _ :: _, _ :: _, 0, h => ⟨hv, h.2⟩
  | _ :: _, _ :: _, i + 1, h => ⟨h.1, Slots.set hv i h.2⟩
  | [], _ :: _, _, h => h.elim
  | _ :: _, [], _, h => h.elim
/-- the new state agrees at all the changing things -/
theorem SlotOk.step {v : Option V} {s : Slot} (i : Inc G G') (hm : ∀ a, v = some (.ref a) → s.mo.isSome = true → H' a = H a ∧ G' a = none) (hd : ∀ dd ws, F.xd = some dd → H dd = some (.xd ws) → H' dd = some (.xd ws)) (h : SlotOk F G H v s) : SlotOk F G' H' v s := by
  cases s with
  | no => trivial
  | val d =>
    cases v with
    | none => exact h.elim
    | some v => exact Rep.inc i h
  | own o =>
    cases v with
    | none => exact h.elim
    | some v =>
      obtain ⟨a, rfl, g, m, z⟩ := h
      obtain ⟨e1, e2⟩ := hm a rfl rfl
      exact ⟨a, rfl, e2, m.inc i e1, z⟩
  | bor o =>
    cases v with
    | none => exact h.elim
    | some v =>
      obtain ⟨a, rfl, g, m, z⟩ := h
      obtain ⟨e1, e2⟩ := hm a rfl rfl
      exact ⟨a, rfl, e2, m.inc i e1, z⟩
  | exc c fs =>
    cases v with
    | none => exact h.elim
    | some v =>
      obtain ⟨a, b, r⟩ := h
      refine ⟨a, b, ?_⟩
      rcases r with r | ⟨dd, ws, e, q, r⟩
      · exact .inl r
      · exact .inr ⟨dd, ws, e, hd dd _ e q, r.inc i⟩
theorem mem_mutA : ∀ {σ : St} {Γ : Env} {i : Nat} {a : Addr} {s : Slot}, σ[i]? = some (some (.ref a)) → Γ[i]? = some s → s.mo.isSome = true → a ∈ mutA σ Γ
  | [], _, _, _, _, e, _, _ => by simp at e
  | _ :: _, [], _, _, _, _, e, _ => by simp at e
  | v :: σ, t :: Γ, 0, a, s, e1, e2, z => by
    simp at e1 e2
    subst e1; subst e2
    cases t with
    | own o => simp [mutA]
    | bor o => simp [mutA]
    | no => cases z
    | val d => cases z
    | exc c fs => cases z
  | v :: σ, t :: Γ, i + 1, a, s, e1, e2, z => by
    have ih := mem_mutA (σ := σ) (Γ := Γ) (i := i) (a := a) (s := s) (by simpa using e1) (by simpa using e2) z
    unfold mutA
    split
    · exact List.mem_cons_of_mem _ (by rename_i h1 h2; cases h1; cases h2; exact ih)
    · exact List.mem_cons_of_mem _ (by rename_i h1 h2; cases h1; cases h2; exact ih)
    · rename_i h1 h2; cases h1; cases h2; exact ih
    · rename_i hh
      exact absurd rfl (hh v σ t Γ rfl)
theorem Slots.step : ∀ {σ : St} {Γ : Env}, Inc G G' → (∀ a, a ∈ mutA σ Γ → H' a = H a ∧ G' a = none) → (∀ dd ws, F.xd = some dd → H dd = some (.xd ws) → H' dd = some (.xd ws)) → Slots F G H σ Γ → Slots F G' H' σ Γ := by
  intro σ Γ i hm hd h
  have key : ∀ (n : Nat) (σ1 : St) (Γ1 : Env), Slots F G H σ1 Γ1 → (∀ a, a ∈ mutA σ1 Γ1 → H' a = H a ∧ G' a = none) → Slots F G' H' σ1 Γ1 := by
    intro n σ1
    induction σ1 with
    | nil => intro Γ1 h1 _; cases Γ1 with
      | nil => trivial
      | cons _ _ => exact h1.elim
    | cons v σ1 ih =>
      intro Γ1 h1 h2
      cases Γ1 with
      | nil => exact h1.elim
      | cons s Γ1 =>
        refine ⟨SlotOk.step i (fun a e z => h2 a ?_) hd h1.1, ih Γ1 h1.2 fun a ha => h2 a ?_⟩
        · exact mem_mutA (i := 0) (s := s) (by simp [e]) (by simp) z
        · unfold mutA
          split
          · exact List.mem_cons_of_mem _ (by rename_i q1 q2; cases q1; cases q2; exact ha)
          · exact List.mem_cons_of_mem _ (by rename_i q1 q2; cases q1; cases q2; exact ha)
          · rename_i q1 q2; cases q1; cases q2; exact ha
          · rename_i hh
            exact absurd rfl (hh v σ1 s Γ1 rfl)
  exact key 0 σ Γ h hm
theorem mutA_there : ∀ {σ : St} {Γ : Env}, Slots F G H σ Γ → ∀ a, a ∈ mutA σ Γ → (∃ o, H a = some o) ∧ G a = none ∧ (F.H0 a = none ∨ a ∈ F.B)
  | [], [], _, a, ha => by simp [mutA] at ha
  | v :: σ, s :: Γ, h, a, ha => by
    unfold mutA at ha
    split at ha
    · rename_i q1 q2
      cases q1; cases q2
      rcases List.mem_cons.mp ha with e | e
      · obtain ⟨b, eb, g, m, z⟩ := h.1
        cases eb
        subst e
        exact ⟨m.ex, g, .inl z⟩
      · exact mutA_there h.2 a e
    · rename_i q1 q2
      cases q1; cases q2
      rcases List.mem_cons.mp ha with e | e
      · obtain ⟨b, eb, g, m, z⟩ := h.1
        cases eb
        subst e
        exact ⟨m.ex, g, .inr z⟩
      · exact mutA_there h.2 a e
    · rename_i q1 q2
      cases q1; cases q2
      exact mutA_there h.2 a ha
    · simp at ha
  | [], _ :: _, h, _, _ => h.elim
  | _ :: _, [], h, _, _ => h.elim
theorem Ok.h0 (k : Ok F G H σ Γ) {p : Addr} (hp : H p = none) : F.H0 p = none := by
  cases e : F.H0 p with
  | none => rfl
  | some o =>
    by_cases hb : p ∈ F.B
    · obtain ⟨u, q⟩ := k.bor p hb
      rw [q] at hp
      cases hp
    · rw [k.frame p o e hb] at hp
      cases hp
/-- a new thing, told -/
theorem Ok.new (k : Ok F G H σ Γ) {p : Addr} (hp : H p = none) (o : HO) : Ok F (upd G p o) (upd H p o) σ Γ where
  sub := k.sub.new hp o
  g0 := k.g0.trans (Inc.new (k.sub.no hp))
  fresh := fun a u e => by
    by_cases h : a = p
    · subst h
      exact .inr (k.h0 hp)
    · rw [upd_ne h] at e
      exact k.fresh a u e
  frame := fun a u e hb => by rw [upd_ne (ne_of_none (k.frame a u e hb) hp)]; exact k.frame a u e hb
  bor := fun a ha => by
    obtain ⟨u, q⟩ := k.bor a ha
    exact ⟨u, by rw [upd_ne (ne_of_none q hp)]; exact q⟩
  slots := k.slots.step (Inc.new (k.sub.no hp)) (fun a ha => by
    obtain ⟨⟨u, q⟩, g, _⟩ := mutA_there k.slots a ha
    rw [upd_ne (ne_of_none q hp), upd_ne (ne_of_none q hp)]
    exact ⟨rfl, g⟩) (fun dd ws _ q => by rw [upd_ne (ne_of_none q hp)]; exact q)
  nd := k.nd
  pin := k.pin
  pl := k.pl
/-- a new thing, not told -/
theorem Ok.new0 (k : Ok F G H σ Γ) {p : Addr} (hp : H p = none) (o : HO) : Ok F G (upd H p o) σ Γ where
  sub := k.sub.off (k.sub.no hp) o
  g0 := k.g0
  fresh := k.fresh
  frame := fun a u e hb => by rw [upd_ne (ne_of_none (k.frame a u e hb) hp)]; exact k.frame a u e hb
  bor := fun a ha => by
    obtain ⟨u, q⟩ := k.bor a ha
    exact ⟨u, by rw [upd_ne (ne_of_none q hp)]; exact q⟩
  slots := k.slots.step (Inc.refl G) (fun a ha => by
    obtain ⟨⟨u, q⟩, g, _⟩ := mutA_there k.slots a ha
    rw [upd_ne (ne_of_none q hp)]
    exact ⟨rfl, g⟩) (fun dd ws _ q => by rw [upd_ne (ne_of_none q hp)]; exact q)
  nd := k.nd
  pin := k.pin
  pl := k.pl
/-- something that nobody knows is changed -/
theorem Ok.off (k : Ok F G H σ Γ) {p : Addr} (gp : G p = none) (hp : F.H0 p = none) (hb : p ∉ F.B) (hm : p ∉ mutA σ Γ) (hd : ∀ ws, H p ≠ some (.xd ws)) (o : HO) : Ok F G (upd H p o) σ Γ where
  sub := k.sub.off gp o
  g0 := k.g0
  fresh := k.fresh
  frame := fun a u e hb => by rw [upd_ne (ne_of_none e hp)]; exact k.frame a u e hb
  bor := fun a ha => by
    obtain ⟨u, q⟩ := k.bor a ha
    exact ⟨u, by rw [upd_ne (show a ≠ p from fun z => hb (z ▸ ha))]; exact q⟩
  slots := k.slots.step (Inc.refl G) (fun a ha => by
    obtain ⟨⟨u, q⟩, g, _⟩ := mutA_there k.slots a ha
    rw [upd_ne (show a ≠ p from fun z => hm (z ▸ ha))]
    exact ⟨rfl, g⟩) (fun dd ws e q => by rw [upd_ne (show dd ≠ p from fun z => hd ws (z ▸ q))]; exact q)
  nd := k.nd
  pin := k.pin
  pl := k.pl
/-- something new is told from now on -/
theorem Ok.tell (k : Ok F G H σ Γ) {a : Addr} {o : HO} (ha : H a = some o) (ga : G a = none) (h0 : F.H0 a = none) (hm : a ∉ mutA σ Γ) : Ok F (upd G a o) H σ Γ where
  sub := fun b u e => by
    by_cases h : b = a
    · subst h
      rw [upd_same] at e
      cases e
      exact .inl ha
    · rw [upd_ne h] at e
      exact k.sub b u e
  g0 := k.g0.trans (Inc.new ga)
  fresh := fun b u e => by
    by_cases h : b = a
    · subst h
      exact .inr h0
    · rw [upd_ne h] at e
      exact k.fresh b u e
  frame := k.frame
  bor := k.bor
  slots := k.slots.step (Inc.new ga) (fun b hb => by
    obtain ⟨_, g, _⟩ := mutA_there k.slots b hb
    rw [upd_ne (show b ≠ a from fun z => hm (z ▸ hb))]
    exact ⟨rfl, g⟩) (fun dd ws _ q => q)
  nd := k.nd
  pin := k.pin
  pl := k.pl
/-- .. and is a datum -/
theorem mrep_tell {F : Cf} {G H : Hp} {d : D} {o : MO} {a : Addr} (hd : moD d = some o) (ga : G a = none) (m : MRep F G H o a) : ∃ u, H a = some u ∧ Rep F (upd G a u) d (.ref a) := by
  cases d with
  | lst xs => cases hd; obtain ⟨vs, e, r⟩ := m; exact ⟨_, e, a, vs, rfl, upd_same, r.inc (Inc.new ga)⟩
  | dic xs => cases hd; obtain ⟨vs, e, r⟩ := m; exact ⟨_, e, a, vs, rfl, upd_same, r.inc (Inc.new ga)⟩
  | ins c xs => cases hd; obtain ⟨dx, vs, e, r⟩ := m; exact ⟨_, e, a, dx, vs, rfl, upd_same, r.inc (Inc.new ga)⟩
  | _ => cases hd
theorem Ok.rep (k : Ok F G H σ Γ) {i : Nat} {d : D} (h : Γ[i]? = some (.val d)) : ∃ v, σ[i]? = some (some v) ∧ Rep F.toCf G d v := by
  obtain ⟨v, e, r⟩ := k.slots.get h
  cases v with
  | none => exact r.elim
  | some v => exact ⟨v, e, r⟩
/-- the slot's thing that may change -/
theorem Ok.mut (k : Ok F G H σ Γ) {i : Nat} {s : Slot} {o : MO} (h : Γ[i]? = some s) (hs : s.mo = some o) : ∃ a, σ[i]? = some (some (.ref a)) ∧ G a = none ∧ MRep F.toCf G H o a ∧ (F.H0 a = none ∨ a ∈ F.B) := by
  obtain ⟨v, e, r⟩ := k.slots.get h
  cases s with
  | own o' =>
    cases hs
    cases v with
    | none => exact r.elim
    | some v =>
      obtain ⟨a, rfl, g, m, z⟩ := r
      exact ⟨a, e, g, m, .inl z⟩
  | bor o' =>
    cases hs
    cases v with
    | none => exact r.elim
    | some v =>
      obtain ⟨a, rfl, g, m, z⟩ := r
      exact ⟨a, e, g, m, .inr z⟩
  | no => cases hs
  | val d => cases hs
  | exc c fs => cases hs
/-- not a thing that may change -/
def nomut (Γ : Env) (i : Nat) : Prop := ∀ s, Γ[i]? = some s → s.mo = none
theorem mutA_set : ∀ {σ : St} {Γ : Env} {i : Nat} {v : Option V} {s : Slot}, nomut Γ i → s.mo = none → mutA (σ.set i v) (Γ.set i s) = mutA σ Γ
  | [], [], _, _, _, _, _ => rfl
  | [], _ :: _, _, _, _, _, _ => by simp [mutA]
  | _ :: _, [], _, _, _, _, _ => by simp [mutA]
  | u :: σ, t :: Γ, 0, v, s, n, z => by
    have ht : t.mo = none := n t rfl
    show mutA (v :: σ) (s :: Γ) = mutA (u :: σ) (t :: Γ)
    have one : ∀ (u : Option V) (t : Slot), t.mo = none → mutA (u :: σ) (t :: Γ) = mutA σ Γ := by
      intro u t ht
      cases t with
      | own o => cases ht
      | bor o => cases ht
      | no => simp [mutA]
      | val d => simp [mutA]
      | exc c fs => simp [mutA]
    rw [one v s z, one u t ht]
  | u :: σ, t :: Γ, i + 1, v, s, n, z => by
    have ih := mutA_set (σ := σ) (Γ := Γ) (i := i) (v := v) (s := s) (fun s hs => n s (by simpa using hs)) z
    show mutA (u :: σ.set i v) (t :: Γ.set i s) = mutA (u :: σ) (t :: Γ)
    cases t with
    | own o =>
      cases u with
      | none => simp [mutA, ih]
      | some w => cases w <;> simp [mutA, ih]
    | bor o =>
      cases u with
      | none => simp [mutA, ih]
      | some w => cases w <;> simp [mutA, ih]
    | no => simp [mutA, ih]
    | val d => simp [mutA, ih]
    | exc c fs => simp [mutA, ih]
theorem Ok.setS (k : Ok F G H σ Γ) {i : Nat} {v : Option V} {s : Slot} (n : nomut Γ i) (z : s.mo = none) (h : SlotOk F G H v s) : Ok F G H (σ.set i v) (Γ.set i s) :=
  by
  refine ⟨k.sub, k.g0, k.fresh, k.frame, k.bor, k.slots.set h i, by rw [mutA_set n z]; exact k.nd, fun j a e => ?_, by rw [List.length_set]; exact k.pl⟩
  obtain ⟨e1, o, e2⟩ := k.pin j a e
  have hj : i ≠ j := fun q => by
    subst q
    cases n _ e2
  rw [List.getElem?_set_ne hj, List.getElem?_set_ne hj]
  exact ⟨e1, o, e2⟩
/-- x = a datum -/
theorem Ok.set (k : Ok F G H σ Γ) {i : Nat} {v : V} {d : D} (n : nomut Γ i) (h : Rep F.toCf G d v) : Ok F G H (σ.set i (some v)) (Γ.set i (.val d)) := k.setS n rfl h
theorem Ok.unset (k : Ok F G H σ Γ) {i : Nat} {v : Option V} (n : nomut Γ i) : Ok F G H (σ.set i v) (Γ.set i .no) := k.setS n rfl (by cases v <;> trivial)
end
end Q

set_option Elab.async false
set_option linter.all false
set_option maxRecDepth 100000
set_option maxHeartbeats 4000000
namespace Q
open PySem L2 PySem.Spec PyProof.Rows
/-! ## 3. Wishes and judgements over data -/
structure Exn where
  c : Cn
  fs : List D
def XRep (F : Cf) (G H : Hp) (x : Exn) (cls : Value) (dd : Option Addr) : Prop :=
  cls = .ref (F.cl x.c) ∧ (x.fs = [] ∨ ∃ a vs, dd = some a ∧ H a = some (.xd (x.c.fields.zip vs)) ∧ Reps F G x.fs vs)
abbrev XP := Exn → Env → Prop
abbrev QE := Env → (D → Env → Prop) → XP → Prop
abbrev QT := Env → (Bool → Env → Prop) → XP → Prop
abbrev QA := Env → (List D → Env → Prop) → XP → Prop
structure PEnds where
  nx : Env → Prop
  rt : D → Env → Prop
  bk : Env → Prop := fun _ => False
  ct : Env → Prop := fun _ => False
abbrev QS := Env → PEnds → XP → Prop
/-- what is wished of an exception, by the frame -/
def wOf (F : Fx) (E : XP) : WX := fun cls d σ H => ∃ G Γ x, Ok F G H σ Γ ∧ XRep F.toCf G H x cls d ∧ E x Γ
def Fin (F : Fx) (G : Hp) (σ : St) (Q : D → Env → Prop) : VK := fun w H' => ∃ d Γ' G', Q d Γ' ∧ Inc G G' ∧ Ok F G' H' σ Γ' ∧ Rep F.toCf G' d w
def FinT (F : Fx) (G : Hp) (σ : St) (Q : Bool → Env → Prop) : Bool → Hp → Prop := fun b H' => ∃ Γ' G', Q b Γ' ∧ Inc G G' ∧ Ok F G' H' σ Γ'
def FinA (F : Fx) (G : Hp) (σ : St) (Q : List D → Env → Prop) : List V → Hp → Prop := fun ws H' => ∃ ds Γ' G', Q ds Γ' ∧ Inc G G' ∧ Ok F G' H' σ Γ' ∧ Reps F.toCf G' ds ws
def endsOf (F : Fx) (G : Hp) (P : PEnds) : Ends where
  nx := fun σ' H' => ∃ Γ' G', P.nx Γ' ∧ Inc G G' ∧ Ok F G' H' σ' Γ'
  rt := fun v H' => ∃ d Γ' G' σ', P.rt d Γ' ∧ Inc G G' ∧ Ok F G' H' σ' Γ' ∧ RepR F.toCf F.H0 G' H' d v
  bk := fun σ' H' => ∃ Γ' G', P.bk Γ' ∧ Inc G G' ∧ Ok F G' H' σ' Γ'
  ct := fun σ' H' => ∃ Γ' G', P.ct Γ' ∧ Inc G G' ∧ Ok F G' H' σ' Γ'
structure LE (X : Cx) (F : Fx) (E : XP) (e : Expr) (p : QE) : Prop where
  run : ∀ (pins : List (Addr × Obj)) (s : Shared) (σ : St) (H G : Hp) (Γ : Env) (Q : D → Env → Prop), Inv X pins σ H s → Ok F G H σ Γ → p Γ Q E →
    wpAny (model X.prog X.w) X.A (eval e X.env) (EP X pins σ (Fin F G σ Q)) X.xe s
structure LT (X : Cx) (F : Fx) (E : XP) (e : Expr) (p : QT) : Prop where
  run : ∀ (pins : List (Addr × Obj)) (s : Shared) (σ : St) (H G : Hp) (Γ : Env) (Q : Bool → Env → Prop), Inv X pins σ H s → Ok F G H σ Γ → p Γ Q E →
    wpAny (model X.prog X.w) X.A (isTrue e X.env (eval e X.env)) (TP X pins σ (FinT F G σ Q)) X.xe s
/-- a test whatever its whole is -/
structure LW (X : Cx) (F : Fx) (E : XP) (e : Expr) (p : QT) : Prop where
  run : ∀ (whole : Sem Value) (pins : List (Addr × Obj)) (s : Shared) (σ : St) (H G : Hp) (Γ : Env) (Q : Bool → Env → Prop), Inv X pins σ H s → Ok F G H σ Γ → p Γ Q E →
    wpAny (model X.prog X.w) X.A (isTrue e X.env whole) (TP X pins σ (FinT F G σ Q)) X.xe s
structure LA (X : Cx) (F : Fx) (E : XP) (es : List Expr) (p : QA) : Prop where
  run : ∀ (pos : Pos) (pins : List (Addr × Obj)) (s : Shared) (σ : St) (H G : Hp) (Γ : Env) (Q : List D → Env → Prop), Inv X pins σ H s → Ok F G H σ Γ → p Γ Q E →
    wpAny (model X.prog X.w) X.A (spliced (backTo pos (starEach es X.env))) (AP X pins σ (FinA F G σ Q)) X.xe s
structure LS (X : Cx) (F : Fx) (E : XP) (st : Stmt) (p : QS) : Prop where
  run : ∀ (pins : List (Addr × Obj)) (s : Shared) (σ : St) (H G : Hp) (Γ : Env) (P : PEnds), Inv X pins σ H s → Ok F G H σ Γ → p Γ P E →
    wpAny (model X.prog X.w) X.A (exec st X.env) (SP X pins (endsOf F G P)) X.xe s
structure LSs (X : Cx) (F : Fx) (E : XP) (st : List Stmt) (p : QS) : Prop where
  run : ∀ (pins : List (Addr × Obj)) (s : Shared) (σ : St) (H G : Hp) (Γ : Env) (P : PEnds), Inv X pins σ H s → Ok F G H σ Γ → p Γ P E →
    wpAny (model X.prog X.w) X.A (execs st X.env) (SP X pins (endsOf F G P)) X.xe s
theorem LW.lt {X : Cx} {F : Fx} {E : XP} {e : Expr} {p : QT} (h : LW X F E e p) : LT X F E e p := ⟨h.run _⟩
/-! ### to and from the layer's own judgements -/
def tE (F : Fx) (E : XP) (p : QE) : TE := fun σ H K => ∃ G Γ Q, Ok F G H σ Γ ∧ p Γ Q E ∧ ∀ w H', Fin F G σ Q w H' → K w H'
def tT (F : Fx) (E : XP) (p : QT) : TT := fun σ H K => ∃ G Γ Q, Ok F G H σ Γ ∧ p Γ Q E ∧ ∀ b H', FinT F G σ Q b H' → K b H'
def tA (F : Fx) (E : XP) (p : QA) : TA := fun σ H K => ∃ G Γ Q, Ok F G H σ Γ ∧ p Γ Q E ∧ ∀ ws H', FinA F G σ Q ws H' → K ws H'
def tS (F : Fx) (E : XP) (p : QS) : TS := fun D σ H => ∃ G Γ P, Ok F G H σ Γ ∧ p Γ P E ∧ (∀ σ' H', (endsOf F G P).nx σ' H' → D.nx σ' H') ∧ (∀ v H', (endsOf F G P).rt v H' → D.rt v H') ∧
  (∀ σ' H', (endsOf F G P).bk σ' H' → D.bk σ' H') ∧ (∀ σ' H', (endsOf F G P).ct σ' H' → D.ct σ' H')
section
variable {X : Cx} {F : Fx} {E : XP}
theorem sp_imp {pins : List (Addr × Obj)} {D D' : Ends} {f : Flow} {s : Shared} (h : SP X pins D f s) (h1 : ∀ σ H, D.nx σ H → D'.nx σ H) (h2 : ∀ v H, D.rt v H → D'.rt v H) (h3 : ∀ σ H, D.bk σ H → D'.bk σ H) (h4 : ∀ σ H, D.ct σ H → D'.ct σ H) : SP X pins D' f s := by
  cases f with
  | next => obtain ⟨σ, H, I, q⟩ := h; exact ⟨σ, H, I, h1 _ _ q⟩
  | brk => obtain ⟨σ, H, I, q⟩ := h; exact ⟨σ, H, I, h3 _ _ q⟩
  | cont => obtain ⟨σ, H, I, q⟩ := h; exact ⟨σ, H, I, h4 _ _ q⟩
  | ret u => obtain ⟨v, σ, H, I, r, q⟩ := h; exact ⟨v, σ, H, I, r, h2 _ _ q⟩
theorem LE.pe {e : Expr} {p : QE} (h : LE X F E e p) : PE X e (tE F E p) := ⟨fun pins s σ H K I ⟨G, Γ, Q, k, q, i⟩ =>
  thn (h.run pins s σ H G Γ Q I k q) fun u s' ⟨v, H', I', r, z⟩ => ⟨v, H', I', r, i v H' z⟩⟩
theorem LE.of {e : Expr} {p : QE} {t : TE} (h : PE X e t) (i : ∀ σ H G Γ Q, Ok F G H σ Γ → p Γ Q E → t σ H (Fin F G σ Q)) : LE X F E e p := ⟨fun pins s σ H G Γ Q I k q => h.run pins s σ H _ I (i σ H G Γ Q k q)⟩
theorem LT.pt {e : Expr} {p : QT} (h : LT X F E e p) : PT X e (tT F E p) := ⟨fun pins s σ H K I ⟨G, Γ, Q, k, q, i⟩ =>
  thn (h.run pins s σ H G Γ Q I k q) fun u s' ⟨H', I', z⟩ => ⟨H', I', i u H' z⟩⟩
theorem LT.of {e : Expr} {p : QT} {t : TT} (h : PT X e t) (i : ∀ σ H G Γ Q, Ok F G H σ Γ → p Γ Q E → t σ H (FinT F G σ Q)) : LT X F E e p := ⟨fun pins s σ H G Γ Q I k q => h.run pins s σ H _ I (i σ H G Γ Q k q)⟩
theorem LA.pa {es : List Expr} {p : QA} (h : LA X F E es p) : PA X es (tA F E p) := ⟨fun pos pins s σ H K I ⟨G, Γ, Q, k, q, i⟩ =>
  thn (h.run pos pins s σ H G Γ Q I k q) fun u s' ⟨v, H', I', r, z⟩ => ⟨v, H', I', r, i v H' z⟩⟩
theorem LS.ps {st : Stmt} {p : QS} (h : LS X F E st p) : PS X st (tS F E p) := ⟨fun pins s σ H D I ⟨G, Γ, P, k, q, i1, i2, i3, i4⟩ =>
  thn (h.run pins s σ H G Γ P I k q) fun f s' z => sp_imp z i1 i2 i3 i4⟩
theorem LSs.ps {st : List Stmt} {p : QS} (h : LSs X F E st p) : PSs X st (tS F E p) := ⟨fun pins s σ H D I ⟨G, Γ, P, k, q, i1, i2, i3, i4⟩ =>
  thn (h.run pins s σ H G Γ P I k q) fun f s' z => sp_imp z i1 i2 i3 i4⟩
theorem LS.of {st : Stmt} {p : QS} {t : TS} (h : PS X st t) (i : ∀ σ H G Γ P, Ok F G H σ Γ → p Γ P E → t (endsOf F G P) σ H) : LS X F E st p := ⟨fun pins s σ H G Γ P I k q => h.run pins s σ H _ I (i σ H G Γ P k q)⟩
/-- the ends seen from a larger ground -/
theorem ends_inc {G G' : Hp} {P : PEnds} (i : Inc G G') {pins : List (Addr × Obj)} {f : Flow} {s : Shared} (h : SP X pins (endsOf F G' P) f s) : SP X pins (endsOf F G P) f s :=
  sp_imp h (fun σ H ⟨Γ, G2, a, b, c⟩ => ⟨Γ, G2, a, i.trans b, c⟩) (fun v H ⟨d, Γ, G2, σ, a, b, c⟩ => ⟨d, Γ, G2, σ, a, i.trans b, c⟩) (fun σ H ⟨Γ, G2, a, b, c⟩ => ⟨Γ, G2, a, i.trans b, c⟩) (fun σ H ⟨Γ, G2, a, b, c⟩ => ⟨Γ, G2, a, i.trans b, c⟩)
/-! ### names and constants -/
def qVar (i : Nat) : QE := fun Γ Q _ => match Γ[i]? with
  | some (.val d) => Q d Γ
  | _ => False
def qC (d : D) : QE := fun Γ Q _ => Q d Γ
theorem qVar_get {i : Nat} {Γ : Env} {Q : D → Env → Prop} {E : XP} (h : qVar i Γ Q E) : ∃ d, Γ[i]? = some (.val d) ∧ Q d Γ := by
  unfold qVar at h
  split at h
  · rename_i d e; exact ⟨d, e, h⟩
  · exact h.elim
theorem le_var (i : Nat) {x : Str} {pos : Pos} (hN : X.N[i]? = some x := by rfl) (hv : Vis X.env.scope x := by first | exact Or.inl rfl | exact Or.inr (Or.inl rfl) | exact Or.inr (Or.inr rfl)) (hd : (x == ("__debug__" : Str)) = false := by decide)
    (hcd : (x == ("__classdict__" : Str)) = false := by decide) : LE X F E (.Name x pos) (qVar i) :=
  LE.of (pe_var hN hv hd hcd) fun σ H G Γ Q k q => by
    obtain ⟨d, e, q⟩ := qVar_get q
    obtain ⟨v, ev, r⟩ := k.rep e
    exact ⟨v, ev, d, Γ, G, q, Inc.refl G, k, r⟩
theorem le_int {i j pos} : LE X F E (.Constant (.int i) j pos) (qC (.int i)) := LE.of pe_int fun σ H G Γ Q k q => ⟨_, Γ, G, q, Inc.refl G, k, rfl⟩
theorem le_bl {i j pos} : LE X F E (.Constant (.bool i) j pos) (qC (.bl i)) := LE.of pe_bl fun σ H G Γ Q k q => ⟨_, Γ, G, q, Inc.refl G, k, rfl⟩
theorem le_non {j pos} : LE X F E (.Constant .none j pos) (qC .non) := LE.of pe_non fun σ H G Γ Q k q => ⟨_, Γ, G, q, Inc.refl G, k, rfl⟩
theorem le_str {i j pos} : LE X F E (.Constant (.str i) j pos) (qC (.str i)) := LE.of pe_str fun σ H G Γ Q k q => ⟨_, Γ, G, q, Inc.refl G, k, rfl⟩
/-! ### operations on two data -/
abbrev O2 := D → D → Env → (D → Env → Prop) → XP → Prop
abbrev O1 := D → Env → (D → Env → Prop) → XP → Prop
def OpL (X : Cx) (F : Fx) (E : XP) (f : Value → Value → Sem Value) (o : O2) : Prop :=
  ∀ (pins : List (Addr × Obj)) (s : Shared) (σ : St) (H G : Hp) (Γ : Env) (x y : V) (v u : Value) (d e : D) (Q : D → Env → Prop), Inv X pins σ H s → Ok F G H σ Γ → RelV x v → RelV y u → Rep F.toCf G d x → Rep F.toCf G e y → o d e Γ Q E →
    wpAny (model X.prog X.w) X.A (f v u) (EP X pins σ (Fin F G σ Q)) X.xe s
def UnL (X : Cx) (F : Fx) (E : XP) (f : Value → Sem Value) (o : O1) : Prop :=
  ∀ (pins : List (Addr × Obj)) (s : Shared) (σ : St) (H G : Hp) (Γ : Env) (x : V) (v : Value) (d : D) (Q : D → Env → Prop), Inv X pins σ H s → Ok F G H σ Γ → RelV x v → Rep F.toCf G d x → o d Γ Q E →
    wpAny (model X.prog X.w) X.A (f v) (EP X pins σ (Fin F G σ Q)) X.xe s
theorem OpL.of {f : Value → Value → Sem Value} {o : O2} {r : R2} (h : OpR X f r) (i : ∀ σ H G Γ x y d e Q, Ok F G H σ Γ → Rep F.toCf G d x → Rep F.toCf G e y → o d e Γ Q E → r x y H (Fin F G σ Q)) : OpL X F E f o :=
  fun pins s σ H G Γ x y v u d e Q I k rv ru rx ry q => h pins s σ H x y v u _ I rv ru (i σ H G Γ x y d e Q k rx ry q)
theorem UnL.of {f : Value → Sem Value} {o : O1} {r : V → Hp → VK → Prop} (h : UnR X f r) (i : ∀ σ H G Γ x d Q, Ok F G H σ Γ → Rep F.toCf G d x → o d Γ Q E → r x H (Fin F G σ Q)) : UnL X F E f o :=
  fun pins s σ H G Γ x v d Q I k rv rx q => h pins s σ H x v _ I rv (i σ H G Γ x d Q k rx q)
variable {a b c : Expr} {pa pb pc : QE} {pos : Pos}
def qBin (o : O2) (pa pb : QE) : QE := fun Γ Q E => pa Γ (fun d Γ1 => pb Γ1 (fun e Γ2 => o d e Γ2 Q E) E) E
def qUn (o : O1) (pa : QE) : QE := fun Γ Q E => pa Γ (fun d Γ1 => o d Γ1 Q E) E
theorem lift2 (ha : LE X F E a pa) (hb : LE X F E b pb) {f : Value → Value → Sem Value} {o : O2} (ho : OpL X F E f o) {pins : List (Addr × Obj)} {s : Shared} {σ : St} {H G : Hp} {Γ : Env} {Q : D → Env → Prop} (I : Inv X pins σ H s) (k : Ok F G H σ Γ) (q : qBin o pa pb Γ Q E) :
    wpAny (model X.prog X.w) X.A (eval a X.env) (fun v s₁ => wpAny (model X.prog X.w) X.A (eval b X.env) (fun u s₂ => wpAny (model X.prog X.w) X.A (f v u) (EP X pins σ (Fin F G σ Q)) X.xe s₂) X.xe s₁) X.xe s := by
  refine thn (ha.run pins s σ H G Γ _ I k q) fun v s1 ⟨x, H1, I1, r1, d, Γ1, G1, q1, i1, k1, rp1⟩ => ?_
  refine thn (hb.run pins s1 σ H1 G1 Γ1 _ I1 k1 q1) fun u s2 ⟨y, H2, I2, r2, e, Γ2, G2, q2, i2, k2, rp2⟩ => ?_
  exact thn (ho pins s2 σ H2 G2 Γ2 x y v u d e Q I2 k2 r1 r2 (rp1.inc i2) rp2 q2) fun w s3 ⟨z, H3, I3, r3, c, Γ3, G3, q3, i3, k3, rp3⟩ => ⟨z, H3, I3, r3, c, Γ3, G3, q3, (i1.trans i2).trans i3, k3, rp3⟩
theorem le_bin {op : Operator} {o : O2} (ho : OpL X F E (binaryOp op) o) (ha : LE X F E a pa) (hb : LE X F E b pb) : LE X F E (.BinOp a op b pos) (qBin o pa pb) :=
  ⟨fun pins s σ H G Γ Q I k h => wpAny_BinOp (lift2 ha hb ho I k h)⟩
theorem le_un {op : UnaryOp} {o : O1} (ho : UnL X F E (unaryOp op) o) (ha : LE X F E a pa) : LE X F E (.UnaryOp op a pos) (qUn o pa) :=
  ⟨fun pins s σ H G Γ Q I k h => UnaryOp_ (thn (ha.run pins s σ H G Γ _ I k h) fun v s1 ⟨x, H1, I1, r1, d, Γ1, G1, q1, i1, k1, rp1⟩ =>
    thn (ho pins s1 σ H1 G1 Γ1 x v d Q I1 k1 r1 rp1 q1) fun w s3 ⟨z, H3, I3, r3, c, Γ3, G3, q3, i3, k3, rp3⟩ => ⟨z, H3, I3, r3, c, Γ3, G3, q3, i1.trans i3, k3, rp3⟩)⟩
theorem le_cmp {op : CmpOp} {o : O2} (ho : OpL X F E (compareOp op) o) (ha : LE X F E a pa) (hb : LE X F E b pb) (hm : behindInMarks op b = false := by first | exact nomark _ | with_unfolding_all rfl) : LE X F E (.Compare a [op] [b] pos) (qBin o pa pb) :=
  ⟨fun pins s σ H G Γ Q I k h => wpAny_Compare1 (lift2 ha hb ho I k h) hm⟩
/-- a value as a test: a truth value -/
def qTest (p : QE) : QT := fun Γ Q E => p Γ (fun d Γ1 => match d with
  | .bl b => Q b Γ1
  | _ => False) E
theorem qTest_get {d : D} {Q : Bool → Env → Prop} {Γ : Env} (h : (match d with | .bl b => Q b Γ | _ => False)) : ∃ b, d = .bl b ∧ Q b Γ := by
  cases d with
  | bl b => exact ⟨b, rfl, h⟩
  | _ => exact h.elim
theorem lt_cmp {op : CmpOp} {o : O2} (ho : OpL X F E (compareOp op) o) (ha : LE X F E a pa) (hb : LE X F E b pb) (hm : behindInMarks op b = false := by first | exact nomark _ | with_unfolding_all rfl) : LT X F E (.Compare a [op] [b] pos) (qTest (qBin o pa pb)) := by
  refine ⟨fun pins s σ H G Γ Q I k h => ?_⟩
  refine wpAny_isTrue_Compare1 (thn (lift2 ha hb ho I k h) fun v s1 h1 => thn h1 fun u s2 h2 => thn h2 fun c s3 ⟨x, H1, I1, r1, d, Γ1, G1, q1, i1, k1, rp1⟩ => ?_) hm
  obtain ⟨b, rfl, q⟩ := qTest_get q1
  cases (show x = .bl b from rp1)
  cases r1
  exact wpAny_truthy_bool ⟨H1, I1, Γ1, G1, q, i1, k1⟩
theorem lt_val (h : LE X F E a pa) (he : ∀ whole, isTrue a X.env whole = (do let v ← whole; standAt a.pos; holding [v] (truthy v)) := by intro _; rfl) : LT X F E a (qTest pa) := by
  refine ⟨fun pins s σ H G Γ Q I k hw => ?_⟩
  refine isTrue_plain (thn (h.run pins s σ H G Γ _ I k hw) fun v s1 ⟨x, H1, I1, r1, d, Γ1, G1, q1, i1, k1, rp1⟩ => ?_) (he _)
  obtain ⟨b, rfl, q⟩ := qTest_get q1
  cases (show x = .bl b from rp1)
  cases r1
  exact wpAny_truthy_bool ⟨H1, I1, Γ1, G1, q, i1, k1⟩
/-! ### and, or, not, if -/
variable {ta tb : QT} {rest : List Expr}
def qAnd (t u : QT) : QT := fun Γ Q E => t Γ (fun c Γ1 => match c with
  | true => u Γ1 Q E
  | false => Q false Γ1) E
def qOr (t u : QT) : QT := fun Γ Q E => t Γ (fun c Γ1 => match c with
  | true => Q true Γ1
  | false => u Γ1 Q E) E
def qNot (t : QT) : QT := fun Γ Q E => t Γ (fun c Γ1 => Q (!c) Γ1) E
theorem lw_and1 (ha : LT X F E a ta) : LW X F E (.BoolOp .And [a] pos) ta := by
  refine ⟨fun wh pins s σ H G Γ Q I k h => ?_⟩
  refine isTrue_and (thn (ha.run pins s σ H G Γ Q I k h) fun c s1 e => ?_)
  cases c with
  | true => exact isTrue_and_nil e
  | false => exact e
theorem lw_or1 (ha : LT X F E a ta) : LW X F E (.BoolOp .Or [a] pos) ta := by
  refine ⟨fun wh pins s σ H G Γ Q I k h => ?_⟩
  refine isTrue_or (thn (ha.run pins s σ H G Γ Q I k h) fun c s1 e => ?_)
  cases c with
  | false => exact isTrue_or_nil e
  | true => exact e
theorem finT_inc {G G' : Hp} {σ : St} {Q : Bool → Env → Prop} {b : Bool} {H : Hp} (i : Inc G G') (h : FinT F G' σ Q b H) : FinT F G σ Q b H := let ⟨Γ, G2, a, c, d⟩ := h; ⟨Γ, G2, a, i.trans c, d⟩
theorem fin_inc {G G' : Hp} {σ : St} {Q : D → Env → Prop} {b : V} {H : Hp} (i : Inc G G') (h : Fin F G' σ Q b H) : Fin F G σ Q b H := let ⟨d, Γ, G2, a, c, e⟩ := h; ⟨d, Γ, G2, a, i.trans c, e⟩
theorem tp_inc {G G' : Hp} {σ : St} {Q : Bool → Env → Prop} {pins : List (Addr × Obj)} {b : Bool} {s : Shared} (i : Inc G G') (h : TP X pins σ (FinT F G' σ Q) b s) : TP X pins σ (FinT F G σ Q) b s := let ⟨H, I, q⟩ := h; ⟨H, I, finT_inc i q⟩
theorem ep_inc {G G' : Hp} {σ : St} {Q : D → Env → Prop} {pins : List (Addr × Obj)} {u : Value} {s : Shared} (i : Inc G G') (h : EP X pins σ (Fin F G' σ Q) u s) : EP X pins σ (Fin F G σ Q) u s := let ⟨v, H, I, r, q⟩ := h; ⟨v, H, I, r, fin_inc i q⟩
theorem lw_and (ha : LT X F E a ta) (hb : LW X F E (.BoolOp .And (b :: rest) pos) tb) : LW X F E (.BoolOp .And (a :: b :: rest) pos) (qAnd ta tb) := by
  refine ⟨fun wh pins s σ H G Γ Q I k h => ?_⟩
  refine isTrue_and (thn (ha.run pins s σ H G Γ _ I k h) fun c s1 ⟨H1, I1, Γ1, G1, q1, i1, k1⟩ => ?_)
  cases c with
  | true => exact thn (hb.run wh pins s1 σ H1 G1 Γ1 Q I1 k1 q1) fun c s2 z => tp_inc i1 z
  | false => exact ⟨H1, I1, Γ1, G1, q1, i1, k1⟩
theorem lw_or (ha : LT X F E a ta) (hb : LW X F E (.BoolOp .Or (b :: rest) pos) tb) : LW X F E (.BoolOp .Or (a :: b :: rest) pos) (qOr ta tb) := by
  refine ⟨fun wh pins s σ H G Γ Q I k h => ?_⟩
  refine isTrue_or (thn (ha.run pins s σ H G Γ _ I k h) fun c s1 ⟨H1, I1, Γ1, G1, q1, i1, k1⟩ => ?_)
  cases c with
  | true => exact ⟨H1, I1, Γ1, G1, q1, i1, k1⟩
  | false => exact thn (hb.run wh pins s1 σ H1 G1 Γ1 Q I1 k1 q1) fun c s2 z => tp_inc i1 z
theorem lt_not (ha : LT X F E a ta) : LT X F E (.UnaryOp .Not a pos) (qNot ta) :=
  ⟨fun pins s σ H G Γ Q I k h => isTrue_not (thn (ha.run pins s σ H G Γ _ I k h) fun c s1 ⟨H1, I1, Γ1, G1, q1, i1, k1⟩ => ⟨H1, I1, Γ1, G1, q1, i1, k1⟩)⟩
/-- .. as values -/
def qAndV (pa pb : QE) : QE := fun Γ Q E => pa Γ (fun d Γ1 => match d with
  | .bl true => pb Γ1 Q E
  | .bl false => Q (.bl false) Γ1
  | _ => False) E
def qOrV (pa pb : QE) : QE := fun Γ Q E => pa Γ (fun d Γ1 => match d with
  | .bl true => Q (.bl true) Γ1
  | .bl false => pb Γ1 Q E
  | _ => False) E
def qNotV (pa : QE) : QE := fun Γ Q E => pa Γ (fun d Γ1 => match d with
  | .bl b => Q (.bl (!b)) Γ1
  | _ => False) E
theorem le_one {op} (h : LE X F E a pa) : LE X F E (.BoolOp op [a] pos) pa := ⟨fun pins s σ H G Γ Q I k hw => BoolOp_one (h.run pins s σ H G Γ Q I k hw)⟩
theorem le_and (ha : LE X F E a pa) (hb : LE X F E (.BoolOp .And (b :: rest) pos) pb) : LE X F E (.BoolOp .And (a :: b :: rest) pos) (qAndV pa pb) := by
  refine ⟨fun pins s σ H G Γ Q I k h => ?_⟩
  refine BoolOp_and (thn (ha.run pins s σ H G Γ _ I k h) fun v s1 ⟨x, H1, I1, r1, d, Γ1, G1, q1, i1, k1, rp1⟩ => ?_)
  cases d with
  | bl c =>
    cases (show x = .bl c from rp1)
    cases r1
    refine wpAny_truthy_bool ?_
    cases c with
    | true => exact thn (hb.run pins s1 σ H1 G1 Γ1 Q I1 k1 q1) fun c s2 z => ep_inc i1 z
    | false => exact ⟨.bl false, H1, I1, rfl, _, Γ1, G1, q1, i1, k1, rfl⟩
  | _ => exact q1.elim
theorem le_or (ha : LE X F E a pa) (hb : LE X F E (.BoolOp .Or (b :: rest) pos) pb) : LE X F E (.BoolOp .Or (a :: b :: rest) pos) (qOrV pa pb) := by
  refine ⟨fun pins s σ H G Γ Q I k h => ?_⟩
  refine BoolOp_or (thn (ha.run pins s σ H G Γ _ I k h) fun v s1 ⟨x, H1, I1, r1, d, Γ1, G1, q1, i1, k1, rp1⟩ => ?_)
  cases d with
  | bl c =>
    cases (show x = .bl c from rp1)
    cases r1
    refine wpAny_truthy_bool ?_
    cases c with
    | false => exact thn (hb.run pins s1 σ H1 G1 Γ1 Q I1 k1 q1) fun c s2 z => ep_inc i1 z
    | true => exact ⟨.bl true, H1, I1, rfl, _, Γ1, G1, q1, i1, k1, rfl⟩
  | _ => exact q1.elim
theorem le_not (ha : LE X F E a pa) : LE X F E (.UnaryOp .Not a pos) (qNotV pa) := by
  refine ⟨fun pins s σ H G Γ Q I k h => ?_⟩
  refine UnaryOp_ (thn (ha.run pins s σ H G Γ _ I k h) fun v s1 ⟨x, H1, I1, r1, d, Γ1, G1, q1, i1, k1, rp1⟩ => ?_)
  cases d with
  | bl c =>
    cases (show x = .bl c from rp1)
    cases r1
    exact not_of (wpAny_truthy_bool ⟨.bl (!c), H1, I1, rfl, _, Γ1, G1, q1, i1, k1, rfl⟩)
  | _ => exact q1.elim
/-- not over a test that is no plain value -/
def qVal (t : QT) : QE := fun Γ Q E => t Γ (fun b Γ1 => Q (.bl b) Γ1) E
def qIf (t : QT) (pa pb : QE) : QE := fun Γ Q E => t Γ (fun c Γ1 => match c with
  | true => pa Γ1 Q E
  | false => pb Γ1 Q E) E
theorem le_if {c : Expr} (hc : LT X F E c ta) (ha : LE X F E a pa) (hb : LE X F E b pb) : LE X F E (.IfExp c a b pos) (qIf ta pa pb) := by
  refine ⟨fun pins s σ H G Γ Q I k h => ?_⟩
  refine wpAny_IfExp (thn (hc.run pins s σ H G Γ _ I k h) fun d s1 ⟨H1, I1, Γ1, G1, q1, i1, k1⟩ => ?_)
  cases d with
  | true => exact thn (ha.run pins s1 σ H1 G1 Γ1 Q I1 k1 q1) fun c s2 z => ep_inc i1 z
  | false => exact thn (hb.run pins s1 σ H1 G1 Γ1 Q I1 k1 q1) fun c s2 z => ep_inc i1 z
/-! ### argument lists, displays -/
def qNil : QA := fun Γ Q _ => Q [] Γ
def qCons (pa : QE) (pr : QA) : QA := fun Γ Q E => pa Γ (fun d Γ1 => pr Γ1 (fun ds Γ2 => Q (d :: ds) Γ2) E) E
theorem la_nil : LA X F E [] qNil := ⟨fun _ _ _ _ H G Γ Q I k h => Calls.spliced_nil ⟨[], H, I, .nil, [], Γ, G, h, Inc.refl G, k, rfl⟩⟩
theorem la_cons {es : List Expr} {pr : QA} (ha : LE X F E a pa) (hr : LA X F E es pr) (hs : starEach (a :: es) X.env = (false, eval a X.env) :: starEach es X.env := by rfl) : LA X F E (a :: es) (qCons pa pr) := by
  refine ⟨fun pos pins s σ H G Γ Q I k h => ?_⟩
  rw [hs]
  show wpAny _ _ (spliced ((false, eval a X.env) :: backTo pos (starEach es X.env))) _ _ s
  refine Calls.spliced_cons (thn (ha.run pins s σ H G Γ _ I k h) fun u s1 ⟨x, H1, I1, r1, d, Γ1, G1, q1, i1, k1, rp1⟩ => ?_)
  exact thn (hr.run pos pins s1 σ H1 G1 Γ1 _ I1 k1 q1) fun us s2 ⟨xs, H2, I2, r2, ds, Γ2, G2, q2, i2, k2, rp2⟩ => ⟨x :: xs, H2, I2, .cons r1 r2, d :: ds, Γ2, G2, q2, i1.trans i2, k2, x, xs, rfl, rp1.inc i2, rp2⟩
def qTup (p : QA) : QE := fun Γ Q E => p Γ (fun ds Γ1 => ds.length ≤ 100000 ∧ Q (.tup ds) Γ1) E
def qLst (p : QA) : QE := fun Γ Q E => p Γ (fun ds Γ1 => ds.length ≤ 100000 ∧ Q (.lst ds) Γ1) E
theorem szl {n : Nat} (h : n ≤ 100000) : n ≤ sizeLine := Nat.le_trans h (by decide)
theorem szlt {n : Nat} (h : n < 100000) : n < sizeLine := Nat.lt_of_lt_of_le h (by decide)
theorem le_tup {es : List Expr} {p : QA} {x1} (h : LA X F E es p) : LE X F E (.Tuple es x1 pos) (qTup p) :=
  LE.of (pe_tup h.pa) fun σ H G Γ Q k q => ⟨G, Γ, _, k, q, fun ws H' ⟨ds, Γ', G', ⟨hl, q'⟩, i, k', r⟩ => ⟨by rw [r.len]; exact szl hl, fun p hp =>
    ⟨_, Γ', upd G' p (.tup ws), q', i.trans (Inc.new (k'.sub.no hp)), k'.new hp _, p, ws, rfl, SqT.of upd_same, r.inc (Inc.new (k'.sub.no hp))⟩⟩⟩
theorem le_lst {es : List Expr} {p : QA} (h : LA X F E es p) : LE X F E (.List es pos) (qLst p) :=
  LE.of (pe_lst h.pa) fun σ H G Γ Q k q => ⟨G, Γ, _, k, q, fun ws H' ⟨ds, Γ', G', ⟨hl, q'⟩, i, k', r⟩ => ⟨by rw [r.len]; exact szl hl, fun p hp =>
    ⟨_, Γ', upd G' p (.lst ws), q', i.trans (Inc.new (k'.sub.no hp)), k'.new hp _, p, ws, rfl, upd_same, r.inc (Inc.new (k'.sub.no hp))⟩⟩⟩
end
end Q

set_option Elab.async false
set_option linter.all false
set_option maxRecDepth 100000
set_option maxHeartbeats 4000000
namespace Q
open PySem L2 PySem.Spec PyProof.Rows
/-! ## 4. Operations of built-in data -/
/-! plain data of Python, to be compared -/
mutual
def toPy : D → PyData
  | .non => .none
  | .bl b => .bool b
  | .int i => .int i
  | .str x => .str x
  | .lst xs => .list (toPys xs)
  | .tup xs => .tuple (toPys xs)
  | .rat _ => .none
  | .cls _ => .none
  | .scr _ => .none
  | .dic _ => .none
  | .ins _ _ => .none
  | .fr _ => .none
def toPys : List D → List PyData
  | [] => []
  | x :: xs => toPy x :: toPys xs
end
mutual
def isPy : D → Bool
  | .non => true
  | .bl _ => true
  | .int _ => true
  | .str _ => true
  | .lst xs => isPys xs
  | .tup xs => isPys xs
  | .rat _ => false
  | .cls _ => false
  | .scr _ => false
  | .dic _ => false
  | .ins _ _ => false
  | .fr _ => false
def isPys : List D → Bool
  | [] => true
  | x :: xs => isPy x && isPys xs
end
def plainD (d : D) : Bool := isPy d && SeqAt.shaped (toPy d)
mutual
theorem dp_of {F : Cf} {G H : Hp} (s : Sub G H) : ∀ {d : D} {v : V}, isPy d = true → Rep F G d v → Dp F.K H v (toPy d)
  | .non, _, _, r => by cases (show _ = V.non from r); exact .non
  | .bl b, _, _, r => by cases (show _ = V.bl b from r); exact .bl b
  | .int b, _, _, r => by cases (show _ = V.int b from r); exact .int b
  | .str b, _, _, r => by cases (show _ = V.str b from r); exact .str b
  | .lst ds, _, h, r => by
    obtain ⟨a, vs, rfl, q, r⟩ := r
    exact .lst (SqL.of (s.m q)) (dps_of s h r)
  | .tup ds, _, h, r => by
    obtain ⟨a, vs, rfl, q, r⟩ := r
    exact .tup (s.t q) (dps_of s h r)
  | .rat _, _, h, _ => by cases h
  | .cls _, _, h, _ => by cases h
  | .scr _, _, h, _ => by cases h
  | .dic _, _, h, _ => by cases h
  | .ins _ _, _, h, _ => by cases h
  | .fr _, _, h, _ => by cases h
theorem dps_of {F : Cf} {G H : Hp} (s : Sub G H) : ∀ {ds : List D} {vs : List V}, isPys ds = true → Reps F G ds vs → DpAll F.K H vs (toPys ds)
  | [], _, _, r => by cases (show _ = [] from r); exact .nil
  | d :: ds, _, h, r => by
    obtain ⟨v, vs, rfl, a, b⟩ := r
    have h' := Bool.and_eq_true_iff.mp (show (isPy d && isPys ds) = true from h)
    exact .cons (dp_of s h'.1 a) (dps_of s h'.2 b)
end
def oEq : O2 := fun d e Γ Q _ => plainD d = true ∧ plainD e = true ∧ Q (.bl (PyData.eqv (toPy d) (toPy e))) Γ
def oNe : O2 := fun d e Γ Q _ => plainD d = true ∧ plainD e = true ∧ Q (.bl (!PyData.eqv (toPy d) (toPy e))) Γ
/-- what * asks of two ints -/
def MulOk (i j : Int) : Prop := CMulX i j
def DivOk (i j : Int) : Prop := j ≠ 0 ∧ Builtin.divisionGoesByPylong i j = false
def PowOk (i j : Int) : Prop := 0 ≤ j ∧ (Builtin.Int.intBits i : Int) * j ≤ 2 ^ 27
def oAdd : O2 := fun d e Γ Q _ => match d, e with
  | .int i, .int j => Q (.int (i + j)) Γ
  | .str i, .str j => i.length + j.length ≤ 100000 ∧ Q (.str (i ++ j)) Γ
  | .lst i, .lst j => i.length + j.length ≤ 100000 ∧ Q (.lst (i ++ j)) Γ
  | _, _ => False
def oSub : O2 := fun d e Γ Q _ => match d, e with
  | .int i, .int j => Q (.int (i - j)) Γ
  | _, _ => False
def oMul : O2 := fun d e Γ Q _ => match d, e with
  | .int i, .int j => MulOk i j ∧ Q (.int (i * j)) Γ
  | .lst xs, .int n => xs.length * n.toNat ≤ 100000 ∧ -100000 ≤ n ∧ n ≤ 100000 ∧ Q (.lst (List.flatten (List.replicate n.toNat xs))) Γ
  | _, _ => False
def oDiv : O2 := fun d e Γ Q _ => match d, e with
  | .int i, .int j => DivOk i j ∧ Q (.int (i.fdiv j)) Γ
  | _, _ => False
def oMod : O2 := fun d e Γ Q _ => match d, e with
  | .int i, .int j => j ≠ 0 ∧ Q (.int (i.fmod j)) Γ
  | _, _ => False
def oPow : O2 := fun d e Γ Q _ => match d, e with
  | .int i, .int j => PowOk i j ∧ Q (.int (i ^ j.toNat)) Γ
  | _, _ => False
def oCmp (f : Int → Int → Bool) : O2 := fun d e Γ Q _ => match d, e with
  | .int i, .int j => Q (.bl (f i j)) Γ
  | _, _ => False
abbrev oLt : O2 := oCmp fun i j => decide (i < j)
abbrev oLe : O2 := oCmp fun i j => decide (i ≤ j)
abbrev oGt : O2 := oCmp fun i j => decide (j < i)
abbrev oGe : O2 := oCmp fun i j => decide (j ≤ i)
def oNeg : O1 := fun d Γ Q _ => match d with
  | .int i => Q (.int (-i)) Γ
  | _ => False
/-- is None -/
def isNon : D → Bool
  | .non => true
  | _ => false
section
variable {X : Cx} {F : Fx} {E : XP}
theorem fin0 {G H : Hp} {σ : St} {Γ : Env} {Q : D → Env → Prop} {d : D} {v : V} (k : Ok F G H σ Γ) (q : Q d Γ) (r : Rep F.toCf G d v) : Fin F G σ Q v H := ⟨d, Γ, G, q, Inc.refl G, k, r⟩
/-- a new list -/
theorem fin_lst {G H : Hp} {σ : St} {Γ : Env} {Q : D → Env → Prop} {ds : List D} {vs : List V} {p : Addr} (k : Ok F G H σ Γ) (hp : H p = none) (q : Q (.lst ds) Γ) (r : Reps F.toCf G ds vs) : Fin F G σ Q (.ref p) (upd H p (.lst vs)) :=
  ⟨_, Γ, upd G p (.lst vs), q, Inc.new (k.sub.no hp), k.new hp _, p, vs, rfl, upd_same, r.inc (Inc.new (k.sub.no hp))⟩
theorem fin_tup {G H : Hp} {σ : St} {Γ : Env} {Q : D → Env → Prop} {ds : List D} {vs : List V} {p : Addr} (k : Ok F G H σ Γ) (hp : H p = none) (q : Q (.tup ds) Γ) (r : Reps F.toCf G ds vs) : Fin F G σ Q (.ref p) (upd H p (.tup vs)) :=
  ⟨_, Γ, upd G p (.tup vs), q, Inc.new (k.sub.no hp), k.new hp _, p, vs, rfl, SqT.of upd_same, r.inc (Inc.new (k.sub.no hp))⟩
theorem OpL.int {f : Value → Value → Sem Value} {o : O2} {C : Int → Int → Prop} {g : Int → Int → D} {gv : Int → Int → V} (h : OpR X f (rI C gv)) (hg : ∀ i j G, Rep F.toCf G (g i j) (gv i j))
    (ho : ∀ d e Γ (Q : D → Env → Prop), o d e Γ Q E → ∃ i j, d = .int i ∧ e = .int j ∧ C i j ∧ Q (g i j) Γ) : OpL X F E f o := OpL.of h fun σ H G Γ x y d e Q k rx ry q => by
  obtain ⟨i, j, rfl, rfl, c, q⟩ := ho _ _ _ _ q
  exact ⟨i, j, rx, ry, c, fin0 (d := g i j) k q (hg i j G)⟩
theorem OpL.int0 {f : Value → Value → Sem Value} {o : O2} {g : Int → Int → D} {gv : Int → Int → V} (h : OpR X f (rI0 gv)) (hg : ∀ i j G, Rep F.toCf G (g i j) (gv i j))
    (ho : ∀ d e Γ (Q : D → Env → Prop), o d e Γ Q E → ∃ i j, d = .int i ∧ e = .int j ∧ Q (g i j) Γ) : OpL X F E f o := OpL.of h fun σ H G Γ x y d e Q k rx ry q => by
  obtain ⟨i, j, rfl, rfl, q2⟩ := ho _ _ _ _ q
  exact ⟨i, j, rx, ry, fin0 (d := g i j) k q2 (hg i j G)⟩
theorem op_fdivA : OpR X (binaryOp .FloorDiv) (rI DivOk fun i j => .int (i.fdiv j)) := opI fun _ _ _ _ _ _ _ hc q => floordiv_int hc.1 q (.inl hc.2)
theorem op_powA : OpR X (binaryOp .Pow) (rI PowOk fun i j => .int (i ^ j.toNat)) := opI fun _ _ _ _ _ _ _ hc q => pow_int hc.1 hc.2 q
theorem ol_sub : OpL X F E (binaryOp .Sub) oSub := OpL.int0 (g := fun i j => .int (i - j)) op_sub (fun _ _ _ => rfl) fun d e Γ Q q => by
  cases d <;> cases e <;> first | exact ⟨_, _, rfl, rfl, q⟩ | exact q.elim
theorem ol_div : OpL X F E (binaryOp .FloorDiv) oDiv := OpL.int (g := fun i j => .int (i.fdiv j)) op_fdivA (fun _ _ _ => rfl) fun d e Γ Q q => by
  cases d <;> cases e <;> first | exact ⟨_, _, rfl, rfl, q⟩ | exact q.elim
theorem ol_mod : OpL X F E (binaryOp .Mod) oMod := OpL.int (g := fun i j => .int (i.fmod j)) op_modN (fun _ _ _ => rfl) fun d e Γ Q q => by
  cases d <;> cases e <;> first | exact ⟨_, _, rfl, rfl, q⟩ | exact q.elim
theorem ol_pow : OpL X F E (binaryOp .Pow) oPow := OpL.int (g := fun i j => .int (i ^ j.toNat)) op_powA (fun _ _ _ => rfl) fun d e Γ Q q => by
  cases d <;> cases e <;> first | exact ⟨_, _, rfl, rfl, q⟩ | exact q.elim
theorem ol_add : OpL X F E (binaryOp .Add) oAdd := by
  intro pins s σ H G Γ x y v u d e Q I k rv ru rx ry q
  cases d with
  | int i =>
    cases e with
    | int j => exact op_add pins s σ H x y v u _ I rv ru ⟨i, j, rx, ry, fin0 k q rfl⟩
    | _ => exact q.elim
  | str i =>
    cases e with
    | str j => exact op_add_str pins s σ H x y v u _ I rv ru ⟨i, j, rx, ry, szl q.1, fin0 k q.2 rfl⟩
    | _ => exact q.elim
  | lst i =>
    cases e with
    | lst j =>
      obtain ⟨a, vs, rfl, sa, ra⟩ := rx
      obtain ⟨b, ws, rfl, sb, rb⟩ := ry
      refine op_cat pins s σ H _ _ v u _ I rv ru ⟨a, b, vs, ws, rfl, rfl, k.sub.m sa, k.sub.m sb, ?_, fun p hp => fin_lst k hp q.2 (ra.append rb)⟩
      rw [ra.len, rb.len]
      exact szl q.1
    | _ => exact q.elim
  | _ => exact q.elim
theorem reps_rep {G : Hp} {ds : List D} {vs : List V} (r : Reps F.toCf G ds vs) : ∀ n : Nat, Reps F.toCf G (List.flatten (List.replicate n ds)) (List.flatten (List.replicate n vs))
  | 0 => rfl
  | n + 1 => by
    rw [List.replicate_succ, List.replicate_succ, List.flatten_cons, List.flatten_cons]
    exact r.append (reps_rep r n)
theorem ol_mul : OpL X F E (binaryOp .Mult) oMul := by
  intro pins s σ H G Γ x y v u d e Q I k rv ru rx ry q
  cases d with
  | int i =>
    cases e with
    | int j => exact op_mulX pins s σ H x y v u _ I rv ru ⟨i, j, rx, ry, q.1, fin0 k q.2 rfl⟩
    | _ => exact q.elim
  | lst i =>
    cases e with
    | int n =>
      obtain ⟨a, vs, rfl, sa, ra⟩ := rx
      obtain ⟨h1, h2, h3, q⟩ := q
      refine op_rep pins s σ H _ _ v u _ I rv ru ⟨a, n, vs, rfl, ry, k.sub.m sa, by omega, by omega, ?_, fun p hp => fin_lst k hp q (reps_rep ra _)⟩
      rw [ra.len]
      exact szl h1
    | _ => exact q.elim
  | _ => exact q.elim
theorem ol_lt : OpL X F E (compareOp .Lt) oLt := OpL.int0 (g := fun i j => .bl (decide (i < j))) (opB0 fun _ _ _ _ _ _ _ h => PyProof.Rows.lt_int h) (fun _ _ _ => rfl) fun d e Γ Q q => by
  cases d <;> cases e <;> first | exact ⟨_, _, rfl, rfl, q⟩ | exact q.elim
theorem ol_le : OpL X F E (compareOp .LtE) oLe := OpL.int0 (g := fun i j => .bl (decide (i ≤ j))) (opB0 fun _ _ _ _ _ _ _ h => PyProof.Rows.le_int h) (fun _ _ _ => rfl) fun d e Γ Q q => by
  cases d <;> cases e <;> first | exact ⟨_, _, rfl, rfl, q⟩ | exact q.elim
theorem ol_gt : OpL X F E (compareOp .Gt) oGt := OpL.int0 (g := fun i j => .bl (decide (j < i))) (opB0 fun _ _ _ _ _ _ _ h => PyProof.Rows.gt_int h) (fun _ _ _ => rfl) fun d e Γ Q q => by
  cases d <;> cases e <;> first | exact ⟨_, _, rfl, rfl, q⟩ | exact q.elim
theorem ol_ge : OpL X F E (compareOp .GtE) oGe := OpL.int0 (g := fun i j => .bl (decide (j ≤ i))) (opB0 fun _ _ _ _ _ _ _ h => PyProof.Rows.ge_int h) (fun _ _ _ => rfl) fun d e Γ Q q => by
  cases d <;> cases e <;> first | exact ⟨_, _, rfl, rfl, q⟩ | exact q.elim
theorem plain_py {d : D} (h : plainD d = true) : isPy d = true ∧ SeqAt.shaped (toPy d) = true := Bool.and_eq_true_iff.mp h
theorem ol_eq {kk : Nat} (hK : F.K = X.K) (hr : Room kk X.A) : OpL X F E (compareOp .Eq) oEq := OpL.of (op_eqD hr.units) fun σ H G Γ x y d e Q k rx ry q => by
  obtain ⟨a, b, q⟩ := q
  exact ⟨toPy d, toPy e, hK ▸ dp_of k.sub (plain_py a).1 rx, hK ▸ dp_of k.sub (plain_py b).1 ry, (plain_py a).2, (plain_py b).2, fin0 k q rfl⟩
theorem ol_ne {kk : Nat} (hK : F.K = X.K) (hr : Room kk X.A) : OpL X F E (compareOp .NotEq) oNe := OpL.of (op_neD hr.units) fun σ H G Γ x y d e Q k rx ry q => by
  obtain ⟨a, b, q⟩ := q
  exact ⟨toPy d, toPy e, hK ▸ dp_of k.sub (plain_py a).1 rx, hK ▸ dp_of k.sub (plain_py b).1 ry, (plain_py a).2, (plain_py b).2, fin0 k q rfl⟩
theorem ul_neg : UnL X F E (unaryOp .USub) oNeg := UnL.of un_neg fun σ H G Γ x d Q k rx q => by
  cases d with
  | int i => exact ⟨i, rx, fin0 k q rfl⟩
  | _ => exact q.elim
theorem isNon_v {G : Hp} {d : D} {v : V} (r : Rep F.toCf G d v) : decide (v = .non) = isNon d := by
  cases d with
  | non => cases (show v = .non from r); rfl
  | bl b => cases (show v = .bl b from r); rfl
  | int b => cases (show v = .int b from r); rfl
  | str b => cases (show v = .str b from r); rfl
  | cls b => cases (show v = .ref _ from r); rfl
  | scr b => obtain ⟨a, rfl, _⟩ := r; rfl
  | rat q => obtain ⟨a, dx, rfl, _⟩ := r; rfl
  | lst q => obtain ⟨a, dx, rfl, _⟩ := r; rfl
  | tup q => obtain ⟨a, dx, rfl, _⟩ := r; rfl
  | dic q => obtain ⟨a, dx, rfl, _⟩ := r; rfl
  | ins c q => obtain ⟨a, dx, _, rfl, _⟩ := r; rfl
  | fr q => exact r.elim
variable {a b c : Expr} {pa pb pc : QE} {pos : Pos}
def qIsN (pa : QE) : QE := fun Γ Q E => pa Γ (fun d Γ1 => Q (.bl (isNon d)) Γ1) E
def qNotN (pa : QE) : QE := fun Γ Q E => pa Γ (fun d Γ1 => Q (.bl (!isNon d)) Γ1) E
theorem le_isN {j pos'} (ha : LE X F E a pa) : LE X F E (.Compare a [.Is] [.Constant .none j pos'] pos) (qIsN pa) :=
  LE.of (pe_cmp (pc_isN ha.pe)) fun σ H G Γ Q k q => ⟨G, Γ, _, k, q, fun w H' ⟨d, Γ', G', q', i, k', r⟩ => fin_inc i (by rw [isNon_v r]; exact fin0 k' q' rfl)⟩
theorem le_notN {j pos'} (ha : LE X F E a pa) : LE X F E (.Compare a [.IsNot] [.Constant .none j pos'] pos) (qNotN pa) :=
  LE.of (pe_cmp (pc_notN ha.pe)) fun σ H G Γ Q k q => ⟨G, Γ, _, k, q, fun w H' ⟨d, Γ', G', q', i, k', r⟩ => fin_inc i (by rw [isNon_v r]; exact fin0 k' q' rfl)⟩
theorem lt_isN {j pos'} (ha : LE X F E a pa) : LT X F E (.Compare a [.Is] [.Constant .none j pos'] pos) (qTest (qIsN pa)) :=
  LT.of (pt_cmp (pc_isN ha.pe)) fun σ H G Γ Q k q => ⟨G, Γ, _, k, q, fun w H' ⟨d, Γ', G', q', i, k', r⟩ => ⟨_, rfl, by rw [isNon_v r]; exact ⟨Γ', G', q', i, k'⟩⟩⟩
theorem lt_notN {j pos'} (ha : LE X F E a pa) : LT X F E (.Compare a [.IsNot] [.Constant .none j pos'] pos) (qTest (qNotN pa)) :=
  LT.of (pt_cmp (pc_notN ha.pe)) fun σ H G Γ Q k q => ⟨G, Γ, _, k, q, fun w H' ⟨d, Γ', G', q', i, k', r⟩ => ⟨_, rfl, by rw [isNon_v r]; exact ⟨Γ', G', q', i, k'⟩⟩⟩
/-! ### subscripts of lists and tuples -/
def atD (xs : List D) (i : Int) : Option D := if 0 ≤ i then xs[i.toNat]? else if -(xs.length : Int) ≤ i then xs[(i + (xs.length : Int)).toNat]? else none
def oIx : O2 := fun d e Γ Q _ => match d, e with
  | .lst xs, .int i => ∃ z, atD xs i = some z ∧ Q z Γ
  | .tup xs, .int i => ∃ z, atD xs i = some z ∧ Q z Γ
  | _, _ => False
theorem atD_v {G : Hp} {ds : List D} {vs : List V} {i : Int} {z : D} (r : Reps F.toCf G ds vs) (h : atD ds i = some z) : ∃ v, atI vs i = some v ∧ Rep F.toCf G z v := by
  unfold atD at h
  unfold atI ixN
  rw [r.len]
  by_cases h0 : 0 ≤ i
  · rw [if_pos h0] at h
    obtain ⟨v, e, rv⟩ := r.get h
    have hl : i.toNat < ds.length := (List.getElem?_eq_some_iff.mp h).1
    rw [if_pos h0, if_pos (by omega)]
    exact ⟨v, e, rv⟩
  · rw [if_neg h0] at h
    by_cases h1 : -(ds.length : Int) ≤ i
    · rw [if_pos h1] at h
      obtain ⟨v, e, rv⟩ := r.get h
      rw [if_neg h0, if_pos h1]
      exact ⟨v, e, rv⟩
    · rw [if_neg h1] at h
      cases h
def IxL (X : Cx) (F : Fx) (E : XP) (o : O2) : Prop :=
  ∀ (value slice : Expr) (pins : List (Addr × Obj)) (s : Shared) (σ : St) (H G : Hp) (Γ : Env) (x y : V) (v u : Value) (d e : D) (Q : D → Env → Prop), Inv X pins σ H s → Ok F G H σ Γ → RelV x v → RelV y u → Rep F.toCf G d x → Rep F.toCf G e y → o d e Γ Q E →
    subscripted slice false v u = operate [v, u] (getItem v u) → wpAny (model X.prog X.w) X.A (subscriptTail value slice v u) (EP X pins σ (Fin F G σ Q)) X.xe s
theorem il_ix (hK : F.K = X.K) : IxL X F E oIx := by
  intro value slice pins s σ H G Γ x y v u d e Q I k rv ru rx ry q hs
  cases d with
  | lst xs =>
    cases e with
    | int i =>
      obtain ⟨z, hz, q⟩ := q
      obtain ⟨a, vs, rfl, sa, ra⟩ := rx
      obtain ⟨w, hw, rw'⟩ := atD_v ra hz
      exact ix_list value slice pins s σ H _ _ v u _ I rv ru ⟨a, vs, i, w, rfl, ry, SqL.of (k.sub.m sa), hw, fin0 k q rw'⟩ hs
    | _ => exact q.elim
  | tup xs =>
    cases e with
    | int i =>
      obtain ⟨z, hz, q⟩ := q
      obtain ⟨a, vs, rfl, sa, ra⟩ := rx
      obtain ⟨w, hw, rw'⟩ := atD_v ra hz
      exact ix_tup value slice pins s σ H _ _ v u _ I rv ru ⟨a, vs, i, w, rfl, ry, hK ▸ k.sub.t sa, hw, fin0 k q rw'⟩ hs
    | _ => exact q.elim
  | _ => exact q.elim
theorem le_ix {o : O2} (ho : IxL X F E o) (ha : LE X F E a pa) (hb : LE X F E b pb) (hs : PlainIx b := by exact fun _ _ => rfl) : LE X F E (.Subscript a b pos) (qBin o pa pb) := by
  refine ⟨fun pins s σ H G Γ Q I k h => ?_⟩
  refine Subscript_ (thn (ha.run pins s σ H G Γ _ I k h) fun v s1 ⟨x, H1, I1, r1, d, Γ1, G1, q1, i1, k1, rp1⟩ => ?_)
  refine thn (hb.run pins s1 σ H1 G1 Γ1 _ I1 k1 q1) fun u s2 ⟨y, H2, I2, r2, e, Γ2, G2, q2, i2, k2, rp2⟩ => ?_
  exact thn (ho a b pins s2 σ H2 G2 Γ2 x y v u d e Q I2 k2 r1 r2 (rp1.inc i2) rp2 q2 (hs _ _)) fun w s3 z => ep_inc (i1.trans i2) z
/-- the items of a slot that holds a list that may change, or the script -/
def seqAt (Γ : Env) (j : Nat) : Option (List D) := match Γ[j]? with
  | some (.own (.lst xs)) => some xs
  | some (.bor (.lst xs)) => some xs
  | some (.val (.scr ns)) => some (ns.map D.int)
  | _ => none
def qIxM (j : Nat) (pb : QE) : QE := fun Γ Q E => match seqAt Γ j with
  | some _ => pb Γ (fun e Γ1 => match seqAt Γ1 j, e with
    | some xs, .int i => ∃ z, atD xs i = some z ∧ Q z Γ1
    | _, _ => False) E
  | none => False
theorem reps_ints {G : Hp} : ∀ ns : List Int, Reps F.toCf G (ns.map D.int) (ns.map V.int)
  | [] => rfl
  | n :: ns => ⟨_, _, rfl, rfl, reps_ints ns⟩
theorem seqAt_ok {G H : Hp} {σ : St} {Γ : Env} {j : Nat} {xs : List D} (k : Ok F G H σ Γ) (h : seqAt Γ j = some xs) : ∃ a vs, σ[j]? = some (some (.ref a)) ∧ SqL F.K H a vs ∧ Reps F.toCf G xs vs := by
  unfold seqAt at h
  split at h
  · rename_i ys e
    cases h
    obtain ⟨a, ea, g, ⟨vs, q, r⟩, _⟩ := k.mut e rfl
    exact ⟨a, vs, ea, SqL.of q, r⟩
  · rename_i ys e
    cases h
    obtain ⟨a, ea, g, ⟨vs, q, r⟩, _⟩ := k.mut e rfl
    exact ⟨a, vs, ea, SqL.of q, r⟩
  · rename_i ns e
    cases h
    obtain ⟨v, ea, a, rfl, q⟩ := k.rep e
    exact ⟨a, _, ea, k.sub.l q, reps_ints ns⟩
  · cases h
theorem le_ixM (j : Nat) {x : Str} {px : Pos} (hK : F.K = X.K) (hb : LE X F E b pb) (hs : PlainIx b := by exact fun _ _ => rfl) (hN : X.N[j]? = some x := by rfl) (hv : Vis X.env.scope x := by first | exact Or.inl rfl | exact Or.inr (Or.inl rfl) | exact Or.inr (Or.inr rfl)) (hd : (x == ("__debug__" : Str)) = false := by decide)
    (hcd : (x == ("__classdict__" : Str)) = false := by decide) : LE X F E (.Subscript (.Name x px) b pos) (qIxM j pb) := by
  refine LE.of (pe_ix ix_list (pe_var hN hv hd hcd) hb.pe hs) fun σ H G Γ Q k q => ?_
  unfold qIxM at q
  split at q
  · rename_i xs e
    obtain ⟨a, vs, ea, _, _⟩ := seqAt_ok k e
    refine ⟨.ref a, ea, G, Γ, _, k, q, fun w H' ⟨d, Γ', G', q', i, k', r⟩ => ?_⟩
    dsimp only at q'
    split at q'
    · rename_i ys z e1
      obtain ⟨y, hz, q'⟩ := q'
      obtain ⟨a', vs', ea', sq, rp⟩ := seqAt_ok k' e1
      rw [ea] at ea'
      cases ea'
      obtain ⟨w', hw, rw'⟩ := atD_v rp hz
      exact ⟨a, vs', z, w', rfl, r, hK ▸ sq, hw, fin_inc i (fin0 k' q' rw')⟩
    · exact q'.elim
  · exact q.elim
end
end Q

set_option Elab.async false
set_option linter.all false
set_option maxRecDepth 100000
set_option maxHeartbeats 4000000
namespace Q
open PySem L2 PySem.Spec PyProof.Rows
/-! ## 5. Contracts and calls -/
abbrev Ct := List Slot → (D → List Slot → Prop) → (Exn → List Slot → Prop) → Prop
def ArgOk (F : Cf) (G H : Hp) : Slot → V → Prop
  | .val d, v => Rep F G d v
  | .bor o, v => ∃ a, v = .ref a ∧ G a = none ∧ MRep F G H o a
  | _, _ => False
def ArgsOk (F : Cf) (G H : Hp) : List Slot → List V → Prop
  | [], vs => vs = []
  | s :: ss, vs => ∃ v r, vs = v :: r ∧ ArgOk F G H s v ∧ ArgsOk F G H ss r
def argA : List Slot → List V → List Addr
  | .bor _ :: ss, .ref a :: vs => a :: argA ss vs
  | _ :: ss, _ :: vs => argA ss vs
  | _, _ => []
/-- the same things may change -/
def shape : List Slot → List Slot → Prop
  | [], [] => True
  | .bor _ :: ss, t :: ts => (∃ o, t = .bor o) ∧ shape ss ts
  | s :: ss, t :: ts => t = s ∧ shape ss ts
  | _, _ => False
structure Post (G H : Hp) (B : List Addr) (G' H' : Hp) : Prop where
  sub : Sub G' H'
  inc : Inc G G'
  fresh : ∀ a o, G' a = some o → G a = some o ∨ H a = none
  frame : ∀ a o, H a = some o → a ∉ B → H' a = some o
def spC (F : Cf) (c : Ct) : Sp := fun vs H Q E => ∃ (G : Hp) (args : List Slot), Sub G H ∧ ArgsOk F G H args vs ∧ (argA args vs).Nodup ∧
  ∃ Qc Ec, c args Qc Ec ∧ (∀ d outs v H' G', Qc d outs → Post G H (argA args vs) G' H' → ArgsOk F G' H' outs vs → shape args outs → RepR F H G' H' d v → Q v H') ∧
    (∀ x outs cls dd H' G', Ec x outs → Post G H (argA args vs) G' H' → ArgsOk F G' H' outs vs → shape args outs → XRep F G' H' x cls dd → E cls dd H')
theorem ArgsOk.len {F : Cf} {G H : Hp} : ∀ {as : List Slot} {vs : List V}, ArgsOk F G H as vs → vs.length = as.length
  | [], _, h => by cases (show _ = [] from h); rfl
  | _ :: _, _, h => by
    obtain ⟨v, r, rfl, _, b⟩ := h
    rw [List.length_cons, List.length_cons, b.len]
/-! ### handles: what is handed to a call -/
inductive Hd where
  | val (d : D) | slot (j : Nat)
def Hd.arg (Γ : Env) : Hd → Slot
  | .val d => .val d
  | .slot j => match Γ[j]? with
    | some (.own o) => .bor o
    | some (.bor o) => .bor o
    | _ => .no
def argsOf (Γ : Env) : List Hd → List Slot
  | [] => []
  | h :: hs => h.arg Γ :: argsOf Γ hs
def putM (Γ : Env) (j : Nat) (o : MO) : Env := match Γ[j]? with
  | some (.own _) => Γ.set j (.own o)
  | some (.bor _) => Γ.set j (.bor o)
  | _ => Γ
def updS : Env → List Hd → List Slot → Env
  | Γ, .slot j :: hs, .bor o :: outs => updS (putM Γ j o) hs outs
  | Γ, .val _ :: hs, _ :: outs => updS Γ hs outs
  | Γ, _, _ => Γ
def ixs : List Hd → List Nat
  | [] => []
  | .slot j :: hs => j :: ixs hs
  | .val _ :: hs => ixs hs
def noJ (j : Nat) : List Nat → Bool
  | [] => true
  | i :: is => !(Nat.beq i j) && noJ j is
def ndb : List Nat → Bool
  | [] => true
  | i :: is => noJ i is && ndb is
def HdOk (F : Fx) (G : Hp) (σ : St) : Hd → V → Prop
  | .val d, v => Rep F.toCf G d v
  | .slot j, v => σ[j]? = some (some v)
def HdsOk (F : Fx) (G : Hp) (σ : St) : List Hd → List V → Prop
  | [], vs => vs = []
  | h :: hs, vs => ∃ v r, vs = v :: r ∧ HdOk F G σ h v ∧ HdsOk F G σ hs r
abbrev QH := Env → (List Hd → Env → Prop) → XP → Prop
def FinH (F : Fx) (G : Hp) (σ : St) (Q : List Hd → Env → Prop) : List V → Hp → Prop := fun ws H' => ∃ hs Γ' G', Q hs Γ' ∧ Inc G G' ∧ Ok F G' H' σ Γ' ∧ HdsOk F G' σ hs ws
structure LH (X : Cx) (F : Fx) (E : XP) (es : List Expr) (p : QH) : Prop where
  run : ∀ (pos : Pos) (pins : List (Addr × Obj)) (s : Shared) (σ : St) (H G : Hp) (Γ : Env) (Q : List Hd → Env → Prop), Inv X pins σ H s → Ok F G H σ Γ → p Γ Q E →
    wpAny (model X.prog X.w) X.A (spliced (backTo pos (starEach es X.env))) (AP X pins σ (FinH F G σ Q)) X.xe s
def qhNil : QH := fun Γ Q _ => Q [] Γ
def qhVal (pa : QE) (pr : QH) : QH := fun Γ Q E => pa Γ (fun d Γ1 => pr Γ1 (fun hs Γ2 => Q (.val d :: hs) Γ2) E) E
def qhSlot (j : Nat) (pr : QH) : QH := fun Γ Q E => match Γ[j]? with
  | some (.own _) => pr Γ (fun hs Γ2 => Q (.slot j :: hs) Γ2) E
  | some (.bor _) => pr Γ (fun hs Γ2 => Q (.slot j :: hs) Γ2) E
  | _ => False
section
variable {X : Cx} {F : Fx} {E : XP}
theorem HdOk.inc {G G' : Hp} {σ : St} (i : Inc G G') : ∀ {h : Hd} {v : V}, HdOk F G σ h v → HdOk F G' σ h v
  | .val _, _, r => Rep.inc i r
  | .slot _, _, r => r
variable {a : Expr} {es : List Expr} {pa : QE} {pr : QH} {pos : Pos}
theorem lh_nil : LH X F E [] qhNil := ⟨fun _ _ _ _ H G Γ Q I k h => Calls.spliced_nil ⟨[], H, I, .nil, [], Γ, G, h, Inc.refl G, k, rfl⟩⟩
theorem lh_val (ha : LE X F E a pa) (hr : LH X F E es pr) (hs : starEach (a :: es) X.env = (false, eval a X.env) :: starEach es X.env := by rfl) : LH X F E (a :: es) (qhVal pa pr) := by
  refine ⟨fun pos pins s σ H G Γ Q I k h => ?_⟩
  rw [hs]
  show wpAny _ _ (spliced ((false, eval a X.env) :: backTo pos (starEach es X.env))) _ _ s
  refine Calls.spliced_cons (thn (ha.run pins s σ H G Γ _ I k h) fun u s1 ⟨x, H1, I1, r1, d, Γ1, G1, q1, i1, k1, rp1⟩ => ?_)
  exact thn (hr.run pos pins s1 σ H1 G1 Γ1 _ I1 k1 q1) fun us s2 ⟨xs, H2, I2, r2, ds, Γ2, G2, q2, i2, k2, rp2⟩ => ⟨x :: xs, H2, I2, .cons r1 r2, _, Γ2, G2, q2, i1.trans i2, k2, x, xs, rfl, rp1.inc i2, rp2⟩
theorem mo_slot {G H : Hp} {σ : St} {Γ : Env} {j : Nat} (k : Ok F G H σ Γ) {Z : Prop} (h : match Γ[j]? with | some (.own _) => Z | some (.bor _) => Z | _ => False) : Z ∧ ∃ a, σ[j]? = some (some (.ref a)) := by
  split at h
  · rename_i o e
    obtain ⟨a, ea, _⟩ := k.mut e rfl
    exact ⟨h, a, ea⟩
  · rename_i o e
    obtain ⟨a, ea, _⟩ := k.mut e rfl
    exact ⟨h, a, ea⟩
  · exact h.elim
theorem lh_slot (j : Nat) {x : Str} {px : Pos} (hr : LH X F E es pr) (hN : X.N[j]? = some x := by rfl) (hv : Vis X.env.scope x := by first | exact Or.inl rfl | exact Or.inr (Or.inl rfl) | exact Or.inr (Or.inr rfl)) (hd : (x == ("__debug__" : Str)) = false := by decide)
    (hcd : (x == ("__classdict__" : Str)) = false := by decide) (hs : starEach (.Name x px :: es) X.env = (false, eval (.Name x px) X.env) :: starEach es X.env := by rfl) : LH X F E (.Name x px :: es) (qhSlot j pr) := by
  refine ⟨fun pos pins s σ H G Γ Q I k h => ?_⟩
  obtain ⟨h, b, eb⟩ := mo_slot k h
  rw [hs]
  show wpAny _ _ (spliced ((false, eval (.Name x px) X.env) :: backTo pos (starEach es X.env))) _ _ s
  refine Calls.spliced_cons (thn ((pe_var (X := X) (i := j) hN hv hd hcd).run pins s σ H (fun v H' => v = .ref b ∧ H' = H) I ⟨.ref b, eb, rfl, rfl⟩) fun u s1 ⟨x, H1, I1, r1, e1, e2⟩ => ?_)
  subst e1
  have I1' : Inv X pins σ H s1 := e2 ▸ I1
  exact thn (hr.run pos pins s1 σ H G Γ _ I1' k h) fun us s2 ⟨xs, H2, I2, r2, ds, Γ2, G2, q2, i2, k2, rp2⟩ => ⟨_, H2, I2, .cons r1 r2, _, Γ2, G2, q2, i2, k2, _, xs, rfl, eb, rp2⟩
/-! ### what a call leaves -/
theorem Slots.mk : ∀ {σ : St} {Γ : Env} {G H : Hp}, σ.length = Γ.length → (∀ (i : Nat) v s, σ[i]? = some v → Γ[i]? = some s → SlotOk F G H v s) → Slots F G H σ Γ
  | [], [], _, _, _, _ => trivial
  | v :: σ, s :: Γ, _, _, h, k => ⟨k 0 v s rfl rfl, Slots.mk (by simpa using h) fun i v s e1 e2 => k (i + 1) v s (by simpa using e1) (by simpa using e2)⟩
  | [], _ :: _, _, _, h, _ => by simp at h
  | _ :: _, [], _, _, h, _ => by simp at h
theorem mutA_cons {v : Option V} {s : Slot} {σ : St} {Γ : Env} : mutA (v :: σ) (s :: Γ) = match v, s with
    | some (.ref a), .own _ => a :: mutA σ Γ
    | some (.ref a), .bor _ => a :: mutA σ Γ
    | _, _ => mutA σ Γ := by
  cases s <;> (try cases v) <;> (try rename_i w; cases w) <;> rfl
theorem mutA_tail {v : Option V} {s : Slot} {σ : St} {Γ : Env} {a : Addr} (h : a ∈ mutA σ Γ) : a ∈ mutA (v :: σ) (s :: Γ) := by
  rw [mutA_cons]
  split
  · exact List.mem_cons_of_mem _ h
  · exact List.mem_cons_of_mem _ h
  · exact h
theorem nd_tail {v : Option V} {s : Slot} {σ : St} {Γ : Env} (h : (mutA (v :: σ) (s :: Γ)).Nodup) : (mutA σ Γ).Nodup := by
  rw [mutA_cons] at h
  split at h
  · exact (List.nodup_cons.mp h).2
  · exact (List.nodup_cons.mp h).2
  · exact h
theorem mutA_inj : ∀ {σ : St} {Γ : Env} {i j : Nat} {a : Addr} {s t : Slot}, (mutA σ Γ).Nodup → σ[i]? = some (some (.ref a)) → σ[j]? = some (some (.ref a)) → Γ[i]? = some s → Γ[j]? = some t → s.mo.isSome = true → t.mo.isSome = true → i = j
  | [], _, _, _, _, _, _, _, e, _, _, _, _, _ => by simp at e
  | _ :: _, [], _, _, _, _, _, _, _, _, e, _, _, _ => by simp at e
  | v :: σ, u :: Γ, 0, 0, _, _, _, _, _, _, _, _, _, _ => rfl
  | v :: σ, u :: Γ, 0, j + 1, a, s, t, nd, e1, e2, f1, f2, z1, z2 => by
    exfalso
    have m := mem_mutA (σ := σ) (Γ := Γ) (i := j) (a := a) (s := t) (by simpa using e2) (by simpa using f2) z2
    simp at e1 f1
    subst e1; subst f1
    rw [mutA_cons] at nd
    cases u with
    | own o => exact (List.nodup_cons.mp nd).1 m
    | bor o => exact (List.nodup_cons.mp nd).1 m
    | no => cases z1
    | val d => cases z1
    | exc c fs => cases z1
  | v :: σ, u :: Γ, i + 1, 0, a, s, t, nd, e1, e2, f1, f2, z1, z2 => by
    exfalso
    have m := mem_mutA (σ := σ) (Γ := Γ) (i := i) (a := a) (s := s) (by simpa using e1) (by simpa using f1) z1
    simp at e2 f2
    subst e2; subst f2
    rw [mutA_cons] at nd
    cases u with
    | own o => exact (List.nodup_cons.mp nd).1 m
    | bor o => exact (List.nodup_cons.mp nd).1 m
    | no => cases z2
    | val d => cases z2
    | exc c fs => cases z2
  | v :: σ, u :: Γ, i + 1, j + 1, a, s, t, nd, e1, e2, f1, f2, z1, z2 => by
    rw [mutA_inj (i := i) (j := j) (nd_tail nd) (by simpa using e1) (by simpa using e2) (by simpa using f1) (by simpa using f2) z1 z2]
/-- the same kinds of slots -/
def kin : Slot → Slot → Prop
  | .own _, .own _ => True
  | .bor _, .bor _ => True
  | s, t => s = t
theorem kin_refl (s : Slot) : kin s s := by cases s <;> simp [kin]
theorem kin_mo {s t : Slot} (h : kin s t) : s.mo.isSome = t.mo.isSome := by
  cases s <;> cases t <;> first | rfl | (simp [kin] at h; done) | (simp [kin] at h; subst h; rfl) | (simp [kin] at h; obtain ⟨rfl, rfl⟩ := h; rfl)
theorem mutA_kin : ∀ {σ : St} {Γ Γ' : Env}, Γ'.length = Γ.length → (∀ (i : Nat) s t, Γ[i]? = some s → Γ'[i]? = some t → kin s t) → mutA σ Γ' = mutA σ Γ
  | [], _, _, _, _ => by simp [mutA]
  | _ :: _, [], [], _, _ => rfl
  | v :: σ, s :: Γ, t :: Γ', h, k => by
    have ih := mutA_kin (σ := σ) (Γ := Γ) (Γ' := Γ') (by simpa using h) fun i s t e1 e2 => k (i + 1) s t (by simpa using e1) (by simpa using e2)
    have q := k 0 s t rfl rfl
    rw [mutA_cons, mutA_cons, ih]
    cases s <;> cases t <;> first | rfl | (simp [kin] at q; done) | (cases v <;> first | rfl | (rename_i w; cases w <;> rfl))
  | _ :: _, [], _ :: _, h, _ => by simp at h
  | _ :: _, _ :: _, [], h, _ => by simp at h
theorem putM_len {Γ : Env} {j : Nat} {o : MO} : (putM Γ j o).length = Γ.length := by
  unfold putM
  split <;> simp
theorem putM_get {Γ : Env} {j : Nat} {o : MO} {i : Nat} (h : i ≠ j) : (putM Γ j o)[i]? = Γ[i]? := by
  unfold putM
  split
  · exact List.getElem?_set_ne (Ne.symm h)
  · exact List.getElem?_set_ne (Ne.symm h)
  · rfl
theorem putM_kin {Γ : Env} {j : Nat} {o : MO} {i : Nat} {s t : Slot} (h1 : Γ[i]? = some s) (h2 : (putM Γ j o)[i]? = some t) : kin s t := by
  by_cases h : i = j
  · subst h
    have hl : i < Γ.length := (List.getElem?_eq_some_iff.mp h1).1
    unfold putM at h2
    rw [h1] at h2
    cases s with
    | own o' =>
      dsimp only at h2
      rw [List.getElem?_set_self hl] at h2
      cases h2
      trivial
    | bor o' =>
      dsimp only at h2
      rw [List.getElem?_set_self hl] at h2
      cases h2
      trivial
    | _ =>
      dsimp only at h2
      rw [h1] at h2
      cases h2
      exact kin_refl _
  · rw [putM_get h, h1] at h2
    cases h2
    exact kin_refl _
theorem kin_trans {s t u : Slot} (a : kin s t) (b : kin t u) : kin s u := by
  cases s <;> cases t <;> first | (simp [kin] at a; done) | (cases u <;> first | (simp [kin] at b; done) | (simp [kin] at a b ⊢; done) | (simp [kin] at a b ⊢; simp_all))
theorem updS_len : ∀ {hs : List Hd} {Γ : Env} {outs : List Slot}, (updS Γ hs outs).length = Γ.length
  | [], Γ, outs => by cases outs <;> rfl
  | .slot j :: hs, Γ, .bor o :: outs => by
    show (updS (putM Γ j o) hs outs).length = _
    rw [updS_len, putM_len]
  | .val _ :: hs, Γ, _ :: outs => by
    show (updS Γ hs outs).length = _
    rw [updS_len]
  | .slot _ :: _, _, [] => rfl
  | .val _ :: _, _, [] => rfl
  | .slot _ :: _, _, .no :: _ => rfl
  | .slot _ :: _, _, .val _ :: _ => rfl
  | .slot _ :: _, _, .own _ :: _ => rfl
  | .slot _ :: _, _, .exc _ _ :: _ => rfl
theorem arg_slot (Γ : Env) (j : Nat) : Hd.arg Γ (.slot j) = match Γ[j]? with
    | some (.own o) => Slot.bor o
    | some (.bor o) => Slot.bor o
    | _ => Slot.no := rfl
theorem upd_same_kin {Γ : Env} {i : Nat} {s t : Slot} (h1 : Γ[i]? = some s) (h2 : Γ[i]? = some t) : kin s t := by
  rw [h1] at h2
  cases h2
  exact kin_refl _
theorem updS_kin : ∀ {hs : List Hd} {Γ : Env} {outs : List Slot} {i : Nat} {s t : Slot}, Γ[i]? = some s → (updS Γ hs outs)[i]? = some t → kin s t
  | [], Γ, outs, i, s, t, h1, h2 => by
    have e : updS Γ [] outs = Γ := by cases outs <;> rfl
    rw [e, h1] at h2
    cases h2
    exact kin_refl _
  | .slot j :: hs, Γ, .bor o :: outs, i, s, t, h1, h2 => by
    have hl : i < (putM Γ j o).length := by rw [putM_len]; exact (List.getElem?_eq_some_iff.mp h1).1
    exact kin_trans (putM_kin h1 (List.getElem?_eq_getElem hl)) (updS_kin (hs := hs) (outs := outs) (List.getElem?_eq_getElem hl) h2)
  | .val _ :: hs, Γ, _ :: outs, i, s, t, h1, h2 => updS_kin (hs := hs) (outs := outs) h1 h2
  | .slot _ :: _, _, [], i, s, t, h1, h2 => upd_same_kin h1 h2
  | .val _ :: _, _, [], i, s, t, h1, h2 => upd_same_kin h1 h2
  | .slot _ :: _, _, .no :: _, i, s, t, h1, h2 => upd_same_kin h1 h2
  | .slot _ :: _, _, .val _ :: _, i, s, t, h1, h2 => upd_same_kin h1 h2
  | .slot _ :: _, _, .own _ :: _, i, s, t, h1, h2 => upd_same_kin h1 h2
  | .slot _ :: _, _, .exc _ _ :: _, i, s, t, h1, h2 => upd_same_kin h1 h2
theorem noJ_mem : ∀ {l : List Nat} {j : Nat}, noJ j l = true → j ∉ l
  | [], _, _ => by simp
  | i :: l, j, h => by
    have h' := Bool.and_eq_true_iff.mp (show (!(Nat.beq i j) && noJ j l) = true from h)
    intro m
    rcases List.mem_cons.mp m with e | e
    · subst e
      have z := h'.1
      simp [Nat.beq_refl] at z
    · exact noJ_mem h'.2 e
theorem updS_other : ∀ {hs : List Hd} {Γ : Env} {outs : List Slot} {i : Nat}, i ∉ ixs hs → (updS Γ hs outs)[i]? = Γ[i]?
  | [], Γ, outs, i, _ => by cases outs <;> rfl
  | .slot j :: hs, Γ, .bor o :: outs, i, h => by
    have h1 : i ≠ j := fun e => h (by rw [e]; exact List.mem_cons_self)
    have h2 : i ∉ ixs hs := fun m => h (List.mem_cons_of_mem _ m)
    show (updS (putM Γ j o) hs outs)[i]? = _
    rw [updS_other h2, putM_get h1]
  | .val _ :: hs, Γ, _ :: outs, i, h => updS_other (hs := hs) (outs := outs) h
  | .slot _ :: _, _, [], _, _ => rfl
  | .val _ :: _, _, [], _, _ => rfl
  | .slot _ :: _, _, .no :: _, _, _ => rfl
  | .slot _ :: _, _, .val _ :: _, _, _ => rfl
  | .slot _ :: _, _, .own _ :: _, _, _ => rfl
  | .slot _ :: _, _, .exc _ _ :: _, _, _ => rfl
/-- the slot handed in at place k holds behind the call what the call says -/
theorem updS_at : ∀ {hs : List Hd} {Γ : Env} {outs : List Slot} {vs : List V} {σ : St} {G H : Hp} {i : Nat} {s : Slot}, ndb (ixs hs) = true → HdsOk F G σ hs vs → ArgsOk F.toCf G H outs vs → shape (argsOf Γ hs) outs → i ∈ ixs hs → Γ[i]? = some s → s.mo.isSome = true →
    ∃ a o, σ[i]? = some (some (.ref a)) ∧ G a = none ∧ MRep F.toCf G H o a ∧ (updS Γ hs outs)[i]? = some (match s with | .own _ => .own o | _ => .bor o)
  | [], _, _, _, _, _, _, _, _, _, _, _, _, m, _, _ => by simp [ixs] at m
  | .val d :: hs, Γ, outs, vs, σ, G, H, i, s, nd, hh, ha, sh, m, hs1, z => by
    obtain ⟨v, r, rfl, h1, h2⟩ := hh
    cases outs with
    | nil => exact sh.elim
    | cons t outs =>
      obtain ⟨v', r', e, a1, a2⟩ := ha
      cases e
      exact updS_at (hs := hs) (outs := outs) nd h2 a2 sh.2 m hs1 z
  | .slot j :: hs, Γ, outs, vs, σ, G, H, i, s, nd, hh, ha, sh, m, hs1, z => by
    obtain ⟨v, r, rfl, h1, h2⟩ := hh
    have nd' := Bool.and_eq_true_iff.mp (show (noJ j (ixs hs) && ndb (ixs hs)) = true from nd)
    cases outs with
    | nil =>
      exfalso
      revert sh
      show shape (Hd.arg Γ (.slot j) :: argsOf Γ hs) [] → False
      cases Hd.arg Γ (.slot j) <;> exact fun q => q
    | cons t outs =>
      obtain ⟨v', r', e, a1, a2⟩ := ha
      cases e
      by_cases hij : i = j
      · subst hij
        have ea : Hd.arg Γ (.slot i) = .bor (s.mo.get z) := by
          show (match Γ[i]? with | some (.own o) => Slot.bor o | some (.bor o) => Slot.bor o | _ => Slot.no) = _
          rw [hs1]
          cases s with
          | own o => rfl
          | bor o => rfl
          | no => cases z
          | val d => cases z
          | exc c fs => cases z
        have sh' : shape (.bor (s.mo.get z) :: argsOf Γ hs) (t :: outs) := by rw [← ea]; exact sh
        obtain ⟨⟨o, rfl⟩, _⟩ := sh'
        obtain ⟨a, ev, g, mr⟩ := a1
        subst ev
        refine ⟨a, o, h1, g, mr, ?_⟩
        show (updS (putM Γ i o) hs outs)[i]? = _
        rw [updS_other (noJ_mem nd'.1)]
        have hl : i < Γ.length := (List.getElem?_eq_some_iff.mp hs1).1
        unfold putM
        rw [hs1]
        cases s with
        | own o' => exact List.getElem?_set_self hl
        | bor o' => exact List.getElem?_set_self hl
        | no => cases z
        | val d => cases z
        | exc c fs => cases z
      · have m' : i ∈ ixs hs := by
          rcases List.mem_cons.mp (show i ∈ j :: ixs hs from m) with e | e
          · exact absurd e hij
          · exact e
        cases t with
        | bor o =>
          have sh2 : shape (argsOf (putM Γ j o) hs) outs := by
            have q : shape (Hd.arg Γ (.slot j) :: argsOf Γ hs) (.bor o :: outs) := sh
            have q2 : shape (argsOf Γ hs) outs := by
              revert q
              cases Hd.arg Γ (.slot j) <;> exact fun q => q.2
            have same : ∀ l : List Hd, j ∉ ixs l → argsOf (putM Γ j o) l = argsOf Γ l := by
              intro l
              induction l with
              | nil => intro _; rfl
              | cons h l ih =>
                intro hn
                cases h with
                | val d => show Slot.val d :: argsOf _ l = Slot.val d :: argsOf Γ l; rw [ih hn]
                | slot j2 =>
                  have n1 : j2 ≠ j := fun e => hn (by rw [← e]; exact List.mem_cons_self)
                  have n2 : j ∉ ixs l := fun mm => hn (List.mem_cons_of_mem _ mm)
                  show Hd.arg (putM Γ j o) (.slot j2) :: argsOf _ l = Hd.arg Γ (.slot j2) :: argsOf Γ l
                  rw [ih n2]
                  rw [arg_slot, arg_slot, putM_get n1]
            rw [same hs (noJ_mem nd'.1)]
            exact q2
          exact updS_at (hs := hs) (Γ := putM Γ j o) (outs := outs) nd'.2 h2 a2 sh2 m' (by rw [putM_get hij]; exact hs1) z
        | no => exact a1.elim
        | own o => exact a1.elim
        | exc c fs => exact a1.elim
        | val d =>
          exfalso
          have q : shape (Hd.arg Γ (.slot j) :: argsOf Γ hs) (.val d :: outs) := sh
          revert q
          rw [arg_slot]
          split
          · intro q; obtain ⟨⟨o, e⟩, _⟩ := q; cases e
          · intro q; obtain ⟨⟨o, e⟩, _⟩ := q; cases e
          · intro q
            have e : Slot.val d = Slot.no := q.1
            cases e
theorem args_ok : ∀ {hs : List Hd} {Γ : Env} {vs : List V} {σ : St} {G H : Hp}, Ok F G H σ Γ → HdsOk F G σ hs vs → (∀ j ∈ ixs hs, ∃ s, Γ[j]? = some s ∧ s.mo.isSome = true) → ArgsOk F.toCf G H (argsOf Γ hs) vs
  | [], _, _, _, _, _, _, h, _ => h
  | .val d :: hs, Γ, _, σ, G, H, k, h, m => by
    obtain ⟨v, r, rfl, h1, h2⟩ := h
    exact ⟨v, r, rfl, h1, args_ok k h2 m⟩
  | .slot j :: hs, Γ, _, σ, G, H, k, h, m => by
    obtain ⟨v, r, rfl, h1, h2⟩ := h
    refine ⟨v, r, rfl, ?_, args_ok k h2 fun i hi => m i (List.mem_cons_of_mem _ hi)⟩
    obtain ⟨s, e, z⟩ := m j List.mem_cons_self
    show ArgOk F.toCf G H (match Γ[j]? with | some (.own o) => Slot.bor o | some (.bor o) => Slot.bor o | _ => Slot.no) v
    rw [e]
    cases s with
    | own o =>
      obtain ⟨a, ea, g, mr, _⟩ := k.mut e rfl
      rw [h1] at ea
      cases ea
      exact ⟨a, rfl, g, mr⟩
    | bor o =>
      obtain ⟨a, ea, g, mr, _⟩ := k.mut e rfl
      rw [h1] at ea
      cases ea
      exact ⟨a, rfl, g, mr⟩
    | no => cases z
    | val d => cases z
    | exc c fs => cases z
/-- the addresses handed in -/
theorem argA_mem : ∀ {hs : List Hd} {Γ : Env} {vs : List V} {σ : St} {G H : Hp} {b : Addr}, Ok F G H σ Γ → HdsOk F G σ hs vs → b ∈ argA (argsOf Γ hs) vs → ∃ j s, j ∈ ixs hs ∧ σ[j]? = some (some (.ref b)) ∧ Γ[j]? = some s ∧ s.mo.isSome = true
  | [], _, vs, _, _, _, _, _, _, m => by cases vs <;> simp [argsOf, argA] at m
  | .val d :: hs, Γ, _, σ, G, H, b, k, h, m => by
    obtain ⟨v, r, rfl, h1, h2⟩ := h
    have m' : b ∈ argA (argsOf Γ hs) r := by
      have q : argA (Slot.val d :: argsOf Γ hs) (v :: r) = argA (argsOf Γ hs) r := by cases v <;> rfl
      rw [← q]; exact m
    obtain ⟨j, s, q⟩ := argA_mem k h2 m'
    exact ⟨j, s, q⟩
  | .slot j :: hs, Γ, _, σ, G, H, b, k, h, m => by
    obtain ⟨v, r, rfl, h1, h2⟩ := h
    have key : ∀ {P : Prop}, (b ∈ argA (argsOf Γ hs) r → P) → ((∃ s, v = .ref b ∧ Γ[j]? = some s ∧ s.mo.isSome = true) → P) → P := by
      intro P f1 f2
      have m0 : b ∈ argA (Hd.arg Γ (.slot j) :: argsOf Γ hs) (v :: r) := m
      have gen : ∀ t : Slot, (∀ o, t = .bor o → ∃ s, Γ[j]? = some s ∧ s.mo.isSome = true) → b ∈ argA (t :: argsOf Γ hs) (v :: r) → P := by
        intro t ht mm
        cases t with
        | bor o =>
          cases v with
          | ref a =>
            rcases List.mem_cons.mp (show b ∈ a :: argA (argsOf Γ hs) r from mm) with e | e
            · subst e
              obtain ⟨s, q1, q2⟩ := ht o rfl
              exact f2 ⟨s, rfl, q1, q2⟩
            · exact f1 e
          | _ => exact f1 mm
        | _ => exact f1 (by cases v <;> exact mm)
      refine gen _ (fun o e => ?_) m0
      rw [arg_slot] at e
      split at e
      · rename_i o' q; exact ⟨_, q, rfl⟩
      · rename_i o' q; exact ⟨_, q, rfl⟩
      · cases e
    refine key (fun m' => ?_) (fun ⟨s, ev, q1, q2⟩ => ?_)
    · obtain ⟨j', s, a, q⟩ := argA_mem k h2 m'
      exact ⟨j', s, List.mem_cons_of_mem _ a, q⟩
    · subst ev
      exact ⟨j, s, List.mem_cons_self, h1, q1, q2⟩
theorem argA_nd : ∀ {hs : List Hd} {Γ : Env} {vs : List V} {σ : St} {G H : Hp}, Ok F G H σ Γ → HdsOk F G σ hs vs → ndb (ixs hs) = true → (argA (argsOf Γ hs) vs).Nodup
  | [], _, vs, _, _, _, _, _, _ => by cases vs <;> simp [argsOf, argA]
  | .val d :: hs, Γ, _, σ, G, H, k, h, nd => by
    obtain ⟨v, r, rfl, h1, h2⟩ := h
    have q : argA (Slot.val d :: argsOf Γ hs) (v :: r) = argA (argsOf Γ hs) r := by cases v <;> rfl
    show (argA (Slot.val d :: argsOf Γ hs) (v :: r)).Nodup
    rw [q]
    exact argA_nd k h2 nd
  | .slot j :: hs, Γ, _, σ, G, H, k, h, nd => by
    obtain ⟨v, r, rfl, h1, h2⟩ := h
    have nd' := Bool.and_eq_true_iff.mp (show (noJ j (ixs hs) && ndb (ixs hs)) = true from nd)
    have ih := argA_nd k h2 nd'.2
    show (argA (Hd.arg Γ (.slot j) :: argsOf Γ hs) (v :: r)).Nodup
    have gen : ∀ t : Slot, (∀ o, t = .bor o → ∃ s, Γ[j]? = some s ∧ s.mo.isSome = true) → (argA (t :: argsOf Γ hs) (v :: r)).Nodup := by
      intro t ht
      cases t with
      | bor o =>
        cases v with
        | ref a =>
          refine List.nodup_cons.mpr ⟨fun m => ?_, ih⟩
          obtain ⟨j2, s2, m2, e2, g2, z2⟩ := argA_mem k h2 m
          obtain ⟨s, q1, q2⟩ := ht o rfl
          have e : j = j2 := mutA_inj k.nd h1 e2 q1 g2 q2 z2
          exact noJ_mem nd'.1 (e ▸ m2)
        | _ => exact ih
      | _ => cases v <;> exact ih
    refine gen _ fun o e => ?_
    rw [arg_slot] at e
    split at e
    · rename_i o' q; exact ⟨_, q, rfl⟩
    · rename_i o' q; exact ⟨_, q, rfl⟩
    · cases e
theorem HdsOk.inc {G G' : Hp} {σ : St} (i : Inc G G') : ∀ {hs : List Hd} {vs : List V}, HdsOk F G σ hs vs → HdsOk F G' σ hs vs
  | [], _, h => h
  | _ :: _, _, h => let ⟨v, r, e, a, b⟩ := h; ⟨v, r, e, a.inc i, b.inc i⟩
theorem argA_of : ∀ {hs : List Hd} {Γ : Env} {vs : List V} {σ : St} {G : Hp} {j : Nat} {s : Slot} {a : Addr}, HdsOk F G σ hs vs → j ∈ ixs hs → σ[j]? = some (some (.ref a)) → Γ[j]? = some s → s.mo.isSome = true → a ∈ argA (argsOf Γ hs) vs
  | [], _, _, _, _, _, _, _, _, m, _, _, _ => by simp [ixs] at m
  | .val d :: hs, Γ, _, σ, G, j, s, a, h, m, e, g, z => by
    obtain ⟨v, r, rfl, h1, h2⟩ := h
    have q : argA (Slot.val d :: argsOf Γ hs) (v :: r) = argA (argsOf Γ hs) r := by cases v <;> rfl
    show a ∈ argA (Slot.val d :: argsOf Γ hs) (v :: r)
    rw [q]
    exact argA_of h2 m e g z
  | .slot i :: hs, Γ, _, σ, G, j, s, a, h, m, e, g, z => by
    obtain ⟨v, r, rfl, h1, h2⟩ := h
    show a ∈ argA (Hd.arg Γ (.slot i) :: argsOf Γ hs) (v :: r)
    rcases List.mem_cons.mp (show j ∈ i :: ixs hs from m) with q | q
    · subst q
      have ev : v = .ref a := by
        have h1' : σ[j]? = some (some v) := h1
        rw [h1'] at e
        cases e
        rfl
      subst ev
      rw [arg_slot, g]
      cases s with
      | own o => exact List.mem_cons_self
      | bor o => exact List.mem_cons_self
      | no => cases z
      | val d => cases z
      | exc c fs => cases z
    · have ih := argA_of (Γ := Γ) h2 q e g z
      cases Hd.arg Γ (.slot i) with
      | bor o =>
        cases v with
        | ref b => exact List.mem_cons_of_mem _ ih
        | _ => exact ih
      | _ => cases v <;> exact ih
theorem Ok.called {hs : List Hd} {Γ : Env} {vs : List V} {σ : St} {G H G' H' : Hp} {outs : List Slot} (k : Ok F G H σ Γ) (hh : HdsOk F G σ hs vs) (hm : ∀ j ∈ ixs hs, ∃ s, Γ[j]? = some s ∧ s.mo.isSome = true) (nd : ndb (ixs hs) = true)
    (p : Post G H (argA (argsOf Γ hs) vs) G' H') (ha : ArgsOk F.toCf G' H' outs vs) (sh : shape (argsOf Γ hs) outs) : Ok F G' H' σ (updS Γ hs outs) := by
  have hh' : HdsOk F G' σ hs vs := hh.inc p.inc
  have inB : ∀ b, b ∈ argA (argsOf Γ hs) vs → F.H0 b = none ∨ b ∈ F.B := fun b hb => by
    obtain ⟨j, s, _, e, g, z⟩ := argA_mem k hh hb
    obtain ⟨o, ho⟩ := Option.isSome_iff_exists.mp z
    obtain ⟨a, ea, _, _, r⟩ := k.mut g ho
    rw [e] at ea
    cases ea
    exact r
  have live : ∀ b, (∃ o, H b = some o) → ∃ o, H' b = some o := fun b ⟨o, e⟩ => by
    by_cases hb : b ∈ argA (argsOf Γ hs) vs
    · obtain ⟨j, s, m, e1, g, z⟩ := argA_mem k hh hb
      obtain ⟨a, o', ea, _, mr, _⟩ := updS_at nd hh' ha sh m g z
      rw [e1] at ea
      cases ea
      exact mr.ex
    · exact ⟨o, p.frame b o e hb⟩
  refine ⟨p.sub, k.g0.trans p.inc, fun a o e => ?_, fun a o e hb => ?_, fun a hb => live a (k.bor a hb), ?_, ?_, fun i a e => ?_, by rw [updS_len]; exact k.pl⟩
  · rcases p.fresh a o e with q | q
    · exact k.fresh a o q
    · exact .inr (k.h0 q)
  · have e1 := k.frame a o e hb
    refine p.frame a o e1 fun m => ?_
    rcases inB a m with q | q
    · rw [e] at q; cases q
    · exact hb q
  · refine Slots.mk (by rw [updS_len]; exact k.slots.len) fun i v s e1 e2 => ?_
    have hl : i < Γ.length := by rw [← updS_len (hs := hs) (outs := outs)]; exact (List.getElem?_eq_some_iff.mp e2).1
    have g1 : Γ[i]? = some Γ[i] := List.getElem?_eq_getElem hl
    obtain ⟨v', ev, ok⟩ := k.slots.get g1
    rw [e1] at ev
    cases ev
    by_cases m : i ∈ ixs hs
    · obtain ⟨s0, g0, z⟩ := hm i m
      obtain ⟨a, o', ea, g, mr, eu⟩ := updS_at nd hh' ha sh m g0 z
      rw [e2] at eu
      rw [e1] at ea
      cases ea
      rw [g0] at g1
      have g1' := Option.some.inj g1
      rw [← g1'] at ok
      cases s0 with
      | own o =>
        cases eu
        obtain ⟨b, eb, _, _, z0⟩ := ok
        cases eb
        exact ⟨a, rfl, g, mr, z0⟩
      | bor o =>
        cases eu
        obtain ⟨b, eb, _, _, z0⟩ := ok
        cases eb
        exact ⟨a, rfl, g, mr, z0⟩
      | no => cases z
      | val d => cases z
      | exc c fs => cases z
    · rw [updS_other m, g1] at e2
      cases e2
      refine SlotOk.step p.inc (fun a ea z => ?_) (fun dd ws _ q => ?_) ok
      · obtain ⟨o, ho⟩ := Option.isSome_iff_exists.mp z
        subst ea
        obtain ⟨b, eb, g, mr, _⟩ := k.mut g1 ho
        rw [e1] at eb
        cases eb
        obtain ⟨u, hu⟩ := mr.ex
        have nB : a ∉ argA (argsOf Γ hs) vs := fun mb => by
          obtain ⟨j, s2, mj, ej, gj, zj⟩ := argA_mem k hh mb
          exact m ((mutA_inj k.nd e1 ej g1 gj z zj) ▸ mj)
        refine ⟨(p.frame a u hu nB).trans hu.symm, ?_⟩
        cases q : G' a with
        | none => rfl
        | some w =>
          rcases p.fresh a w q with r | r
          · rw [g] at r; cases r
          · rw [hu] at r; cases r
      · refine p.frame dd _ q fun mb => ?_
        obtain ⟨j, s2, mj, ej, gj, zj⟩ := argA_mem k hh mb
        obtain ⟨o, ho⟩ := Option.isSome_iff_exists.mp zj
        obtain ⟨b, eb, _, mr, _⟩ := k.mut gj ho
        rw [ej] at eb
        cases eb
        cases o with
        | lst xs => obtain ⟨vs, e, _⟩ := mr; rw [q] at e; cases e
        | dic xs => obtain ⟨vs, e, _⟩ := mr; rw [q] at e; cases e
        | ins c xs => obtain ⟨dx, vs, e, _⟩ := mr; rw [q] at e; cases e
  · rw [mutA_kin updS_len fun i s t e1 e2 => updS_kin e1 e2]
    exact k.nd
  · obtain ⟨e1, o, e2⟩ := k.pin i a e
    refine ⟨e1, ?_⟩
    have hl : i < (updS Γ hs outs).length := by rw [updS_len]; exact (List.getElem?_eq_some_iff.mp e2).1
    have q := updS_kin (hs := hs) (outs := outs) e2 (List.getElem?_eq_getElem hl)
    rw [List.getElem?_eq_getElem hl]
    cases hq : (updS Γ hs outs)[i] with
    | bor o' => exact ⟨o', rfl⟩
    | _ => rw [hq] at q; simp [kin] at q
/-! ### the call of a def by its contract -/
/-- the handles name slots that may change -/
def hmut (Γ : Env) : List Hd → Bool
  | [] => true
  | .val _ :: hs => hmut Γ hs
  | .slot j :: hs => (match Γ[j]? with
    | some (.own _) => true
    | some (.bor _) => true
    | _ => false) && hmut Γ hs
theorem hmut_ok {Γ : Env} : ∀ {hs : List Hd}, hmut Γ hs = true → ∀ j ∈ ixs hs, ∃ s, Γ[j]? = some s ∧ s.mo.isSome = true
  | [], _, j, m => by simp [ixs] at m
  | .val _ :: hs, h, j, m => hmut_ok (hs := hs) h j m
  | .slot i :: hs, h, j, m => by
    have h' := Bool.and_eq_true_iff.mp h
    rcases List.mem_cons.mp (show j ∈ i :: ixs hs from m) with e | e
    · subst e
      have z := h'.1
      split at z
      · rename_i o q; exact ⟨_, q, rfl⟩
      · rename_i o q; exact ⟨_, q, rfl⟩
      · cases z
    · exact hmut_ok h'.2 j e
/-- .. and its result, told -/
theorem Ok.called_fin {hs : List Hd} {Γ : Env} {vs : List V} {σ : St} {G H G' H' : Hp} {outs : List Slot} {d : D} {v : V} {Q : D → Env → Prop} (k : Ok F G H σ Γ) (hh : HdsOk F G σ hs vs) (hm : ∀ j ∈ ixs hs, ∃ s, Γ[j]? = some s ∧ s.mo.isSome = true) (nd : ndb (ixs hs) = true)
    (p : Post G H (argA (argsOf Γ hs) vs) G' H') (ha : ArgsOk F.toCf G' H' outs vs) (sh : shape (argsOf Γ hs) outs) (r : RepR F.toCf H G' H' d v) (q : Q (unfr d) (updS Γ hs outs)) : Fin F G σ Q v H' := by
  have k' := k.called hh hm nd p ha sh
  cases d with
  | fr d =>
    obtain ⟨o, a, hd, rfl, ga, m, h0⟩ := r
    obtain ⟨u, hu, ru⟩ := mrep_tell hd ga m
    refine ⟨d, _, upd G' a u, q, p.inc.trans (Inc.new ga), k'.tell hu ga (k.h0 h0) (fun mm => ?_), ru⟩
    rw [mutA_kin updS_len fun i s t e1 e2 => updS_kin e1 e2] at mm
    obtain ⟨⟨o2, e2⟩, _⟩ := mutA_there k.slots a mm
    rw [h0] at e2
    cases e2
  | _ => exact ⟨_, _, G', q, p.inc, k', r⟩
def qCall (c : Ct) (p : QH) : QE := fun Γ Q E => p Γ (fun hs Γ1 => match ndb (ixs hs) && hmut Γ1 hs with
  | true => c (argsOf Γ1 hs) (fun d outs => Q (unfr d) (updS Γ1 hs outs)) (fun x outs => E x (updS Γ1 hs outs))
  | false => False) E
/-- what the contract says at the caller -/
theorem sp_call {c : Ct} {hs : List Hd} {Γ : Env} {vs : List V} {σ : St} {G H : Hp} {Q : D → Env → Prop} (k : Ok F G H σ Γ) (hh : HdsOk F G σ hs vs)
    (h : match ndb (ixs hs) && hmut Γ hs with
      | true => c (argsOf Γ hs) (fun d outs => Q (unfr d) (updS Γ hs outs)) (fun x outs => E x (updS Γ hs outs))
      | false => False) : spC F.toCf c vs H (Fin F G σ Q) (WE (wOf F E) σ) := by
  split at h
  · rename_i e
    obtain ⟨nd, hm⟩ := Bool.and_eq_true_iff.mp e
    have hm := hmut_ok hm
    refine ⟨G, argsOf Γ hs, k.sub, args_ok k hh hm, argA_nd k hh nd, _, _, h, fun d outs v H' G' q p ha sh r => ?_, fun x outs cls dd H' G' q p ha sh r => ?_⟩
    · exact k.called_fin hh hm nd p ha sh r q
    · exact ⟨G', _, x, k.called hh hm nd p ha sh, r, q⟩
  · exact h.elim
/-- a value that may be called, below the running body: its contract -/
def CallOk (X : Cx) (A : Around) (Fc : Cf) (f : Value) (c : Ct) : Prop := ∀ (pins : List (Addr × Obj)) (s : Shared) (σ : St) (H : Hp) (vs : List V) (us : List Value) (Q : VK) (W : WX), Takes X W → Inv X pins σ H s → Vals vs us → spC Fc c vs H Q (WE W σ) →
  wpAny (model X.prog X.w) A (call f us) (EP X pins σ Q) X.xe s
theorem env0_at {A : Around} {pins : List (Addr × Obj)} {σ : St} {H : Hp} {s : Shared} (hA : A.frames = X.A.frames) (I : Inv X pins σ H s) : Env0 X.prog X.w X.K X.mg X.base A X.stack s H :=
  let e := I.env0
  ⟨hA.trans e.frames, e.mod, e.bs, e.bsz, e.funs, e.frf, e.hok, e.bare⟩
theorem run_fnAt {A : Around} {CX : CXT} {k : Nat} {f : Addr} {fd : FuncData} {ps : List Str} {sp : Sp} {dvs : List V} {ds : List Value} {E0 : XK} {pins : List (Addr × Obj)} {σ : St} {H : Hp} {s : Shared} {Q : VK} {us : List Value} {vs : List V} (Fn : FnOk X.prog X.w X.K X.mg X.base CX k f fd ps sp) (hA : A.frames = X.A.frames) (hr : Room k A) (hb : Binds X.K fd ps ds) (hd : Vals dvs ds) (hx : PassesAt CX X σ E0)
    (I : Inv X pins σ H s) (r : Vals vs us) (h : sp (vs ++ dvs) H Q E0) : wpAny (model X.prog X.w) A (call (.ref f) us) (EP X pins σ Q) X.xe s := by
  have r2 : Vals (vs ++ dvs) (us ++ ds) := r.append hd
  have hl : (us ++ ds).length = ps.length := by rw [← r2.length]; exact Fn.len _ _ _ _ h
  refine wpAny_call (codeAny_mono (Fn.run A X.stack s H ⟨us, []⟩ (us ++ ds) (vs ++ dvs) Q E0 hr (env0_at hA I) (hb s us I.kIn hl) r2 h) fun r s' hq => ?_)
  cases r with
  | error e => exact hx pins H s e s' I hq
  | ok fl =>
    cases fl with
    | ret u => exact I.after hq
    | next => exact False.elim hq
    | brk => exact False.elim hq
    | cont => exact False.elim hq
theorem callOk_fn {A : Around} {Fc : Cf} {c : Ct} {k : Nat} {f : Addr} {fd : FuncData} {ps : List Str} (Fn : FnOk X.prog X.w X.K X.mg X.base (L2.CX X.prog X.w) k f fd ps (spC Fc c)) (hA : A.frames = X.A.frames) (hr : Room k A) (hb : Binds X.K fd ps []) : CallOk X A Fc (.ref f) c :=
  fun pins s σ H vs us Q W tk I r h => run_fnAt (dvs := []) Fn hA hr hb .nil (passAt tk σ) I r (by rw [List.append_nil]; exact h)
/-- the last parameters by their defaults -/
def dflt (c : Ct) (dd : List D) : Ct := fun args Q E => c (args ++ dd.map Slot.val) (fun d outs => Q d (outs.take args.length)) (fun x outs => E x (outs.take args.length))
theorem argA_app : ∀ {as : List Slot} {vs : List V} {dd : List D} {ws : List V}, vs.length = as.length → argA (as ++ dd.map Slot.val) (vs ++ ws) = argA as vs
  | [], [], dd, ws, _ => by
    show argA (dd.map Slot.val) ws = []
    induction dd generalizing ws with
    | nil => cases ws <;> rfl
    | cons d dd ih =>
      cases ws with
      | nil => rfl
      | cons w ws =>
        have q : argA (Slot.val d :: dd.map Slot.val) (w :: ws) = argA (dd.map Slot.val) ws := by cases w <;> rfl
        exact q.trans (ih _)
  | s :: as, v :: vs, dd, ws, h => by
    have ih := argA_app (as := as) (vs := vs) (dd := dd) (ws := ws) (by simpa using h)
    show argA (s :: (as ++ dd.map Slot.val)) (v :: (vs ++ ws)) = argA (s :: as) (v :: vs)
    cases s with
    | bor o =>
      cases v with
      | ref a => show a :: argA (as ++ dd.map Slot.val) (vs ++ ws) = a :: argA as vs; rw [ih]
      | _ => exact ih
    | _ => cases v <;> exact ih
  | [], _ :: _, _, _, h => by simp at h
  | _ :: _, [], _, _, h => by simp at h
theorem args_app {Fc : Cf} {G H : Hp} : ∀ {as : List Slot} {vs : List V} {dd : List D} {ws : List V}, ArgsOk Fc G H as vs → Reps Fc G dd ws → ArgsOk Fc G H (as ++ dd.map Slot.val) (vs ++ ws)
  | [], _, [], ws, h, r => by
    cases (show _ = [] from h)
    cases (show ws = [] from r)
    exact rfl
  | [], _, d :: dd, _, h, r => by
    cases (show _ = [] from h)
    obtain ⟨v, vs, rfl, r1, r2⟩ := r
    exact ⟨v, vs, rfl, r1, args_app (as := []) (vs := []) rfl r2⟩
  | s :: as, _, dd, ws, h, r => by
    obtain ⟨v, vs, rfl, r1, r2⟩ := h
    exact ⟨v, vs ++ ws, rfl, r1, args_app r2 r⟩
theorem args_take {Fc : Cf} {G H : Hp} : ∀ {n : Nat} {as : List Slot} {vs ws : List V}, ArgsOk Fc G H as (vs ++ ws) → vs.length = n → ArgsOk Fc G H (as.take n) vs
  | 0, as, [], ws, _, _ => by simp [ArgsOk]
  | n + 1, [], v :: vs, ws, h, _ => by cases (show _ = [] from h)
  | n + 1, s :: as, v :: vs, ws, h, e => by
    obtain ⟨v', r, q, r1, r2⟩ := h
    cases q
    exact ⟨v, vs, rfl, r1, args_take r2 (by simpa using e)⟩
  | n + 1, _, [], _, _, e => by simp at e
  | 0, _, _ :: _, _, _, e => by simp at e
theorem shape_take : ∀ {as bs : List Slot} {outs : List Slot}, shape (as ++ bs) outs → shape as (outs.take as.length)
  | [], _, _, _ => by simp [shape]
  | s :: as, bs, [], h => by
    exfalso
    revert h
    cases s <;> exact fun q => q
  | s :: as, bs, t :: outs, h => by
    cases s with
    | bor o => exact ⟨h.1, shape_take h.2⟩
    | no => exact ⟨h.1, shape_take h.2⟩
    | val d => exact ⟨h.1, shape_take h.2⟩
    | own o => exact ⟨h.1, shape_take h.2⟩
    | exc c fs => exact ⟨h.1, shape_take h.2⟩
theorem callOk_dflt {A : Around} {Fc : Cf} {c : Ct} {k : Nat} {f : Addr} {fd : FuncData} {ps : List Str} {dd : List D} {dvs : List V} {ds : List Value} (Fn : FnOk X.prog X.w X.K X.mg X.base (L2.CX X.prog X.w) k f fd ps (spC Fc c)) (hA : A.frames = X.A.frames) (hr : Room k A) (hb : Binds X.K fd ps ds) (hd : Vals dvs ds) (hR : ∀ G, Reps Fc G dd dvs) :
    CallOk X A Fc (.ref f) (dflt c dd) := fun pins s σ H vs us Q W tk I r h => by
  obtain ⟨G, args, sb, ha, nd, Qc, Ec, hc, hq, he⟩ := h
  have hl : vs.length = args.length := ha.len
  refine run_fnAt (E0 := WE W σ) Fn hA hr hb hd (passAt tk σ) I r ⟨G, args ++ dd.map Slot.val, sb, args_app ha (hR G), by rw [argA_app hl]; exact nd, _, _, hc, fun d outs v H' G' q p a sh rp => ?_, fun x outs cls d' H' G' q p a sh rp => ?_⟩
  · rw [argA_app hl] at p
    exact hq d _ v H' G' q p (args_take a hl) (shape_take sh) rp
  · rw [argA_app hl] at p
    exact he x _ cls d' H' G' q p (args_take a hl) (shape_take sh) rp
theorem le_call {c : Ct} {f : Value} {fa : Addr} {x : Str} {p0 : Pos} {p : QH} (C : CallOk X X.A F.toCf (.ref fa) c) (hm : X.mg x = some (.ref fa)) (hk : PySem.W.keepIn X.K (.ref fa) = true) (tk : Takes X (wOf F E)) (ha : LH X F E (a :: es) p) (hg : Gl X x := by rfl)
    (hdb : (x == ("__debug__" : Str)) = false := by decide) (he : starEach (a :: es) X.env = (false, eval a X.env) :: starEach es X.env := by rfl) (hpl : (backTo pos (starEach es X.env)).any (·.1) = false := by rfl) :
    LE X F E (.Call (.Name x p0) (a :: es) [] pos) (qCall c p) := by
  refine ⟨fun pins s σ H G Γ Q I k h => ?_⟩
  refine wpAny_Call_Name_kw (ld_glob I hg hm ?_ hdb)
  refine PySem.W.callWith_K (h₀ := X.base) I.ok.mod.kin hk (thn (ha.run pos pins s σ H G Γ _ I k h) fun us s1 ⟨vs, H1, I1, r, hs, Γ1, G1, q1, i1, k1, hh⟩ => ⟨I1.kIn, ?_⟩) he hpl
  exact thn (C pins s1 σ H1 vs us _ _ tk I1 r (sp_call k1 hh q1)) fun u s2 z => ep_inc i1 z
theorem le_call0 {c : Ct} {fa : Addr} {x : Str} {p0 : Pos} (C : CallOk X X.A F.toCf (.ref fa) c) (hm : X.mg x = some (.ref fa)) (hk : PySem.W.keepIn X.K (.ref fa) = true) (tk : Takes X (wOf F E)) (hg : Gl X x := by rfl)
    (hdb : (x == ("__debug__" : Str)) = false := by decide) : LE X F E (.Call (.Name x p0) [] [] pos) (qCall c qhNil) := by
  refine ⟨fun pins s σ H G Γ Q I k h => ?_⟩
  refine wpAny_Call_Name_kw (ld_glob I hg hm ?_ hdb)
  exact PySem.W.callWith_K0 I.kIn hk (C pins s σ H [] [] _ _ tk I .nil (sp_call (hs := []) k rfl h))
end
end Q

set_option Elab.async false
set_option linter.all false
set_option maxRecDepth 100000
set_option maxHeartbeats 4000000
namespace Q
open PySem L2 PySem.Spec PyProof.Rows
/-! ## 6. Instances, statements, defs -/
structure Kl (F : Cf) (c : Cn) : Prop where
  cls : Cls F.K (F.cl c)
  no : ∀ f ∈ c.fields, NoAttr F.K (F.cl c) f
theorem zip_look : ∀ {N : List Str} {vs : List V} {k : Nat} {f : Str}, N.Nodup → N[k]? = some f → (N.zip vs).lookup f = vs[k]?
  | [], _, _, _, _, h => by simp at h
  | n :: N, [], k, f, _, _ => by simp
  | n :: N, v :: vs, 0, f, _, h => by
    simp at h
    subst h
    simp [List.lookup]
  | n :: N, v :: vs, k + 1, f, nd, h => by
    have h' : N[k]? = some f := by simpa using h
    have ne : (f == n) = false := by
      rw [beq_eq_false_iff_ne]
      intro e
      subst e
      exact (List.nodup_cons.mp nd).1 (List.mem_of_getElem? h')
    rw [List.zip_cons_cons]
    simp only [List.lookup, ne, List.getElem?_cons_succ]
    exact zip_look (List.nodup_cons.mp nd).2 h'
theorem zip_put_new : ∀ {N : List Str} {vs : List V} {f : Str} {y : V}, N.Nodup → N[vs.length]? = some f → putF f y (N.zip vs) = N.zip (vs ++ [y])
  | [], _, _, _, _, h => by simp at h
  | n :: N, [], f, y, _, h => by
    simp at h
    subst h
    simp [putF]
  | n :: N, v :: vs, f, y, nd, h => by
    have h' : N[vs.length]? = some f := by simpa using h
    have ne : ¬ n = f := fun e => by
      subst e
      exact (List.nodup_cons.mp nd).1 (List.mem_of_getElem? h')
    show (if n = f then (n, y) :: N.zip vs else (n, v) :: putF f y (N.zip vs)) = (n, v) :: N.zip (vs ++ [y])
    rw [if_neg ne, zip_put_new (List.nodup_cons.mp nd).2 h']
theorem zip_put_old : ∀ {N : List Str} {vs : List V} {k : Nat} {f : Str} {y : V}, N.Nodup → N[k]? = some f → k < vs.length → putF f y (N.zip vs) = N.zip (vs.set k y)
  | [], _, _, _, _, _, h, _ => by simp at h
  | n :: N, [], _, f, y, _, h, hl => by simp at hl
  | n :: N, v :: vs, 0, f, y, nd, h, _ => by
    simp at h
    subst h
    show (if n = n then (n, y) :: N.zip vs else _) = (n, y) :: N.zip vs
    rw [if_pos rfl]
  | n :: N, v :: vs, k + 1, f, y, nd, h, hl => by
    have h' : N[k]? = some f := by simpa using h
    have ne : ¬ n = f := fun e => by
      subst e
      exact (List.nodup_cons.mp nd).1 (List.mem_of_getElem? h')
    show (if n = f then (n, y) :: N.zip vs else (n, v) :: putF f y (N.zip vs)) = (n, v) :: N.zip (vs.set k y)
    rw [if_neg ne, zip_put_old (List.nodup_cons.mp nd).2 h' (by simpa using hl)]
theorem fields_nd : ∀ c : Cn, c.fields.Nodup := by intro c; cases c <;> decide +kernel
theorem fields_len : ∀ c : Cn, c.fields.length ≤ 4 := by intro c; cases c <;> decide +kernel
def Cn.ix (c : Cn) : Nat := c.ctorIdx
theorem ix_inj {a b : Cn} (h : Nat.beq a.ix b.ix = true) : a = b := by
  have h' := Nat.eq_of_beq_eq_true h
  cases a <;> cases b <;> first | rfl | (exact absurd h' (by decide))
def oTop : O1 := fun d Γ Q _ => match d with
  | .rat q => Q (.int q.num) Γ
  | _ => False
def oBot : O1 := fun d Γ Q _ => match d with
  | .rat q => Q (.int (q.den : Int)) Γ
  | _ => False
def oFld (c : Cn) (k : Nat) : O1 := fun d Γ Q _ => match d with
  | .ins c' ds => match Nat.beq c'.ix c.ix, ds[k]? with
    | true, some z => Q z Γ
    | _, _ => False
  | _ => False
section
variable {X : Cx} {F : Fx} {E : XP} {a b : Expr} {pa pb : QE} {pos : Pos}
theorem look_top (x y : V) : List.lookup ("top" : Str) [(("top" : Str), x), ("bottom", y)] = some x := by simp [List.lookup]
theorem le_top (T : Kl F.toCf .ratio) (hK : F.K = X.K) (ha : LE X F E a pa) (hb : attributeBase a "top" X.env (eval a X.env) = eval a X.env := by rfl) : LE X F E (.Attribute a "top" pos) (qUn oTop pa) :=
  LE.of (pe_fld ha.pe hb) fun σ H G Γ Q k q => ⟨G, Γ, _, k, q, fun w H' ⟨d, Γ', G', q', i, k', r⟩ => by
    cases d with
    | rat x =>
      obtain ⟨p, dx, rfl, hp⟩ := r
      exact ⟨p, _, dx, _, _, rfl, k'.sub.i hp, hK ▸ T.cls, hK ▸ T.no "top" (by decide +kernel), look_top _ _, fin_inc i (fin0 (d := .int x.num) k' q' rfl)⟩
    | _ => exact q'.elim⟩
theorem look_bottom (x y : V) : List.lookup ("bottom" : Str) [(("top" : Str), x), ("bottom", y)] = some y := by
  have e : (("bottom" : Str) == "top") = false := by decide +kernel
  simp [List.lookup, e]
theorem le_bot (T : Kl F.toCf .ratio) (hK : F.K = X.K) (ha : LE X F E a pa) (hb : attributeBase a "bottom" X.env (eval a X.env) = eval a X.env := by rfl) : LE X F E (.Attribute a "bottom" pos) (qUn oBot pa) :=
  LE.of (pe_fld ha.pe hb) fun σ H G Γ Q k q => ⟨G, Γ, _, k, q, fun w H' ⟨d, Γ', G', q', i, k', r⟩ => by
    cases d with
    | rat x =>
      obtain ⟨p, dx, rfl, hp⟩ := r
      exact ⟨p, _, dx, _, _, rfl, k'.sub.i hp, hK ▸ T.cls, hK ▸ T.no "bottom" (by decide +kernel), look_bottom _ _, fin_inc i (fin0 (d := .int (x.den : Int)) k' q' rfl)⟩
    | _ => exact q'.elim⟩
theorem le_fld (c : Cn) (n : Nat) {f : Str} (T : Kl F.toCf c) (hK : F.K = X.K) (ha : LE X F E a pa) (hf : c.fields[n]? = some f := by rfl) (hb : attributeBase a f X.env (eval a X.env) = eval a X.env := by rfl) : LE X F E (.Attribute a f pos) (qUn (oFld c n) pa) :=
  LE.of (pe_fld ha.pe hb) fun σ H G Γ Q k q => ⟨G, Γ, _, k, q, fun w H' ⟨d, Γ', G', q', i, k', r⟩ => by
    cases d with
    | ins c' ds =>
      obtain ⟨p, dx, vs, rfl, hp, rs⟩ := r
      dsimp only [oFld] at q'
      split at q'
      · rename_i z e1 e2
        have ec := ix_inj e1
        subst ec
        obtain ⟨v, ev, rv⟩ := rs.get e2
        exact ⟨p, _, dx, _, v, rfl, k'.sub.i hp, hK ▸ T.cls, hK ▸ T.no f (List.mem_of_getElem? hf), by rw [zip_look (fields_nd _) hf]; exact ev, fin_inc i (fin0 k' q' rv)⟩
      · exact q'.elim
    | _ => exact q'.elim⟩
/-- a field of an instance that may change, in slot j -/
def insM (Γ : Env) (j : Nat) (c : Cn) : Option (List D) := match Γ[j]? with
  | some (.own (.ins c' ds)) => match Nat.beq c'.ix c.ix with
    | true => some ds
    | false => none
  | some (.bor (.ins c' ds)) => match Nat.beq c'.ix c.ix with
    | true => some ds
    | false => none
  | _ => none
def qFldM (j : Nat) (c : Cn) (n : Nat) : QE := fun Γ Q _ => match insM Γ j c with
  | some ds => match ds[n]? with
    | some z => Q z Γ
    | none => False
  | none => False
theorem insAt {G H : Hp} {σ : St} {Γ : Env} {j : Nat} {c : Cn} {ds : List D} (k : Ok F G H σ Γ) (q : insM Γ j c = some ds) : ∃ a dx vs s, σ[j]? = some (some (.ref a)) ∧ H a = some (.ins (F.cl c) dx (c.fields.zip vs)) ∧ Reps F.toCf G ds vs ∧ Γ[j]? = some s ∧ s.mo.isSome = true := by
  unfold insM at q
  split at q
  · rename_i c' ds' e
    split at q
    · rename_i ec
      have ec := ix_inj ec
      subst ec
      cases q
      obtain ⟨a, ea, g, ⟨dx, vs, h, r⟩, _⟩ := k.mut e rfl
      exact ⟨a, dx, vs, _, ea, h, r, e, rfl⟩
    · cases q
  · rename_i c' ds' e
    split at q
    · rename_i ec
      have ec := ix_inj ec
      subst ec
      cases q
      obtain ⟨a, ea, g, ⟨dx, vs, h, r⟩, _⟩ := k.mut e rfl
      exact ⟨a, dx, vs, _, ea, h, r, e, rfl⟩
    · cases q
  · cases q
/-- the thing in slot j is written -/
theorem Ok.put {G H : Hp} {σ : St} {Γ : Env} {j : Nat} {s : Slot} {a : Addr} {o' : MO} {u : HO} (k : Ok F G H σ Γ) (hs : Γ[j]? = some s) (z : s.mo.isSome = true) (ha : σ[j]? = some (some (.ref a))) (hx : ∀ ws, H a ≠ some (.xd ws)) (m : MRep F.toCf G (upd H a u) o' a) : Ok F G (upd H a u) σ (putM Γ j o') := by
  obtain ⟨o, ho⟩ := Option.isSome_iff_exists.mp z
  obtain ⟨a', ea, g, mr, hb⟩ := k.mut hs ho
  rw [ha] at ea
  cases ea
  refine ⟨k.sub.off g u, k.g0, k.fresh, fun b v e nb => ?_, fun b hb' => ?_, ?_, ?_, fun i b e => ?_, by rw [putM_len]; exact k.pl⟩
  · have nba : b ≠ a := fun q => by
      subst q
      rcases hb with q | q
      · rw [e] at q; cases q
      · exact nb q
    rw [upd_ne nba]
    exact k.frame b v e nb
  · by_cases q : b = a
    · subst q; exact ⟨u, upd_same⟩
    · rw [upd_ne q]; exact k.bor b hb'
  · refine Slots.mk (by rw [putM_len]; exact k.slots.len) fun i v t e1 e2 => ?_
    by_cases hij : i = j
    · subst hij
      rw [ha] at e1
      cases e1
      have hl : i < Γ.length := (List.getElem?_eq_some_iff.mp hs).1
      have ok := (k.slots.get hs)
      obtain ⟨v', ev, ok⟩ := ok
      rw [ha] at ev
      cases ev
      unfold putM at e2
      rw [hs] at e2
      cases s with
      | own o1 =>
        dsimp only at e2
        rw [List.getElem?_set_self hl] at e2
        cases e2
        obtain ⟨b, eb, _, _, z0⟩ := ok
        cases eb
        exact ⟨a, rfl, g, m, z0⟩
      | bor o1 =>
        dsimp only at e2
        rw [List.getElem?_set_self hl] at e2
        cases e2
        obtain ⟨b, eb, _, _, z0⟩ := ok
        cases eb
        exact ⟨a, rfl, g, m, z0⟩
      | no => cases z
      | val d => cases z
      | exc c fs => cases z
    · rw [putM_get hij] at e2
      obtain ⟨v', ev, ok⟩ := k.slots.get e2
      rw [e1] at ev
      cases ev
      refine SlotOk.step (Inc.refl G) (fun b eb zb => ?_) (fun dd ws _ q => ?_) ok
      · subst eb
        have nba : b ≠ a := fun q => by
          subst q
          exact hij (mutA_inj k.nd e1 ha e2 hs zb z)
        obtain ⟨o2, ho2⟩ := Option.isSome_iff_exists.mp zb
        obtain ⟨b', eb', g2, _⟩ := k.mut e2 ho2
        rw [e1] at eb'
        cases eb'
        exact ⟨upd_ne nba, g2⟩
      · rw [upd_ne (show dd ≠ a from fun e => hx ws (e ▸ q))]
        exact q
  · rw [mutA_kin putM_len fun i s t e1 e2 => putM_kin e1 e2]
    exact k.nd
  · obtain ⟨e1, o, e2⟩ := k.pin i b e
    refine ⟨e1, ?_⟩
    have hl : i < (putM Γ j o').length := by rw [putM_len]; exact (List.getElem?_eq_some_iff.mp e2).1
    have q := putM_kin (j := j) (o := o') e2 (List.getElem?_eq_getElem hl)
    rw [List.getElem?_eq_getElem hl]
    cases hq : (putM Γ j o')[i] with
    | bor o' => exact ⟨o', rfl⟩
    | _ => rw [hq] at q; simp [kin] at q
theorem le_fldM (j : Nat) (c : Cn) (n : Nat) {x f : Str} {px : Pos} (T : Kl F.toCf c) (hK : F.K = X.K) (hf : c.fields[n]? = some f := by rfl) (hb : attributeBase (.Name x px) f X.env (eval (.Name x px) X.env) = eval (.Name x px) X.env := by rfl)
    (hN : X.N[j]? = some x := by rfl) (hv : Vis X.env.scope x := by first | exact Or.inl rfl | exact Or.inr (Or.inl rfl) | exact Or.inr (Or.inr rfl)) (hd : (x == ("__debug__" : Str)) = false := by decide) (hcd : (x == ("__classdict__" : Str)) = false := by decide) :
    LE X F E (.Attribute (.Name x px) f pos) (qFldM j c n) :=
  LE.of (pe_fld (pe_var hN hv hd hcd) hb) fun σ H G Γ Q k q => by
    unfold qFldM at q
    split at q
    · rename_i ds e
      split at q
      · rename_i z ez
        obtain ⟨p, dx, vs, s, ea, hp, rs, _, _⟩ := insAt k e
        obtain ⟨v, ev, rv⟩ := rs.get ez
        exact ⟨.ref p, ea, p, _, dx, _, v, rfl, hp, hK ▸ T.cls, hK ▸ T.no f (List.mem_of_getElem? hf), by rw [zip_look (fields_nd _) hf]; exact ev, fin0 k q rv⟩
      · exact q.elim
    · exact q.elim
/-- self.f = e -/
def qFldS (j : Nat) (c : Cn) (n : Nat) (p : QE) : QS := fun Γ P E => p Γ (fun d Γ1 => match insM Γ1 j c with
  | some ds => match Nat.beq ds.length n, Nat.ble (n + 1) ds.length with
    | true, _ => P.nx (putM Γ1 j (.ins c (ds ++ [d])))
    | false, true => P.nx (putM Γ1 j (.ins c (ds.set n d)))
    | _, _ => False
  | none => False) E
theorem ls_fldS (j : Nat) (c : Cn) (n : Nat) {x f : Str} {e : Expr} {p : QE} {px pos' : Pos} (T : Kl F.toCf c) (hK : F.K = X.K) (he : LE X F E e p) (hf : c.fields[n]? = some f := by rfl) (hs : swapsWith e (some (.Attribute (.Name x px) f pos')) pos.line X.env = pure false := by rfl)
    (hN : X.N[j]? = some x := by rfl) (hv : Vis X.env.scope x := by first | exact Or.inl rfl | exact Or.inr (Or.inl rfl) | exact Or.inr (Or.inr rfl)) (hd : (x == ("__debug__" : Str)) = false := by decide) (hcd : (x == ("__classdict__" : Str)) = false := by decide) :
    LS X F E (.Assign [.Attribute (.Name x px) f pos'] e pos) (qFldS j c n p) :=
  LS.of (ps_fld (pe_var hN hv hd hcd) he.pe hs) fun σ H G Γ P k q => ⟨G, Γ, _, k, q, fun w H' ⟨d, Γ', G', q', i, k', r⟩ => by
    dsimp only at q'
    split at q'
    · rename_i ds e
      obtain ⟨p, dx, vs, s, ea, hp, rs, es, z⟩ := insAt k' e
      have hl : (c.fields.zip vs).length ≤ 4 := by
        rw [List.length_zip]
        have := fields_len c
        omega
      have hx : ∀ ws, H' p ≠ some (.xd ws) := fun ws q => by rw [hp] at q; cases q
      refine ⟨.ref p, ea, p, _, dx, _, rfl, hp, hK ▸ T.cls, hK ▸ T.no f (List.mem_of_getElem? hf), by omega, ?_⟩
      split at q'
      · rename_i e1
        have e1 := Nat.eq_of_beq_eq_true e1
        have e2 : c.fields[vs.length]? = some f := by rw [rs.len, e1]; exact hf
        refine ⟨_, G', q', i, k'.put es z ea hx ?_⟩
        exact ⟨dx, vs ++ [w], by rw [upd_same, zip_put_new (fields_nd c) e2], rs.append (Reps.one r)⟩
      · rename_i e1 e2
        have e2 := Nat.le_of_ble_eq_true e2
        refine ⟨_, G', q', i, k'.put es z ea hx ?_⟩
        exact ⟨dx, vs.set n w, by rw [upd_same, zip_put_old (fields_nd c) hf (by rw [rs.len]; omega)], Reps.set r n rs⟩
      · exact q'.elim
    · exact q'.elim⟩
/-! ### statements -/
def qNx : QS := fun Γ P _ => P.nx Γ
def qSeq (t u : QS) : QS := fun Γ P E => t Γ { P with nx := fun Γ1 => u Γ1 P E } E
theorem lss_nil : LSs X F E [] qNx := ⟨fun _ _ σ H G Γ _ I k h => wpAny_execs_nil ⟨σ, H, I, Γ, G, h, Inc.refl G, k⟩⟩
theorem lss_cons {st : Stmt} {rest : List Stmt} {t u : QS} (h1 : LS X F E st t) (h2 : LSs X F E rest u) : LSs X F E (st :: rest) (qSeq t u) := by
  refine ⟨fun pins s σ H G Γ P I k h => ?_⟩
  refine wpAny_execs_cons (thn (h1.run pins s σ H G Γ _ I k h) fun f s1 q => ?_)
  cases f with
  | next =>
    obtain ⟨σ', H', I', Γ', G', q, i, k'⟩ := q
    exact thn (h2.run pins s1 σ' H' G' Γ' P I' k' q) fun f s2 z => ends_inc i z
  | ret v => exact q
  | brk => exact q
  | cont => exact q
theorem lss_one {st : Stmt} {t : QS} (h1 : LS X F E st t) : LSs X F E [st] t := by
  refine ⟨fun pins s σ H G Γ P I k h => ?_⟩
  refine wpAny_execs_cons (thn (h1.run pins s σ H G Γ P I k h) fun f s1 q => ?_)
  cases f with
  | next => exact wpAny_execs_nil q
  | ret v => exact q
  | brk => exact q
  | cont => exact q
def qRet (p : QE) : QS := fun Γ P E => p Γ P.rt E
theorem ls_ret (he : LE X F E a pa) : LS X F E (.Return (some a) pos) (qRet pa) :=
  ⟨fun pins s σ H G Γ P I k h => wpAny_Return_some (thn (he.run pins s σ H G Γ _ I k h) fun v s1 ⟨x, H1, I1, r1, d, Γ1, G1, q1, i1, k1, rp⟩ => ⟨x, σ, H1, I1, r1, d, Γ1, G1, σ, q1, i1, k1, .of rp⟩)⟩
def qDrop (p : QE) : QS := fun Γ P E => p Γ (fun _ Γ1 => P.nx Γ1) E
theorem ls_expr (he : LE X F E a pa) (hs : swapsWith a none pos.line X.env = pure false := by rfl) : LS X F E (.Expr a pos) (qDrop pa) :=
  ⟨fun pins s σ H G Γ P I k h => wpAny_Expr_any (thn (he.run pins s σ H G Γ _ I k h) fun v s1 ⟨x, H1, I1, r1, d, Γ1, G1, q1, i1, k1, rp⟩ => ⟨σ, H1, I1, Γ1, G1, q1, i1, k1⟩) I.quiet hs⟩
theorem ls_pass : LS X F E (.Pass pos) qNx := ⟨fun _ _ σ H G Γ _ I k h => wpAny_Pass ⟨σ, H, I, Γ, G, h, Inc.refl G, k⟩⟩
def qCont : QS := fun Γ P _ => P.ct Γ
def qBrk : QS := fun Γ P _ => P.bk Γ
theorem ls_cont : LS X F E (.Continue pos) qCont := ⟨fun _ _ σ H G Γ _ I k h => wpAny_Continue ⟨σ, H, I, Γ, G, h, Inc.refl G, k⟩⟩
theorem ls_brk : LS X F E (.Break pos) qBrk := ⟨fun _ _ σ H G Γ _ I k h => wpAny_Break ⟨σ, H, I, Γ, G, h, Inc.refl G, k⟩⟩
def qIfS (t : QT) (u w : QS) : QS := fun Γ P E => t Γ (fun b Γ1 => match b with
  | true => u Γ1 P E
  | false => w Γ1 P E) E
theorem ls_if {c : Expr} {x y : List Stmt} {tc : QT} {t u : QS} (hc : LT X F E c tc) (ha : LSs X F E x t) (hb : LSs X F E y u) : LS X F E (.If c x y pos) (qIfS tc t u) := by
  refine ⟨fun pins s σ H G Γ P I k h => ?_⟩
  refine wpAny_If (thn (hc.run pins s σ H G Γ _ I k h) fun d s1 ⟨H1, I1, Γ1, G1, q1, i1, k1⟩ => ?_)
  cases d with
  | true => exact thn (ha.run pins s1 σ H1 G1 Γ1 P I1 k1 q1) fun f s2 z => ends_inc i1 z
  | false => exact thn (hb.run pins s1 σ H1 G1 Γ1 P I1 k1 q1) fun f s2 z => ends_inc i1 z
/-- a name is given a datum -/
def setV (Γ : Env) (i : Nat) (d : D) (Q : Env → Prop) : Prop := match Γ[i]? with
  | some (.own _) => False
  | some (.bor _) => False
  | none => False
  | some _ => Q (Γ.set i (.val d))
theorem setV_get {Γ : Env} {i : Nat} {d : D} {Q : Env → Prop} (h : setV Γ i d Q) : nomut Γ i ∧ Q (Γ.set i (.val d)) := by
  unfold setV at h
  split at h
  · exact h.elim
  · exact h.elim
  · exact h.elim
  · rename_i s n1 n2 e
    refine ⟨fun t et => ?_, h⟩
    rw [e] at et
    cases et
    cases s with
    | own o => exact (n1 o rfl).elim
    | bor o => exact (n2 o rfl).elim
    | _ => rfl
abbrev QG := D → Env → (Env → Prop) → Prop
structure LG (X : Cx) (F : Fx) (tg : Expr) (g : QG) : Prop where
  run : ∀ (pins : List (Addr × Obj)) (s : Shared) (σ : St) (H G : Hp) (Γ : Env) (v : V) (u : Value) (d : D) (Q : Env → Prop), Inv X pins σ H s → Ok F G H σ Γ → RelV v u → Rep F.toCf G d v → g d Γ Q →
    wpAny (model X.prog X.w) X.A (assign tg X.env u) (fun _ s' => ∃ σ' H', Inv X pins σ' H' s' ∧ ∃ Γ', Q Γ' ∧ Ok F G H' σ' Γ') X.xe s
def gV (i : Nat) : QG := fun d Γ Q => setV Γ i d Q
theorem lg_name (i : Nat) {x : Str} (hN : X.N.Nodup) (hi : X.N[i]? = some x := by rfl) (hx : Loc X.env.scope x := by first | exact Or.inl rfl | exact Or.inr rfl) (hf : X.fn x = true ∨ X.env.scope.names.lookup x = some .local := by first | exact .inl rfl | exact .inr rfl | assumption) : LG X F (.Name x pos) (gV i) :=
  ⟨fun pins s σ H G Γ v u d Q I k r rp h => by
    obtain ⟨n, q⟩ := setV_get h
    exact (pg_name (X := X) (i := i) hN hi hx hf).run pins s σ H v u (fun σ' H' => ∃ Γ', Q Γ' ∧ Ok F G H' σ' Γ') I r ⟨_, q, k.set n rp⟩⟩
structure LGs (X : Cx) (F : Fx) (ts : List Expr) (g : List D → Env → (Env → Prop) → Prop) : Prop where
  run : ∀ (pins : List (Addr × Obj)) (s : Shared) (σ : St) (H G : Hp) (Γ : Env) (vs : List V) (us : List Value) (ds : List D) (Q : Env → Prop), Inv X pins σ H s → Ok F G H σ Γ → Vals vs us → Reps F.toCf G ds vs → g ds Γ Q →
    wpAny (model X.prog X.w) X.A (assignInOrder ((assignEach ts X.env).map (·.2)) us) (fun _ s' => ∃ σ' H', Inv X pins σ' H' s' ∧ ∃ Γ', Q Γ' ∧ Ok F G H' σ' Γ') X.xe s
def gsNil : List D → Env → (Env → Prop) → Prop := fun ds Γ Q => match ds with
  | [] => Q Γ
  | _ => False
def gsCons (g : QG) (gr : List D → Env → (Env → Prop) → Prop) : List D → Env → (Env → Prop) → Prop := fun ds Γ Q => match ds with
  | [] => False
  | d :: ds => g d Γ fun Γ1 => gr ds Γ1 Q
theorem lgs_nil : LGs X F [] gsNil := ⟨fun pins s σ H G Γ vs us ds Q I k r rp h => by
  cases ds with
  | nil =>
    cases (show vs = [] from rp)
    cases r
    exact assignInOrder_nil ⟨σ, H, I, Γ, h, k⟩
  | cons _ _ => exact h.elim⟩
theorem lgs_cons {e : Expr} {es : List Expr} {g : QG} {gr : List D → Env → (Env → Prop) → Prop} (h1 : LG X F e g) (h2 : LGs X F es gr) (hs : (assignEach (e :: es) X.env).map (·.2) = assign e X.env :: (assignEach es X.env).map (·.2) := by rfl) : LGs X F (e :: es) (gsCons g gr) := ⟨fun pins s σ H G Γ vs us ds Q I k r rp h => by
  cases ds with
  | nil => exact h.elim
  | cons d ds =>
    obtain ⟨v, vr, rfl, r1, r2⟩ := rp
    cases r with
    | cons ra rb =>
      rw [hs]
      refine assignInOrder_cons (thn (h1.run pins s σ H G Γ _ _ d _ I k ra r1 h) fun _ s1 ⟨σ1, H1, I1, Γ1, q1, k1⟩ => ?_)
      exact h2.run pins s1 σ1 H1 G Γ1 _ _ ds Q I1 k1 rb r2 q1⟩
/-- a, b, .. = a tuple -/
def gT (n : Nat) (gr : List D → Env → (Env → Prop) → Prop) : QG := fun d Γ Q => match d with
  | .tup ds => ds.length = n ∧ gr ds Γ Q
  | _ => False
theorem lg_tup {es : List Expr} {k0 : Nat} {gr : List D → Env → (Env → Prop) → Prop} {n : Nat} (hK : F.K = X.K) (hc : X.calm = true) (h : LGs X F es gr) (hn : (assignEach es X.env).length = n := by rfl) (hst : (assignEach es X.env).findIdx? (·.1) = none := by rfl) : LG X F (.Tuple es k0 pos) (gT n gr) :=
  ⟨fun pins s σ H G Γ v u d Q I k r rp hw => by
    cases d with
    | tup ds =>
      obtain ⟨hl, hw⟩ := hw
      obtain ⟨a, vs, rfl, hq, rs⟩ := rp
      cases r
      obtain ⟨its, rv, ht, hz⟩ := I.tuple (hK ▸ k.sub.t hq)
      refine assign_Tuple_tuple (I.ok.hd hc) ht (by simp [hn, ← hl, ← rs.len, rv.length]) hst fun h' hx => ?_
      have I1 : Inv X pins σ H { s with heap := h' } := I.kept (t' := s.toks) fun b o e => hx b o (Nat.ne_of_lt (Heap.lt_size e)) e
      exact h.run pins _ σ H G Γ vs _ ds Q I1 k (by simpa using rv) rs hw
    | _ => exact hw.elim⟩
def qAsg (p : QE) (g : QG) : QS := fun Γ P E => p Γ (fun d Γ1 => g d Γ1 P.nx) E
theorem ls_asg {tg e : Expr} {p : QE} {g : QG} (he : LE X F E e p) (hg : LG X F tg g) (hs : swapsWithSole [tg] e pos.line X.env = pure false := by rfl) (hw : swappedStores [tg] e X.env = pure none := by rfl)
    (h1 : (assignEach [tg] X.env).map (·.2) = [assign tg X.env] := by rfl) : LS X F E (.Assign [tg] e pos) (qAsg p g) := by
  refine ⟨fun pins s σ H G Γ P I k h => ?_⟩
  refine wpAny_Assign_stores (thn (he.run pins s σ H G Γ _ I k h) fun v s1 ⟨x, H1, I1, r1, d, Γ1, G1, q1, i1, k1, rp⟩ => ?_) hs hw
  rw [h1]
  exact thn (hg.run pins s1 σ H1 G1 Γ1 x v d _ I1 k1 r1 rp q1) fun _ s2 ⟨σ', H', I', Γ', q, k'⟩ => ⟨σ', H', I', Γ', G1, q, i1, k'⟩
def qSet (i : Nat) (p : QE) : QS := fun Γ P E => p Γ (fun d Γ1 => setV Γ1 i d P.nx) E
theorem ls_set (i : Nat) {x : Str} {e : Expr} {p : QE} {pos' : Pos} (hN : X.N.Nodup) (he : LE X F E e p) (hi : X.N[i]? = some x := by rfl) (hx : Loc X.env.scope x := by first | exact Or.inl rfl | exact Or.inr rfl) (hs : swapsWith e (some (.Name x pos')) pos.line X.env = pure false := by rfl)
    (hf : X.fn x = true ∨ X.env.scope.names.lookup x = some .local := by first | exact .inl rfl | exact .inr rfl | assumption) : LS X F E (.Assign [.Name x pos'] e pos) (qSet i p) :=
  LS.of (ps_set (i := i) hN hi hx he.pe hs hf) fun σ H G Γ P k q => ⟨G, Γ, _, k, q, fun w H' ⟨d, Γ', G', q', i1, k', r⟩ => by
    obtain ⟨n, q2⟩ := setV_get q'
    exact ⟨_, G', q2, i1, k'.set n r⟩⟩
/-- a, b = x, y -/
def qPar (i j : Nat) (p : QA) : QS := fun Γ P E => p Γ (fun ds Γ1 => match ds with
  | [d, e] => setV Γ1 i d fun Γ2 => setV Γ2 j e P.nx
  | _ => False) E
theorem ls_par (i j : Nat) {x y : Str} {a b : Expr} {p : QA} {px py pt : Pos} {kt k2 pt2} (hc : X.calm = true) (hN : X.N.Nodup) (ha : LA X F E [a, b] p) (hi : X.N[i]? = some x := by rfl) (hj : X.N[j]? = some y := by rfl) (hij : i ≠ j := by decide)
    (hx : X.env.scope.names.lookup x = some .local := by rfl) (hy : X.env.scope.names.lookup y = some .local := by rfl)
    (hw : swappedStores [.Tuple [.Name x px, .Name y py] kt pt] (.Tuple [a, b] k2 pt2) X.env = pure (some [x, y]) := by rfl)
    (hs : swapsWithSole [.Tuple [.Name x px, .Name y py] kt pt] (.Tuple [a, b] k2 pt2) pos.line X.env = pure false := by rfl) :
    LS X F E (.Assign [.Tuple [.Name x px, .Name y py] kt pt] (.Tuple [a, b] k2 pt2) pos) (qPar i j p) :=
  LS.of (ps_par (i := i) (j := j) hc hN hi hj hij hx hy ha.pa hw hs) fun σ H G Γ P k q => ⟨G, Γ, _, k, q, fun ws H' ⟨ds, Γ', G', q', i1, k', r⟩ => by
    match ds, q' with
    | [d, e], q' =>
      obtain ⟨v, vr, rfl, r1, w, wr, rfl, r2, r3⟩ := r
      cases (show wr = [] from r3)
      obtain ⟨n, q2⟩ := setV_get q'
      obtain ⟨n2, q3⟩ := setV_get q2
      exact ⟨v, w, rfl, _, G', q3, i1, (k'.set n r1).set n2 r2⟩⟩
end
end Q

set_option Elab.async false
set_option linter.all false
set_option maxRecDepth 100000
set_option maxHeartbeats 4000000
namespace Q
open PySem L2 PySem.Spec PyProof.Rows
section
variable {X : Cx} {F : Fx} {E : XP} {a b : Expr} {pa pb : QE} {pos : Pos}
/-! ### x[i] = e, x a list that may change, in slot j -/
theorem bindmo {Γ : Env} {j : Nat} {o : MO} (h : (Γ[j]?).bind Slot.mo = some o) : ∃ s, Γ[j]? = some s ∧ s.mo = some o := by
  cases e : Γ[j]? with
  | none => rw [e] at h; cases h
  | some s => rw [e] at h; exact ⟨s, rfl, h⟩
/-- the slot holds a value -/
def isSet (Γ : Env) (j : Nat) : Bool := match Γ[j]? with
  | some (.own _) => true
  | some (.bor _) => true
  | _ => false
theorem isSet_ok {G H : Hp} {σ : St} {Γ : Env} {j : Nat} (k : Ok F G H σ Γ) (h : isSet Γ j = true) : ∃ a, σ[j]? = some (some (.ref a)) := by
  unfold isSet at h
  split at h
  · rename_i o e
    obtain ⟨a, ea, _⟩ := k.mut e rfl
    exact ⟨a, ea⟩
  · rename_i o e
    obtain ⟨a, ea, _⟩ := k.mut e rfl
    exact ⟨a, ea⟩
  · cases h
def qSetIx (j : Nat) (pe pi : QE) : QS := fun Γ P E => pe Γ (fun d Γ1 => match isSet Γ1 j with
  | true => pi Γ1 (fun i Γ2 => match (Γ2[j]?).bind Slot.mo, i with
    | some (.lst xs), .int n => match Nat.ble (n.toNat + 1) xs.length with
      | true => 0 ≤ n ∧ P.nx (putM Γ2 j (.lst (xs.set n.toNat d)))
      | false => False
    | _, _ => False) E
  | false => False) E
theorem ls_setIx (j : Nat) {x : Str} {e i : Expr} {pe pi : QE} {px pt : Pos} (he : LE X F E e pe) (hi : LE X F E i pi)
    (ha : ∀ v, assign (.Subscript (.Name x px) i pt) X.env v = (do
      let ov ← holding [v] (eval (.Name x px) X.env)
      let iv ← holding [v, ov] (eval i X.env)
      standAt pt
      holding [v, ov, iv] (setItem ov iv v)
      release [v, ov, iv] []) := by intro _; rfl)
    (hs : swapsWithSole [.Subscript (.Name x px) i pt] e pos.line X.env = pure false := by rfl) (hw : swappedStores [.Subscript (.Name x px) i pt] e X.env = pure none := by rfl)
    (h1 : (assignEach [.Subscript (.Name x px) i pt] X.env).map (·.2) = [assign (.Subscript (.Name x px) i pt) X.env] := by rfl)
    (hN : X.N[j]? = some x := by rfl) (hv : Vis X.env.scope x := by first | exact Or.inl rfl | exact Or.inr (Or.inl rfl) | exact Or.inr (Or.inr rfl)) (hd : (x == ("__debug__" : Str)) = false := by decide) (hcd : (x == ("__classdict__" : Str)) = false := by decide) :
    LS X F E (.Assign [.Subscript (.Name x px) i pt] e pos) (qSetIx j pe pi) :=
  LS.of (ps_asg he.pe (pg_sub (pe_var hN hv hd hcd) hi.pe set_list ha) hs hw h1) fun σ H G Γ P k q => by
    refine ⟨G, Γ, _, k, q, fun w H' ⟨d, Γ', G', q', i1, k', r⟩ => ?_⟩
    dsimp only at q'
    split at q'
    · rename_i es
      obtain ⟨p, ep⟩ := isSet_ok k' es
      refine ⟨.ref p, ep, G', Γ', _, k', q', fun w2 H2 ⟨d2, Γ2, G2, q2, i2, k2, r2⟩ => ?_⟩
      dsimp only at q2
      split at q2
      · rename_i xs n em
        split at q2
        · rename_i eb
          have hl := Nat.le_of_ble_eq_true eb
          obtain ⟨s, e1, e2⟩ := bindmo em
          obtain ⟨p2, ep2, g, ⟨vs, hp, rs⟩, _⟩ := k2.mut e1 e2
          rw [ep] at ep2
          cases ep2
          have hn : ixN vs.length n = some n.toNat := by
            unfold ixN
            rw [if_pos q2.1, rs.len, if_pos (by omega)]
          refine ⟨p, vs, n, n.toNat, rfl, r2, hp, hn, _, G2, q2.2, i1.trans i2, k2.put e1 (by rw [e2]; rfl) ep (fun ws z => by rw [hp] at z; cases z) ?_⟩
          exact ⟨_, upd_same, Reps.set (r.inc i2) _ rs⟩
        · exact q2.elim
      · exact q2.elim
    · exact q'.elim
/-! ### while -/
def qWhile (t : QT) (u : QS) : QS := fun Γ P E => ∃ W : Nat → Env → Prop, (∃ m, W m Γ) ∧ ∀ m Γ1, W m Γ1 → t Γ1 (fun b Γ2 => match b with
  | true => u Γ2 { nx := fun Γ3 => ∃ m', m' < m ∧ W m' Γ3, ct := fun Γ3 => ∃ m', m' < m ∧ W m' Γ3, bk := P.nx, rt := P.rt } E
  | false => P.nx Γ2) E
theorem ls_while {c : Expr} {body : List Stmt} {tc : QT} {tb : QS} (hp : PassesOwn (model X.prog X.w) X.A X.env X.xe) (hc : LT X F E c tc) (hb : LSs X F E body tb) : LS X F E (.While c body [] pos) (qWhile tc tb) :=
  LS.of (ps_while hp hc.pt hb.ps) fun σ H G Γ P k q => by
    obtain ⟨W, ⟨m0, w0⟩, turn⟩ := q
    refine ⟨fun m σ' H' => ∃ Γ' G', W m Γ' ∧ Inc G G' ∧ Ok F G' H' σ' Γ', ⟨m0, Γ, G, w0, Inc.refl G, k⟩, ?_⟩
    rintro m σ1 H1 ⟨Γ1, G1, w1, i1, k1⟩
    refine ⟨G1, Γ1, _, k1, turn m Γ1 w1, fun b H' ⟨Γ2, G2, q2, i2, k2⟩ => ?_⟩
    cases b with
    | true =>
      rw [if_pos rfl]
      refine ⟨fun σ' H' => ∃ m', m' < m ∧ ∃ Γ' G', W m' Γ' ∧ Inc G G' ∧ Ok F G' H' σ' Γ', fun σ' H' z => z, G2, Γ2, _, k2, q2, ?_, ?_, ?_, ?_⟩
      · rintro σ' H' ⟨Γ3, G3, ⟨m', lt, w3⟩, i3, k3⟩
        exact ⟨m', lt, Γ3, G3, w3, (i1.trans i2).trans i3, k3⟩
      · rintro v H' ⟨d, Γ3, G3, σ3, q3, i3, k3, r3⟩
        exact ⟨d, Γ3, G3, σ3, q3, (i1.trans i2).trans i3, k3, r3⟩
      · rintro σ' H' ⟨Γ3, G3, q3, i3, k3⟩
        exact ⟨Γ3, G3, q3, (i1.trans i2).trans i3, k3⟩
      · rintro σ' H' ⟨Γ3, G3, ⟨m', lt, w3⟩, i3, k3⟩
        exact ⟨m', lt, Γ3, G3, w3, (i1.trans i2).trans i3, k3⟩
    | false =>
      rw [if_neg Bool.false_ne_true]
      exact ⟨Γ2, G2, q2, i1.trans i2, k2⟩
/-! ### for -/
/-- the list that is walked may be a thing handed in: it stays as it is -/
abbrev Gd := Option (Nat × MO)
def gOk (gd : Gd) (Γ : Env) : Prop := match gd with
  | none => True
  | some (j, o) => Γ[j]? = some (.bor o)
def withG (gd : Gd) (Γ : Env) (R : Prop) : Prop := match gd with
  | none => R
  | some (j, o) => Γ[j]? = some (.bor o) ∧ R
theorem withG_get {gd : Gd} {Γ : Env} {R : Prop} (h : withG gd Γ R) : gOk gd Γ ∧ R := by
  cases gd with
  | none => exact ⟨trivial, h⟩
  | some p => obtain ⟨j, o⟩ := p; exact h
structure SeqW (F : Fx) (G : Hp) (J : It) (items : List D) (gd : Gd) : Prop where
  go : ∀ i G' H' σ Γ, Inc G G' → Ok F G' H' σ Γ → gOk gd Γ → i < items.length → J.go i H'
  stop : ∀ G' H' σ Γ, Inc G G' → Ok F G' H' σ Γ → gOk gd Γ → J.stop items.length H'
  yld : ∀ i G' H' σ Γ x H'', Inc G G' → Ok F G' H' σ Γ → gOk gd Γ → i < items.length → J.yld i H' x H'' → ∃ d G'', items[i]? = some d ∧ Inc G' G'' ∧ Ok F G'' H'' σ Γ ∧ Rep F.toCf G'' d x
abbrev QI := Env → (List D → Gd → Env → Prop) → XP → Prop
def FinI (F : Fx) (G : Hp) (σ : St) (Q : List D → Gd → Env → Prop) : It → Hp → Prop := fun J H' => ∃ items gd Γ' G', Q items gd Γ' ∧ Inc G G' ∧ Ok F G' H' σ Γ' ∧ SeqW F G' J items gd
structure LI (X : Cx) (F : Fx) (E : XP) (tg iter : Expr) (p : QI) : Prop where
  run : ∀ (pins : List (Addr × Obj)) (s : Shared) (σ : St) (H G : Hp) (Γ : Env) (Q : List D → Gd → Env → Prop), Inv X pins σ H s → Ok F G H σ Γ → p Γ Q E →
    wpAny (model X.prog X.w) X.A (eval iter X.env) (fun v s1 => wpAny (model X.prog X.w) X.A (pyIter v) (PIE X pins σ tg (FinI F G σ Q)) X.xe s1) X.xe s
def wI (F : Fx) (E : XP) (p : QI) : TI := fun σ H R => ∃ G Γ Q, Ok F G H σ Γ ∧ p Γ Q E ∧ ∀ J H', FinI F G σ Q J H' → R J H'
theorem LI.pi {tg iter : Expr} {p : QI} (h : LI X F E tg iter p) : PI X tg iter (wI F E p) := ⟨fun pins s σ H R I ⟨G, Γ, Q, k, q, i⟩ =>
  thn (h.run pins s σ H G Γ Q I k q) fun v s1 h1 => thn h1 fun u s2 ⟨it, fp, tn, J, H', e, I', T, t0, f, z⟩ => ⟨it, fp, tn, J, H', e, I', T, t0, f, i J H' z⟩⟩
theorem LI.of {tg iter : Expr} {p : QI} {w : TI} (h : PI X tg iter w) (i : ∀ σ H G Γ Q, Ok F G H σ Γ → p Γ Q E → w σ H (FinI F G σ Q)) : LI X F E tg iter p := ⟨fun pins s σ H G Γ Q I k q => h.run pins s σ H _ I (i σ H G Γ Q k q)⟩
def tG (F : Fx) (g : QG) : TG := fun v σ H R => ∃ G Γ d Q, Ok F G H σ Γ ∧ Rep F.toCf G d v ∧ g d Γ Q ∧ ∀ σ' H' Γ', Q Γ' → Ok F G H' σ' Γ' → R σ' H'
theorem LG.pg {tg : Expr} {g : QG} (h : LG X F tg g) : PG X tg (tG F g) := ⟨fun pins s σ H v u R I r ⟨G, Γ, d, Q, k, rp, q, i⟩ =>
  thn (h.run pins s σ H G Γ v u d Q I k r rp q) fun _ s' ⟨σ', H', I', Γ', z, k'⟩ => ⟨σ', H', I', i σ' H' Γ' z k'⟩⟩
def qLoop (gd : Gd) (g : QG) (u : QS) : List D → QS
  | [] => fun Γ P _ => withG gd Γ (P.nx Γ)
  | d :: ds => fun Γ P E => withG gd Γ (g d Γ fun Γ1 => u Γ1 { nx := fun Γ2 => qLoop gd g u ds Γ2 P E, ct := fun Γ2 => qLoop gd g u ds Γ2 P E, bk := P.nx, rt := P.rt } E)
def qFor (p : QI) (g : QG) (u : QS) : QS := fun Γ P E => p Γ (fun items gd Γ1 => qLoop gd g u items Γ1 P E) E
theorem qLoop_g {gd : Gd} {g : QG} {u : QS} {ds : List D} {Γ : Env} {P : PEnds} (h : qLoop gd g u ds Γ P E) : gOk gd Γ := by
  cases ds with
  | nil => exact (withG_get h).1
  | cons d ds => exact (withG_get h).1
theorem ls_for {tg iter : Expr} {body : List Stmt} {p : QI} {g : QG} {u : QS} (hp : PassesOwn (model X.prog X.w) X.A X.env X.xe) (hc : X.calm = true) (hi : LI X F E tg iter p) (hg : LG X F tg g) (hb : LSs X F E body u)
    (hs : ∀ x, foldedSetIterable iter X.env x = pure x := by intro _; rfl) : LS X F E (.For tg iter body [] pos) (qFor p g u) :=
  LS.of (ps_for hp hc hi.pi hg.pg hb.ps hs) fun σ H G Γ P k q => by
    refine ⟨G, Γ, _, k, q, fun J H1 ⟨items, gd, Γ1, G1, q1, i1, k1, sw⟩ => ?_⟩
    refine ⟨fun i m σ' H' => m = items.length - i ∧ i ≤ items.length ∧ ∃ Γ' G', qLoop gd g u (items.drop i) Γ' P E ∧ Inc G1 G' ∧ Ok F G' H' σ' Γ', ⟨_, rfl, Nat.zero_le _, Γ1, G1, by simpa using q1, Inc.refl G1, k1⟩, ?_⟩
    rintro i m σ2 H2 ⟨rfl, hi2, Γ2, G2, q2, i2, k2⟩
    have gk := qLoop_g q2
    by_cases hlt : i < items.length
    · refine .inr ⟨sw.go i G2 H2 σ2 Γ2 i2 k2 gk hlt, fun σ' H' => ∃ Γ' G', qLoop gd g u (items.drop (i + 1)) Γ' P E ∧ Inc G1 G' ∧ Ok F G' H' σ' Γ', fun σ' H' z => ⟨items.length - (i + 1), by omega, rfl, hlt, z⟩, fun x H3 y => ?_⟩
      obtain ⟨d, G3, ed, i3, k3, r3⟩ := sw.yld i G2 H2 σ2 Γ2 x H3 i2 k2 gk hlt y
      have hd : items.drop i = d :: items.drop (i + 1) := by
        rw [List.drop_eq_getElem_cons hlt]
        congr 1
        rw [List.getElem?_eq_getElem hlt] at ed
        exact Option.some.inj ed
      rw [hd] at q2
      obtain ⟨_, q2⟩ := withG_get q2
      refine ⟨G3, Γ2, d, _, k3, r3, q2, fun σ4 H4 Γ4 q4 k4 => ⟨G3, Γ4, _, k4, q4, ?_, ?_, ?_, ?_⟩⟩
      · rintro σ5 H5 ⟨Γ5, G5, q5, i5, k5⟩
        exact ⟨Γ5, G5, q5, (i2.trans i3).trans i5, k5⟩
      · rintro v H5 ⟨d5, Γ5, G5, σ5, q5, i5, k5, r5⟩
        exact ⟨d5, Γ5, G5, σ5, q5, ((i1.trans i2).trans i3).trans i5, k5, r5⟩
      · rintro σ5 H5 ⟨Γ5, G5, q5, i5, k5⟩
        exact ⟨Γ5, G5, q5, ((i1.trans i2).trans i3).trans i5, k5⟩
      · rintro σ5 H5 ⟨Γ5, G5, q5, i5, k5⟩
        exact ⟨Γ5, G5, q5, (i2.trans i3).trans i5, k5⟩
    · have e : i = items.length := by omega
      subst e
      rw [List.drop_length] at q2
      obtain ⟨_, q2⟩ := withG_get q2
      exact .inl ⟨sw.stop G2 H2 σ2 Γ2 i2 k2 gk, Γ2, G2, q2, i1.trans i2, k2⟩
/-- range(n) -/
def qRng1 (p : QE) : QI := fun Γ Q E => p Γ (fun d Γ1 => match d with
  | .int n => n ≤ 100000 ∧ -100000 ≤ n ∧ Q ((List.range n.toNat).map fun i : Nat => D.int (i : Int)) none Γ1
  | _ => False) E
theorem seqw_rng {G : Hp} {lo : Int} {n : Nat} : SeqW F G (Itr lo n) ((List.range n).map fun i : Nat => D.int (lo + (i : Int))) none where
  go := fun i _ _ _ _ _ _ _ h => by
    show i < n
    simpa using h
  stop := fun _ _ _ _ _ _ _ => by simp [Itr]
  yld := fun i G' H' σ Γ x H'' _ k _ h y => by
    obtain ⟨e, ex⟩ := y
    subst e; subst ex
    have h' : i < n := by simpa using h
    exact ⟨.int (lo + i), G', by simp [h'], Inc.refl _, k, rfl⟩
theorem li_rng1 {tg : Expr} {p0 : Pos} (hm : X.mg "range" = none) (ha : LE X F E a pa) (hg : Gl X "range" := by rfl) (hs : starEach [a] X.env = [(false, eval a X.env)] := by rfl) (hs2 : starEach [] X.env = [] := by rfl) : LI X F E tg (.Call (.Name "range" p0) [a] [] pos) (qRng1 pa) :=
  LI.of (pi_range1 hg hm (pa_cons ha.pe pa_nil (by rw [hs, hs2])) hs) fun σ H G Γ Q k q => ⟨G, Γ, _, k, q, fun w H' ⟨d, Γ', G', q', i, k', r⟩ => by
    cases d with
    | int n =>
      obtain ⟨h1, h2, q'⟩ := q'
      cases (show w = .int n from r)
      refine ⟨n, rfl, by omega, by omega, _, none, Γ', G', q', i, k', ?_⟩
      have e : ((List.range n.toNat).map fun i : Nat => D.int (i : Int)) = (List.range n.toNat).map fun i : Nat => D.int ((0 : Int) + (i : Int)) := by
        congr 1
        funext i
        rw [Int.zero_add]
      rw [e]
      exact seqw_rng
    | _ => exact q'.elim⟩
end
end Q

set_option Elab.async false
set_option linter.all false
set_option maxRecDepth 100000
set_option maxHeartbeats 4000000
namespace Q
open PySem L2 PySem.Spec PyProof.Rows
/-! ## 7. A def keeps its contract -/
/-- what the parameters that may change hold at the end -/
def outsOf : List Slot → Env → List Slot
  | .bor _ :: as, s :: Γ => s :: outsOf as Γ
  | a :: as, _ :: Γ => a :: outsOf as Γ
  | as, [] => as
  | [], _ => []
/-- the environment at the entry -/
def startE (n : Nat) (args : List Slot) : Env := args ++ List.replicate (n - args.length) .no
def endsC (args : List Slot) (Q : D → List Slot → Prop) : PEnds where
  nx := fun Γ => Q .non (outsOf args Γ)
  rt := fun d Γ => Q d (outsOf args Γ)
def exnC (args : List Slot) (E : Exn → List Slot → Prop) : XP := fun x Γ => E x (outsOf args Γ)
def pinOf : List Slot → List V → List (Option Addr)
  | .bor _ :: as, .ref a :: vs => some a :: pinOf as vs
  | _ :: as, _ :: vs => none :: pinOf as vs
  | _, _ => []
section
variable {Fc : Cf}
def fxOf (Fc : Cf) (G H : Hp) (args : List Slot) (vs : List V) : Fx := { Fc with G0 := G, H0 := H, B := argA args vs, pin := pinOf args vs }
theorem argA_in {G H : Hp} : ∀ {args : List Slot} {vs : List V} {a : Addr}, ArgsOk Fc G H args vs → a ∈ argA args vs → ∃ o, H a = some o
  | [], vs, a, _, m => by cases vs <;> simp [argA] at m
  | s :: as, _, a, h, m => by
    obtain ⟨v, r, rfl, h1, h2⟩ := h
    cases s with
    | bor o =>
      obtain ⟨b, rfl, g, mr⟩ := h1
      rcases List.mem_cons.mp (show a ∈ b :: argA as r from m) with e | e
      · subst e; exact mr.ex
      · exact argA_in h2 e
    | val d =>
      have q : argA (Slot.val d :: as) (v :: r) = argA as r := by cases v <;> rfl
      rw [q] at m
      exact argA_in h2 m
    | no => exact h1.elim
    | own o => exact h1.elim
    | exc c fs => exact h1.elim
theorem slots_rep {F : Fx} {G H : Hp} : ∀ n : Nat, Slots F G H (List.replicate n none) (List.replicate n .no)
  | 0 => trivial
  | n + 1 => ⟨trivial, slots_rep n⟩
theorem mutA_rep : ∀ n : Nat, mutA (List.replicate n none) (List.replicate n .no) = []
  | 0 => rfl
  | n + 1 => by
    show mutA (none :: List.replicate n none) (.no :: List.replicate n .no) = []
    simp [mutA, mutA_rep n]
theorem slots_start {F : Fx} {G H : Hp} (hF : F.toCf = Fc) : ∀ {args : List Slot} {vs : List V} {σ : St} {Γ : Env}, ArgsOk Fc G H args vs → (∀ a, a ∈ argA args vs → a ∈ F.B) → Slots F G H σ Γ → Slots F G H (vs.map some ++ σ) (args ++ Γ)
  | [], _, _, _, h, _, k => by cases (show _ = [] from h); exact k
  | s :: as, _, σ, Γ, h, hb, k => by
    obtain ⟨v, r, rfl, h1, h2⟩ := h
    cases s with
    | bor o =>
      obtain ⟨b, rfl, g, mr⟩ := h1
      refine ⟨⟨b, rfl, g, hF ▸ mr, hb b List.mem_cons_self⟩, slots_start hF h2 (fun a ha => hb a (List.mem_cons_of_mem _ ha)) k⟩
    | val d =>
      refine ⟨?_, slots_start hF h2 (fun a ha => hb a ?_) k⟩
      · show Rep F.toCf G d v
        rw [hF]; exact h1
      · have q : argA (Slot.val d :: as) (v :: r) = argA as r := by cases v <;> rfl
        rw [q]; exact ha
    | no => exact h1.elim
    | own o => exact h1.elim
    | exc c fs => exact h1.elim
theorem mutA_start {G H : Hp} : ∀ {args : List Slot} {vs : List V} {σ : St} {Γ : Env}, ArgsOk Fc G H args vs → mutA σ Γ = [] → mutA (vs.map some ++ σ) (args ++ Γ) = argA args vs
  | [], _, _, _, h, k => by cases (show _ = [] from h); exact k
  | s :: as, _, σ, Γ, h, k => by
    obtain ⟨v, r, rfl, h1, h2⟩ := h
    have ih := mutA_start (σ := σ) (Γ := Γ) h2 k
    show mutA (some v :: (r.map some ++ σ)) (s :: (as ++ Γ)) = _
    rw [mutA_cons, ih]
    cases s with
    | bor o =>
      obtain ⟨b, rfl, g, mr⟩ := h1
      rfl
    | val d => cases v <;> rfl
    | no => exact h1.elim
    | own o => exact h1.elim
    | exc c fs => exact h1.elim
theorem pin_start {G H : Hp} : ∀ {args : List Slot} {vs : List V} {σ : St} {Γ : Env} {i : Nat} {a : Addr}, ArgsOk Fc G H args vs → (pinOf args vs)[i]? = some (some a) → (vs.map some ++ σ)[i]? = some (some (V.ref a)) ∧ ∃ o, (args ++ Γ)[i]? = some (Slot.bor o)
  | [], vs, _, _, i, a, _, e => by cases vs <;> simp [pinOf] at e
  | s :: as, _, σ, Γ, i, a, h, e => by
    obtain ⟨v, r, rfl, h1, h2⟩ := h
    cases s with
    | bor o =>
      obtain ⟨b, rfl, g, mr⟩ := h1
      cases i with
      | zero =>
        have e' : some (some b) = some (some a) := e
        cases e'
        exact ⟨rfl, o, rfl⟩
      | succ i =>
        obtain ⟨q1, o', q2⟩ := pin_start (σ := σ) (Γ := Γ) (i := i) h2 (show (pinOf as r)[i]? = some (some a) from e)
        exact ⟨by simpa using q1, o', by simpa using q2⟩
    | val d =>
      have q : pinOf (Slot.val d :: as) (v :: r) = none :: pinOf as r := by cases v <;> rfl
      rw [q] at e
      cases i with
      | zero => cases e
      | succ i =>
        obtain ⟨q1, o', q2⟩ := pin_start (σ := σ) (Γ := Γ) (i := i) h2 (show (pinOf as r)[i]? = some (some a) from e)
        exact ⟨by simpa using q1, o', by simpa using q2⟩
    | no => exact h1.elim
    | own o => exact h1.elim
    | exc c fs => exact h1.elim
theorem pinOf_len {G H : Hp} : ∀ {args : List Slot} {vs : List V}, ArgsOk Fc G H args vs → (pinOf args vs).length = args.length
  | [], vs, _ => by cases vs <;> rfl
  | s :: as, _, h => by
    obtain ⟨v, r, rfl, h1, h2⟩ := h
    have ih := pinOf_len h2
    cases s with
    | bor o =>
      obtain ⟨b, rfl, g, mr⟩ := h1
      show (some b :: pinOf as r).length = _
      rw [List.length_cons, List.length_cons, ih]
    | val d =>
      have q : pinOf (Slot.val d :: as) (v :: r) = none :: pinOf as r := by cases v <;> rfl
      rw [q, List.length_cons, List.length_cons, ih]
    | no => exact h1.elim
    | own o => exact h1.elim
    | exc c fs => exact h1.elim
theorem ok_start {G H : Hp} {args : List Slot} {vs : List V} {N : List Str} (sb : Sub G H) (ha : ArgsOk Fc G H args vs) (nd : (argA args vs).Nodup) : Ok (fxOf Fc G H args vs) G H (L2.start N vs) (startE N.length args) := by
  have hl := ha.len
  have e : L2.start N vs = vs.map some ++ List.replicate (N.length - args.length) none := by unfold L2.start; rw [hl]
  refine ⟨sb, Inc.refl G, fun a o e => .inl e, fun a o e _ => e, fun a m => argA_in ha m, ?_, ?_, fun i a q => ?_, ?_⟩
  · rw [e]; exact slots_start rfl ha (fun a h => h) (slots_rep _)
  · rw [e]; unfold startE; rw [mutA_start ha (mutA_rep _)]; exact nd
  · rw [e]; exact pin_start ha q
  · show (pinOf args vs).length ≤ (startE N.length args).length
    rw [pinOf_len ha]
    unfold startE
    rw [List.length_append]
    omega
theorem pin_of_bor {G H : Hp} : ∀ {args : List Slot} {vs : List V} {i : Nat} {o : MO}, ArgsOk Fc G H args vs → args[i]? = some (.bor o) → ∃ a, (pinOf args vs)[i]? = some (some a) ∧ vs[i]? = some (.ref a)
  | [], _, _, _, _, e => by simp at e
  | s :: as, _, i, o, h, e => by
    obtain ⟨v, r, rfl, h1, h2⟩ := h
    cases i with
    | zero =>
      simp at e
      subst e
      obtain ⟨b, rfl, g, mr⟩ := h1
      exact ⟨b, rfl, rfl⟩
    | succ i =>
      obtain ⟨a, q1, q2⟩ := pin_of_bor (i := i) h2 (by simpa using e)
      refine ⟨a, ?_, by simpa using q2⟩
      cases s with
      | bor o' =>
        obtain ⟨b, rfl, g, mr⟩ := h1
        exact q1
      | val d =>
        have q : pinOf (Slot.val d :: as) (v :: r) = none :: pinOf as r := by cases v <;> rfl
        rw [q]; exact q1
      | no => exact h1.elim
      | own o => exact h1.elim
      | exc c fs => exact h1.elim
/-- what the parameters hold at the end -/
theorem outs_ok {F : Fx} {G H G' H' : Hp} {σ' : St} {Γ' : Env} (hF : F.toCf = Fc) (k : Ok F G' H' σ' Γ') (i0 : Inc G G') : ∀ {args : List Slot} {vs : List V} (n : Nat), ArgsOk Fc G H args vs →
    (∀ (i : Nat) a, (pinOf args vs)[i]? = some (some a) → σ'[n + i]? = some (some (V.ref a)) ∧ ∃ o, Γ'[n + i]? = some (Slot.bor o)) → n + args.length ≤ Γ'.length → ArgsOk Fc G' H' (outsOf args (Γ'.drop n)) vs ∧ shape args (outsOf args (Γ'.drop n))
  | [], vs, n, h, _, _ => by
    have e : outsOf [] (Γ'.drop n) = [] := by cases (Γ'.drop n) <;> rfl
    rw [e]
    exact ⟨h, trivial⟩
  | s :: as, _, n, h, hp, hl => by
    obtain ⟨v, r, rfl, h1, h2⟩ := h
    have hn : n < Γ'.length := by simp at hl; omega
    have ed : Γ'.drop n = Γ'[n] :: Γ'.drop (n + 1) := List.drop_eq_getElem_cons hn
    rw [ed]
    cases s with
    | bor o =>
      obtain ⟨b, rfl, g, mr⟩ := h1
      obtain ⟨q1, o', q2⟩ := hp 0 b rfl
      have q2' : Γ'[n]? = some (.bor o') := by simpa using q2
      have ih := outs_ok hF k i0 (args := as) (vs := r) (n + 1) h2 (fun i a e => by
        have := hp (i + 1) a e
        rw [show n + (i + 1) = n + 1 + i by omega] at this
        exact this) (by simp at hl; omega)
      have eg : Γ'[n] = .bor o' := by
        rw [List.getElem?_eq_getElem hn] at q2'
        exact Option.some.inj q2'
      show ArgsOk Fc G' H' (Γ'[n] :: outsOf as (Γ'.drop (n + 1))) _ ∧ shape (.bor o :: as) (Γ'[n] :: outsOf as (Γ'.drop (n + 1)))
      rw [eg]
      obtain ⟨a', ea, g', mr', _⟩ := k.mut q2' rfl
      have q1' : σ'[n]? = some (some (.ref b)) := by simpa using q1
      rw [q1'] at ea
      cases ea
      exact ⟨⟨.ref b, r, rfl, ⟨b, rfl, g', hF ▸ mr'⟩, ih.1⟩, ⟨o', rfl⟩, ih.2⟩
    | val d =>
      have q : pinOf (Slot.val d :: as) (v :: r) = none :: pinOf as r := by cases v <;> rfl
      rw [q] at hp
      have ih := outs_ok hF k i0 (args := as) (vs := r) (n + 1) h2 (fun i a e => by
        have := hp (i + 1) a e
        rw [show n + (i + 1) = n + 1 + i by omega] at this
        exact this) (by simp at hl; omega)
      show ArgsOk Fc G' H' (Slot.val d :: outsOf as (Γ'.drop (n + 1))) _ ∧ shape (.val d :: as) (Slot.val d :: outsOf as (Γ'.drop (n + 1)))
      exact ⟨⟨v, r, rfl, Rep.inc i0 h1, ih.1⟩, rfl, ih.2⟩
    | no => exact h1.elim
    | own o => exact h1.elim
    | exc c fs => exact h1.elim
theorem post_end {G H G' H' : Hp} {args : List Slot} {vs : List V} {σ' : St} {Γ' : Env} (ha : ArgsOk Fc G H args vs) (k : Ok (fxOf Fc G H args vs) G' H' σ' Γ') :
    Post G H (argA args vs) G' H' ∧ ArgsOk Fc G' H' (outsOf args Γ') vs ∧ shape args (outsOf args Γ') := by
  have hl : args.length ≤ Γ'.length := by
    rw [← pinOf_len ha]
    exact k.pl
  have o := outs_ok (Fc := Fc) (F := fxOf Fc G H args vs) rfl k k.g0 0 ha (fun i a e => by rw [Nat.zero_add]; exact k.pin i a e) (by rw [Nat.zero_add]; exact hl)
  rw [List.drop_zero] at o
  exact ⟨⟨k.sub, k.g0, k.fresh, k.frame⟩, o.1, o.2⟩
end
section
variable {P : Program} {w : World} {mg : Str → Option Value} {base : Heap} {Fc : Cf}
/-- THE RULE for a def: its contract c, its reading r over data, the derivation of its body -/
theorem fnC {c : Ct} {r : QS} {x qual : Str} {params : Arguments} {body : List Stmt} {scope : Scope} {dvs : List V} {kws : List (Str × V)} {f : Addr} {fd : FuncData} {N ps : List Str} {k : Nat} (Fn : FunD Fc.K x qual params body scope dvs kws f fd) (S : FnScope N ps scope)
    (hlen : ∀ args Q E, c args Q E → args.length = ps.length) (hw : ∀ args Q E, c args Q E → r (startE N.length args) (endsC args Q) (exnC args E))
    (hd : ∀ (cdv : Value) (A : Around) (outer : List PySem.Env) (s : Shared) (H : Hp) (E0 : XK), Room k (A.deeper (envOfC qual scope s.heap.objs.size f cdv)) → ∀ (F : Fx) (E : XP), F.toCf = Fc →
      Takes (cxOf (L2.CX P w) P w Fc.K mg base N qual scope f cdv A outer s H E0) (wOf F E) → PassesOwn (model P w) (A.deeper (envOfC qual scope s.heap.objs.size f cdv)) (envOfC qual scope s.heap.objs.size f cdv) (cxOf (L2.CX P w) P w Fc.K mg base N qual scope f cdv A outer s H E0).xe →
      LSs (cxOf (L2.CX P w) P w Fc.K mg base N qual scope f cdv A outer s H E0) F E body r) :
    FnOk P w Fc.K mg base (L2.CX P w) (k + 1) f fd ps (spC Fc c) := by
  have pl : ps.length ≤ N.length := by have := congrArg List.length S.pre; rw [List.length_take] at this; omega
  refine Fn.ok S (fun vs H Q E h => ?_) (fun cdv A outer s H vs Q E hr h => ?_)
  · obtain ⟨G, args, sb, ha, nd, Qc, Ec, hc, _⟩ := h
    rw [ha.len]
    exact hlen _ _ _ hc
  · obtain ⟨G, args, sb, ha, nd, Qc, Ec, hc, hq, he⟩ := h
    have al : args.length = ps.length := hlen _ _ _ hc
    have tk0 : Takes (cxOf (L2.CX P w) P w Fc.K mg base N qual scope f cdv A outer s H E) (fun cls d _ H' => E cls d H') := takes_of rfl rfl rfl rfl
    have tk : Takes (cxOf (L2.CX P w) P w Fc.K mg base N qual scope f cdv A outer s H E) (wOf (fxOf Fc G H args vs) (exnC args Ec)) := fun u s' ⟨a, B, sI, pins, σ, H', cls, d, e, I, nb, up, sky, na, os, ag, G', Γ', xx, kk, xr, q⟩ => by
      obtain ⟨p, o1, o2⟩ := post_end ha kk
      exact tk0 u s' ⟨a, B, sI, pins, σ, H', cls, d, e, I, nb, up, sky, na, os, ag, he xx _ cls d H' G' q p o1 o2 xr⟩
    have D := hd cdv A outer s H E hr (fxOf Fc G H args vs) (exnC args Ec) rfl tk PassesOwn.leaving
    refine ⟨fun D' σ H1 => D' = { nx := fun _ H' => Q .non H', rt := Q } ∧ σ = L2.start N vs ∧ H1 = H, ⟨fun pins s1 σ H1 D' I ⟨e1, e2, e3⟩ => ?_⟩, rfl, rfl, rfl⟩
    subst e1; subst e2; subst e3
    refine thn (D.run pins s1 _ H1 G (startE N.length args) (endsC args Qc) I (ok_start sb ha nd) (hw args Qc Ec hc)) fun fl s2 z => ?_
    cases fl with
    | next =>
      obtain ⟨σ', H', I', Γ', G', q, i, kk⟩ := z
      obtain ⟨p, o1, o2⟩ := post_end ha kk
      exact ⟨σ', H', I', hq _ _ .non H' G' q p o1 o2 rfl⟩
    | ret u =>
      obtain ⟨v, σ', H', I', rv, d, Γ', G', σ2, q, i, kk, rp⟩ := z
      obtain ⟨p, o1, o2⟩ := post_end ha kk
      exact ⟨v, σ', H', I', rv, hq _ _ v H' G' q p o1 o2 rp⟩
    | brk =>
      obtain ⟨σ', H', I', Γ', G', q, i, kk⟩ := z
      exact q.elim
    | cont =>
      obtain ⟨σ', H', I', Γ', G', q, i, kk⟩ := z
      exact q.elim
end
end Q

set_option Elab.async false
set_option linter.all false
set_option maxRecDepth 100000
set_option maxHeartbeats 4000000
namespace Q
open PySem L2 PySem.Spec PyProof.Rows
/-! ## 8. Calls: defs, classes, methods, with keywords -/
def Back (X : Cx) (pins : List (Addr × Obj)) (σ : St) (Q : VK) : Result → Shared → Prop := fun r s' => match r with
  | .ok (.ret v) => EP X pins σ Q v s'
  | .ok _ => False
  | .error e => X.xe e s'
structure CodeOk (X : Cx) (A : Around) (Fc : Cf) (f : Addr) (n : Nat) (ks : List Str) (c : Ct) : Prop where
  len : ∀ args Q E, c args Q E → args.length = n + ks.length
  run : ∀ (pins : List (Addr × Obj)) (s : Shared) (σ : St) (H : Hp) (vs : List V) (us : List Value) (zs : List V) (ws : List Value) (Q : VK) (W : WX), Takes X W → Inv X pins σ H s → Vals vs us → Vals zs ws → vs.length = n → zs.length = ks.length → spC Fc c (vs ++ zs) H Q (WE W σ) →
    codeAny (model X.prog X.w) A (.call (.ref f) ⟨us, ks.zip ws⟩) (Back X pins σ Q) s
section
variable {X : Cx} {F : Fx} {E : XP} {A : Around} {Fc : Cf}
theorem code_fn {c0 c : Ct} {k n : Nat} {f : Addr} {fd : FuncData} {ps ks : List Str} {g : List Value → List Value → List Value} {gV : List V → List V → List V} (Fn : FnOk X.prog X.w X.K X.mg X.base (L2.CX X.prog X.w) k f fd ps (spC Fc c0)) (hA : A.frames = X.A.frames) (hr : Room k A) (hb : KBn X.K fd ps n ks g gV)
    (hl : ∀ args Q E, c args Q E → args.length = n + ks.length) (hsp : ∀ vs zs H Q E, vs.length = n → zs.length = ks.length → spC Fc c (vs ++ zs) H Q E → spC Fc c0 (gV vs zs) H Q E) : CodeOk X A Fc f n ks c := by
  refine ⟨hl, fun pins s σ H vs us zs ws Q W tk I r rz l1 l2 h => ?_⟩
  have r2 := hb.rel r rz
  refine codeAny_mono (Fn.run A X.stack s H ⟨us, ks.zip ws⟩ (g us ws) (gV vs zs) Q (WE W σ) hr (env0_at hA I) (hb.to s us ws I.kIn (r.length.symm.trans l1) (rz.length.symm.trans l2)) r2 (hsp vs zs H Q _ l1 l2 h)) fun r s' hq => ?_
  cases r with
  | error e => exact passAt tk σ pins H s e s' I hq
  | ok fl =>
    cases fl with
    | ret u => exact I.after hq
    | next => exact False.elim hq
    | brk => exact False.elim hq
    | cont => exact False.elim hq
theorem kbn_all {K : PySem.W.Frag} {fd : FuncData} {ps : List Str} {n : Nat} (hb : Binds K fd ps []) (hn : n = ps.length) : KBn K fd ps n [] (fun us _ => us) (fun vs _ => vs) :=
  ⟨fun s us ws X l1 l2 => by
    have := hb s us X (by rw [List.append_nil, l1, hn])
    rw [List.append_nil] at this
    exact this, fun r _ => r⟩
theorem kbn_dfl {K : PySem.W.Frag} {fd : FuncData} {ps : List Str} {n : Nat} {ds : List Value} {dvs : List V} (hb : Binds K fd ps ds) (hd : Vals dvs ds) (hn : n + dvs.length = ps.length) : KBn K fd ps n [] (fun us _ => us ++ ds) (fun vs _ => vs ++ dvs) :=
  ⟨fun s us ws X l1 l2 => hb s us X (by rw [List.length_append, l1, ← hd.length, hn]), fun r _ => r.append hd⟩
theorem sp_dflt {c : Ct} {dd : List D} {dvs : List V} (hR : ∀ G, Reps Fc G dd dvs) {vs : List V} {H : Hp} {Q : VK} {E : XK} (h : spC Fc (dflt c dd) vs H Q E) : spC Fc c (vs ++ dvs) H Q E := by
  obtain ⟨G, args, sb, ha, nd, Qc, Ec, hc, hq, he⟩ := h
  have hl : vs.length = args.length := ha.len
  refine ⟨G, args ++ dd.map Slot.val, sb, args_app ha (hR G), by rw [argA_app hl]; exact nd, _, _, hc, fun d outs v H' G' q p a sh rp => ?_, fun x outs cls d' H' G' q p a sh rp => ?_⟩
  · rw [argA_app hl] at p
    exact hq d _ v H' G' q p (args_take a hl) (shape_take sh) rp
  · rw [argA_app hl] at p
    exact he x _ cls d' H' G' q p (args_take a hl) (shape_take sh) rp
/-- a def called with all its arguments, by position -/
theorem code_all {c : Ct} {k n : Nat} {f : Addr} {fd : FuncData} {ps : List Str} (Fn : FnOk X.prog X.w X.K X.mg X.base (L2.CX X.prog X.w) k f fd ps (spC Fc c)) (hA : A.frames = X.A.frames) (hr : Room k A) (hb : Binds X.K fd ps []) (hn : n = ps.length) (hl : ∀ args Q E, c args Q E → args.length = n) : CodeOk X A Fc f n [] c :=
  code_fn Fn hA hr (kbn_all hb hn) hl fun vs zs H Q E l1 l2 h => by
    cases zs with
    | nil => rw [List.append_nil] at h; exact h
    | cons _ _ => cases l2
theorem code_dfl {c : Ct} {k n : Nat} {f : Addr} {fd : FuncData} {ps : List Str} {dd : List D} {dvs : List V} {ds : List Value} (Fn : FnOk X.prog X.w X.K X.mg X.base (L2.CX X.prog X.w) k f fd ps (spC Fc c)) (hA : A.frames = X.A.frames) (hr : Room k A) (hb : Binds X.K fd ps ds) (hd : Vals dvs ds) (hR : ∀ G, Reps Fc G dd dvs) (hn : n + dvs.length = ps.length)
    (hl : ∀ args Q E, c args Q E → args.length = n + dd.length) : CodeOk X A Fc f n [] (dflt c dd) :=
  code_fn Fn hA hr (kbn_dfl hb hd hn) (fun args Q E h => by
    have := hl _ _ _ h
    rw [List.length_append, List.length_map] at this
    show args.length = n + 0
    omega) fun vs zs H Q E l1 l2 h => by
    cases zs with
    | nil => rw [List.append_nil] at h; exact sp_dflt hR h
    | cons _ _ => cases l2
/-- the arguments of a call with keywords: data alone, put in the parameters' order -/
def valsOf : List Slot → Option (List D)
  | [] => some []
  | .val d :: as => match valsOf as with
    | some ds => some (d :: ds)
    | none => none
  | _ => none
def kwC (c : Ct) (f : List D → List D) : Ct := fun args Q E => match valsOf args with
  | some ds => c ((f ds).map Slot.val) (fun d _ => Q d args) (fun x _ => E x args)
  | none => False
theorem valsOf_eq : ∀ {as : List Slot} {ds : List D}, valsOf as = some ds → as = ds.map Slot.val
  | [], ds, h => by cases h; rfl
  | .val d :: as, ds, h => by
    unfold valsOf at h
    split at h
    · rename_i es e
      cases h
      rw [valsOf_eq e]; rfl
    · cases h
  | .no :: _, _, h => by cases h
  | .own _ :: _, _, h => by cases h
  | .bor _ :: _, _, h => by cases h
  | .exc _ _ :: _, _, h => by cases h
theorem args_vals {G H : Hp} : ∀ {ds : List D} {vs : List V}, ArgsOk Fc G H (ds.map Slot.val) vs ↔ Reps Fc G ds vs
  | [], vs => Iff.rfl
  | d :: ds, vs => by
    constructor
    · rintro ⟨v, r, rfl, a, b⟩
      exact ⟨v, r, rfl, a, args_vals.mp b⟩
    · rintro ⟨v, r, rfl, a, b⟩
      exact ⟨v, r, rfl, a, args_vals.mpr b⟩
theorem argA_vals : ∀ {ds : List D} {vs : List V}, argA (ds.map Slot.val) vs = []
  | [], vs => by cases vs <;> rfl
  | d :: ds, [] => rfl
  | d :: ds, v :: vs => by
    have q : argA (Slot.val d :: ds.map Slot.val) (v :: vs) = argA (ds.map Slot.val) vs := by cases v <;> rfl
    exact q.trans argA_vals
theorem shape_vals : ∀ {ds : List D}, shape (ds.map Slot.val) (ds.map Slot.val)
  | [] => trivial
  | d :: ds => ⟨rfl, shape_vals⟩
theorem code_kw {c : Ct} {k n : Nat} {f : Addr} {fd : FuncData} {ps ks : List Str} {g : List Value → List Value → List Value} {gV : List V → List V → List V} {fD : List D → List D} (Fn : FnOk X.prog X.w X.K X.mg X.base (L2.CX X.prog X.w) k f fd ps (spC Fc c)) (hA : A.frames = X.A.frames) (hr : Room k A) (hb : KBn X.K fd ps n ks g gV)
    (hl : ∀ (ds : List D) Q E, c ((fD ds).map Slot.val) Q E → ds.length = n + ks.length) (hf : ∀ (ds : List D) (vs zs : List V) G, vs.length = n → zs.length = ks.length → Reps Fc G ds (vs ++ zs) → Reps Fc G (fD ds) (gV vs zs)) : CodeOk X A Fc f n ks (kwC c fD) := by
  refine code_fn Fn hA hr hb (fun args Q E h => ?_) fun vs zs H Q E l1 l2 h => ?_
  · unfold kwC at h
    split at h
    · rename_i ds e
      rw [valsOf_eq e, List.length_map]
      exact hl ds _ _ h
    · exact h.elim
  · obtain ⟨G, args, sb, ha, nd, Qc, Ec, hc, hq, he⟩ := h
    unfold kwC at hc
    split at hc
    · rename_i ds e
      have ea := valsOf_eq e
      subst ea
      have rp := hf ds vs zs G l1 l2 (args_vals.mp ha)
      refine ⟨G, (fD ds).map Slot.val, sb, args_vals.mpr rp, by rw [argA_vals]; exact List.nodup_nil, _, _, hc, fun d outs v H' G' q p a sh r => ?_, fun x outs cls d' H' G' q p a sh r => ?_⟩
      · rw [argA_vals] at p
        refine hq d _ v H' G' q (by rw [argA_vals]; exact p) (args_vals.mpr ((args_vals.mp ha).inc p.inc)) shape_vals r
      · rw [argA_vals] at p
        refine he x _ cls d' H' G' q (by rw [argA_vals]; exact p) (args_vals.mpr ((args_vals.mp ha).inc p.inc)) shape_vals r
    · exact hc.elim
/-! ### making an instance -/
/-- what __init__ leaves is the instance -/
def made (c : Cn) (ds : List D) (Q : D → Prop) : Prop := match c with
  | .ratio => ∃ q : Rat, ds = [.int q.num, .int (q.den : Int)] ∧ Q (.rat q)
  | c => Q (.fr (.ins c ds))
def mkC (c : Cn) (ci : Ct) : Ct := fun args Q E => ci (.bor (.ins c []) :: args) (fun d outs => match d, outs with
  | .non, .bor (.ins c' ds) :: outs' => match Nat.beq c'.ix c.ix with
    | true => made c ds fun r => Q r outs'
    | false => False
  | _, _ => False) (fun x outs => E x outs.tail)
theorem ArgsOk.heap {G H H2 : Hp} (hh : ∀ a o, H a = some o → H2 a = some o) : ∀ {as : List Slot} {vs : List V}, ArgsOk Fc G H as vs → ArgsOk Fc G H2 as vs
  | [], _, h => h
  | s :: as, _, h => by
    obtain ⟨v, r, rfl, h1, h2⟩ := h
    refine ⟨v, r, rfl, ?_, ArgsOk.heap hh h2⟩
    cases s with
    | bor o =>
      obtain ⟨a, rfl, g, m⟩ := h1
      obtain ⟨u, e⟩ := m.ex
      exact ⟨a, rfl, g, m.inc (Inc.refl G) ((hh a u e).trans e.symm)⟩
    | _ => exact h1
theorem ArgsOk.inc {G G' H : Hp} (i : Inc G G') : ∀ {as : List Slot} {vs : List V}, (∀ a, a ∈ argA as vs → G' a = none) → ArgsOk Fc G H as vs → ArgsOk Fc G' H as vs
  | [], _, _, h => h
  | s :: as, _, hn, h => by
    obtain ⟨v, r, rfl, h1, h2⟩ := h
    cases s with
    | bor o =>
      obtain ⟨a, rfl, g, m⟩ := h1
      exact ⟨.ref a, r, rfl, ⟨a, rfl, hn a List.mem_cons_self, m.inc i rfl⟩, ArgsOk.inc i (fun b hb => hn b (List.mem_cons_of_mem _ hb)) h2⟩
    | val d =>
      refine ⟨v, r, rfl, Rep.inc i h1, ArgsOk.inc i (fun b hb => hn b ?_) h2⟩
      have q : argA (Slot.val d :: as) (v :: r) = argA as r := by cases v <;> rfl
      rw [q]; exact hb
    | no => exact h1.elim
    | own o => exact h1.elim
    | exc c fs => exact h1.elim
theorem argA_mem0 {G H : Hp} : ∀ {args : List Slot} {vs : List V} {a : Addr}, ArgsOk Fc G H args vs → a ∈ argA args vs → ∃ o, H a = some o ∧ G a = none
  | [], vs, a, _, m => by cases vs <;> simp [argA] at m
  | s :: as, _, a, h, m => by
    obtain ⟨v, r, rfl, h1, h2⟩ := h
    cases s with
    | bor o =>
      obtain ⟨b, rfl, g, mr⟩ := h1
      rcases List.mem_cons.mp (show a ∈ b :: argA as r from m) with e | e
      · subst e; obtain ⟨u, q⟩ := mr.ex; exact ⟨u, q, g⟩
      · exact argA_mem0 h2 e
    | val d =>
      have q : argA (Slot.val d :: as) (v :: r) = argA as r := by cases v <;> rfl
      rw [q] at m
      exact argA_mem0 h2 m
    | no => exact h1.elim
    | own o => exact h1.elim
    | exc c fs => exact h1.elim
theorem argA_shape : ∀ {as outs : List Slot} {vs : List V}, shape as outs → argA outs vs = argA as vs
  | [], [], _, _ => rfl
  | s :: as, t :: outs, [], h => by cases t <;> cases s <;> rfl
  | s :: as, t :: outs, v :: vs, h => by
    cases s with
    | bor o =>
      obtain ⟨⟨o', rfl⟩, h2⟩ := h
      have ih := argA_shape (vs := vs) h2
      cases v with
      | ref a => show a :: argA outs vs = a :: argA as vs; rw [ih]
      | _ => exact ih
    | no => obtain ⟨rfl, h2⟩ := h; have ih := argA_shape (vs := vs) h2; cases v <;> exact ih
    | val d => obtain ⟨rfl, h2⟩ := h; have ih := argA_shape (vs := vs) h2; cases v <;> exact ih
    | own o => obtain ⟨rfl, h2⟩ := h; have ih := argA_shape (vs := vs) h2; cases v <;> exact ih
    | exc c fs => obtain ⟨rfl, h2⟩ := h; have ih := argA_shape (vs := vs) h2; cases v <;> exact ih
  | [], _ :: _, _, h => by cases h
  | s :: _, [], _, h => by cases s <;> cases h
theorem sp_make {c : Cn} {ci : Ct} {vs : List V} {H : Hp} {Q : VK} {E : XK} (h : spC Fc (mkC c ci) vs H Q E) (x dx : Addr) (hx : H x = none) (hdx : H dx = none) (ne : dx ≠ x) :
    spC Fc ci (.ref x :: vs) (upd (upd H dx (.own x)) x (.ins (Fc.cl c) dx [])) (fun v H2 => v = .non ∧ Q (.ref x) H2) E := by
  obtain ⟨G, args, sb, ha, nd, Qc, Ec, hc, hq, he⟩ := h
  have up : ∀ a o, H a = some o → (upd (upd H dx (.own x)) x (.ins (Fc.cl c) dx [])) a = some o := fun a o e => by
    rw [upd_ne (ne_of_none e hx), upd_ne (ne_of_none e hdx)]; exact e
  have dn : ∀ a, (upd (upd H dx (.own x)) x (.ins (Fc.cl c) dx [])) a = none → H a = none := fun a e => by
    cases q : H a with
    | none => rfl
    | some o => rw [up a o q] at e; cases e
  have nx : x ∉ argA args vs := fun m => by
    obtain ⟨o, e⟩ := argA_in ha m
    rw [hx] at e; cases e
  have post : ∀ {G' H' : Hp}, Post G (upd (upd H dx (.own x)) x (.ins (Fc.cl c) dx [])) (x :: argA args vs) G' H' → Post G H (argA args vs) G' H' := fun p => ⟨p.sub, p.inc, fun a o e => (p.fresh a o e).imp id (dn a), fun a o e nb => p.frame a o (up a o e) (fun m => by
    rcases List.mem_cons.mp m with q | q
    · subst q; rw [hx] at e; cases e
    · exact nb q)⟩
  refine ⟨G, .bor (.ins c []) :: args, (sb.off (sb.no hdx) _).off (sb.no hx) _, ⟨.ref x, vs, rfl, ⟨x, rfl, sb.no hx, dx, [], by rw [upd_same, List.zip_nil_right], rfl⟩, ha.heap up⟩, List.nodup_cons.mpr ⟨nx, nd⟩, _, _, hc, fun d outs v H' G' q p a sh rp => ?_, fun y outs cls d' H' G' q p a sh rp => ?_⟩
  · split at q
    · rename_i c' ds outs'
      split at q
      · rename_i ec
        have ec := ix_inj ec
        subst ec
        cases (show v = .non from rp)
        refine ⟨rfl, ?_⟩
        obtain ⟨_, _, e0, ⟨x', ex, gx, dx', vs', hx', rs⟩, aa⟩ := a
        cases e0
        cases ex
        have p' := post p
        by_cases hr : c' = .ratio
        · subst hr
          obtain ⟨qq, eds, q⟩ := q
          subst eds
          obtain ⟨v1, r1, rfl, e1, v2, r2, rfl, e2, e3⟩ := rs
          cases (show v1 = _ from e1)
          cases (show v2 = _ from e2)
          cases (show r2 = [] from e3)
          refine hq _ _ _ H' (upd G' x _) q ⟨fun b u e => ?_, p'.inc.trans (Inc.new gx), fun b u e => ?_, p'.frame⟩ (aa.inc (Inc.new gx) fun b hb => ?_) sh.2 (show Rep _ _ _ _ from ⟨x, dx', rfl, upd_same⟩)
          · by_cases h : b = x
            · subst h
              rw [upd_same] at e
              cases e
              exact .inl hx'
            · rw [upd_ne h] at e
              exact p'.sub b u e
          · by_cases h : b = x
            · subst h
              exact .inr hx
            · rw [upd_ne h] at e
              exact p'.fresh b u e
          · have hb' : b ∈ argA args vs := by rw [← argA_shape sh.2]; exact hb
            have nb : b ≠ x := fun z => nx (z ▸ hb')
            rw [upd_ne nb]
            obtain ⟨_, _, z2⟩ := argA_mem0 aa hb
            exact z2
        · have q' : Qc (.fr (.ins c' ds)) outs' := by
            cases c' <;> first | exact absurd rfl hr | exact q
          exact hq _ _ _ H' G' q' p' aa sh.2 ⟨_, x, rfl, rfl, gx, ⟨dx', vs', hx', rs⟩, hx⟩
      · exact q.elim
    · exact q.elim
  · cases outs with
    | nil => cases sh
    | cons s outs =>
      obtain ⟨_, _, e0, _, aa⟩ := a
      cases e0
      exact he y outs cls d' H' G' q (post p) aa sh.2 rp
theorem code_make {c : Cn} {ci : Ct} {n : Nat} {ks : List Str} {f : Addr} (M : Mk X.K (Fc.cl c) f) (C : ∀ us kw, CodeOk X (A.under (.builtin "type.__call__" ⟨.ref (Fc.cl c) :: us, kw⟩)) Fc f (n + 1) ks ci) : CodeOk X A Fc (Fc.cl c) n ks (mkC c ci) := by
  refine ⟨fun args Q E h => ?_, fun pins s σ H vs us zs ws Q W tk I r rz l1 l2 h => ?_⟩
  · have := (C [] []).len _ _ _ h
    rw [List.length_cons] at this
    omega
  · have hq := sp_make h (s.heap.objs.size + 1) s.heap.objs.size (I.hok.fresh (Nat.le_succ _)) (I.hok.fresh (Nat.le_refl _)) (Nat.ne_of_lt (Nat.lt_succ_self _))
    have I2 := Inv.made (C := Fc.cl c) I
    refine make_map (f := f) I.kIn M.makes M.init (beq_iff_eq.mp M.fn) (codeAny_mono ((C us (ks.zip ws)).run pins _ σ _ (V.ref (s.heap.objs.size + 1) :: vs) (Value.ref (s.heap.objs.size + 1) :: us) zs ws _ W tk I2 (.cons rfl r) rz (by rw [List.length_cons, l1]) l2 hq) fun r s' hq' => ?_)
    cases r with
    | error e => exact hq'
    | ok fl =>
      cases fl with
      | ret u =>
        obtain ⟨v, H', I3, rv, ev, q3⟩ := hq'
        subst ev
        exact ⟨rv, ⟨V.ref (s.heap.objs.size + 1), H', I3, rfl, q3⟩⟩
      | next => exact False.elim hq'
      | brk => exact False.elim hq'
      | cont => exact False.elim hq'
/-! ### arguments and keywords -/
structure LK (X : Cx) (F : Fx) (E : XP) (kws : List Keyword) (p : QA) : Prop where
  run : ∀ (pos : Pos) (pins : List (Addr × Obj)) (s : Shared) (σ : St) (H G : Hp) (Γ : Env) (Q : List D → Env → Prop), Inv X pins σ H s → Ok F G H σ Γ → p Γ Q E →
    wpAny (model X.prog X.w) X.A (evalAll ((backToKw pos (keywordEach kws X.env)).map (·.2))) (AP X pins σ (FinA F G σ Q)) X.xe s
variable {a o : Expr} {es : List Expr} {kws : List Keyword} {ks : List Str} {pa : QE} {pr : QA} {ph : QH} {pos p0 apos kpos : Pos} {nm : Option Str}
theorem lk_nil : LK X F E [] qNil := ⟨fun _ _ _ _ H G Γ Q I k h => wpAny_evalAll_nil ⟨[], H, I, .nil, [], Γ, G, h, Inc.refl G, k, rfl⟩⟩
theorem lk_cons (ha : LE X F E a pa) (hr : LK X F E kws pr) : LK X F E (⟨nm, a, kpos⟩ :: kws) (qCons pa pr) := by
  refine ⟨fun pos pins s σ H G Γ Q I k h => ?_⟩
  show wpAny _ _ (evalAll ((do let v ← eval a X.env; standAt pos; pure v) :: (backToKw pos (keywordEach kws X.env)).map (·.2))) _ _ s
  refine wpAny_evalAll_cons (wpAny_bind (thn (ha.run pins s σ H G Γ _ I k h) fun u s1 ⟨x, H1, I1, r1, d, Γ1, G1, q1, i1, k1, rp1⟩ => wpAny_bind (wpAny_standAt (wpAny_pure ?_))))
  exact thn (hr.run pos pins s1 σ H1 G1 Γ1 _ I1 k1 q1) fun us s2 ⟨xs, H2, I2, r2, ds, Γ2, G2, q2, i2, k2, rp2⟩ => ⟨x :: xs, H2, I2, .cons r1 r2, d :: ds, Γ2, G2, q2, i1.trans i2, k2, x, xs, rfl, rp1.inc i2, rp2⟩
structure LC (X : Cx) (F : Fx) (E : XP) (args : List Expr) (kws : List Keyword) (ks : List Str) (p : QH) : Prop where
  run : ∀ (pos : Pos) (f : Value) (first : List Value) (pins : List (Addr × Obj)) (s : Shared) (σ : St) (H G : Hp) (Γ : Env) (Q : List Hd → Env → Prop) (R : Value → Shared → Prop), PySem.W.keepIn X.K f = true → Inv X pins σ H s → Ok F G H σ Γ → p Γ Q E →
    (∀ us ws vs zs s' H' hs Γ' G', Inv X pins σ H' s' → Vals vs us → Vals zs ws → zs.length = ks.length → Q hs Γ' → Inc G G' → Ok F G' H' σ Γ' → HdsOk F G' σ hs (vs ++ zs) → wpAny (model X.prog X.w) X.A (call f (first ++ us) (ks.zip ws)) R X.xe s') →
    wpAny (model X.prog X.w) X.A (callWith pos f first (backTo pos (starEach args X.env)) (backToKw pos (keywordEach kws X.env))) R X.xe s
def qHK (ph : QH) (pk : QA) : QH := fun Γ Q E => ph Γ (fun hs Γ1 => pk Γ1 (fun ds Γ2 => Q (hs ++ ds.map Hd.val) Γ2) E) E
theorem hds_vals {G : Hp} {σ : St} : ∀ {ds : List D} {vs : List V}, Reps F.toCf G ds vs → HdsOk F G σ (ds.map Hd.val) vs
  | [], _, h => h
  | _ :: _, _, h => by
    obtain ⟨v, r, rfl, a, b⟩ := h
    exact ⟨v, r, rfl, a, hds_vals b⟩
theorem hds_inc {G G' : Hp} {σ : St} (i : Inc G G') : ∀ {hs : List Hd} {vs : List V}, HdsOk F G σ hs vs → HdsOk F G' σ hs vs
  | [], _, h => h
  | _ :: _, _, h => by
    obtain ⟨v, r, rfl, a, b⟩ := h
    exact ⟨v, r, rfl, a.inc i, hds_inc i b⟩
theorem hds_app {G : Hp} {σ : St} : ∀ {hs gs : List Hd} {vs zs : List V}, HdsOk F G σ hs vs → HdsOk F G σ gs zs → HdsOk F G σ (hs ++ gs) (vs ++ zs)
  | [], _, _, _, h, k => by cases (show _ = [] from h); exact k
  | _ :: _, _, _, _, h, k => by
    obtain ⟨v, r, rfl, a, b⟩ := h
    exact ⟨v, _, rfl, a, hds_app b k⟩
theorem lc_0 : LC X F E [] [] [] qhNil := ⟨fun pos f first pins s σ H G Γ Q R hk I k h c => by
  refine PySem.W.callWith_K0 I.kIn hk (c [] [] [] [] s H [] Γ G I .nil .nil rfl h (Inc.refl G) k rfl)⟩
theorem lc_p (ha : LH X F E (a :: es) ph) (he : starEach (a :: es) X.env = (false, eval a X.env) :: starEach es X.env := by rfl) (hpl : ∀ pos, (backTo pos (starEach es X.env)).any (·.1) = false := by intro _; rfl) : LC X F E (a :: es) [] [] ph := ⟨fun pos f first pins s σ H G Γ Q R hk I k h c => by
  refine PySem.W.callWith_K (h₀ := X.base) I.ok.mod.kin hk (thn (ha.run pos pins s σ H G Γ _ I k h) fun us s1 ⟨vs, H1, I1, r, hs, Γ1, G1, q1, i1, k1, hh⟩ => ⟨I1.kIn, ?_⟩) he (hpl pos)
  exact c us [] vs [] s1 H1 hs Γ1 G1 I1 r .nil rfl q1 i1 k1 (by rw [List.append_nil]; exact hh)⟩
theorem lc_k (hr : LK X F E kws pr) (hall : ∀ pos, (backToKw pos (keywordEach kws X.env)).all (·.1.isSome) = true := by intro _; rfl) (hks : ∀ pos, (backToKw pos (keywordEach kws X.env)).filterMap (·.1) = ks := by intro _; rfl)
    (hpl : ∀ pos, ((backTo pos (starEach [] X.env)).any (·.1) || (backToKw pos (keywordEach kws X.env)).any (·.1.isNone)) = false := by intro _; rfl) (hn : ∀ Γ Q E, pr Γ Q E → pr Γ (fun ds Γ' => ds.length = ks.length ∧ Q ds Γ') E) : LC X F E [] kws ks (qHK qhNil pr) := ⟨fun pos f first pins s σ H G Γ Q R hk I k h c => by
  refine PySem.W.callWith_KW0 (h₀ := X.base) I.ok.mod.kin hk (hall pos) ?_ (hpl pos)
  refine thn (hr.run pos pins s σ H G Γ _ I k (hn _ _ _ h)) fun ws s1 ⟨zs, H1, I1, r, ds, Γ1, G1, ⟨l, q1⟩, i1, k1, rp⟩ => ⟨I1.kIn, ?_⟩
  rw [hks pos]
  exact c [] ws [] zs s1 H1 _ Γ1 G1 I1 .nil r (by rw [rp.len, l]) q1 i1 k1 (hds_vals rp)⟩
theorem lc_pk (ha : LH X F E (a :: es) ph) (hr : LK X F E kws pr) (he : starEach (a :: es) X.env = (false, eval a X.env) :: starEach es X.env := by rfl) (hall : ∀ pos, (backToKw pos (keywordEach kws X.env)).all (·.1.isSome) = true := by intro _; rfl) (hks : ∀ pos, (backToKw pos (keywordEach kws X.env)).filterMap (·.1) = ks := by intro _; rfl)
    (hpl : ∀ pos, ((backTo pos (starEach (a :: es) X.env)).any (·.1) || (backToKw pos (keywordEach kws X.env)).any (·.1.isNone)) = false := by intro _; rfl) (hn : ∀ Γ Q E, pr Γ Q E → pr Γ (fun ds Γ' => ds.length = ks.length ∧ Q ds Γ') E) : LC X F E (a :: es) kws ks (qHK ph pr) := ⟨fun pos f first pins s σ H G Γ Q R hk I k h c => by
  refine PySem.W.callWith_KW (h₀ := X.base) I.ok.mod.kin hk (hall pos) (thn (ha.run pos pins s σ H G Γ _ I k h) fun us s1 ⟨vs, H1, I1, r1, hs, Γ1, G1, q1, i1, k1, hh⟩ => ?_) (hpl pos) he
  refine thn (hr.run pos pins s1 σ H1 G1 Γ1 _ I1 k1 (hn _ _ _ q1)) fun ws s2 ⟨zs, H2, I2, r, ds, Γ2, G2, ⟨l, q2⟩, i2, k2, rp⟩ => ⟨I2.kIn, ?_⟩
  rw [hks pos]
  exact c us ws vs zs s2 H2 _ Γ2 G2 I2 r1 r (by rw [rp.len, l]) q2 (i1.trans i2) k2 (hds_app (hds_inc i2 hh) (hds_vals rp))⟩
theorem hds_len {G : Hp} {σ : St} : ∀ {hs : List Hd} {vs : List V}, HdsOk F G σ hs vs → vs.length = hs.length
  | [], _, h => by cases (show _ = [] from h); rfl
  | _ :: _, _, h => by
    obtain ⟨v, r, rfl, a, b⟩ := h
    rw [List.length_cons, List.length_cons, hds_len b]
theorem argsOf_len {Γ : Env} : ∀ {hs : List Hd}, (argsOf Γ hs).length = hs.length
  | [] => rfl
  | h :: hs => by
    show (h.arg Γ :: argsOf Γ hs).length = _
    rw [List.length_cons, List.length_cons, argsOf_len]
/-- the contract at the caller, its length -/
theorem call_len {c : Ct} {hs : List Hd} {Γ : Env} {n : Nat} {Q : D → Env → Prop} (hl : ∀ args Q E, c args Q E → args.length = n)
    (h : match ndb (ixs hs) && hmut Γ hs with
      | true => c (argsOf Γ hs) (fun d outs => Q (unfr d) (updS Γ hs outs)) (fun x outs => E x (updS Γ hs outs))
      | false => False) : hs.length = n := by
  split at h
  · rw [← argsOf_len (Γ := Γ)]; exact hl _ _ _ h
  · exact h.elim
theorem back_call {pins : List (Addr × Obj)} {σ : St} {Q : VK} {f : Value} {us : List Value} {kw : List (Str × Value)} {s : Shared} (h : codeAny (model X.prog X.w) A (.call f ⟨us, kw⟩) (Back X pins σ Q) s) : wpAny (model X.prog X.w) A (call f us kw) (EP X pins σ Q) X.xe s := wpAny_call (codeAny_mono h fun r s' hq => by
  cases r with
  | error e => exact hq
  | ok fl =>
    cases fl with
    | ret u => exact hq
    | next => exact False.elim hq
    | brk => exact False.elim hq
    | cont => exact False.elim hq)
theorem le_callC {c : Ct} {fa : Addr} {n : Nat} {x : Str} {args : List Expr} (C : CodeOk X X.A F.toCf fa n ks c) (hm : X.mg x = some (.ref fa)) (hk : PySem.W.keepIn X.K (.ref fa) = true) (tk : Takes X (wOf F E)) (ha : LC X F E args kws ks ph) (hg : Gl X x := by rfl)
    (hdb : (x == ("__debug__" : Str)) = false := by decide) : LE X F E (.Call (.Name x p0) args kws pos) (qCall c ph) := by
  refine ⟨fun pins s σ H G Γ Q I k h => ?_⟩
  refine wpAny_Call_Name_kw (ld_glob I hg hm ?_ hdb)
  refine ha.run pos _ [] pins s σ H G Γ _ _ hk I k h fun us ws vs zs s' H' hs Γ' G' I' r rz l q i k' hh => ?_
  have hl := call_len C.len q
  have hv := hds_len hh
  rw [List.length_append] at hv
  exact thn (back_call (C.run pins s' σ H' vs us zs ws _ _ tk I' r rz (by omega) l (sp_call k' hh q))) fun u s2 z => ep_inc i z
/-! ### methods -/
abbrev QR := Env → (Hd → Env → Prop) → XP → Prop
structure LR (X : Cx) (F : Fx) (E : XP) (o : Expr) (c : Cn) (m : Str) (p : QR) : Prop where
  run : ∀ (pins : List (Addr × Obj)) (s : Shared) (σ : St) (H G : Hp) (Γ : Env) (Q : Hd → Env → Prop), Inv X pins σ H s → Ok F G H σ Γ → p Γ Q E →
    wpAny (model X.prog X.w) X.A (eval o X.env) (fun u s' => ∃ a H', Inv X pins σ H' s' ∧ u = .ref a ∧ ∃ hd Γ' G', Q hd Γ' ∧ Inc G G' ∧ Ok F G' H' σ Γ' ∧ HdOk F G' σ hd (.ref a) ∧ ∃ dx fs, H' a = some (.ins (F.cl c) dx fs) ∧ fs.lookup m = none) X.xe s
def isC (c : Cn) : D → Bool
  | .rat _ => Nat.beq Cn.ratio.ix c.ix
  | .ins c' _ => Nat.beq c'.ix c.ix
  | _ => false
def qrVal (c : Cn) (pa : QE) : QR := fun Γ Q E => pa Γ (fun d Γ1 => match isC c d with
  | true => Q (.val d) Γ1
  | false => False) E
theorem zip_no {N : List Str} {vs : List V} {m : Str} (h : m ∉ N) : (N.zip vs).lookup m = none := by
  induction N generalizing vs with
  | nil => simp
  | cons n N ih =>
    cases vs with
    | nil => simp
    | cons v vs =>
      have h1 : (m == n) = false := by rw [beq_eq_false_iff_ne]; exact fun e => h (e ▸ List.mem_cons_self)
      rw [List.zip_cons_cons]
      simp only [List.lookup, h1]
      exact ih fun z => h (List.mem_cons_of_mem _ z)
theorem isC_at {c : Cn} {d : D} {G H : Hp} {v : V} {m : Str} (hm : m ∉ c.fields) (s : Sub G H) (hc : isC c d = true) (r : Rep Fc G d v) : ∃ a dx fs, v = .ref a ∧ H a = some (.ins (Fc.cl c) dx fs) ∧ fs.lookup m = none := by
  cases d with
  | rat q =>
    have e := ix_inj hc
    subst e
    obtain ⟨a, dx, rfl, g⟩ := r
    refine ⟨a, dx, _, rfl, s.i g, ?_⟩
    exact zip_no (N := Cn.ratio.fields) (vs := [.int q.num, .int (q.den : Int)]) hm
  | ins c' ds =>
    have e := ix_inj hc
    subst e
    obtain ⟨a, dx, vs, rfl, g, _⟩ := r
    exact ⟨a, dx, _, rfl, s.i g, zip_no hm⟩
  | _ => cases hc
theorem lr_val {c : Cn} {m : Str} (ha : LE X F E o pa) (hm : m ∉ c.fields := by decide +kernel) : LR X F E o c m (qrVal c pa) := ⟨fun pins s σ H G Γ Q I k h =>
  thn (ha.run pins s σ H G Γ _ I k h) fun u s1 ⟨x, H1, I1, r1, d, Γ1, G1, q1, i1, k1, rp1⟩ => by
    dsimp only at q1
    split at q1
    · rename_i hc
      obtain ⟨a, dx, fs, rfl, e1, e2⟩ := isC_at (Fc := F.toCf) hm k1.sub hc rp1
      exact ⟨a, H1, I1, r1, .val d, Γ1, G1, q1, i1, k1, rp1, dx, fs, e1, e2⟩
    · exact q1.elim⟩
def qrSlot (j : Nat) (c : Cn) : QR := fun Γ Q _ => match insM Γ j c with
  | some _ => Q (.slot j) Γ
  | none => False
theorem lr_slot (j : Nat) {c : Cn} {m x : Str} {px : Pos} (hm : m ∉ c.fields := by decide +kernel) (hN : X.N[j]? = some x := by rfl) (hv : Vis X.env.scope x := by first | exact Or.inl rfl | exact Or.inr (Or.inl rfl) | exact Or.inr (Or.inr rfl)) (hd : (x == ("__debug__" : Str)) = false := by decide)
    (hcd : (x == ("__classdict__" : Str)) = false := by decide) : LR X F E (.Name x px) c m (qrSlot j c) := ⟨fun pins s σ H G Γ Q I k h => by
  unfold qrSlot at h
  split at h
  · rename_i ds e
    obtain ⟨a, dx, vs, s0, ea, hp, rs, _, _⟩ := insAt k e
    exact thn ((pe_var (X := X) (i := j) hN hv hd hcd).run pins s σ H (fun v H' => v = .ref a ∧ H' = H) I ⟨.ref a, ea, rfl, rfl⟩) fun u s1 ⟨x, H1, I1, r1, e1, e2⟩ => by
      subst e1
      subst e2
      exact ⟨a, H1, I1, r1, .slot j, Γ, G, h, Inc.refl G, k, ea, dx, _, hp, zip_no hm⟩
  · exact h.elim⟩
def qMeth (c : Ct) (pr : QR) (p : QH) : QE := fun Γ Q E => pr Γ (fun h Γ0 => p Γ0 (fun hs Γ1 => match ndb (ixs (h :: hs)) && hmut Γ1 (h :: hs) with
  | true => c (argsOf Γ1 (h :: hs)) (fun d outs => Q (unfr d) (updS Γ1 (h :: hs) outs)) (fun x outs => E x (updS Γ1 (h :: hs) outs))
  | false => False) E) E
theorem le_methC {c : Ct} {cn : Cn} {m : Str} {fa : Addr} {n : Nat} {args : List Expr} {pr : QR} {pl : Sem Bool} (C : CodeOk X X.A F.toCf fa (n + 1) ks c) (hK : F.K = X.K) (T : Kl F.toCf cn) (hm : Meth F.K (F.cl cn) m fa) (tk : Takes X (wOf F E)) (ho : LR X F E o cn m pr) (ha : LC X F E args kws ks ph)
    (ht : eval (.Call (.Attribute o m apos) args kws pos) X.env = (do
      let ov ← eval o X.env
      standAt apos.atName
      let (f, first) ← holding [ov] (getMethod ov m pl)
      callWith pos f first (backTo pos (starEach args X.env)) (backToKw pos (keywordEach kws X.env))) := by rfl) : LE X F E (.Call (.Attribute o m apos) args kws pos) (qMeth c pr ph) := by
  refine ⟨fun pins s σ H G Γ Q I k h => ?_⟩
  refine PySem.W.methodCall_KW (pl := pl) (thn (ho.run pins s σ H G Γ _ I k h) fun u s1 ⟨b, H1, I1, eu, hd, Γ1, G1, q1, i1, k1, ho1, dx, fs, e1, e2⟩ => ?_) ht
  subst eu
  refine getmeth_ok I1 e1 (hK ▸ T.cls) (hK ▸ hm) e2 ?_
  refine ha.run pos _ [.ref b] pins s1 σ H1 G1 Γ1 _ _ (by rw [← hK]; exact hm.kp) I1 k1 q1 fun us ws vs zs s' H' hs Γ' G' I' r rz l q i k' hh => ?_
  have hl := call_len (hs := hd :: hs) C.len q
  have hv := hds_len hh
  rw [List.length_append] at hv
  rw [List.length_cons] at hl
  have hh' : HdsOk F G' σ (hd :: hs) ((.ref b :: vs) ++ zs) := ⟨.ref b, vs ++ zs, rfl, ho1.inc i, hh⟩
  exact thn (back_call (C.run pins s' σ H' (.ref b :: vs) (.ref b :: us) zs ws _ _ tk I' (.cons rfl r) rz (by rw [List.length_cons]; omega) l (sp_call k' hh' q))) fun u s2 z => ep_inc (i1.trans i) z
end
end Q

set_option Elab.async false
set_option linter.all false
set_option maxRecDepth 100000
set_option maxHeartbeats 4000000
/-! a != b by an own __eq__ -/
namespace PySem.W
open PySem PySem.Calls PyProof.Rows
section
variable {prog : Program} {w : World} {A : Around} {E : Value → Shared → Prop} {s : Shared} {K : Frag} {x C f : Addr} {b tb : Value} {ox : Obj} {od : Option Obj} {L : Addr} {h₀ : Heap} {m : Str → Option Value}
theorem q_objNe {Q : Fin → Shared → Prop} (hu : A.units < cLine) (X : K.In s.heap) (I : InstAt s.heap x ox C od) (hs : findIn K (.ref C) "__eq__" = some (some (.ref f))) (hf : isFn K (.ref f) = true)
    (h : wpAny (model prog w) A (call (.ref f) [.ref x, b]) (fun r s' => ∃ c, r = .bool c ∧ Q (.done (.ret (.bool (!c)))) s') E s) : wpAny (model prog w) A (Builtin.«object.__ne__» ⟨[.ref x, b], []⟩) Q E s := by
  obtain ⟨hh, g, d, t, os⟩ := s
  unfold Builtin.«object.__ne__»
  repeat (first
    | with_reducible refine wpAny_cRoomFor hu ?_
    | (refine wpAny_bind (m := callSpecialIfBound? (.ref x) (Str.ofString "__eq__") [b])
        (ifBound_K X I hs hf (wpAny_mono h (fun r s' hr => by
          obtain ⟨b, rfl, hq⟩ := hr
          repeat (first | exact hq | exact wpAny_pure hq | exact wpAny_truthy_bool hq | (refine wpAny_bind (m := truthy (.bool _)) (wpAny_truthy_bool ?_)) | wp_step)) fun _ _ e => e)))
    | wp_step)
theorem q_ne_K {Q : Value → Shared → Prop} (hu : A.units + 1 < cLine) (F : Fr h₀ L s.heap m) (X₀ : K.In h₀) (I : InstAt s.heap x ox C od) (hb : Looks (model prog w) s.heap (typeOf b) tb) (hn : notFirst K C tb = true)
    (hne : findIn K (.ref C) "__ne__" = some (some (.builtin "object.__ne__"))) (hob : mroIn K C (.type "object") = some true) (hs : findIn K (.ref C) "__eq__" = some (some (.ref f))) (hf : isFn K (.ref f) = true)
    (h : wpAny (model prog w) A.in1 (call (.ref f) [.ref x, b]) (fun r s' => ∃ c, r = .bool c ∧ Q (.bool (!c)) s') E s) : wpAny (model prog w) A (richCompare .NotEq (.ref x) b) Q E s := by
  have X := X₀.keeps F.keep
  have hu0 : A.units < cLine := Nat.lt_of_succ_lt hu
  have Ls : Looks (model prog w) s.heap (isInstance (.ref x) (.type "object")) true := I.type.andThen (looks_mroIn X hob)
  have fin : ∀ {R : Option Value → Shared → Prop}, (∀ c s', Q (.bool (!c)) s' → R (some (.bool (!c))) s') → wpAny (model prog w) A (call (.builtin "object.__ne__") ([.ref x] ++ [b]) >>= fun v => pure (some v)) R E s := fun hR =>
    wpAny_bind (wpAny_call (codeAny_call_builtin PySem.F.cmp_object.ne.plain PySem.F.cmpEntry_ne (check_slot PySem.F.cmpKind_ne PySem.F.cmpSplit_ne Ls (PySem.F.cmpArgs_ne _ _)
      (q_objNe (A := A.in1) hu X I hs hf (wpAny_mono h (fun v s' ⟨c, e, q⟩ => ⟨c, e, wpAny_pure (hR c s' q)⟩) fun _ _ e => e)))))
  have one : wpAny (model prog w) A (tryCompare (.ref x) "__ne__" b) (fun r s' => ∃ v, r = some v ∧ Q v s') E s := by
    unfold tryCompare
    refine wpAny_bind ?_
    simp only [callSpecialIfBound?, bindSpecialIfBound?]
    refine wpAny_holding (wpAny_bind (wpAny_bind (wpAny_bind (I.type.here ((looks_findIn X hne).here ?_)))))
    refine wpAny_bind (wpAny_askSetting (wpAny_ite ?_))
    have hbd := PySem.F.cmp_object.ne.bind (.ref x)
    split
    · rw [hbd]
      exact wpAny_bind (wpAny_pure (wpAny_pure (fin fun c s' q => wpAny_pure ⟨_, rfl, q⟩)))
    · rw [hbd]
      exact wpAny_tryCatch (wpAny_bind (wpAny_pure (wpAny_pure (fin fun c s' q => wpAny_pure ⟨_, rfl, q⟩))))
  unfold richCompare
  simp only [oneThing_ref]
  refine wpAny_holding (wpAny_bind (wpAny_cRoomFor hu0 ?_))
  refine wpAny_bind (I.type.here (wpAny_bind (hb.here ?_)))
  split
  · rename_i q
    have e : subIn K tb (.ref C) = some false := by
      rcases Bool.or_eq_true_iff.mp hn with e | e
      · rw [beq_iff_eq.mp e] at q; simp at q
      · exact beq_iff_eq.mp e
    refine wpAny_bind ((looks_subIn X e).here ?_)
    simp only [Bool.false_eq_true, if_false]
    refine wpAny_bind (wpAny_mono one (fun r s' z => ?_) fun _ _ e => e)
    obtain ⟨v, rfl, hq⟩ := z
    exact wpAny_pure hq
  · refine wpAny_bind (wpAny_pure ?_)
    simp only [Bool.false_eq_true, if_false]
    refine wpAny_bind (wpAny_mono one (fun r s' z => ?_) fun _ _ e => e)
    obtain ⟨v, rfl, hq⟩ := z
    exact wpAny_pure hq
end
end PySem.W

set_option Elab.async false
set_option linter.all false
set_option maxRecDepth 100000
set_option maxHeartbeats 4000000
namespace Q
open PySem L2 PySem.Spec PyProof.Rows
open SlX (SIsi cmpback)
/-! ## 9. Types of data; isinstance; own operators; built-ins -/
inductive TyD (F : Cf) : D → Value → Prop where
  | non : TyD F .non (.type "NoneType")
  | bl (b : Bool) : TyD F (.bl b) (.type "bool")
  | int (i : Int) : TyD F (.int i) (.type "int")
  | str (x : Str) : TyD F (.str x) (.type "str")
  | lst (xs : List D) : TyD F (.lst xs) (.type "list")
  | tup (xs : List D) : TyD F (.tup xs) (.type "tuple")
  | dic (xs : List (Key × D)) : TyD F (.dic xs) (.type "dict")
  | own {d : D} {c : Cn} (h : isC c d = true) (k : Cls F.K (F.cl c)) (i : SIsi F.K (F.cl c)) : TyD F d (.ref (F.cl c))
theorem isC_of {F : Cf} {G H : Hp} {c : Cn} {d : D} {v : V} (s : Sub G H) (hc : isC c d = true) (r : Rep F G d v) : ∃ a dx fs, v = .ref a ∧ H a = some (.ins (F.cl c) dx fs) := by
  cases d with
  | rat q => have e := ix_inj hc; subst e; obtain ⟨a, dx, rfl, g⟩ := r; exact ⟨a, dx, _, rfl, s.i g⟩
  | ins c' ds => have e := ix_inj hc; subst e; obtain ⟨a, dx, vs, rfl, g, _⟩ := r; exact ⟨a, dx, _, rfl, s.i g⟩
  | _ => cases hc
theorem TyD.x {F : Cf} {G H : Hp} {d : D} {t : Value} {v : V} (s : Sub G H) (ty : TyD F d t) (r : Rep F G d v) : TyX F.K H v t := by
  cases ty with
  | non => cases (show v = .non from r); exact .base .non
  | bl b => cases (show v = .bl b from r); exact .base (.bl b)
  | int b => cases (show v = .int b from r); exact .base (.int b)
  | str b => cases (show v = .str b from r); exact .base (.str b)
  | lst xs => obtain ⟨a, vs, rfl, g, _⟩ := r; exact .base (.lst (s.m g))
  | tup xs =>
    obtain ⟨a, vs, rfl, g, _⟩ := r
    rcases s.t g with (h | ⟨o, h⟩) | ⟨o, its, n, hk, hc, _⟩
    · exact .base (.tup h)
    · exact .fTuple h
    · exact .kTuple hk hc
  | dic xs =>
    obtain ⟨a, vs, rfl, g, _⟩ := r
    rcases s _ _ g with h | ⟨_, o, h⟩
    · exact .base (.dK h)
    · exact .fDict h
  | own h k i =>
    obtain ⟨a, dx, fs, rfl, e⟩ := isC_of s h r
    exact .base (.ins e k i.ca i.cn i.ct i.cm)
section
variable {X : Cx} {F : Fx} {E : XP} {a b o : Expr} {es : List Expr} {pa pb : QE} {pr : QA} {pos p0 : Pos}
theorem looks_ty {pins : List (Addr × Obj)} {σ : St} {G H : Hp} {s : Shared} {Γ : Env} {d : D} {t : Value} {v : V} {u : Value} (hK : F.K = X.K) (I : Inv X pins σ H s) (k : Ok F G H σ Γ) (ty : TyD F.toCf d t) (r : Rep F.toCf G d v) (ru : RelV v u) (M : Model) : PySem.W.Looks M s.heap (typeOf u) t := by
  obtain ⟨P, Z, p, _⟩ := kit_of I ru (hK ▸ ty.x k.sub r)
  exact Z.ty M s.heap I.kIn p
/-! ### isinstance -/
structure IsaT where
  non : Bool := false
  bl : Bool := false
  int : Bool := false
  str : Bool := false
  lst : Bool := false
  tup : Bool := false
  dic : Bool := false
  own : List (Cn × Bool) := []
def lookC : List (Cn × Bool) → Cn → Option Bool
  | [], _ => none
  | (c, b) :: r, x => match Nat.beq c.ix x.ix with
    | true => some b
    | false => lookC r x
def IsaT.ans (t : IsaT) : D → Option Bool
  | .non => some t.non
  | .bl _ => some t.bl
  | .int _ => some t.int
  | .str _ => some t.str
  | .lst _ => some t.lst
  | .tup _ => some t.tup
  | .dic _ => some t.dic
  | .rat _ => lookC t.own .ratio
  | .ins c _ => lookC t.own c
  | _ => none
structure IsaOk (F : Cf) (us : List Value) (t : IsaT) : Prop where
  non : PySem.W.kitAny F.K (.type "NoneType") us = some t.non
  bl : PySem.W.kitAny F.K (.type "bool") us = some t.bl
  int : PySem.W.kitAny F.K (.type "int") us = some t.int
  str : PySem.W.kitAny F.K (.type "str") us = some t.str
  lst : PySem.W.kitAny F.K (.type "list") us = some t.lst
  tup : PySem.W.kitAny F.K (.type "tuple") us = some t.tup
  dic : PySem.W.kitAny F.K (.type "dict") us = some t.dic
  own : ∀ p ∈ t.own, PySem.W.kitAny F.K (.ref (F.cl p.1)) us = some p.2 ∧ Cls F.K (F.cl p.1) ∧ SIsi F.K (F.cl p.1)
theorem lookC_mem : ∀ {l : List (Cn × Bool)} {x : Cn} {b : Bool}, lookC l x = some b → (x, b) ∈ l
  | [], _, _, h => by cases h
  | (c, b) :: r, x, b', h => by
    unfold lookC at h
    split at h
    · rename_i e
      cases h
      rw [ix_inj e]
      exact List.mem_cons_self
    · exact List.mem_cons_of_mem _ (lookC_mem h)
theorem beq_ix (c : Cn) : Nat.beq c.ix c.ix = true := Nat.beq_refl _
theorem IsaOk.get {Fc : Cf} {us : List Value} {t : IsaT} (h : IsaOk Fc us t) {d : D} {b : Bool} (e : t.ans d = some b) : ∃ ty, TyD Fc d ty ∧ PySem.W.kitAny Fc.K ty us = some b := by
  cases d with
  | non => cases e; exact ⟨_, .non, h.non⟩
  | bl x => cases e; exact ⟨_, .bl x, h.bl⟩
  | int x => cases e; exact ⟨_, .int x, h.int⟩
  | str x => cases e; exact ⟨_, .str x, h.str⟩
  | lst x => cases e; exact ⟨_, .lst x, h.lst⟩
  | tup x => cases e; exact ⟨_, .tup x, h.tup⟩
  | dic x => cases e; exact ⟨_, .dic x, h.dic⟩
  | rat q => obtain ⟨a, b, c⟩ := h.own _ (lookC_mem e); exact ⟨_, .own (beq_ix _) b c, a⟩
  | ins c x => obtain ⟨a, b, c⟩ := h.own _ (lookC_mem e); exact ⟨_, .own (beq_ix _) b c, a⟩
  | _ => cases e
def oIsa (t : IsaT) : O1 := fun d Γ Q _ => match t.ans d with
  | some b => Q (.bl b) Γ
  | none => False
theorem kitAny_one {K : PySem.W.Frag} {t c : Value} {b : Bool} (h : PySem.W.kitAny K t [c] = some b) : PySem.W.kitOne K t c = some b := by
  unfold PySem.W.kitAny at h
  split at h
  · rename_i e; cases h; exact e
  · rename_i e; cases h; exact e
  · cases h
/-- isinstance(a, c), c a class -/
theorem le_isi {ce : Expr} {cv : V} {cu : Value} {t : IsaT} (T : IsaOk F.toCf [cu] t) (hK : F.K = X.K) (hc : PE X ce (tC cv)) (hcv : ClsV cv cu) (ha : LE X F E a pa) (hm : X.mg "isinstance" = none) (hg : Gl X "isinstance" := by rfl)
    (hv : bootBuiltins "isinstance" = some (.builtin "isinstance") := by rfl) (he : starEach [a, ce] X.env = (false, eval a X.env) :: starEach [ce] X.env := by rfl) (he2 : starEach [ce] X.env = (false, eval ce X.env) :: starEach [] X.env := by rfl) (hpl : (backTo pos (starEach [ce] X.env)).any (·.1) = false := by rfl) :
    LE X F E (.Call (.Name "isinstance" p0) [a, ce] [] pos) (qUn (oIsa t) pa) :=
  LE.of (pe_callB (call_isi (X := X)) hg hm hv (pa_cons ha.pe (pa_cons hc pa_nil he2) he) (by decide) (by decide) he hpl) fun σ H G Γ Q k q => ⟨G, Γ, _, k, q, fun w H' ⟨d, Γ', G', q', i, k', r⟩ => by
    dsimp only [oIsa] at q'
    split at q'
    · rename_i b e
      obtain ⟨ty, h1, h2⟩ := T.get e
      exact ⟨w, cv, ty, cu, b, rfl, hcv, hK ▸ h1.x k'.sub r, by rw [← hK]; exact kitAny_one h2, fin_inc i (fin0 k' q' rfl)⟩
    · exact q'.elim⟩
/-- isinstance(a, (c1, c2)) -/
theorem le_isiT {ts : List Expr} {x1 pt} {cs : List V} {us : List Value} {t : IsaT} (T : IsaOk F.toCf us t) (hK : F.K = X.K) (hc : PA X ts (fun _ H Q => Q cs H)) (hl : cs.length ≤ sizeLine) (hcv : Paired ClsV cs us) (ha : LE X F E a pa) (hm : X.mg "isinstance" = none) (hg : Gl X "isinstance" := by rfl)
    (hv : bootBuiltins "isinstance" = some (.builtin "isinstance") := by rfl) (he : starEach [a, .Tuple ts x1 pt] X.env = (false, eval a X.env) :: starEach [.Tuple ts x1 pt] X.env := by rfl) (he2 : starEach [.Tuple ts x1 pt] X.env = (false, eval (.Tuple ts x1 pt) X.env) :: starEach [] X.env := by rfl) (hpl : (backTo pos (starEach [.Tuple ts x1 pt] X.env)).any (·.1) = false := by rfl) :
    LE X F E (.Call (.Name "isinstance" p0) [a, .Tuple ts x1 pt] [] pos) (qUn (oIsa t) pa) :=
  LE.of (pe_callB (call_isiT (X := X)) hg hm hv (pa_cons ha.pe (pa_cons (pe_tup hc) pa_nil he2) he) (by decide) (by decide) he hpl) fun σ H G Γ Q k q => ⟨G, Γ, _, k, q, fun w H' ⟨d, Γ', G', q', i, k', r⟩ => by
    dsimp only [oIsa] at q'
    split at q'
    · rename_i b e
      obtain ⟨ty, h1, h2⟩ := T.get e
      refine ⟨hl, fun p hp => ⟨w, p, cs, ty, us, b, rfl, upd_same, hcv, hK ▸ h1.x (k'.new0 hp (.tup cs)).sub r, by rw [← hK]; exact h2, fin_inc i (fin0 (k'.new0 hp _) q' rfl)⟩⟩
    · exact q'.elim⟩
/-! ### own operators -/
theorem updS_vals {Γ : Env} : ∀ {ds : List D} {outs : List Slot}, updS Γ (ds.map Hd.val) outs = Γ
  | [], outs => by cases outs <;> rfl
  | _ :: _, [] => rfl
  | d :: ds, _ :: outs => updS_vals (ds := ds) (outs := outs)
theorem argsOf_vals {Γ : Env} : ∀ {ds : List D}, argsOf Γ (ds.map Hd.val) = ds.map Slot.val
  | [] => rfl
  | d :: ds => congrArg (Slot.val d :: ·) argsOf_vals
theorem ixs_vals : ∀ {ds : List D}, ixs (ds.map Hd.val) = []
  | [] => rfl
  | d :: ds => ixs_vals (ds := ds)
theorem hmut_vals {Γ : Env} : ∀ {ds : List D}, hmut Γ (ds.map Hd.val) = true
  | [] => rfl
  | d :: ds => hmut_vals (ds := ds)
theorem sp_vals {c : Ct} {ds : List D} {vs : List V} {Γ : Env} {σ : St} {G H : Hp} {Q : D → Env → Prop} (k : Ok F G H σ Γ) (r : Reps F.toCf G ds vs) (h : c (ds.map Slot.val) (fun r _ => Q (unfr r) Γ) (fun x _ => E x Γ)) : spC F.toCf c vs H (Fin F G σ Q) (WE (wOf F E) σ) := by
  refine sp_call (hs := ds.map Hd.val) k (hds_vals r) ?_
  rw [ixs_vals, hmut_vals, argsOf_vals]
  simp only [updS_vals]
  exact h
/-- a def of two data runs below the running body -/
theorem run2 {c : Ct} {A : Around} {f : Addr} {pins : List (Addr × Obj)} {s : Shared} {σ : St} {G H : Hp} {Γ : Env} {x y : V} {v u : Value} {d e : D} {Q : D → Env → Prop} (C : CodeOk X A F.toCf f 2 [] c) (tk : Takes X (wOf F E)) (I : Inv X pins σ H s) (k : Ok F G H σ Γ) (rv : RelV x v) (ru : RelV y u) (rx : Rep F.toCf G d x) (ry : Rep F.toCf G e y)
    (h : c [.val d, .val e] (fun r _ => Q (unfr r) Γ) (fun x _ => E x Γ)) : wpAny (model X.prog X.w) A (call (.ref f) [v, u]) (EP X pins σ (Fin F G σ Q)) X.xe s :=
  back_call (C.run pins s σ H [x, y] [v, u] [] [] _ _ tk I (.cons rv (.cons ru .nil)) .nil rfl rfl (sp_vals (ds := [d, e]) k ⟨x, [y], rfl, rx, y, [], rfl, ry, rfl⟩ h))
theorem run1 {c : Ct} {A : Around} {f : Addr} {pins : List (Addr × Obj)} {s : Shared} {σ : St} {G H : Hp} {Γ : Env} {x : V} {v : Value} {d : D} {Q : D → Env → Prop} (C : CodeOk X A F.toCf f 1 [] c) (tk : Takes X (wOf F E)) (I : Inv X pins σ H s) (k : Ok F G H σ Γ) (rv : RelV x v) (rx : Rep F.toCf G d x)
    (h : c [.val d] (fun r _ => Q (unfr r) Γ) (fun x _ => E x Γ)) : wpAny (model X.prog X.w) A (call (.ref f) [v]) (EP X pins σ (Fin F G σ Q)) X.xe s :=
  back_call (C.run pins s σ H [x] [v] [] [] _ _ tk I (.cons rv .nil) .nil rfl rfl (sp_vals (ds := [d]) k ⟨x, [], rfl, rx, rfl⟩ h))
structure OwnOp (K : PySem.W.Frag) (C : Addr) (op : Operator) (f : Addr) : Prop where
  first : PySem.W.selfFirst K C = true
  at_ : PySem.W.findIn K (.ref C) (PySem.dunder op.info.2) = some (some (.ref f))
  fn : PySem.W.isFn K (.ref f) = true
/-- .. with a built-in on the right -/
structure OwnOpT (K : PySem.W.Frag) (C : Addr) (op : Operator) (T : String) : Prop where
  ex : ∃ fo ro rc, PySem.W.findIn K (.ref C) (dunderR op.info.2) = some rc ∧ (rc = none ∨ ∃ g : Addr, rc = some (.ref g)) ∧ PySem.W.findIn K (.type T) (PySem.dunder op.info.2) = some fo ∧ PySem.W.findIn K (.type T) (dunderR op.info.2) = some ro ∧ PySem.W.subIn K (.type T) (.ref C) = some false
def oOwn (c : Cn) (ct : Ct) : O2 := fun d e Γ Q E => match isC c d with
  | true => ct [.val d, .val e] (fun r _ => Q (unfr r) Γ) (fun x _ => E x Γ)
  | false => False
/-- the right operand: one of the same class, or an int -/
def sameOrInt (c : Cn) : D → Bool
  | .int _ => true
  | d => isC c d
def oOwnR (c : Cn) (ct : Ct) : O2 := fun d e Γ Q E => match sameOrInt c e with
  | true => oOwn c ct d e Γ Q E
  | false => False
theorem inst_of {pins : List (Addr × Obj)} {σ : St} {G H : Hp} {s : Shared} {Γ : Env} {c : Cn} {d : D} {x : V} {v : Value} (I : Inv X pins σ H s) (k : Ok F G H σ Γ) (hc : isC c d = true) (r : Rep F.toCf G d x) (rv : RelV x v) : ∃ a ox od, v = .ref a ∧ PySem.W.InstAt s.heap a ox (F.cl c) od := by
  obtain ⟨a, dx, fs, rfl, e⟩ := isC_of k.sub hc r
  cases (show v = Value.ref a from rv)
  obtain ⟨mA, O, _⟩ := ins_get I.hok e
  obtain ⟨od, J, _⟩ := O.look
  exact ⟨a, _, _, rfl, J⟩
theorem back_cmp {A : Around} {pins : List (Addr × Obj)} {σ : St} {Q : VK} {t : Sem Value} {s : Shared} (h : wpAny (model X.prog X.w) A t (EP X pins σ Q) X.xe s) : wpAny (model X.prog X.w) A t (PySem.W.CmpBack (EP X pins σ Q)) X.xe s :=
  wpAny_mono h (fun w s' z => by
    obtain ⟨z', H', I', rz, qz⟩ := z
    exact cmpback rz ⟨z', H', I', rz, qz⟩) fun _ _ x => x
theorem ol_own {c : Cn} {ct : Ct} {op : Operator} {f : Addr} (hK : F.K = X.K) (o1 : OwnOp F.K (F.cl c) op f) (o2 : OwnOpT F.K (F.cl c) op "int") (C : CodeOk X X.A F.toCf f 2 [] ct) (tk : Takes X (wOf F E)) : OpL X F E (binaryOp op) (oOwnR c ct) := by
  intro pins s σ H G Γ x y v u d e Q I k rv ru rx ry q
  unfold oOwnR at q
  split at q
  · rename_i he
    unfold oOwn at q
    split at q
    · rename_i hd
      obtain ⟨a, ox, od, rfl, J⟩ := inst_of I k hd rx rv
      obtain ⟨m, hF⟩ := I.fr
      have h := run2 C tk I k rv ru rx ry q
      have h' := back_cmp h
      by_cases hi : ∃ i, e = .int i
      · obtain ⟨i, rfl⟩ := hi
        obtain ⟨fo, ro, rc, h1, h2, h3, h4, h5⟩ := o2.ex
        cases (show y = .int i from ry)
        obtain ⟨t, rfl⟩ := (show ∃ t, u = Value.int i t from ru)
        exact PySem.W.ksp_binT hF (hK ▸ I.ok.mod.kin) J rfl o1.first o1.at_ o1.fn h1 h2 h3 h4 h5 h'
      · have he' : isC c e = true := by
          cases e with
          | int i => exact absurd ⟨i, rfl⟩ hi
          | _ => exact he
        obtain ⟨b, oy, ody, rfl, J'⟩ := inst_of I k he' ry ru
        exact PySem.W.binop_K hF (hK ▸ I.ok.mod.kin) J J'.type o1.first o1.at_ o1.fn h'
    · exact q.elim
  · exact q.elim
/-- an own operator, both of the class -/
def oOwnS (c : Cn) (ct : Ct) : O2 := fun d e Γ Q E => match isC c e with
  | true => oOwn c ct d e Γ Q E
  | false => False
theorem ol_ownS {c : Cn} {ct : Ct} {op : Operator} {f : Addr} (hK : F.K = X.K) (o1 : OwnOp F.K (F.cl c) op f) (C : CodeOk X X.A F.toCf f 2 [] ct) (tk : Takes X (wOf F E)) : OpL X F E (binaryOp op) (oOwnS c ct) := by
  intro pins s σ H G Γ x y v u d e Q I k rv ru rx ry q
  unfold oOwnS at q
  split at q
  · rename_i he
    unfold oOwn at q
    split at q
    · rename_i hd
      obtain ⟨a, ox, od, rfl, J⟩ := inst_of I k hd rx rv
      obtain ⟨m, hF⟩ := I.fr
      have h := run2 C tk I k rv ru rx ry q
      have h' := back_cmp h
      obtain ⟨b, oy, ody, rfl, J'⟩ := inst_of I k he ry ru
      exact PySem.W.binop_K hF (hK ▸ I.ok.mod.kin) J J'.type o1.first o1.at_ o1.fn h'
    · exact q.elim
  · exact q.elim
structure OwnUn (K : PySem.W.Frag) (C f : Addr) : Prop where
  at_ : PySem.W.findIn K (.ref C) "__neg__" = some (some (.ref f))
  fn : PySem.W.isFn K (.ref f) = true
def oOwn1 (c : Cn) (ct : Ct) : O1 := fun d Γ Q E => match isC c d with
  | true => ct [.val d] (fun r _ => Q (unfr r) Γ) (fun x _ => E x Γ)
  | false => False
theorem ul_own {c : Cn} {ct : Ct} {f : Addr} (hK : F.K = X.K) (o1 : OwnUn F.K (F.cl c) f) (C : CodeOk X X.A F.toCf f 1 [] ct) (tk : Takes X (wOf F E)) : UnL X F E (unaryOp .USub) (oOwn1 c ct) := by
  intro pins s σ H G Γ x v d Q I k rv rx q
  unfold oOwn1 at q
  split at q
  · rename_i hd
    obtain ⟨a, ox, od, rfl, J⟩ := inst_of I k hd rx rv
    obtain ⟨m, hF⟩ := I.fr
    exact PySem.W.ksp_neg hF (hK ▸ I.ok.mod.kin) J o1.at_ o1.fn (run1 C tk I k rv rx q)
  · exact q.elim
/-- which data may stand on the right of a comparison by an own def -/
structure CmpT where
  blt : Bool := true
  own : List Cn := []
def memC : List Cn → Cn → Bool
  | [], _ => false
  | c :: r, x => match Nat.beq c.ix x.ix with
    | true => true
    | false => memC r x
def CmpT.ok (t : CmpT) : D → Bool
  | .non => t.blt
  | .bl _ => t.blt
  | .int _ => t.blt
  | .str _ => t.blt
  | .lst _ => t.blt
  | .tup _ => t.blt
  | .dic _ => t.blt
  | .rat _ => memC t.own .ratio
  | .ins c _ => memC t.own c
  | _ => false
structure CmpOk (F : Cf) (c : Cn) (t : CmpT) : Prop where
  blt : t.blt = true → ∀ T ∈ ["NoneType", "bool", "int", "str", "list", "tuple", "dict"], PySem.W.notFirst F.K (F.cl c) (.type T) = true
  own : ∀ p ∈ t.own, PySem.W.notFirst F.K (F.cl c) (.ref (F.cl p)) = true ∧ Cls F.K (F.cl p) ∧ SIsi F.K (F.cl p)
theorem memC_mem : ∀ {l : List Cn} {x : Cn}, memC l x = true → x ∈ l
  | [], _, h => by cases h
  | c :: r, x, h => by
    unfold memC at h
    split at h
    · rename_i e
      rw [ix_inj e]
      exact List.mem_cons_self
    · exact List.mem_cons_of_mem _ (memC_mem h)
theorem CmpOk.get {Fc : Cf} {c : Cn} {t : CmpT} (h : CmpOk Fc c t) {d : D} (e : t.ok d = true) : ∃ ty, TyD Fc d ty ∧ PySem.W.notFirst Fc.K (Fc.cl c) ty = true := by
  cases d with
  | non => exact ⟨_, .non, h.blt e _ (by simp)⟩
  | bl x => exact ⟨_, .bl x, h.blt e _ (by simp)⟩
  | int x => exact ⟨_, .int x, h.blt e _ (by simp)⟩
  | str x => exact ⟨_, .str x, h.blt e _ (by simp)⟩
  | lst x => exact ⟨_, .lst x, h.blt e _ (by simp)⟩
  | tup x => exact ⟨_, .tup x, h.blt e _ (by simp)⟩
  | dic x => exact ⟨_, .dic x, h.blt e _ (by simp)⟩
  | rat q => obtain ⟨a, b, c⟩ := h.own _ (memC_mem e); exact ⟨_, .own (beq_ix _) b c, a⟩
  | ins c x => obtain ⟨a, b, c⟩ := h.own _ (memC_mem e); exact ⟨_, .own (beq_ix _) b c, a⟩
  | _ => cases e
structure OwnCmp (K : PySem.W.Frag) (C : Addr) (op : CmpOp) (f : Addr) : Prop where
  at_ : PySem.W.findIn K (.ref C) (cmpInfo op).2.1 = some (some (.ref f))
  fn : PySem.W.isFn K (.ref f) = true
def oOwnC (c : Cn) (t : CmpT) (ct : Ct) : O2 := fun d e Γ Q E => match t.ok e with
  | true => oOwn c ct d e Γ Q E
  | false => False
theorem ol_cmp {c : Cn} {t : CmpT} {ct : Ct} {op : CmpOp} {f : Addr} {kk : Nat} (hK : F.K = X.K) (hr : Room kk X.A) (hop : ∀ a b, compareOp op a b = richCompare op a b) (T : CmpOk F.toCf c t) (o1 : OwnCmp F.K (F.cl c) op f) (C : CodeOk X X.A F.toCf f 2 [] ct) (tk : Takes X (wOf F E)) : OpL X F E (compareOp op) (oOwnC c t ct) := by
  intro pins s σ H G Γ x y v u d e Q I k rv ru rx ry q
  unfold oOwnC at q
  split at q
  · rename_i he
    unfold oOwn at q
    split at q
    · rename_i hd
      obtain ⟨a, ox, od, rfl, J⟩ := inst_of I k hd rx rv
      obtain ⟨m, hF⟩ := I.fr
      obtain ⟨ty, h1, h2⟩ := T.get he
      have h := run2 C tk I k rv ru rx ry q
      rw [hop]
      refine PySem.W.cmp_K (op := op) (tb := ty) hr.units0 hF (hK ▸ I.ok.mod.kin) J (looks_ty hK I k h1 ry ru _) h2 o1.at_ o1.fn (wpAny_mono h (fun w s' z => ?_) fun _ _ x => x)
      obtain ⟨z', H', I', rz, qz⟩ := z
      exact cmpback rz ⟨z', H', I', rz, qz⟩
    · exact q.elim
  · exact q.elim
/-- != by the own == -/
structure OwnNe (K : PySem.W.Frag) (C : Addr) (f : Addr) : Prop where
  ne : PySem.W.findIn K (.ref C) "__ne__" = some (some (.builtin "object.__ne__"))
  ob : PySem.W.mroIn K C (.type "object") = some true
  at_ : PySem.W.findIn K (.ref C) "__eq__" = some (some (.ref f))
  fn : PySem.W.isFn K (.ref f) = true
def oOwnN (c : Cn) (t : CmpT) (ct : Ct) : O2 := fun d e Γ Q E => match t.ok e with
  | true => oOwn c ct d e Γ (fun r Γ1 => match r with
    | .bl b => Q (.bl (!b)) Γ1
    | _ => False) E
  | false => False
theorem ol_cmpN {c : Cn} {t : CmpT} {ct : Ct} {f : Addr} {kk : Nat} (hK : F.K = X.K) (hr : Room kk X.A) (T : CmpOk F.toCf c t) (o1 : OwnNe F.K (F.cl c) f) (C : CodeOk X X.A.in1 F.toCf f 2 [] ct) (tk : Takes X (wOf F E)) : OpL X F E (compareOp .NotEq) (oOwnN c t ct) := by
  intro pins s σ H G Γ x y v u d e Q I k rv ru rx ry q
  unfold oOwnN at q
  split at q
  · rename_i he
    unfold oOwn at q
    split at q
    · rename_i hd
      obtain ⟨a, ox, od, rfl, J⟩ := inst_of I k hd rx rv
      obtain ⟨m, hF⟩ := I.fr
      obtain ⟨ty, h1, h2⟩ := T.get he
      have h := run2 (Q := fun r Γ1 => match r with
        | .bl b => Q (.bl (!b)) Γ1
        | _ => False) C tk I k rv ru rx ry q
      refine PySem.W.q_ne_K (tb := ty) (by have := hr.units; omega) hF (hK ▸ I.ok.mod.kin) J (looks_ty hK I k h1 ry ru _) h2 o1.ne o1.ob o1.at_ o1.fn (wpAny_mono h (fun w s' z => ?_) fun _ _ x => x)
      obtain ⟨z', H', I', rz, d', Γ', G', q', i', k', r'⟩ := z
      split at q'
      · rename_i b
        cases (show z' = .bl b from r')
        cases rz
        exact ⟨b, rfl, .bl (!b), H', I', rfl, _, Γ', G', q', i', k', rfl⟩
      · exact q'.elim
    · exact q.elim
  · exact q.elim
/-! ### built-ins -/
abbrev ON := List D → Env → (D → Env → Prop) → XP → Prop
def BlL (X : Cx) (F : Fx) (E : XP) (f : Value) (o : ON) : Prop := ∀ (pins : List (Addr × Obj)) (s : Shared) (σ : St) (H G : Hp) (Γ : Env) (vs : List V) (us : List Value) (ds : List D) (Q : D → Env → Prop), Inv X pins σ H s → Ok F G H σ Γ → Vals vs us → Reps F.toCf G ds vs → o ds Γ Q E →
    wpAny (model X.prog X.w) X.A (call f us) (EP X pins σ (Fin F G σ Q)) X.xe s
def qB (o : ON) (p : QA) : QE := fun Γ Q E => p Γ (fun ds Γ1 => o ds Γ1 Q E) E
theorem le_b {id : String} {f : ON} {x : Str} (ho : BlL X F E (.builtin id) f) (ha : LA X F E (a :: es) pr) (hm : X.mg x = none) (hg : Gl X x := by rfl) (hv : bootBuiltins x = some (.builtin id) := by rfl) (hn : x ≠ "__name__" := by decide) (hdb : (x == ("__debug__" : Str)) = false := by decide)
    (he : starEach (a :: es) X.env = (false, eval a X.env) :: starEach es X.env := by rfl) (hpl : (backTo pos (starEach es X.env)).any (·.1) = false := by rfl) : LE X F E (.Call (.Name x p0) (a :: es) [] pos) (qB f pr) := by
  refine ⟨fun pins s σ H G Γ Q I k h => ?_⟩
  refine wpAny_Call_Name_kw (ld_blt I hg hm hv ?_ hn hdb)
  exact PyProof.Rows.callWith_builtin1 (thn (ha.run pos pins s σ H G Γ _ I k h) fun us s1 ⟨vs, H1, I1, r1, ds, Γ1, G1, q1, i1, k1, rp⟩ => thn (ho pins s1 σ H1 G1 Γ1 vs us ds Q I1 k1 r1 rp q1) fun u s2 z => ep_inc i1 z) he hpl
theorem le_bty {id : String} {f : ON} {x : Str} (ho : BlL X F E (.type id) f) (ha : LA X F E (a :: es) pr) (hm : X.mg x = none) (hg : Gl X x := by rfl) (hv : bootBuiltins x = some (.type id) := by rfl) (hn : x ≠ "__name__" := by decide) (hdb : (x == ("__debug__" : Str)) = false := by decide)
    (he : starEach (a :: es) X.env = (false, eval a X.env) :: starEach es X.env := by rfl) (hpl : (backTo pos (starEach es X.env)).any (·.1) = false := by rfl) : LE X F E (.Call (.Name x p0) (a :: es) [] pos) (qB f pr) := by
  refine ⟨fun pins s σ H G Γ Q I k h => ?_⟩
  refine wpAny_Call_Name_kw (ld_blt I hg hm hv ?_ hn hdb)
  exact PyProof.Rows.callWith_type1 (thn (ha.run pos pins s σ H G Γ _ I k h) fun us s1 ⟨vs, H1, I1, r1, ds, Γ1, G1, q1, i1, k1, rp⟩ => thn (ho pins s1 σ H1 G1 Γ1 vs us ds Q I1 k1 r1 rp q1) fun u s2 z => ep_inc i1 z) he hpl
theorem BlL.of {f : Value} {o : ON} {r : List V → Hp → VK → Prop} (h : CallR X f r) (i : ∀ σ H G Γ vs ds Q, Ok F G H σ Γ → Reps F.toCf G ds vs → o ds Γ Q E → r vs H (Fin F G σ Q)) : BlL X F E f o :=
  fun pins s σ H G Γ vs us ds Q I k rv rd q => h pins s σ H vs us _ I rv (i σ H G Γ vs ds Q k rd q)
theorem reps1 {G : Hp} {d : D} {vs : List V} (h : Reps F.toCf G [d] vs) : ∃ v, vs = [v] ∧ Rep F.toCf G d v := by
  obtain ⟨v, r, rfl, a, b⟩ := h
  cases (show r = [] from b)
  exact ⟨v, rfl, a⟩
theorem reps2 {G : Hp} {d e : D} {vs : List V} (h : Reps F.toCf G [d, e] vs) : ∃ v w, vs = [v, w] ∧ Rep F.toCf G d v ∧ Rep F.toCf G e w := by
  obtain ⟨v, r, rfl, a, b⟩ := h
  obtain ⟨w, rfl, b'⟩ := reps1 b
  exact ⟨v, w, rfl, a, b'⟩
def oAbs : ON := fun ds Γ Q _ => match ds with
  | [.int i] => Q (.int (if i < 0 then -i else i)) Γ
  | _ => False
theorem bl_abs : BlL X F E (.builtin "abs") oAbs := BlL.of call_abs fun σ H G Γ vs ds Q k rd q => by
  unfold oAbs at q
  split at q
  · obtain ⟨v, rfl, r⟩ := reps1 rd
    cases (show v = _ from r)
    exact ⟨_, rfl, fin0 k q rfl⟩
  · exact q.elim
def oMax : ON := fun ds Γ Q _ => match ds with
  | [.int i, .int j] => Q (.int (if j > i then j else i)) Γ
  | _ => False
def oMin : ON := fun ds Γ Q _ => match ds with
  | [.int i, .int j] => Q (.int (if j < i then j else i)) Γ
  | _ => False
theorem bl_max (hc : X.calm = true) : BlL X F E (.builtin "max") oMax := BlL.of (call_max2 hc) fun σ H G Γ vs ds Q k rd q => by
  unfold oMax at q
  split at q
  · obtain ⟨v, w, rfl, r, r2⟩ := reps2 rd
    cases (show v = _ from r)
    cases (show w = _ from r2)
    exact ⟨_, _, rfl, fin0 k q rfl⟩
  · exact q.elim
theorem bl_min (hc : X.calm = true) : BlL X F E (.builtin "min") oMin := BlL.of (call_min2 hc) fun σ H G Γ vs ds Q k rd q => by
  unfold oMin at q
  split at q
  · obtain ⟨v, w, rfl, r, r2⟩ := reps2 rd
    cases (show v = _ from r)
    cases (show w = _ from r2)
    exact ⟨_, _, rfl, fin0 k q rfl⟩
  · exact q.elim
def oInt : ON := fun ds Γ Q _ => match ds with
  | [.int i] => Q (.int i) Γ
  | [.bl b] => Q (.int (if b then 1 else 0)) Γ
  | _ => False
theorem bl_int : BlL X F E (.type "int") oInt := BlL.of call_int1 fun σ H G Γ vs ds Q k rd q => by
  unfold oInt at q
  split at q
  · obtain ⟨v, rfl, r⟩ := reps1 rd
    cases (show v = _ from r)
    exact .inl ⟨_, rfl, fin0 k q rfl⟩
  · obtain ⟨v, rfl, r⟩ := reps1 rd
    cases (show v = _ from r)
    exact .inr ⟨_, rfl, fin0 k q rfl⟩
  · exact q.elim
def oLen : ON := fun ds Γ Q _ => match ds with
  | [.lst xs] => Q (.int xs.length) Γ
  | [.tup xs] => Q (.int xs.length) Γ
  | [.scr xs] => Q (.int xs.length) Γ
  | [.str x] => x.length ≤ 100000 ∧ Q (.int x.length) Γ
  | _ => False
theorem bl_len (hK : F.K = X.K) : BlL X F E (.builtin "len") oLen := BlL.of L2.call_len fun σ H G Γ vs ds Q k rd q => by
  unfold oLen at q
  split at q
  · obtain ⟨v, rfl, r⟩ := reps1 rd
    obtain ⟨a, ws, rfl, g, rs⟩ := r
    exact ⟨_, _, rfl, .inl ⟨ws, SqL.of (k.sub.m g), rfl⟩, by rw [rs.len]; exact fin0 k q rfl⟩
  · obtain ⟨v, rfl, r⟩ := reps1 rd
    obtain ⟨a, ws, rfl, g, rs⟩ := r
    exact ⟨_, _, rfl, .inr ⟨ws, hK ▸ k.sub.t g, rfl⟩, by rw [rs.len]; exact fin0 k q rfl⟩
  · obtain ⟨v, rfl, r⟩ := reps1 rd
    obtain ⟨a, rfl, g⟩ := r
    exact ⟨_, _, rfl, .inl ⟨_, hK ▸ k.sub.l g, rfl⟩, by rw [List.length_map]; exact fin0 k q rfl⟩
  · obtain ⟨v, rfl, r⟩ := reps1 rd
    cases (show v = _ from r)
    exact ⟨_, _, rfl, ⟨szl q.1, rfl⟩, fin0 k q.2 rfl⟩
  · exact q.elim
end
end Q

set_option Elab.async false
set_option linter.all false
set_option maxRecDepth 100000
set_option maxHeartbeats 4000000
namespace Q
open PySem L2 PySem.Spec PyProof.Rows
/-! ## 10. Errors -/
section
variable {X : Cx} {e : Expr} {es : List Expr} {ta : TA} {p p1 p2 p3 p4 p5 p6 p7 p8 p9 pos : Pos}
/-- B.__init__(self, ..), B an own error class without an __init__ of its own -/
structure ErrB (K : PySem.W.Frag) (B : Addr) : Prop where
  sp : PySem.W.specialIn K (.ref B) "__getattribute__" = some (some (.builtin "type.__getattribute__"))
  rd : PySem.W.readsIn K B (.type "type") = true
  at_ : PySem.W.findCls K (.ref B) (.type "type") "__init__" = some (.val (.builtin "ValueError.__init__"))
theorem pe_errinit {pl : Sem Bool} {B : Addr} {x : Str} (T : ErrB X.K B) (hg : Gl X x) (hm : X.mg x = some (.ref B)) (ha : PA X (e :: es) ta) (hdb : (x == ("__debug__" : Str)) = false := by decide)
    (hc : eval (.Call (.Attribute (.Name x p1) "__init__" p2) (e :: es) [] pos) X.env = (do
      let ov ← eval (.Name x p1) X.env
      standAt p2.atName
      let (f, first) ← holding [ov] (getMethod ov "__init__" pl)
      callWith pos f first (backTo pos (starEach (e :: es) X.env)) (backToKw pos (keywordEach [] X.env))) := by rfl)
    (he : starEach (e :: es) X.env = (false, eval e X.env) :: starEach es X.env := by rfl) (hpl : (backTo pos (starEach es X.env)).any (·.1) = false := by rfl) :
    PE X (.Call (.Attribute (.Name x p1) "__init__" p2) (e :: es) [] pos) (tVeI X.K ta) := by
  refine ⟨fun pins s σ H Q I h => ?_⟩
  refine PySem.W.methodCall_KW (ld_glob I hg hm ?_ hdb) hc
  refine PySem.W.method_cls I.kIn T.sp (PySem.W.cls_value I.kIn T.rd T.at_ (by decide +kernel) ?_)
  show wpAny _ _ (callWith pos (Value.builtin "ValueError.__init__") [] (backTo pos (starEach (e :: es) X.env)) []) _ _ _
  refine PyProof.Rows.callWith_method1 (thn (ha.run pos pins _ σ H _ (I.tok _) h) fun us s1 ⟨vs, H1, I1, r1, a, C, ws, ev, hl, T, ea, q⟩ => ?_) he hpl
  subst ev
  cases r1 with
  | @cons _ u0 _ ur ra rw' =>
    obtain rfl : u0 = Value.ref a := ra
    have hlen : ur.length ≤ sizeLine := by
      rw [← Paired.length rw', sizeLine_eq]
      omega
    exact oinit_ok T I1 ea hlen fun s' J => ⟨.non, H1, J, rfl, q⟩
/-- what the __init__ of an error does: no field, one field -/
def spE0 (C : Addr) : Sp := fun vs H Q _ => ∃ a, vs = [.ref a] ∧ H a = some (exo a C none) ∧ Q .non H
def spE1 (C : Addr) (f : Str) : Sp := fun vs H Q _ => ∃ a y, vs = [.ref a, y] ∧ H a = some (exo a C none) ∧ ∀ dx, H dx = none → dx ≠ a → Q .non (upd (upd H dx (exd dx [(f, y)])) a (exo a C (some dx)))
end
section
variable {P : Program} {w : World} {K : PySem.W.Frag} {mg : Str → Option Value} {base : Heap} {CX : CXT} {p1 p2 p3 p4 p5 p6 p7 p8 p9 p1' : Pos}
theorem err_fn0 {qual txt : Str} {params : Arguments} {scope : Scope} {f C Bc : Addr} {fd : FuncData} {j : Nat} (Fn : FunD K "__init__" qual params [.Expr (.Call (.Attribute (.Name "FilterError" p1) "__init__" p2) [.Name "self" p3, .Constant (.str txt) j p4] [] p5) p6] scope [] [] f fd)
    (hev : ∀ env : PySem.Env, ∃ pl : Sem Bool, eval (.Call (.Attribute (.Name "FilterError" p1) "__init__" p2) [.Name "self" p3, .Constant (.str txt) j p4] [] p5) env = (do
      let ov ← eval (.Name "FilterError" p1) env
      standAt p2.atName
      let (f, first) ← holding [ov] (getMethod ov "__init__" pl)
      callWith p5 f first (backTo p5 (starEach [.Name "self" p3, .Constant (.str txt) j p4] env)) (backToKw p5 (keywordEach [] env))))
    (S : FnScope ["self"] ["self"] scope) (T : ErrB K Bc) (O : OexC K C) (hm : mg "FilterError" = some (.ref Bc)) (hgB : scope.names.lookup ("FilterError" : Str) = some NameKind.globalImplicit) (hself : scope.names.lookup ("self" : Str) = some NameKind.local) :
    FnOk P w K mg base CX 1 f fd ["self"] (spE0 C) := by
  refine Fn.ok (k := 0) S (fun vs H Q E ⟨a, e, _⟩ => by rw [e]; rfl) fun cdv A outer s H vs Q E hr h => ?_
  obtain ⟨a, rfl, ha, q⟩ := h
  obtain ⟨pl, hev⟩ := hev (envOfC qual scope s.heap.objs.size f cdv)
  refine ⟨_, pss_one (ps_expr (pe_errinit T ?_ hm (pa_cons (pe_var (i := 0) rfl ?_ (by decide) (by decide)) (pa_cons pe_str pa_nil)) (by decide) hev)), ?_⟩
  · first | exact hgB | (show (envOfC qual scope s.heap.objs.size f cdv).kindOf B = _; exact hgB)
  · exact Or.inl hself
  · exact ⟨.ref a, rfl, a, C, [.str txt], rfl, by simp, O, ha, q⟩
theorem err_fn1 {qual txt g fl : Str} {params : Arguments} {scope : Scope} {f C Bc : Addr} {fd : FuncData} {j : Nat} (Fn : FunD K "__init__" qual params [.Expr (.Call (.Attribute (.Name "FilterError" p1) "__init__" p2) [.Name "self" p3, .Constant (.str txt) j p4] [] p5) p6, .Assign [.Attribute (.Name "self" p7) fl p8] (.Name g p9) p1'] scope [] [] f fd)
    (hev : ∀ env : PySem.Env, ∃ pl : Sem Bool, eval (.Call (.Attribute (.Name "FilterError" p1) "__init__" p2) [.Name "self" p3, .Constant (.str txt) j p4] [] p5) env = (do
      let ov ← eval (.Name "FilterError" p1) env
      standAt p2.atName
      let (f, first) ← holding [ov] (getMethod ov "__init__" pl)
      callWith p5 f first (backTo p5 (starEach [.Name "self" p3, .Constant (.str txt) j p4] env)) (backToKw p5 (keywordEach [] env))))
    (S : FnScope ["self", g] ["self", g] scope) (T : ErrB K Bc) (O : OexC K C) (hm : mg "FilterError" = some (.ref Bc)) (hgB : scope.names.lookup ("FilterError" : Str) = some NameKind.globalImplicit) (hself : scope.names.lookup ("self" : Str) = some NameKind.local) (hgg : scope.names.lookup g = some NameKind.local)
    (hd1 : (g == ("__debug__" : Str)) = false) (hd2 : (g == ("__classdict__" : Str)) = false) (hno : PySem.W.findIn K (.ref C) fl = some none) : FnOk P w K mg base CX 1 f fd ["self", g] (spE1 C fl) := by
  refine Fn.ok (k := 0) S (fun vs H Q E ⟨a, y, e, _⟩ => by rw [e]; rfl) fun cdv A outer s H vs Q E hr h => ?_
  obtain ⟨a, y, rfl, ha, q⟩ := h
  obtain ⟨pl, hev⟩ := hev (envOfC qual scope s.heap.objs.size f cdv)
  refine ⟨_, pss_cons (ps_expr (pe_errinit T ?_ hm (pa_cons (pe_var (i := 0) rfl ?_ (by decide) (by decide)) (pa_cons pe_str pa_nil)) (by decide) hev)) (pss_one (ps_ost (pe_var (i := 0) rfl ?_ (by decide) (by decide)) (pe_var (i := 1) rfl ?_ hd1 hd2))), ?_⟩
  · exact hgB
  · exact Or.inl hself
  · exact Or.inl hself
  · exact Or.inl hgg
  · refine ⟨.ref a, rfl, a, C, [.str txt], rfl, by simp, O, ha, ?_⟩
    exact ⟨y, rfl, .ref a, rfl, a, C, rfl, O, hno, .inl ⟨ha, q⟩⟩
end
end Q

set_option Elab.async false
set_option linter.all false
set_option maxRecDepth 100000
set_option maxHeartbeats 4000000
namespace Q
open PySem L2 PySem.Spec PyProof.Rows
section
variable {X : Cx} {o e : Expr} {es : List Expr} {to te : TE} {ta : TA} {f : Str} {p p' p1 p2 pos : Pos}
/-- the end of C(): the exception is let go, it has no dict -/
theorem mk_endN {pins : List (Addr × Obj)} {σ : St} {H1 H2 : Hp} {Q : XK} {hp hp2 h2 : Heap} {g1 g2 : Array GenState} {d1 d2 : Drawn} {t1 t2 : Nat} {os1 os2 : OsState} {a C : Addr} (T : Raises X (.ref C)) (I1 : Inv X pins σ H1 ⟨hp, g1, d1, t1, os1⟩)
    (ha : hp.objs.size ≤ a) (k : ∀ b o, hp.get? b = some o → hp2.get? b = some o) (un : Un (frs X.stack) [] (upd H1 a (exo a C none)) H2 hp2 h2) (hok : HOk X.prog X.w H2 h2) (ho : os2 = os1) (hb : AllBare g2)
    (ea : H2 a = some (exo a C none)) (q : Q (.ref C) none (del H2 a)) : MkP X pins σ Q (.ref a) ⟨h2, g2, d2, t2, os2⟩ := by
  obtain ⟨t0, hoe⟩ := exo_at hok ea
  have hn : H1 a = none := I1.hok.fresh ha
  obtain ⟨G, g1', g2'⟩ := restrict h2 fun b => decide (b ≠ a)
  have gk : ∀ b, b ≠ a → G.get? b = h2.get? b := fun b hb => g1' b (decide_eq_true hb)
  have ge : G.get? a = none := g2' a (by simp)
  have nha : ∀ {b : Addr} {o : Obj}, hp.get? b = some o → b ≠ a := fun {b o} z => Nat.ne_of_lt (Nat.lt_of_lt_of_le (Heap.lt_size z) ha)
  have up : ∀ {b : Addr}, b ≠ a → H1 b = none → upd H1 a (exo a C none) b = none := fun {b} hb n => by rw [upd_ne hb]; exact n
  have U : Un (frs X.stack) [] H1 (del H2 a) hp G := {
    keep := fun b o z n hf hx => by
      rw [gk b (nha z)]
      exact un.keep b o (k b o z) (up (nha z) n) hf hx
    slot := fun b o z n hf hx => by
      rw [gk b (nha z)]
      exact un.slot b o (k b o z) (up (nha z) n) hf hx
    free := fun b o z n hx => by
      rw [del_ne (nha z)]
      exact un.free b o (k b o z) (up (nha z) n) hx
    there := fun b o z hx => by
      rw [gk b (nha z)]
      exact un.there b o (k b o z) hx
    tups := fun b xs z => by
      rw [del_ne (ne_of_none z hn)]
      exact un.tups b xs (by rw [upd_ne (ne_of_none z hn)]; exact z)
    frzs := fun b o v z => by
      rw [del_ne (ne_of_none z hn)]
      exact un.frzs b o v (by rw [upd_ne (ne_of_none z hn)]; exact z)
    tbls := fun b ps z => by
      rw [del_ne (ne_of_none z hn)]
      exact un.tbls b ps (by rw [upd_ne (ne_of_none z hn)]; exact z) }
  have hok3 : HOk X.prog X.w (del H2 a) G := fun b o z => by
    have hba : b ≠ a := fun e => by
      rw [e, del_same] at z
      cases z
    rw [del_ne hba] at z
    have noa : ∀ {c : Addr}, H2 c = some (.own b) → c ≠ a := fun {c} hc => at_ne ea hc exo_own
    exact (hok b o z).stay (fun c v hc y => by
        have hca : c ≠ a := by
          rcases hc with hc | hc
          · rw [hc]
            exact hba
          · exact noa hc
        rw [gk c hca]
        exact y)
      (fun c hc => by rw [del_ne (noa hc)]; exact hc) (fun c xs hc => by rw [del_ne (at_ne ea hc exo_tup)]; exact hc)
  have J : Inv X pins σ (del H2 a) ⟨G, g2, d2, t2, os2⟩ := I1.call' (ch := []) ho U hok3 hb (fun b z => absurd z (by simp))
  refine ⟨a, _, _, ⟨G, g2, d2, t2, os2⟩, _, .ref C, none, rfl, J, fun b o z => ?_, ge, hoe, ⟨rfl, rfl⟩, rfl, rfl, del_same, rfl, hb, T, q⟩
  by_cases hba : b = a
  · rw [hba, ge] at z
    cases z
  · exact (gk b hba).symm.trans z
theorem pmk_err0 {CX : CXT} {x : Str} {C fI : Addr} {k : Nat} {fd : FuncData} {ps : List Str} (T : OexC X.K C) (iC : PySem.W.findIn X.K (.ref C) "__init__" = some (some (.ref fI))) (tI : PySem.W.typeIn X.K (.ref fI) = some (.type "function"))
    (F1 : FnOk X.prog X.w X.K X.mg X.base CX k fI fd ps (spE0 C)) (hr : Room (k + 1) X.A) (hb : Binds X.K fd ps []) (hx : Passes CX X (fun _ _ _ => False)) (hg : Gl X x) (hm : X.mg x = some (.ref C))
    (hdb : (x == ("__debug__" : Str)) = false := by decide) :
    PMk X (.Call (.Name x p) [] [] pos) (fun σ H Q => Q (.ref C) none H) := by
  intro pins s σ H Q I q1
  obtain ⟨nm, q, N, bs, bm, sn, sub, ab, col, dd, k0, k1, k2, k3, k5, hC, hbm⟩ := T.cls
  refine wpAny_Call_Name_kw (ld_glob I hg hm ?_ hdb)
  refine PySem.W.callWith_K0 I.kIn T.kC ?_
  show wpAny _ _ (call (.ref C) []) _ _ _
  obtain ⟨hp, g, dr, tk, os⟩ := s
  have hsz : hp.objs.size ≤ hp.objs.size + 1 := Nat.le_succ _
  have hn : H (hp.objs.size + 1) = none := I.hok.fresh hsz
  have hq : spE0 C [.ref (hp.objs.size + 1)] (upd H (hp.objs.size + 1) (exo (hp.objs.size + 1) C none)) (fun v H2 => v = .non ∧ H2 (hp.objs.size + 1) = some (exo (hp.objs.size + 1) C none) ∧ Q (.ref C) none (del H2 (hp.objs.size + 1))) (fun _ _ _ => False) := by
    refine ⟨_, rfl, upd_same, rfl, upd_same, ?_⟩
    have e : del (upd H (hp.objs.size + 1) (exo (hp.objs.size + 1) C none)) (hp.objs.size + 1) = H := by
      funext b
      by_cases h : b = hp.objs.size + 1
      · subst h; rw [del_same, hn]
      · rw [del_ne h, upd_ne h]
    rw [e]; exact q1
  have kk : ∀ b o, hp.get? b = some o → ((hp.push (PySem.W.kdv_tup [])).push (PySem.HandSPX.excO C hp.objs.size)).get? b = some o := fun b o e => Heap.get?_push_of_some _ (Heap.get?_push_of_some _ e)
  have hget : ((hp.push (PySem.W.kdv_tup [])).push (PySem.HandSPX.excO C hp.objs.size)).get? (hp.objs.size + 1) = some (PySem.HandSPX.excO C hp.objs.size) := by heap_get
  have I2 : Inv X pins σ (upd H (hp.objs.size + 1) (exo (hp.objs.size + 1) C none)) ⟨(hp.push (PySem.W.kdv_tup [])).push (PySem.HandSPX.excO C hp.objs.size), g, dr, tk, os⟩ :=
    I.laid (t' := tk) (a := hp.objs.size + 1) (o := exo (hp.objs.size + 1) C none) (h' := (hp.push (PySem.W.kdv_tup [])).push (PySem.HandSPX.excO C hp.objs.size)) kk hsz (exo_ok hget)
  have r2 : Vals [V.ref (hp.objs.size + 1)] [Value.ref (hp.objs.size + 1)] := .cons rfl .nil
  have hl : ([Value.ref (hp.objs.size + 1)] ++ []).length = ps.length := by
    have e := r2.length
    rw [F1.len _ _ _ _ hq] at e
    exact e.symm
  refine wpAny_call (PySem.HandSPX.call_own F.excBase_ValueError (fun Y => PySem.HandSPX.refsVE_contains Y bm hbm) (I.kIn _ _ hC) (PySem.W.looks_findIn I.kIn iC) (fun self => PySem.W.bind_fn I.kIn self tI) (Nat.zero_le _)
    (codeAny_mono (F1.run _ X.stack _ _ ⟨[Value.ref (hp.objs.size + 1)], []⟩ [Value.ref (hp.objs.size + 1)] _ _ (fun _ _ _ => False) (hr.make C [] []) (I2.env0.make C [] []) (hb _ [Value.ref (hp.objs.size + 1)] I2.kIn hl) r2 hq) fun r s' hq' => ?_))
  cases r with
  | error er => exact hx pins σ _ _ er s' I2 hq'
  | ok fl =>
    cases fl with
    | ret u =>
      obtain ⟨v, H2, os2, bare2, un2, hok2, rv, ev, ea, q2⟩ := hq'
      subst ev
      obtain ⟨h2, g2, d2, t2, os'⟩ := s'
      exact ⟨rv, mk_endN (raises_own T.exC T.tyC) I hsz kk un2 hok2 os2 bare2 ea q2⟩
    | next => exact False.elim hq'
    | brk => exact False.elim hq'
    | cont => exact False.elim hq'
end
/-- all that is known of an error class without a field: f its __init__ -/
structure Er0 (P : Program) (w : World) (Fc : Cf) (mg : Str → Option Value) (base : Heap) (c : Cn) (f : Addr) (fd : FuncData) (ps : List Str) : Prop where
  o : OexC Fc.K (Fc.cl c)
  i : PySem.W.findIn Fc.K (.ref (Fc.cl c)) "__init__" = some (some (.ref f))
  t : PySem.W.typeIn Fc.K (.ref f) = some (.type "function")
  b : Binds Fc.K fd ps []
  fn : FnOk P w Fc.K mg base (L2.CX P w) 1 f fd ps (spE0 (Fc.cl c))
structure Er1 (P : Program) (w : World) (Fc : Cf) (mg : Str → Option Value) (base : Heap) (c : Cn) (g : Str) (f : Addr) (fd : FuncData) (ps : List Str) : Prop where
  o : OexC Fc.K (Fc.cl c)
  i : PySem.W.findIn Fc.K (.ref (Fc.cl c)) "__init__" = some (some (.ref f))
  t : PySem.W.typeIn Fc.K (.ref f) = some (.type "function")
  b : Binds Fc.K fd ps []
  fl : c.fields = [g]
  fn : FnOk P w Fc.K mg base (L2.CX P w) 1 f fd ps (spE1 (Fc.cl c) g)
def qRaise0 (c : Cn) : QS := fun Γ _ E => E ⟨c, []⟩ Γ
def qRaise1 (c : Cn) (p : QE) : QS := fun Γ _ E => p Γ (fun d Γ1 => E ⟨c, [d]⟩ Γ1) E
section
variable {X : Cx} {F : Fx} {E : XP} {a : Expr} {pa : QE} {p pos pos' : Pos}
theorem pass0 {X : Cx} {W : WX} (tk : Takes X W) : Passes (L2.CX X.prog X.w) X (fun _ _ _ => False) := fun pins σ H s e s' I c => tk e s' (XE.of_call I (fun _ _ _ h => h.elim) c)
theorem ls_raise0 {c : Cn} {x : Str} {f : Addr} {fd : FuncData} {ps : List Str} {k : Nat} (T : Er0 X.prog X.w F.toCf X.mg X.base c f fd ps) (hK : F.K = X.K) (hr : Room (k + 2) X.A) (hc : X.calm = true) (tk : Takes X (wOf F E)) (hm : X.mg x = some (.ref (F.cl c))) (hg : Gl X x := by rfl) (hdb : (x == ("__debug__" : Str)) = false := by decide) :
    LS X F E (.Raise (some (.Call (.Name x p) [] [] pos)) none pos') (qRaise0 c) :=
  LS.of (ps_raise hc tk (pmk_err0 (hK ▸ T.o) (hK ▸ T.i) (hK ▸ T.t) (hK ▸ T.fn) (hr.mono (by omega)) (hK ▸ T.b) (pass0 tk) hg hm hdb)) fun σ H G Γ P k q => ⟨G, Γ, ⟨c, []⟩, k, ⟨rfl, .inl rfl⟩, q⟩
theorem ls_raise1 {c : Cn} {x g : Str} {f : Addr} {fd : FuncData} {ps : List Str} {k : Nat} (T : Er1 X.prog X.w F.toCf X.mg X.base c g f fd ps) (hK : F.K = X.K) (hr : Room (k + 2) X.A) (hc : X.calm = true) (tk : Takes X (wOf F E)) (ha : LE X F E a pa) (hm : X.mg x = some (.ref (F.cl c))) (hg : Gl X x := by rfl) (hdb : (x == ("__debug__" : Str)) = false := by decide)
    (he : starEach [a] X.env = (false, eval a X.env) :: starEach [] X.env := by rfl) (hpl : (backTo pos (starEach [] X.env)).any (·.1) = false := by rfl) :
    LS X F E (.Raise (some (.Call (.Name x p) [a] [] pos)) none pos') (qRaise1 c pa) :=
  LS.of (ps_raise hc tk (pmk_oex (ds := []) (dvs := []) (hK ▸ T.o) (hK ▸ T.i) (hK ▸ T.t) (hK ▸ T.fn) (hr.mono (by omega)) (hK ▸ T.b) .nil (pass0 tk) hg hm (pa_cons ha.pe pa_nil he) hdb he hpl)) fun σ H G Γ P k q => ⟨G, Γ, _, k, q, fun w H' ⟨d, Γ', G', q', i, k', r⟩ => by
    refine ⟨by simp, fun b hb => ⟨b, w, by simp, upd_same, fun dx hdx ne => ?_⟩⟩
    have hdx' : H' dx = none := by rw [upd_ne ne] at hdx; exact hdx
    refine ⟨rfl, dx, [(g, w)], upd_same, by rw [upd_ne ne, upd_same], hdx', ?_⟩
    have eH : upd (del (upd (upd (upd H' b (exo b (F.cl c) none)) dx (exd dx [(g, w)])) b (exo b (F.cl c) (some dx))) b) dx (.xd [(g, w)]) = upd H' dx (.xd [(g, w)]) := by
      funext z
      by_cases h1 : z = dx
      · subst h1; rw [upd_same, upd_same]
      · rw [upd_ne h1, upd_ne h1]
        by_cases h2 : z = b
        · subst h2; rw [del_same, hb]
        · rw [del_ne h2, upd_ne h2, upd_ne h1, upd_ne h2]
    rw [eH]
    exact ⟨G', Γ', ⟨c, [d]⟩, k'.new0 hdx' _, ⟨rfl, .inr ⟨dx, [w], rfl, by rw [upd_same, T.fl]; rfl, w, [], rfl, r, rfl⟩⟩, q'⟩⟩
end
end Q

set_option Elab.async false
set_option linter.all false
set_option maxRecDepth 100000
set_option maxHeartbeats 4000000
namespace Q
open PySem L2 PySem.Spec PyProof.Rows
/-! ## 11. try -/
def noX : Env → Bool
  | [] => true
  | .exc _ _ :: _ => false
  | _ :: r => noX r
def offI (Γ : Env) (i : Nat) : Bool := match Γ[i]? with
  | some (.own _) => false
  | some (.bor _) => false
  | none => false
  | some _ => true
theorem offI_ok {Γ : Env} {i : Nat} (h : offI Γ i = true) : nomut Γ i := by
  intro s e
  unfold offI at h
  rw [e] at h
  cases s <;> first | rfl | cases h
def withX (F : Fx) (a : Addr) (d : Option Addr) (c : Cn) : Fx := { F with xa := a, xd := d, xc := c }
def withG0 (F : Fx) (G : Hp) : Fx := { F with G0 := G }
theorem slots_x {F F' : Fx} {G H : Hp} (h1 : F'.toCf = F.toCf) (h2 : F'.H0 = F.H0) (h3 : F'.B = F.B) : ∀ {σ : St} {Γ : Env}, noX Γ = true → Slots F G H σ Γ → Slots F' G H σ Γ
  | [], [], _, _ => trivial
  | v :: σ, s :: Γ, n, h => by
    have n' : noX Γ = true := by
      cases s with
      | exc c fs => cases n
      | _ => exact n
    refine ⟨?_, slots_x h1 h2 h3 n' h.2⟩
    have h0 := h.1
    cases s with
    | exc c fs => cases n
    | no => cases v <;> trivial
    | val d =>
      cases v with
      | none => exact h0
      | some v => show Rep F'.toCf G d v; rw [h1]; exact h0
    | own o =>
      cases v with
      | none => exact h0
      | some v =>
        obtain ⟨b, e, g, m, z⟩ := h0
        exact ⟨b, e, g, h1 ▸ m, h2 ▸ z⟩
    | bor o =>
      cases v with
      | none => exact h0
      | some v =>
        obtain ⟨b, e, g, m, z⟩ := h0
        exact ⟨b, e, g, h1 ▸ m, h3 ▸ z⟩
  | [], _ :: _, _, h => h.elim
  | _ :: _, [], _, h => h.elim
section
variable {X : Cx} {F : Fx} {E : XP} {G H : Hp} {σ : St} {Γ : Env}
theorem Ok.toX (k : Ok F G H σ Γ) (n : noX Γ = true) (a : Addr) (d : Option Addr) (c : Cn) : Ok (withX F a d c) G H σ Γ :=
  ⟨k.sub, k.g0, k.fresh, k.frame, k.bor, slots_x (F := F) (F' := withX F a d c) rfl rfl rfl n k.slots, k.nd, k.pin, k.pl⟩
theorem Ok.ofX {a : Addr} {d : Option Addr} {c : Cn} (k : Ok (withX F a d c) G H σ Γ) (n : noX Γ = true) : Ok F G H σ Γ :=
  ⟨k.sub, k.g0, k.fresh, k.frame, k.bor, slots_x (F := withX F a d c) (F' := F) rfl rfl rfl n k.slots, k.nd, k.pin, k.pl⟩
theorem slots_g {F : Fx} {G1 G H : Hp} : ∀ {σ : St} {Γ : Env}, Slots F G H σ Γ ↔ Slots (withG0 F G1) G H σ Γ := by
  have key : ∀ (v : Option V) (s : Slot), SlotOk F G H v s ↔ SlotOk (withG0 F G1) G H v s := by
    intro v s
    cases v <;> cases s <;> exact Iff.rfl
  intro σ
  induction σ with
  | nil => intro Γ; cases Γ <;> exact Iff.rfl
  | cons v σ ih =>
    intro Γ
    cases Γ with
    | nil => exact Iff.rfl
    | cons s Γ => exact and_congr (key v s) ih
theorem Ok.toG (k : Ok F G H σ Γ) : Ok (withG0 F G) G H σ Γ :=
  ⟨k.sub, Inc.refl G, fun a o e => .inl e, k.frame, k.bor, slots_g.mp k.slots, k.nd, k.pin, k.pl⟩
theorem Ok.ofG {G1 H1 : Hp} {σ1 : St} {Γ1 : Env} (k0 : Ok F G1 H1 σ1 Γ1) (k : Ok (withG0 F G1) G H σ Γ) : Ok F G H σ Γ :=
  ⟨k.sub, k0.g0.trans k.g0, fun a o e => (k.fresh a o e).elim (fun z => k0.fresh a o z) .inr, k.frame, k.bor, slots_g.mpr k.slots, k.nd, k.pin, k.pl⟩
/-- behind the suite: the exception's name is gone -/
def afterX (i : Nat) (P : PEnds) : PEnds where
  nx := fun Γ => match noX (Γ.set i .no) && offI Γ i with
    | true => P.nx (Γ.set i .no)
    | false => False
  rt := fun d Γ => match noX (Γ.set i .no) && offI Γ i with
    | true => P.rt d (Γ.set i .no)
    | false => False
  bk := fun Γ => match noX (Γ.set i .no) && offI Γ i with
    | true => P.bk (Γ.set i .no)
    | false => False
  ct := fun Γ => match noX (Γ.set i .no) && offI Γ i with
    | true => P.ct (Γ.set i .no)
    | false => False
theorem afterX_get {i : Nat} {Z : Env → Prop} {Γ : Env} (h : match noX (Γ.set i .no) && offI Γ i with | true => Z (Γ.set i .no) | false => False) : noX (Γ.set i .no) = true ∧ nomut Γ i ∧ Z (Γ.set i .no) := by
  split at h
  · rename_i e
    obtain ⟨a, b⟩ := Bool.and_eq_true_iff.mp e
    exact ⟨a, offI_ok b, h⟩
  · exact h.elim
def qTryAs (i : Nat) (t : List (Cn × Bool)) (tb ts : QS) : QS := fun Γ P E => tb Γ P fun x Γ1 => match lookC t x.c with
  | some true => match noX Γ1 && offI Γ1 i with
    | true => ts (Γ1.set i (.exc x.c x.fs)) (afterX i P) (fun _ _ => False)
    | false => False
  | some false => E x Γ1
  | none => False
def qTry (t : List (Cn × Bool)) (tb ts : QS) : QS := fun Γ P E => tb Γ P fun x Γ1 => match lookC t x.c with
  | some true => ts Γ1 P (fun _ _ => False)
  | some false => E x Γ1
  | none => False
def ExmOk (F : Cf) (cv : Value) (t : List (Cn × Bool)) : Prop := ∀ p ∈ t, PySem.W.exmOne F.K (.ref (F.cl p.1)) cv = some p.2
def tTb (F : Fx) (tb : QS) : WX → TS := fun W D σ H => ∃ G Γ P E', Ok F G H σ Γ ∧ tb Γ P E' ∧ (∀ cls d σ' H', wOf (withG0 F G) E' cls d σ' H' → W cls d σ' H') ∧ (∀ σ' H', (endsOf F G P).nx σ' H' → D.nx σ' H') ∧ (∀ v H', (endsOf F G P).rt v H' → D.rt v H') ∧
  (∀ σ' H', (endsOf F G P).bk σ' H' → D.bk σ' H') ∧ (∀ σ' H', (endsOf F G P).ct σ' H' → D.ct σ' H')
def tTs (F : Fx) (ts : QS) : Addr → Value → Option Addr → TS := fun a cls d D σ H => ∃ c G Γ P, cls = .ref (F.cl c) ∧ Ok (withX F a d c) G H σ Γ ∧ ts Γ P (fun _ _ => False) ∧ (∀ σ' H', (endsOf (withX F a d c) G P).nx σ' H' → D.nx σ' H') ∧ (∀ v H', (endsOf (withX F a d c) G P).rt v H' → D.rt v H') ∧
  (∀ σ' H', (endsOf (withX F a d c) G P).bk σ' H' → D.bk σ' H') ∧ (∀ σ' H', (endsOf (withX F a d c) G P).ct σ' H' → D.ct σ' H')
variable {x n : Str} {cv : Value} {i : Nat} {body suite : List Stmt} {b₀ : Stmt} {np pos pos' : Pos} {tb ts : QS} {t : List (Cn × Bool)}
theorem tr_body {pn : List (Addr × Obj)} {xe : Value → Shared → Prop} {W : WX} (tk : Takes (X.tr pn xe) W) (hp : PassesOwn (model X.prog X.w) X.A X.env xe)
    (hb : ∀ (G : Hp) (pn : List (Addr × Obj)) (xe : Value → Shared → Prop) (E' : XP), Takes (X.tr pn xe) (wOf (withG0 F G) E') → PassesOwn (model X.prog X.w) X.A X.env xe → LSs (X.tr pn xe) (withG0 F G) E' body tb) : PSs (X.tr pn xe) body (tTb F tb W) :=
  ⟨fun pins s σ H D I ⟨G, Γ, P, E', k, q, w, i1, i2, i3, i4⟩ => by
    have tk' : Takes (X.tr pn xe) (wOf (withG0 F G) E') := fun u s' ⟨a, B, sI, pins, σ, H', cls, d, e, I, nb, up, sky, na, os, ag, z⟩ => tk u s' ⟨a, B, sI, pins, σ, H', cls, d, e, I, nb, up, sky, na, os, ag, w _ _ _ _ z⟩
    refine thn ((hb G pn xe E' tk' hp).run pins s σ H G Γ P I k.toG q) fun f s' z => sp_imp z ?_ ?_ ?_ ?_
    · exact fun σ' H' ⟨Γ', G', a, b, c⟩ => i1 _ _ ⟨Γ', G', a, b, k.ofG c⟩
    · exact fun v H' ⟨d, Γ', G', σ', a, b, c, e⟩ => i2 _ _ ⟨d, Γ', G', σ', a, b, k.ofG c, e⟩
    · exact fun σ' H' ⟨Γ', G', a, b, c⟩ => i3 _ _ ⟨Γ', G', a, b, k.ofG c⟩
    · exact fun σ' H' ⟨Γ', G', a, b, c⟩ => i4 _ _ ⟨Γ', G', a, b, k.ofG c⟩⟩
theorem tr_suite {a : Addr} {oe : Obj} {cls : Value} {d : Option Addr} {pn : List (Addr × Obj)} (hsu : ∀ c : Cn, cls = .ref (F.cl c) → LSs (X.suite a ((a, oe) :: pn)) (withX F a d c) (fun _ _ => False) (b₀ :: suite) ts) : PSs (X.suite a ((a, oe) :: pn)) (b₀ :: suite) (tTs F ts a cls d) :=
  ⟨fun pins s σ H D I ⟨c, G, Γ, P, ec, k, q, i1, i2, i3, i4⟩ => thn ((hsu c ec).run pins s σ H G Γ P I k q) fun f s' z => sp_imp z i1 i2 i3 i4⟩
theorem slotX {G H : Hp} {x : Exn} {d : Option Addr} {a : Addr} {cls : Value} (h : XRep F.toCf G H x cls d) : SlotOk (withX F a d x.c) G H (some (.ref a)) (.exc x.c x.fs) :=
  ⟨rfl, rfl, h.2.imp id fun ⟨b, vs, e, h1, r⟩ => ⟨b, vs, e, h1, r⟩⟩
theorem ls_tryAs (i : Nat) {k0 : Nat} (T : ExmOk F.toCf cv t) (hK : F.K = X.K) (hs : X.stack = X.env :: X.outer) (hf : X.env.frame = some X.env.locals) (hN : X.N.Nodup) (hc : Names X x cv) (tk : Takes X (wOf F E))
    (hb : ∀ (G : Hp) (pn : List (Addr × Obj)) (xe : Value → Shared → Prop) (E' : XP), Takes (X.tr pn xe) (wOf (withG0 F G) E') → PassesOwn (model X.prog X.w) X.A X.env xe → LSs (X.tr pn xe) (withG0 F G) E' body tb)
    (hsu : ∀ (a : Addr) (oe : Obj) (cls : Value) (d : Option Addr) (pn : List (Addr × Obj)) (c : Cn), Zc cls d oe → (∃ vs, oe.data = .fields vs) → cls = .ref (F.cl c) → LSs (X.suite a ((a, oe) :: pn)) (withX F a d c) (fun _ _ => False) (b₀ :: suite) ts)
    (hi : X.N[i]? = some n := by rfl) (hln : X.env.kindOf n = some .local := by rfl) :
    LS X F E (.Try body [.ExceptHandler (some (.Name x np)) (some n) (b₀ :: suite) pos'] [] [] pos) (qTryAs i t tb ts) :=
  LS.of (ps_try_as (i := i) (tb := tTb F tb) (ts := tTs F ts) hs hf hN hi hln hc tk (fun W pn xe tk' hp => tr_body tk' hp hb) fun a oe cls d pn hz hv => tr_suite fun c ec => hsu a oe cls d pn c hz hv ec) fun σ H G Γ P k q => by
    refine ⟨G, Γ, P, _, k, q, fun cls d σ' H' ⟨G1, Γ1, xx, k1, xr, z⟩ => ?_, fun _ _ z => z, fun _ _ z => z, fun _ _ z => z, fun _ _ z => z⟩
    have i1 : Inc G G1 := k1.g0
    have k1' : Ok F G1 H' σ' Γ1 := k.ofG k1
    obtain ⟨ec, xr2⟩ := xr
    subst ec
    dsimp only at z
    split at z
    · rename_i hl
      refine ⟨true, hK ▸ T _ (lookC_mem hl), fun _ a ha => ?_, fun e => by cases e⟩
      split at z
      · rename_i hn
        obtain ⟨n1, n2⟩ := Bool.and_eq_true_iff.mp hn
        refine ⟨xx.c, G1, _, _, rfl, (k1'.toX n1 a d xx.c).setS (offI_ok n2) rfl (slotX ⟨rfl, xr2⟩), z, ?_, ?_, ?_, ?_⟩
        · rintro σ2 H2 ⟨Γ2, G2, q2, i2, k2⟩
          obtain ⟨b1, b2, b3⟩ := afterX_get (Z := P.nx) q2
          exact ⟨_, G2, b3, i1.trans i2, (k2.unset b2).ofX b1⟩
        · rintro v H2 ⟨d2, Γ2, G2, σ2, q2, i2, k2, r2⟩
          obtain ⟨b1, b2, b3⟩ := afterX_get (Z := P.rt d2) q2
          exact ⟨d2, _, G2, σ2.set i none, b3, i1.trans i2, (k2.unset b2).ofX b1, r2⟩
        · rintro σ2 H2 ⟨Γ2, G2, q2, i2, k2⟩
          obtain ⟨b1, b2, b3⟩ := afterX_get (Z := P.bk) q2
          exact ⟨_, G2, b3, i1.trans i2, (k2.unset b2).ofX b1⟩
        · rintro σ2 H2 ⟨Γ2, G2, q2, i2, k2⟩
          obtain ⟨b1, b2, b3⟩ := afterX_get (Z := P.ct) q2
          exact ⟨_, G2, b3, i1.trans i2, (k2.unset b2).ofX b1⟩
      · exact z.elim
    · rename_i hl
      exact ⟨false, hK ▸ T _ (lookC_mem hl), (fun e => by cases e), fun _ => ⟨G1, Γ1, xx, k1', ⟨rfl, xr2⟩, z⟩⟩
    · exact z.elim
theorem ls_try (T : ExmOk F.toCf cv t) (hK : F.K = X.K) (hs : X.stack = X.env :: X.outer) (hf : X.env.frame = some X.env.locals) (hc : Names X x cv) (tk : Takes X (wOf F E))
    (hb : ∀ (G : Hp) (pn : List (Addr × Obj)) (xe : Value → Shared → Prop) (E' : XP), Takes (X.tr pn xe) (wOf (withG0 F G) E') → PassesOwn (model X.prog X.w) X.A X.env xe → LSs (X.tr pn xe) (withG0 F G) E' body tb)
    (hsu : ∀ (a : Addr) (oe : Obj) (pn : List (Addr × Obj)), LSs (X.suite a ((a, oe) :: pn)) F (fun _ _ => False) (b₀ :: suite) ts) :
    LS X F E (.Try body [.ExceptHandler (some (.Name x np)) none (b₀ :: suite) pos'] [] [] pos) (qTry t tb ts) :=
  LS.of (ps_try_only (tb := tTb F tb) (ts := fun _ _ _ => tS F (fun _ _ => False) ts) hs hf hc tk (fun W pn xe tk' hp => tr_body tk' hp hb) fun a oe cls d pn hz hv => (hsu a oe pn).ps) fun σ H G Γ P k q => by
    refine ⟨G, Γ, P, _, k, q, fun cls d σ' H' ⟨G1, Γ1, xx, k1, xr, z⟩ => ?_, fun _ _ z => z, fun _ _ z => z, fun _ _ z => z, fun _ _ z => z⟩
    have i1 : Inc G G1 := k1.g0
    have k1' : Ok F G1 H' σ' Γ1 := k.ofG k1
    obtain ⟨ec, xr2⟩ := xr
    subst ec
    dsimp only at z
    split at z
    · rename_i hl
      refine ⟨true, hK ▸ T _ (lookC_mem hl), fun _ a ha => ?_, fun e => by cases e⟩
      refine ⟨G1, Γ1, P, k1', z, ?_, ?_, ?_, ?_⟩
      · rintro σ2 H2 ⟨Γ2, G2, q2, i2, k2⟩
        exact ⟨_, G2, q2, i1.trans i2, k2⟩
      · rintro v H2 ⟨d2, Γ2, G2, σ2, q2, i2, k2, r2⟩
        exact ⟨d2, _, G2, σ2, q2, i1.trans i2, k2, r2⟩
      · rintro σ2 H2 ⟨Γ2, G2, q2, i2, k2⟩
        exact ⟨_, G2, q2, i1.trans i2, k2⟩
      · rintro σ2 H2 ⟨Γ2, G2, q2, i2, k2⟩
        exact ⟨_, G2, q2, i1.trans i2, k2⟩
    · rename_i hl
      exact ⟨false, hK ▸ T _ (lookC_mem hl), (fun e => by cases e), fun _ => ⟨G1, Γ1, xx, k1', ⟨rfl, xr2⟩, z⟩⟩
    · exact z.elim
/-- e.f of the exception that is handled, in slot j -/
def qXf (j : Nat) (c : Cn) (n : Nat) : QE := fun Γ Q _ => match Γ[j]? with
  | some (.exc c' fs) => match Nat.beq c'.ix c.ix, fs[n]? with
    | true, some z => Q z Γ
    | _, _ => False
  | _ => False
theorem le_xf (j : Nat) (c : Cn) (n : Nat) {a : Addr} {oe : Obj} {cls : Value} {d : Option Addr} {pn : List (Addr × Obj)} {c0 : Cn} {y f : Str} {px : Pos} (hz : Zc cls d oe) (hv : ∃ vs, oe.data = .fields vs) (ec : cls = .ref (F.cl c0)) (hK : F.K = X.K) (T : XfC F.K (F.cl c)) (hno : PySem.W.findIn F.K (.ref (F.cl c)) f = some none)
    (hf : c.fields[n]? = some f := by rfl) (hb : attributeBase (.Name y px) f X.env (eval (.Name y px) X.env) = eval (.Name y px) X.env := by rfl)
    (hN : X.N[j]? = some y := by rfl) (hvv : Vis X.env.scope y := by first | exact Or.inl rfl | exact Or.inr (Or.inl rfl) | exact Or.inr (Or.inr rfl)) (hd : (y == ("__debug__" : Str)) = false := by decide) (hcd : (y == ("__classdict__" : Str)) = false := by decide) :
    LE (X.suite a ((a, oe) :: pn)) (withX F a d c0) E (.Attribute (.Name y px) f pos) (qXf j c n) :=
  LE.of (pe_xf (hK ▸ T) (hK ▸ hno) hz hv (pe_var (i := j) hN hvv hd hcd) hb) fun σ H G Γ Q k q => by
    unfold qXf at q
    split at q
    · rename_i c' fs e
      split at q
      · rename_i z e1 e2
        have e3 := ix_inj e1
        subst e3
        obtain ⟨v, ev, ok⟩ := k.slots.get e
        cases v with
        | none => exact ok.elim
        | some v =>
          obtain ⟨rfl, rfl, r⟩ := ok
          rcases r with r | ⟨dd, vs, e4, e5, rs⟩
          · subst r; cases e2
          · obtain ⟨v, e6, r6⟩ := rs.get e2
            exact ⟨_, ev, rfl, ec, dd, _, v, e4, e5, by rw [zip_look (fields_nd _) hf]; exact e6, fin0 k q r6⟩
      · exact q.elim
    · exact q.elim
end
end Q

set_option Elab.async false
set_option linter.all false
set_option maxRecDepth 100000
set_option maxHeartbeats 4000000
namespace Q
open PySem L2 PySem.Spec PyProof.Rows
/-! ## 12. Things of one's own -/
theorem mutA_setOwn {a : Addr} {o : MO} : ∀ {σ : St} {Γ : Env} {i : Nat}, a ∉ mutA σ Γ → (mutA σ Γ).Nodup → (mutA (σ.set i (some (.ref a))) (Γ.set i (.own o))).Nodup ∧ ∀ b ∈ mutA (σ.set i (some (.ref a))) (Γ.set i (.own o)), b = a ∨ b ∈ mutA σ Γ
  | [], Γ, _, _, _ => by simp [mutA]
  | v :: σ, [], i, _, _ => by
    have e : ∀ τ : St, mutA τ [] = [] := fun τ => by cases τ with
      | nil => rfl
      | cons u r => cases u with
        | none => rfl
        | some w => cases w <;> rfl
    rw [List.set_nil, e]
    simp
  | v :: σ, s :: Γ, 0, hn, nd => by
    have h1 : a ∉ mutA σ Γ := fun m => hn (mutA_tail m)
    have h2 := nd_tail nd
    show (a :: mutA σ Γ).Nodup ∧ ∀ b ∈ a :: mutA σ Γ, b = a ∨ b ∈ mutA (v :: σ) (s :: Γ)
    exact ⟨List.nodup_cons.mpr ⟨h1, h2⟩, fun b hb => (List.mem_cons.mp hb).imp id fun m => mutA_tail m⟩
  | v :: σ, s :: Γ, i + 1, hn, nd => by
    have h1 : a ∉ mutA σ Γ := fun m => hn (mutA_tail m)
    obtain ⟨ih1, ih2⟩ := mutA_setOwn (o := o) (i := i) h1 (nd_tail nd)
    show (mutA (v :: σ.set i (some (.ref a))) (s :: Γ.set i (.own o))).Nodup ∧ ∀ b ∈ mutA (v :: σ.set i (some (.ref a))) (s :: Γ.set i (.own o)), b = a ∨ b ∈ mutA (v :: σ) (s :: Γ)
    have step : ∀ (c : Addr), mutA (v :: σ) (s :: Γ) = c :: mutA σ Γ → mutA (v :: σ.set i (some (.ref a))) (s :: Γ.set i (.own o)) = c :: mutA (σ.set i (some (.ref a))) (Γ.set i (.own o)) →
        (mutA (v :: σ.set i (some (.ref a))) (s :: Γ.set i (.own o))).Nodup ∧ ∀ b ∈ mutA (v :: σ.set i (some (.ref a))) (s :: Γ.set i (.own o)), b = a ∨ b ∈ mutA (v :: σ) (s :: Γ) := by
      intro c e1 e2
      rw [e1] at nd hn ⊢
      rw [e2]
      refine ⟨List.nodup_cons.mpr ⟨fun m => ?_, ih1⟩, fun b hb => ?_⟩
      · rcases ih2 c m with z | z
        · exact hn (z ▸ List.mem_cons_self)
        · exact (List.nodup_cons.mp nd).1 z
      · rcases List.mem_cons.mp hb with z | z
        · exact .inr (z ▸ List.mem_cons_self)
        · exact (ih2 b z).imp id fun m => List.mem_cons_of_mem _ m
    have stay : mutA (v :: σ) (s :: Γ) = mutA σ Γ → mutA (v :: σ.set i (some (.ref a))) (s :: Γ.set i (.own o)) = mutA (σ.set i (some (.ref a))) (Γ.set i (.own o)) →
        (mutA (v :: σ.set i (some (.ref a))) (s :: Γ.set i (.own o))).Nodup ∧ ∀ b ∈ mutA (v :: σ.set i (some (.ref a))) (s :: Γ.set i (.own o)), b = a ∨ b ∈ mutA (v :: σ) (s :: Γ) := by
      intro e1 e2
      rw [e1, e2]
      exact ⟨ih1, ih2⟩
    cases s with
    | own o' =>
      cases v with
      | none => exact stay (by rw [mutA_cons]) (by rw [mutA_cons])
      | some w => cases w <;> first | exact step _ (by rw [mutA_cons]) (by rw [mutA_cons]) | exact stay (by rw [mutA_cons]) (by rw [mutA_cons])
    | bor o' =>
      cases v with
      | none => exact stay (by rw [mutA_cons]) (by rw [mutA_cons])
      | some w => cases w <;> first | exact step _ (by rw [mutA_cons]) (by rw [mutA_cons]) | exact stay (by rw [mutA_cons]) (by rw [mutA_cons])
    | no =>
      cases v with
      | none => exact stay (by rw [mutA_cons]) (by rw [mutA_cons])
      | some w => cases w <;> exact stay (by rw [mutA_cons]) (by rw [mutA_cons])
    | val d =>
      cases v with
      | none => exact stay (by rw [mutA_cons]) (by rw [mutA_cons])
      | some w => cases w <;> exact stay (by rw [mutA_cons]) (by rw [mutA_cons])
    | exc c fs =>
      cases v with
      | none => exact stay (by rw [mutA_cons]) (by rw [mutA_cons])
      | some w => cases w <;> exact stay (by rw [mutA_cons]) (by rw [mutA_cons])
section
variable {X : Cx} {F : Fx} {E : XP} {G H : Hp} {σ : St} {Γ : Env}
/-- not handed in -/
def noBor (Γ : Env) (i : Nat) : Bool := match Γ[i]? with
  | some (.bor _) => false
  | none => false
  | some _ => true
theorem Ok.setOwn (k : Ok F G H σ Γ) {i : Nat} {a : Addr} {o : MO} (hi : noBor Γ i = true) (ga : G a = none) (m : MRep F.toCf G H o a) (h0 : F.H0 a = none) (hm : a ∉ mutA σ Γ) : Ok F G H (σ.set i (some (.ref a))) (Γ.set i (.own o)) := by
  refine ⟨k.sub, k.g0, k.fresh, k.frame, k.bor, k.slots.set (s := .own o) (v := some (.ref a)) (show SlotOk F G H (some (.ref a)) (.own o) from ⟨a, rfl, ga, m, h0⟩) i, (mutA_setOwn hm k.nd).1, fun j b e => ?_, by rw [List.length_set]; exact k.pl⟩
  obtain ⟨e1, o', e2⟩ := k.pin j b e
  have hj : i ≠ j := fun q => by
    subst q
    unfold noBor at hi
    rw [e2] at hi
    cases hi
  rw [List.getElem?_set_ne hj, List.getElem?_set_ne hj]
  exact ⟨e1, o', e2⟩
abbrev QN := Env → (MO → Env → Prop) → XP → Prop
def FinN (F : Fx) (G : Hp) (σ : St) (Q : MO → Env → Prop) : VK := fun w H' => ∃ o a Γ' G', Q o Γ' ∧ Inc G G' ∧ Ok F G' H' σ Γ' ∧ w = .ref a ∧ G' a = none ∧ MRep F.toCf G' H' o a ∧ F.H0 a = none ∧ a ∉ mutA σ Γ'
/-- an expression that makes a new thing -/
structure LN (X : Cx) (F : Fx) (E : XP) (e : Expr) (p : QN) : Prop where
  run : ∀ (pins : List (Addr × Obj)) (s : Shared) (σ : St) (H G : Hp) (Γ : Env) (Q : MO → Env → Prop), Inv X pins σ H s → Ok F G H σ Γ → p Γ Q E →
    wpAny (model X.prog X.w) X.A (eval e X.env) (EP X pins σ (FinN F G σ Q)) X.xe s
def tN (F : Fx) (E : XP) (p : QN) : TE := fun σ H K => ∃ G Γ Q, Ok F G H σ Γ ∧ p Γ Q E ∧ ∀ w H', FinN F G σ Q w H' → K w H'
theorem LN.pe {e : Expr} {p : QN} (h : LN X F E e p) : PE X e (tN F E p) := ⟨fun pins s σ H K I ⟨G, Γ, Q, k, q, i⟩ =>
  thn (h.run pins s σ H G Γ Q I k q) fun u s' ⟨v, H', I', r, z⟩ => ⟨v, H', I', r, i v H' z⟩⟩
variable {es : List Expr} {e : Expr} {pr : QA} {pn : QN} {pos p0 : Pos}
theorem not_mut (k : Ok F G H σ Γ) {a : Addr} (h : H a = none) : a ∉ mutA σ Γ := fun m => by
  obtain ⟨⟨o, e⟩, _⟩ := mutA_there k.slots a m
  rw [h] at e
  cases e
/-- [..] -/
def qnLst (p : QA) : QN := fun Γ Q E => p Γ (fun ds Γ1 => ds.length ≤ 100000 ∧ Q (.lst ds) Γ1) E
theorem ln_lst (h : LA X F E es pr) : LN X F E (.List es pos) (qnLst pr) := ⟨fun pins s σ H G Γ Q I k q =>
  (pe_lst h.pa).run pins s σ H _ I ⟨G, Γ, _, k, q, fun ws H' ⟨ds, Γ', G', ⟨hl, q'⟩, i, k', r⟩ => ⟨by rw [r.len]; exact szl hl, fun p hp =>
    ⟨.lst ds, p, Γ', G', q', i, k'.new0 hp _, rfl, k'.sub.no hp, ⟨ws, upd_same, r⟩, k'.h0 hp, not_mut k' hp⟩⟩⟩⟩
/-- f(..), a new thing -/
def qnCall (c : Ct) (p : QH) : QN := fun Γ Q E => p Γ (fun hs Γ1 => match ndb (ixs hs) && hmut Γ1 hs with
  | true => c (argsOf Γ1 hs) (fun d outs => match d with
    | .fr d' => match moD d' with
      | some o => Q o (updS Γ1 hs outs)
      | none => False
    | _ => False) (fun x outs => E x (updS Γ1 hs outs))
  | false => False) E
theorem sp_callN {c : Ct} {hs : List Hd} {Γ : Env} {vs : List V} {σ : St} {G H : Hp} {Q : MO → Env → Prop} (k : Ok F G H σ Γ) (hh : HdsOk F G σ hs vs)
    (h : match ndb (ixs hs) && hmut Γ hs with
      | true => c (argsOf Γ hs) (fun d outs => match d with
        | .fr d' => match moD d' with
          | some o => Q o (updS Γ hs outs)
          | none => False
        | _ => False) (fun x outs => E x (updS Γ hs outs))
      | false => False) : spC F.toCf c vs H (FinN F G σ Q) (WE (wOf F E) σ) := by
  split at h
  · rename_i e
    obtain ⟨nd, hm⟩ := Bool.and_eq_true_iff.mp e
    have hm := hmut_ok hm
    refine ⟨G, argsOf Γ hs, k.sub, args_ok k hh hm, argA_nd k hh nd, _, _, h, fun d outs v H' G' q p ha sh r => ?_, fun x outs cls dd H' G' q p ha sh r => ?_⟩
    · cases d with
      | fr d' =>
        dsimp only at q
        obtain ⟨o, a, hd, rfl, ga, m, h0⟩ := r
        rw [hd] at q
        refine ⟨o, a, _, G', q, p.inc, k.called hh hm nd p ha sh, rfl, ga, m, k.h0 h0, fun mm => ?_⟩
        rw [mutA_kin updS_len fun i s t e1 e2 => updS_kin e1 e2] at mm
        exact not_mut k h0 mm
      | _ => exact q.elim
    · exact ⟨G', _, x, k.called hh hm nd p ha sh, r, q⟩
  · exact h.elim
theorem call_lenN {c : Ct} {hs : List Hd} {Γ : Env} {n : Nat} {Q : MO → Env → Prop} (hl : ∀ args Q E, c args Q E → args.length = n)
    (h : match ndb (ixs hs) && hmut Γ hs with
      | true => c (argsOf Γ hs) (fun d outs => match d with
        | .fr d' => match moD d' with
          | some o => Q o (updS Γ hs outs)
          | none => False
        | _ => False) (fun x outs => E x (updS Γ hs outs))
      | false => False) : hs.length = n := by
  split at h
  · rw [← argsOf_len (Γ := Γ)]; exact hl _ _ _ h
  · exact h.elim
theorem finN_inc {G G' : Hp} {σ : St} {Q : MO → Env → Prop} {b : V} {H : Hp} (i : Inc G G') (h : FinN F G' σ Q b H) : FinN F G σ Q b H := let ⟨o, a, Γ, G2, q, c, e⟩ := h; ⟨o, a, Γ, G2, q, i.trans c, e⟩
theorem ln_call {c : Ct} {fa : Addr} {n : Nat} {x : Str} {args : List Expr} {kws : List Keyword} {ks : List Str} {ph : QH} (C : CodeOk X X.A F.toCf fa n ks c) (hm : X.mg x = some (.ref fa)) (hk : PySem.W.keepIn X.K (.ref fa) = true) (tk : Takes X (wOf F E)) (ha : LC X F E args kws ks ph) (hg : Gl X x := by rfl)
    (hdb : (x == ("__debug__" : Str)) = false := by decide) : LN X F E (.Call (.Name x p0) args kws pos) (qnCall c ph) := by
  refine ⟨fun pins s σ H G Γ Q I k h => ?_⟩
  refine wpAny_Call_Name_kw (ld_glob I hg hm ?_ hdb)
  refine ha.run pos _ [] pins s σ H G Γ _ _ hk I k h fun us ws vs zs s' H' hs Γ' G' I' r rz l q i k' hh => ?_
  have hl := call_lenN C.len q
  have hv := hds_len hh
  rw [List.length_append] at hv
  exact thn (back_call (C.run pins s' σ H' vs us zs ws _ _ tk I' r rz (by omega) l (sp_callN k' hh q))) fun u s2 ⟨w, H2, I2, r2, z⟩ => ⟨w, H2, I2, r2, finN_inc i z⟩
/-- x = a new thing -/
def setN (Γ : Env) (i : Nat) (o : MO) (Q : Env → Prop) : Prop := match noBor Γ i with
  | true => Q (Γ.set i (.own o))
  | false => False
def qSetN (i : Nat) (p : QN) : QS := fun Γ P E => p Γ (fun o Γ1 => setN Γ1 i o P.nx) E
theorem ls_setN (i : Nat) {x : Str} {pos' : Pos} (hN : X.N.Nodup) (he : LN X F E e pn) (hi : X.N[i]? = some x := by rfl) (hx : Loc X.env.scope x := by first | exact Or.inl rfl | exact Or.inr rfl) (hs : swapsWith e (some (.Name x pos')) pos.line X.env = pure false := by rfl)
    (hf : X.fn x = true ∨ X.env.scope.names.lookup x = some .local := by first | exact .inl rfl | exact .inr rfl | assumption) : LS X F E (.Assign [.Name x pos'] e pos) (qSetN i pn) :=
  LS.of (ps_set (i := i) hN hi hx he.pe hs hf) fun σ H G Γ P k q => ⟨G, Γ, _, k, q, fun w H' ⟨o, a, Γ', G', q', i1, k', e, ga, m, h0, hm⟩ => by
    subst e
    dsimp only [setN] at q'
    split at q'
    · rename_i hb
      exact ⟨_, G', q', i1, k'.setOwn hb ga m h0 hm⟩
    · exact q'.elim⟩
def dMo : MO → D
  | .lst xs => .lst xs
  | .dic xs => .dic xs
  | .ins c xs => .ins c xs
theorem moD_dMo (o : MO) : moD (dMo o) = some o := by cases o <;> rfl
/-- return a new thing -/
def qRetN (p : QN) : QS := fun Γ P E => p Γ (fun o Γ1 => P.rt (.fr (dMo o)) Γ1) E
theorem ls_retN (he : LN X F E e pn) : LS X F E (.Return (some e) pos) (qRetN pn) :=
  ⟨fun pins s σ H G Γ P I k h => wpAny_Return_some (thn (he.run pins s σ H G Γ _ I k h) fun v s1 ⟨x, H1, I1, r1, o, a, Γ1, G1, q1, i1, k1, e, ga, m, h0, hm⟩ => ⟨x, σ, H1, I1, r1, .fr (dMo o), Γ1, G1, σ, q1, i1, k1, o, a, moD_dMo o, e, ga, m, h0⟩)⟩
/-- return x, x a thing of one's own -/
def qRetO (j : Nat) : QS := fun Γ P _ => match Γ[j]? with
  | some (.own o) => P.rt (.fr (dMo o)) Γ
  | _ => False
variable {x : Str} {px : Pos}
theorem ls_retO (j : Nat) (hN : X.N[j]? = some x := by rfl) (hv : Vis X.env.scope x := by first | exact Or.inl rfl | exact Or.inr (Or.inl rfl) | exact Or.inr (Or.inr rfl)) (hd : (x == ("__debug__" : Str)) = false := by decide)
    (hcd : (x == ("__classdict__" : Str)) = false := by decide) : LS X F E (.Return (some (.Name x px)) pos) (qRetO j) :=
  ⟨fun pins s σ H G Γ P I k h => by
    unfold qRetO at h
    split at h
    · rename_i o e
      obtain ⟨v, ev, ok⟩ := k.slots.get e
      cases v with
      | none => exact ok.elim
      | some v =>
        obtain ⟨a, rfl, ga, m, h0⟩ := ok
        exact wpAny_Return_some (thn ((pe_var (X := X) (i := j) hN hv hd hcd).run pins s σ H (fun v H' => v = .ref a ∧ H' = H) I ⟨.ref a, ev, rfl, rfl⟩) fun v s1 ⟨x, H1, I1, r1, e1, e2⟩ => by
          subst e1
          subst e2
          exact ⟨.ref a, σ, H1, I1, r1, .fr (dMo o), Γ, G, σ, h, Inc.refl G, k, o, a, moD_dMo o, rfl, ga, m, h0⟩)
    · exact h.elim⟩
/-- x read as a datum: from now on it stays as it is -/
def qFrz (j : Nat) : QE := fun Γ Q _ => match Γ[j]? with
  | some (.own o) => Q (dMo o) (Γ.set j (.val (dMo o)))
  | _ => False
theorem mutA_drop {d : D} {a : Addr} : ∀ {σ : St} {Γ : Env} {j : Nat} {s : Slot}, σ[j]? = some (some (.ref a)) → Γ[j]? = some s → s.mo.isSome = true → (mutA σ Γ).Nodup → (mutA σ (Γ.set j (.val d))).Nodup ∧ ∀ b ∈ mutA σ (Γ.set j (.val d)), b ≠ a ∧ b ∈ mutA σ Γ
  | [], _, _, _, e, _, _, _ => by simp at e
  | _ :: _, [], _, _, _, e, _, _ => by simp at e
  | v :: σ, t :: Γ, 0, s, e1, e2, z, nd => by
    simp at e1 e2
    subst e1; subst e2
    have h : mutA (some (V.ref a) :: σ) (t :: Γ) = a :: mutA σ Γ := by
      rw [mutA_cons]
      cases t with
      | own o => rfl
      | bor o => rfl
      | no => cases z
      | val d => cases z
      | exc c fs => cases z
    rw [h] at nd ⊢
    show (mutA σ Γ).Nodup ∧ ∀ b ∈ mutA σ Γ, b ≠ a ∧ b ∈ a :: mutA σ Γ
    exact ⟨(List.nodup_cons.mp nd).2, fun b hb => ⟨fun q => (List.nodup_cons.mp nd).1 (q ▸ hb), List.mem_cons_of_mem _ hb⟩⟩
  | v :: σ, t :: Γ, j + 1, s, e1, e2, z, nd => by
    have e1' : σ[j]? = some (some (.ref a)) := by simpa using e1
    have e2' : Γ[j]? = some s := by simpa using e2
    obtain ⟨h1, h2⟩ := mutA_drop (d := d) e1' e2' z (nd_tail nd)
    have ma := mem_mutA e1' e2' z
    show (mutA (v :: σ) (t :: Γ.set j (.val d))).Nodup ∧ ∀ b ∈ mutA (v :: σ) (t :: Γ.set j (.val d)), b ≠ a ∧ b ∈ mutA (v :: σ) (t :: Γ)
    rw [mutA_cons] at nd ⊢
    rw [mutA_cons]
    split at nd
    · rename_i c _
      refine ⟨List.nodup_cons.mpr ⟨fun m => (List.nodup_cons.mp nd).1 (h2 _ m).2, h1⟩, fun b hb => ?_⟩
      rcases List.mem_cons.mp hb with q | q
      · subst q
        exact ⟨fun q => (List.nodup_cons.mp nd).1 (q ▸ ma), List.mem_cons_self⟩
      · exact ⟨(h2 b q).1, List.mem_cons_of_mem _ (h2 b q).2⟩
    · rename_i c _
      refine ⟨List.nodup_cons.mpr ⟨fun m => (List.nodup_cons.mp nd).1 (h2 _ m).2, h1⟩, fun b hb => ?_⟩
      rcases List.mem_cons.mp hb with q | q
      · subst q
        exact ⟨fun q => (List.nodup_cons.mp nd).1 (q ▸ ma), List.mem_cons_self⟩
      · exact ⟨(h2 b q).1, List.mem_cons_of_mem _ (h2 b q).2⟩
    · rename_i h3 h4
      exact ⟨h1, h2⟩
theorem le_frz (j : Nat) (hN : X.N[j]? = some x := by rfl) (hv : Vis X.env.scope x := by first | exact Or.inl rfl | exact Or.inr (Or.inl rfl) | exact Or.inr (Or.inr rfl)) (hd : (x == ("__debug__" : Str)) = false := by decide)
    (hcd : (x == ("__classdict__" : Str)) = false := by decide) : LE X F E (.Name x px) (qFrz j) :=
  LE.of (pe_var hN hv hd hcd) fun σ H G Γ Q k q => by
    unfold qFrz at q
    split at q
    · rename_i o e
      obtain ⟨v, ev, ok⟩ := k.slots.get e
      cases v with
      | none => exact ok.elim
      | some v =>
        obtain ⟨a, rfl, ga, m, h0⟩ := ok
        obtain ⟨u, hu, ru⟩ := mrep_tell (moD_dMo o) ga m
        obtain ⟨nd1, nd2⟩ := mutA_drop (d := dMo o) ev e rfl k.nd
        refine ⟨.ref a, ev, dMo o, _, upd G a u, q, Inc.new ga, ?_, ru⟩
        refine ⟨fun b w eb => ?_, k.g0.trans (Inc.new ga), fun b w eb => ?_, k.frame, k.bor, ?_, nd1, fun i b eb => ?_, by rw [List.length_set]; exact k.pl⟩
        · by_cases h : b = a
          · subst h
            rw [upd_same] at eb
            cases eb
            exact .inl hu
          · rw [upd_ne h] at eb
            exact k.sub b w eb
        · by_cases h : b = a
          · subst h
            exact .inr h0
          · rw [upd_ne h] at eb
            exact k.fresh b w eb
        · refine Slots.mk (by rw [List.length_set]; exact k.slots.len) fun i v t e1 e2 => ?_
          by_cases hij : j = i
          · subst hij
            have hl : j < Γ.length := (List.getElem?_eq_some_iff.mp e).1
            rw [List.getElem?_set_self hl] at e2
            cases e2
            rw [ev] at e1
            cases e1
            exact ru
          · rw [List.getElem?_set_ne hij] at e2
            obtain ⟨v', ev', ok'⟩ := k.slots.get e2
            rw [e1] at ev'
            cases ev'
            refine SlotOk.step (Inc.new ga) (fun b eb zb => ?_) (fun dd ws _ q => q) ok'
            subst eb
            have nba : b ≠ a := fun q => by
              subst q
              exact hij (mutA_inj k.nd ev e1 e e2 rfl zb)
            obtain ⟨o2, ho2⟩ := Option.isSome_iff_exists.mp zb
            obtain ⟨b', eb', g2, _⟩ := k.mut e2 ho2
            rw [e1] at eb'
            cases eb'
            exact ⟨rfl, by rw [upd_ne nba]; exact g2⟩
        · obtain ⟨e1, o', e2⟩ := k.pin i b eb
          have hj : j ≠ i := fun q => by
            subst q
            rw [e] at e2
            cases e2
          rw [List.getElem?_set_ne hj]
          exact ⟨e1, o', e2⟩
    · exact q.elim
/-- len(x), x a thing that may change -/
def qLenM (j : Nat) : QE := fun Γ Q _ => match seqAt Γ j with
  | some xs => Q (.int xs.length) Γ
  | none => False
theorem le_lenM (j : Nat) {p1 : Pos} (hK : F.K = X.K) (hm : X.mg "len" = none) (hg : Gl X "len" := by rfl) (hbv : bootBuiltins "len" = some (.builtin "len") := by rfl) (hN : X.N[j]? = some x := by rfl) (hv : Vis X.env.scope x := by first | exact Or.inl rfl | exact Or.inr (Or.inl rfl) | exact Or.inr (Or.inr rfl)) (hd : (x == ("__debug__" : Str)) = false := by decide)
    (hcd : (x == ("__classdict__" : Str)) = false := by decide) (he : starEach [.Name x px] X.env = (false, eval (.Name x px) X.env) :: starEach [] X.env := by rfl) (hpl : (backTo pos (starEach [] X.env)).any (·.1) = false := by rfl) : LE X F E (.Call (.Name "len" p1) [.Name x px] [] pos) (qLenM j) :=
  LE.of (pe_callB L2.call_len hg hm hbv (pa_cons (pe_var hN hv hd hcd) pa_nil he) (by decide) (by decide) he hpl) fun σ H G Γ Q k q => by
    unfold qLenM at q
    split at q
    · rename_i xs e
      obtain ⟨a, vs, ea, sq, r⟩ := seqAt_ok k e
      exact ⟨.ref a, ea, .ref a, _, rfl, .inl ⟨vs, hK ▸ sq, rfl⟩, by rw [r.len]; exact fin0 k q rfl⟩
    · exact q.elim
end
end Q

set_option Elab.async false
set_option linter.all false
set_option maxRecDepth 100000
set_option maxHeartbeats 4000000
namespace Q
open PySem L2 PySem.Spec PyProof.Rows He PySem.W
open SlX (SIsi)
/-! ## 13. The head -/
structure DP where
  p : Frag → Prop
  d : ∀ K, Decidable (p K)
def DP.b (f : DP) (K : Frag) : Bool := @decide (f.p K) (f.d K)
def dp (p : Frag → Prop) [d : ∀ K, Decidable (p K)] : DP := ⟨p, d⟩
def obsQ (fa : List DP) (fn : List DefD) (K : Frag) : AlD := ((fa.all fun f => f.b K) && fn.all fun d => d.ok K, fn.map fun d => fnW K d.at_)
def SaysQ (fa : List DP) (fn : List DefD) (K : Frag) : Prop := obsQ fa fn K = valD fn
def asQ (g : Addr → Option Obj) : Nat → List Addr
  | 0 => [mainGlobals, cStatics]
  | n + 1 => growD g (asQ g n)
def obsQG (n : Nat) (fa : List DP) (fn : List DefD) (g : Addr → Option Obj) : AlD := obsQ fa fn (frG g (asQ g n))
def hookQ (n : Nat) (fa : List DP) (fn : List DefD) : Hook where
  α := AlD
  obs := fun s => obsQG n fa fn s.heap.get?
  val := fun _ => valD fn
  says := fun _ h => ∃ K : Frag, K.In h ∧ SaysQ fa fn K
  of := fun _ _ e => ⟨_, frG_in, e⟩
  keeps := fun _ _ _ ⟨K, hK, c⟩ k => ⟨K, Frag.In.keeps hK k, c⟩
theorem obsQG_eq {n : Nat} {fa : List DP} {fn : List DefD} {g : Addr → Option Obj} {s : Shared} (h : ∀ a, g a = s.heap.get? a) : obsQG n fa fn g = (hookQ n fa fn).obs s := by
  have e : g = s.heap.get? := funext h
  rw [e] <;> rfl
section
variable {fa : List DP} {fn : List DefD} {K : Frag}
theorem SaysQ.fact (c : SaysQ fa fn K) (i : Nat) {f : DP} (h : fa[i]? = some f := by rfl) : f.p K := by
  have c1 := (ba (show ((fa.all fun f => f.b K) && fn.all fun d => d.ok K) = true from congrArg (fun z : AlD => z.1) c)).1
  exact @of_decide_eq_true _ (f.d K) (List.all_eq_true.mp c1 f (List.mem_of_getElem? h))
theorem SaysQ.def_ (c : SaysQ fa fn K) (i : Nat) {d : DefD} (h : fn[i]? = some d := by rfl) : ∃ fd, FunD K d.name d.qual d.params d.body d.scope (d.dvs K) (d.kws K) (fAd K d.at_) fd := by
  have c2 := (ba (show ((fa.all fun f => f.b K) && fn.all fun d => d.ok K) = true from congrArg (fun z : AlD => z.1) c)).2
  have e : fn.map (fun d => fnW K d.at_) = fn.map DefD.val := congrArg (fun z : AlD => z.2) c
  have e2 : (fn.map fun d => fnW K d.at_)[i]? = (fn.map DefD.val)[i]? := by rw [e]
  rw [List.getElem?_map, List.getElem?_map, h] at e2
  exact DefD.funD (Option.some.inj e2) (List.all_eq_true.mp c2 d (List.mem_of_getElem? h))
end
/-! ### what is asked of the names -/
def cname : Cn → Str
  | .ratio => "Ratio" | .poly => "Polynomial" | .root => "Root" | .formula => "Formula" | .table => "Table" | .facts => "Facts" | .desk => "Desk" | .trial => "Trial"
  | .filterError => "FilterError" | .byZero => "ByZero" | .badNumber => "BadNumber" | .badText => "BadText" | .zeroPolynomial => "ZeroPolynomial" | .badRoot => "BadRoot" | .badStretch => "BadStretch" | .badRow => "BadRow" | .badTable => "BadTable"
  | .noLine => "NoLine" | .unlikeTables => "UnlikeTables" | .badBeam => "BadBeam" | .notFilter => "NotFilter" | .notMirror => "NotMirror" | .badCounts => "BadCounts" | .badAnswer => "BadAnswer" | .badShare => "BadShare" | .never => "Never"
  | .badLine => "BadLine" | .clash => "Clash" | .nothingToUndo => "NothingToUndo" | .nothingToRedo => "NothingToRedo"
def cf (K : Frag) : Cf := ⟨K, fun c => ga K (cname c)⟩
abbrev pGlo (x : Str) (K : Frag) : Prop := nsIn K mainGlobals x = some (some (.ref (ga K x)))
abbrev pFree (x : Str) (K : Frag) : Prop := nsIn K mainGlobals x = some none
abbrev pCls (c : Cn) (K : Frag) : Prop := (plainGet K (ga K (cname c)) Str.empty = true ∧ hasDictIn K (ga K (cname c)) = true ∧ plainOver K (ga K (cname c)) = true ∧ findIn K (.ref (ga K (cname c))) "__setattr__" = some (some (.builtin "object.__setattr__"))) ∧
  (findIn K (.ref (ga K (cname c))) "__class__" = some (some (.builtin "object.__class__")) ∧ specialIn K (.builtin "object.__class__") "__get__" = some (some (.builtin "getset_descriptor.__get__")) ∧ takesIn K (.builtin "object.__class__") = some true ∧ mroIn K (ga K (cname c)) (.type "object") = some true)
theorem pCls_cls {c : Cn} {K : Frag} (h : pCls c K) : L2.Cls K ((cf K).cl c) := ⟨h.1.1, h.1.2.1, h.1.2.2.1, h.1.2.2.2⟩
theorem pCls_isi {c : Cn} {K : Frag} (h : pCls c K) : SIsi K ((cf K).cl c) := ⟨h.2.1, h.2.2.1, h.2.2.2.1, h.2.2.2.2⟩
abbrev pNo (c : Cn) (f : Str) (K : Frag) : Prop := findIn K (.ref (ga K (cname c))) f = some none
abbrev pMeth (c : Cn) (m : Str) (K : Frag) : Prop := findIn K (.ref (ga K (cname c))) m = some (some (.ref (ma K (ga K (cname c)) m))) ∧ isFn K (.ref (ma K (ga K (cname c)) m)) = true ∧ keepIn K (.ref (ma K (ga K (cname c)) m)) = true
theorem pMeth_ok {c : Cn} {m : Str} {K : Frag} (h : pMeth c m K) : Meth K ((cf K).cl c) m (ma K (ga K (cname c)) m) := ⟨h.1, h.2.1, h.2.2⟩
abbrev pMk (c : Cn) (K : Frag) : Prop := makesIn K (ga K (cname c)) = true ∧ findIn K (.ref (ga K (cname c))) "__init__" = some (some (.ref (ma K (ga K (cname c)) "__init__"))) ∧ isFn K (.ref (ma K (ga K (cname c)) "__init__")) = true ∧ keepIn K (.ref (ga K (cname c))) = true
theorem pMk_ok {c : Cn} {K : Frag} (h : pMk c K) : L2.Mk K ((cf K).cl c) (ma K (ga K (cname c)) "__init__") := ⟨h.1, h.2.1, h.2.2.1, h.2.2.2⟩
abbrev pFirst (c : Cn) (K : Frag) : Prop := selfFirst K (ga K (cname c)) = true
theorem op_ok {c : Cn} {m : Str} {K : Frag} {op : Operator} (hm : PySem.dunder op.info.2 = m) (h0 : pFirst c K) (h : pMeth c m K) : OwnOp K ((cf K).cl c) op (ma K (ga K (cname c)) m) := ⟨h0, by rw [hm]; exact h.1, h.2.1⟩
abbrev pOpT (c : Cn) (op : Operator) (T : String) (K : Frag) : Prop := findIn K (.ref (ga K (cname c))) (dunderR op.info.2) = some none ∧ (findIn K (.type T) (PySem.dunder op.info.2)).isSome = true ∧ (findIn K (.type T) (dunderR op.info.2)).isSome = true ∧ subIn K (.type T) (.ref (ga K (cname c))) = some false
theorem pOpT_ok {c : Cn} {op : Operator} {T : String} {K : Frag} (h : pOpT c op T K) : OwnOpT K ((cf K).cl c) op T := by
  obtain ⟨h1, h2, h3, h4⟩ := h
  obtain ⟨fo, e1⟩ := Option.isSome_iff_exists.mp h2
  obtain ⟨ro, e2⟩ := Option.isSome_iff_exists.mp h3
  exact ⟨fo, ro, none, h1, .inl rfl, e1, e2, h4⟩
theorem neg_ok {c : Cn} {K : Frag} (h : pMeth c "__neg__" K) : OwnUn K ((cf K).cl c) (ma K (ga K (cname c)) "__neg__") := ⟨h.1, h.2.1⟩
theorem cmp_ok {c : Cn} {m : Str} {K : Frag} {op : CmpOp} (hm : (cmpInfo op).2.1 = m) (h : pMeth c m K) : OwnCmp K ((cf K).cl c) op (ma K (ga K (cname c)) m) := ⟨by rw [hm]; exact h.1, h.2.1⟩
abbrev pNe (c : Cn) (K : Frag) : Prop := findIn K (.ref (ga K (cname c))) "__ne__" = some (some (.builtin "object.__ne__"))
theorem ne_ok {c : Cn} {K : Frag} (h0 : pCls c K) (h : pNe c K) (he : pMeth c "__eq__" K) : OwnNe K ((cf K).cl c) (ma K (ga K (cname c)) "__eq__") := ⟨h, h0.2.2.2.2, he.1, he.2.1⟩
def bltT : List String := ["NoneType", "bool", "int", "str", "list", "tuple", "dict"]
abbrev pNF (c : Cn) (ds : List Cn) (K : Frag) : Prop := (bltT.all fun T => notFirst K (ga K (cname c)) (.type T)) = true ∧ (ds.all fun d => notFirst K (ga K (cname c)) (.ref (ga K (cname d)))) = true
theorem nf_ok {c : Cn} {ds : List Cn} {K : Frag} (h : pNF c ds K) (hd : ∀ d ∈ ds, pCls d K) : CmpOk (cf K) c { blt := true, own := ds } :=
  ⟨fun _ T hT => List.all_eq_true.mp h.1 T hT, fun d m => ⟨List.all_eq_true.mp h.2 d m, pCls_cls (hd d m), pCls_isi (hd d m)⟩⟩
/-- what stands for a class: a built-in type, an own class -/
inductive Cu where
  | ty (n : String) | own (c : Cn)
def Cu.v (K : Frag) : Cu → Value
  | .ty n => .type n
  | .own c => .ref (ga K (cname c))
abbrev pIsa (us : List Cu) (t : IsaT) (K : Frag) : Prop := kitAny K (.type "NoneType") (us.map (Cu.v K)) = some t.non ∧ kitAny K (.type "bool") (us.map (Cu.v K)) = some t.bl ∧ kitAny K (.type "int") (us.map (Cu.v K)) = some t.int ∧ kitAny K (.type "str") (us.map (Cu.v K)) = some t.str ∧ kitAny K (.type "list") (us.map (Cu.v K)) = some t.lst ∧
  kitAny K (.type "tuple") (us.map (Cu.v K)) = some t.tup ∧ kitAny K (.type "dict") (us.map (Cu.v K)) = some t.dic ∧ (t.own.all fun p => decide (kitAny K (.ref (ga K (cname p.1))) (us.map (Cu.v K)) = some p.2)) = true
theorem isa_ok {us : List Cu} {t : IsaT} {K : Frag} (h : pIsa us t K) (hd : ∀ p ∈ t.own, pCls p.1 K) : IsaOk (cf K) (us.map (Cu.v K)) t :=
  ⟨h.1, h.2.1, h.2.2.1, h.2.2.2.1, h.2.2.2.2.1, h.2.2.2.2.2.1, h.2.2.2.2.2.2.1, fun p m => ⟨of_decide_eq_true (List.all_eq_true.mp h.2.2.2.2.2.2.2 p m), pCls_cls (hd p m), pCls_isi (hd p m)⟩⟩
/-! errors -/
def oexB (K : Frag) (C : Addr) : Bool := match K.lookup C with
  | some ⟨.type "type", _, .cls cd, sl⟩ => (match cd.mro, sl.toList with
    | .ref C' :: bm, [_, _, _, _, some (.builtin n), _] => C' == C && n == "ValueError.__new__" && !cd.hasDel && cd.hasDict && PySem.HandSPX.refsVE bm
    | _, _ => false)
  | _ => false
theorem oexB_ok {K : Frag} {C : Addr} (q : oexB K C = true) : ∃ nm q N bs bm sn sub ab col dd k0 k1 k2 k3 k5, K.lookup C = some (excClassObj nm q C N bs bm true sn sub ab col dd k0 k1 k2 k3 k5 "ValueError.__new__") ∧ PySem.HandSPX.refsVE bm = true := by
  unfold oexB at q
  split at q
  · rename_i dd cd sl ho
    split at q
    · rename_i C' bm k0 k1 k2 k3 n k5 hm hs
      simp only [Bool.and_eq_true, beq_iff_eq, Bool.not_eq_true'] at q
      obtain ⟨⟨⟨⟨rfl, rfl⟩, hdel⟩, hdd⟩, ht⟩ := q
      obtain ⟨nm, bs, mro, ns, qn, hd, sn, sub, ab, col, del⟩ := cd
      dsimp only at hm hdel hdd
      subst hm hdel hdd
      have hsl : sl = #[k0, k1, k2, k3, some (.builtin "ValueError.__new__"), k5] := by
        obtain ⟨l⟩ := sl
        simp only at hs
        rw [hs]
      subst hsl
      exact ⟨nm, qn, ns, bs, bm, sn, sub, ab, col, dd, k0, k1, k2, k3, k5, ho, ht⟩
    · cases q
  · cases q
abbrev pErr (c : Cn) (K : Frag) : Prop := oexB K (ga K (cname c)) = true ∧ findIn K (.ref (ga K (cname c))) "__setattr__" = some (some (.builtin "object.__setattr__")) ∧ subIn K (.ref (ga K (cname c))) (.type "BaseException") = some true ∧ typeIn K (.ref (ga K (cname c))) = some (.type "type") ∧ keepIn K (.ref (ga K (cname c))) = true ∧
  findIn K (.ref (ga K (cname c))) "__init__" = some (some (.ref (ma K (ga K (cname c)) "__init__"))) ∧ typeIn K (.ref (ma K (ga K (cname c)) "__init__")) = some (.type "function") ∧
  findIn K (.ref (ga K (cname c))) "__getattribute__" = some (some (.builtin "BaseException.__getattribute__")) ∧ findIn K (.ref (ga K (cname c))) "__getattr__" = some none ∧ hasDictIn K (ga K (cname c)) = true
theorem pErr_o {c : Cn} {K : Frag} (h : pErr c K) : OexC K ((cf K).cl c) := ⟨oexB_ok h.1, h.2.1, h.2.2.1, h.2.2.2.1, h.2.2.2.2.1⟩
theorem pErr_x {c : Cn} {K : Frag} (h : pErr c K) : XfC K ((cf K).cl c) := ⟨h.2.2.2.2.2.2.2.1, h.2.2.2.2.2.2.2.2.1, h.2.2.1, h.2.2.2.2.2.2.2.2.2⟩
abbrev pErrB (K : Frag) : Prop := specialIn K (.ref (ga K "FilterError")) "__getattribute__" = some (some (.builtin "type.__getattribute__")) ∧ readsIn K (ga K "FilterError") (.type "type") = true ∧ (match findCls K (.ref (ga K "FilterError")) (.type "type") "__init__" with
  | some (.val (.builtin n)) => n == "ValueError.__init__"
  | _ => false) = true
theorem pErrB_ok {K : Frag} (h : pErrB K) : ErrB K (ga K "FilterError") := by
  obtain ⟨h1, h2, h3⟩ := h
  refine ⟨h1, h2, ?_⟩
  split at h3
  · rename_i n e
    rw [e, beq_iff_eq.mp h3]
  · cases h3
abbrev pExm (c : Cn) (t : List (Cn × Bool)) (K : Frag) : Prop := (t.all fun p => decide (exmOne K (.ref (ga K (cname p.1))) (.ref (ga K (cname c))) = some p.2)) = true
theorem exm_ok' {c : Cn} {t : List (Cn × Bool)} {K : Frag} (h : pExm c t K) : ExmOk (cf K) (.ref (ga K (cname c))) t := fun p m => of_decide_eq_true (List.all_eq_true.mp h p m)
/-! ### a def, all that the callers lean on -/
structure FnB (P : Program) (w : World) (K : Frag) (mg : Str → Option Value) (base : Heap) (d : DefD) (k : Nat) (ps : List Str) (c : Ct) : Prop where
  ex : ∃ fd, FunD K d.name d.qual d.params d.body d.scope (d.dvs K) (d.kws K) (fAd K d.at_) fd ∧ FnOk P w K mg base (L2.CX P w) k (fAd K d.at_) fd ps (spC (cf K) c)
  len : ∀ args Q E, c args Q E → args.length = ps.length
section
variable {P : Program} {w : World} {K : Frag} {mg : Str → Option Value} {base : Heap}
theorem FnB.kp {d : DefD} {k : Nat} {ps : List Str} {c : Ct} (h : FnB P w K mg base d k ps c) : keepIn K (.ref (fAd K d.at_)) = true := by
  obtain ⟨fd, F, _⟩ := h.ex
  exact F.kp
/-- called with all arguments, by position -/
theorem FnB.all {d : DefD} {k : Nat} {ps : List Str} {c : Ct} {X : Cx} {A : Around} {n : Nat} (h : FnB P w K mg base d k ps c) (hX : X.prog = P) (hw : X.w = w) (hK : X.K = K) (hmg : X.mg = mg) (hb : X.base = base) (hA : A.frames = X.A.frames) (hr : Room k A) (hd : d.dfl = []) (hn : n = ps.length)
    (hbd : ∀ (kV doc pm : Value) (an : Option Addr) (cdv ct : Value) (us : List Value), us.length = ps.length → bindArgs (fnOf d.name d.qual d.params d.body d.scope .none kV doc pm an cdv ct) ⟨us, []⟩ = pure (ps.zip us)) : CodeOk X A (cf K) (fAd K d.at_) n [] c := by
  subst hX hw hK hmg hb
  obtain ⟨fd, F, G⟩ := h.ex
  have hdv : d.dvs X.K = [] := by unfold DefD.dvs; rw [hd]; rfl
  rw [hdv] at F
  exact code_all G hA hr (F.bindsN hbd) hn fun args Q E z => by rw [hn]; exact h.len args Q E z
/-- with the last ones by default -/
theorem FnB.dfl {d : DefD} {k : Nat} {ps : List Str} {c : Ct} {X : Cx} {A : Around} {n : Nat} {dd : List D} (h : FnB P w K mg base d k ps c) (hX : X.prog = P) (hw : X.w = w) (hK : X.K = K) (hmg : X.mg = mg) (hb : X.base = base) (hA : A.frames = X.A.frames) (hr : Room k A) (hd : d.dvs K ≠ []) (hR : ∀ G, Reps (cf K) G dd (d.dvs K)) (hn : n + (d.dvs K).length = ps.length)
    (hbd : ∀ (T : Addr) (kV doc pm : Value) (an : Option Addr) (cdv ct : Value) (us its : List Value), us.length = n → its.length = (d.dvs K).length →
      ∃ k, bindArgs (fnOf d.name d.qual d.params d.body d.scope (.ref T) kV doc pm an cdv ct) ⟨us, []⟩ = seqItems? (.ref T) >>= k ∧ k (some its.toArray) = pure (ps.zip (us ++ its.drop 0))) : CodeOk X A (cf K) (fAd K d.at_) n [] (dflt c dd) := by
  subst hX hw hK hmg hb
  obtain ⟨fd, F, G⟩ := h.ex
  obtain ⟨ds, hv, hbn⟩ := F.binds1 (ps := ps) n 0 hd (by rw [Nat.sub_zero]; exact hn) hbd
  have hl : (d.dvs X.K).length = dd.length := (hR fun _ => none).len
  rw [List.drop_zero] at hv
  exact code_dfl G hA hr hbn hv hR hn fun args Q E z => by rw [h.len args Q E z]; omega
/-- by keywords, no defaults -/
theorem FnB.kw {d : DefD} {k : Nat} {ps ks : List Str} {c : Ct} {X : Cx} {A : Around} {n : Nat} {fD : List D → List D} {g : {α : Type} → List α → List α → List α} (h : FnB P w K mg base d k ps c) (hX : X.prog = P) (hw : X.w = w) (hK : X.K = K) (hmg : X.mg = mg) (hb : X.base = base) (hA : A.frames = X.A.frames) (hr : Room k A) (hd : d.dfl = [])
    (hbd : ∀ (kV doc pm : Value) (an : Option Addr) (cdv ct : Value) (us ws : List Value), us.length = n → ws.length = ks.length → bindArgs (fnOf d.name d.qual d.params d.body d.scope .none kV doc pm an cdv ct) ⟨us, ks.zip ws⟩ = pure (ps.zip (g us ws)))
    (hrel : ∀ {vs zs : List V} {us ws : List Value}, Vals vs us → Vals zs ws → Vals (g vs zs) (g us ws))
    (hl : ∀ ds : List D, (fD ds).length = ps.length → ds.length = n + ks.length) (hf : ∀ (ds : List D) (vs zs : List V) G, vs.length = n → zs.length = ks.length → Reps (cf K) G ds (vs ++ zs) → Reps (cf K) G (fD ds) (g vs zs)) : CodeOk X A (cf K) (fAd K d.at_) n ks (kwC c fD) := by
  subst hX hw hK hmg hb
  obtain ⟨fd, F, G⟩ := h.ex
  have hdv : d.dvs X.K = [] := by unfold DefD.dvs; rw [hd]; rfl
  rw [hdv] at F
  have kb : KBn X.K fd ps n ks (fun us ws => g us ws) (fun vs zs => g vs zs) := by
    obtain ⟨oc, od, dV, kV, doc, pm, an, cdv, ct, osl, rfl, lk, hcd, hD, hKw⟩ := F.ex
    rcases hD with ⟨_, rfl⟩ | ⟨e, _⟩
    · exact ⟨fun s us ws _ l1 l2 => .of_eq (hbd kV doc pm an cdv ct us ws l1 l2), fun r1 r2 => hrel r1 r2⟩
    · exact absurd rfl e
  exact code_kw G hA hr kb (fun ds Q E z => hl ds (by have := h.len _ _ _ z; rw [List.length_map] at this; exact this)) hf
/-- by keywords, defaults are there -/
theorem FnB.kwD {d : DefD} {k : Nat} {ps ks : List Str} {c : Ct} {X : Cx} {A : Around} {n : Nat} {fD : List D → List D} {g : {α : Type} → List α → List α → List α → List α} (h : FnB P w K mg base d k ps c) (hX : X.prog = P) (hw : X.w = w) (hK : X.K = K) (hmg : X.mg = mg) (hb : X.base = base) (hA : A.frames = X.A.frames) (hr : Room k A) (hd : d.dvs K ≠ [])
    (hbd : ∀ (T : Addr) (kV doc pm : Value) (an : Option Addr) (cdv ct : Value) (us its ws : List Value), us.length = n → its.length = (d.dvs K).length → ws.length = ks.length → ∃ k, bindArgs (fnOf d.name d.qual d.params d.body d.scope (.ref T) kV doc pm an cdv ct) ⟨us, ks.zip ws⟩ = seqItems? (.ref T) >>= k ∧ k (some its.toArray) = pure (ps.zip (g us its ws)))
    (hrel : ∀ {vs ds zs : List V} {us its ws : List Value}, Vals vs us → Vals ds its → Vals zs ws → Vals (g vs ds zs) (g us its ws))
    (hl : ∀ ds : List D, (fD ds).length = ps.length → ds.length = n + ks.length) (hf : ∀ (ds : List D) (vs zs : List V) G, vs.length = n → zs.length = ks.length → Reps (cf K) G ds (vs ++ zs) → Reps (cf K) G (fD ds) (g vs (d.dvs K) zs)) : CodeOk X A (cf K) (fAd K d.at_) n ks (kwC c fD) := by
  subst hX hw hK hmg hb
  obtain ⟨fd, F, G⟩ := h.ex
  obtain ⟨its, kb⟩ := F.kbindsD n ks g hd hrel hbd
  exact code_kw G hA hr kb (fun ds Q E z => hl ds (by have := h.len _ _ _ z; rw [List.length_map] at this; exact this)) hf
/-- THE RULE for a def -/
theorem FnB.of {d : DefD} {k : Nat} {N ps : List Str} {c : Ct} {r : QS} (Fn : ∃ fd, FunD K d.name d.qual d.params d.body d.scope (d.dvs K) (d.kws K) (fAd K d.at_) fd) (S : FnScope N ps d.scope) (hlen : ∀ args Q E, c args Q E → args.length = ps.length) (hw : ∀ args Q E, c args Q E → r (startE N.length args) (endsC args Q) (exnC args E))
    (hd : ∀ (f : Addr) (cdv : Value) (A : Around) (outer : List PySem.Env) (s : Shared) (H : Hp) (E0 : XK), Room k (A.deeper (envOfC d.qual d.scope s.heap.objs.size f cdv)) → ∀ (G0 H0 : Hp) (B : List Addr) (pin : List (Option Addr)) (xa : Addr) (xd : Option Addr) (xc : Cn) (E : XP),
      Takes (cxOf (L2.CX P w) P w K mg base N d.qual d.scope f cdv A outer s H E0) (wOf ⟨cf K, G0, H0, B, pin, xa, xd, xc⟩ E) → PassesOwn (model P w) (A.deeper (envOfC d.qual d.scope s.heap.objs.size f cdv)) (envOfC d.qual d.scope s.heap.objs.size f cdv) (cxOf (L2.CX P w) P w K mg base N d.qual d.scope f cdv A outer s H E0).xe →
      LSs (cxOf (L2.CX P w) P w K mg base N d.qual d.scope f cdv A outer s H E0) ⟨cf K, G0, H0, B, pin, xa, xd, xc⟩ E d.body r) : FnB P w K mg base d (k + 1) ps c := by
  obtain ⟨fd, F⟩ := Fn
  refine ⟨⟨fd, F, fnC (Fc := cf K) F S hlen hw fun cdv A outer s H E0 hr Fx E hF tk hp => ?_⟩, hlen⟩
  obtain ⟨c0, G0, H0, B, pin, xa, xd, xc⟩ := Fx
  dsimp only at hF
  subst hF
  exact hd _ cdv A outer s H E0 hr G0 H0 B pin xa xd xc E tk hp
end
/-- one of two readings, by the class of the left operand -/
def oSw (c : Cn) (o1 o2 : O2) : O2 := fun d e Γ Q E => match isC c d with
  | true => o1 d e Γ Q E
  | false => o2 d e Γ Q E
theorem ol_sw {X : Cx} {F : Fx} {E : XP} {f : Value → Value → Sem Value} {c : Cn} {o1 o2 : O2} (h1 : OpL X F E f o1) (h2 : OpL X F E f o2) : OpL X F E f (oSw c o1 o2) := by
  intro pins s σ H G Γ x y v u d e Q I k rv ru rx ry q
  unfold oSw at q
  split at q
  · exact h1 pins s σ H G Γ x y v u d e Q I k rv ru rx ry q
  · exact h2 pins s σ H G Γ x y v u d e Q I k rv ru rx ry q
def oSw1 (c : Cn) (o1 o2 : O1) : O1 := fun d Γ Q E => match isC c d with
  | true => o1 d Γ Q E
  | false => o2 d Γ Q E
theorem ul_sw {X : Cx} {F : Fx} {E : XP} {f : Value → Sem Value} {c : Cn} {o1 o2 : O1} (h1 : UnL X F E f o1) (h2 : UnL X F E f o2) : UnL X F E f (oSw1 c o1 o2) := by
  intro pins s σ H G Γ x v d Q I k rv rx q
  unfold oSw1 at q
  split at q
  · exact h1 pins s σ H G Γ x v d Q I k rv rx q
  · exact h2 pins s σ H G Γ x v d Q I k rv rx q
end Q

set_option Elab.async false
set_option linter.all false
set_option maxRecDepth 100000
set_option maxHeartbeats 4000000
namespace Q
open PySem L2 PySem.Spec PyProof.Rows He PySem.W
theorem names_own {X : Cx} {x : Str} {c : Value} (hm : X.mg x = some c) (hg : Gl X x := by rfl) (hdb : (x == ("__debug__" : Str)) = false := by decide) : Names X x c := ⟨hg, hdb, .inl hm⟩
theorem hn1 {pa : QE} {k : Str} (Γ : Env) (Q : List D → Env → Prop) (E : XP) (h : qCons pa qNil Γ Q E) : qCons pa qNil Γ (fun ds Γ' => ds.length = [k].length ∧ Q ds Γ') E := by
  have e : (fun (d : D) (Γ1 : Env) => qNil Γ1 (fun ds Γ2 => (d :: ds).length = [k].length ∧ Q (d :: ds) Γ2) E) = fun d Γ1 => qNil Γ1 (fun ds Γ2 => Q (d :: ds) Γ2) E := by
    funext d Γ1
    exact propext ⟨fun z => z.2, fun z => ⟨rfl, z⟩⟩
  show pa Γ (fun (d : D) (Γ1 : Env) => qNil Γ1 (fun ds Γ2 => (d :: ds).length = [k].length ∧ Q (d :: ds) Γ2) E) E
  rw [e]
  exact h
theorem hn2 {pa pb : QE} {k k2 : Str} (Γ : Env) (Q : List D → Env → Prop) (E : XP) (h : qCons pa (qCons pb qNil) Γ Q E) : qCons pa (qCons pb qNil) Γ (fun ds Γ' => ds.length = [k, k2].length ∧ Q ds Γ') E := by
  have e : (fun (d : D) (Γ1 : Env) => qCons pb qNil Γ1 (fun ds Γ2 => (d :: ds).length = [k, k2].length ∧ Q (d :: ds) Γ2) E) = fun d Γ1 => qCons pb qNil Γ1 (fun ds Γ2 => Q (d :: ds) Γ2) E := by
    funext d Γ1
    have e2 : (fun (d2 : D) (Γ3 : Env) => qNil Γ3 (fun ds Γ2 => (d :: d2 :: ds).length = [k, k2].length ∧ Q (d :: d2 :: ds) Γ2) E) = fun d2 Γ3 => qNil Γ3 (fun ds Γ2 => Q (d :: d2 :: ds) Γ2) E := by
      funext d2 Γ3
      exact propext ⟨fun z => z.2, fun z => ⟨rfl, z⟩⟩
    show pb Γ1 (fun (d2 : D) (Γ3 : Env) => qNil Γ3 (fun ds Γ2 => (d :: d2 :: ds).length = [k, k2].length ∧ Q (d :: d2 :: ds) Γ2) E) E = _
    rw [e2]
    rfl
  show pa Γ (fun (d : D) (Γ1 : Env) => qCons pb qNil Γ1 (fun ds Γ2 => (d :: ds).length = [k, k2].length ∧ Q (d :: ds) Γ2) E) E
  rw [e]
  exact h
section
variable {P : Program} {w : World} {K : Frag} {mg : Str → Option Value} {base : Heap}
/-- all arguments are written, though there are defaults -/
theorem FnB.full {d : DefD} {k : Nat} {ps : List Str} {c : Ct} {X : Cx} {A : Around} {n : Nat} (h : FnB P w K mg base d k ps c) (hX : X.prog = P) (hw : X.w = w) (hK : X.K = K) (hmg : X.mg = mg) (hb : X.base = base) (hA : A.frames = X.A.frames) (hr : Room k A) (hd : d.dvs K ≠ []) (hn : n = ps.length)
    (hbd : ∀ (T : Addr) (kV doc pm : Value) (an : Option Addr) (cdv ct : Value) (us its : List Value), us.length = n → its.length = (d.dvs K).length →
      ∃ k, bindArgs (fnOf d.name d.qual d.params d.body d.scope (.ref T) kV doc pm an cdv ct) ⟨us, []⟩ = seqItems? (.ref T) >>= k ∧ k (some its.toArray) = pure (ps.zip (us ++ its.drop (d.dvs K).length))) : CodeOk X A (cf K) (fAd K d.at_) n [] c := by
  subst hX hw hK hmg hb
  obtain ⟨fd, F, G⟩ := h.ex
  obtain ⟨ds, hv, hbn⟩ := F.binds1 (ps := ps) n (d.dvs X.K).length hd (by rw [Nat.sub_self]; exact hn) hbd
  rw [List.drop_length] at hv
  cases hv
  exact code_all G hA hr hbn hn fun args Q E z => by rw [hn]; exact h.len args Q E z
end
/-- {} -/
theorem le_dic0 {X : Cx} {F : Fx} {E : XP} {pos : Pos} : LE X F E (.Dict [] [] pos) (qC (.dic [])) :=
  LE.of pe_dnewK fun σ H G Γ Q k q => fun p hp => ⟨_, Γ, upd G p (.dK []), q, Inc.new (k.sub.no hp), k.new hp _, p, [], rfl, upd_same, rfl⟩
theorem mk_glo {K : Frag} {h : Heap} {mg : Str → Option Value} (X : K.In h) (G : h.Ns mainGlobals mg) {x : Str} (c : pGlo x K) : mg x = some (.ref (ga K x)) := PySem.W.mg_of X G c
theorem mk_free {K : Frag} {h : Heap} {mg : Str → Option Value} (X : K.In h) (G : h.Ns mainGlobals mg) {x : Str} (c : pFree x K) : mg x = none := PySem.W.mg_none_of X G c
end Q

set_option Elab.async false
set_option linter.all false
set_option maxRecDepth 100000
set_option maxHeartbeats 4000000
namespace Q
open PySem L2
/-! ## 14. Plain laws -/
def Bd (n : Nat) (i : Int) : Prop := i.natAbs < 2 ^ n
theorem Bd.mono {n m : Nat} {i : Int} (h : Bd n i) (l : n ≤ m) : Bd m i := Nat.lt_of_lt_of_le h (Nat.pow_le_pow_right (by decide) l)
theorem bd_of {n : Nat} {i : Int} (h : Nat.ble (i.natAbs + 1) (2 ^ n) = true) : Bd n i := Nat.le_of_ble_eq_true h
theorem Bd.mul {n m : Nat} {i j : Int} (h : Bd n i) (k : Bd m j) : Bd (n + m) (i * j) := by
  unfold Bd at *
  rw [Int.natAbs_mul, Nat.pow_add]
  exact Nat.mul_lt_mul'' h k
theorem Bd.add {n : Nat} {i j : Int} (h : Bd n i) (k : Bd n j) : Bd (n + 1) (i + j) := by
  unfold Bd at *
  rw [Nat.pow_succ]
  have := Int.natAbs_add_le i j
  omega
theorem Bd.sub {n : Nat} {i j : Int} (h : Bd n i) (k : Bd n j) : Bd (n + 1) (i - j) := by
  unfold Bd at *
  rw [Nat.pow_succ]
  have := Int.natAbs_sub_le i j
  omega
theorem Bd.neg {n : Nat} {i : Int} (h : Bd n i) : Bd n (-i) := by
  unfold Bd at *
  rwa [Int.natAbs_neg]
theorem mul_ok {n m : Nat} {i j : Int} (h : Bd n i) (k : Bd m j) (l : n + m ≤ 134217728) : MulOk i j := mulx_ok h k l
theorem div_ok {i j : Int} (h0 : j ≠ 0) (h : Bd 8999 j) : DivOk i j := ⟨h0, PyProof.noPylong_of_log2 (by
  have : j.natAbs.log2 < 8999 := (Nat.log2_lt (by omega)).mpr h
  omega)⟩
theorem pow3_ok {n : Nat} {i : Int} (h : Bd n i) (l : n ≤ 1000) : PowOk i 3 := ⟨by decide, by
  have h1 := PyProof.Rows.intBits_le h
  have h2 : (Builtin.Int.intBits i : Int) ≤ 1000 := by omega
  have e : (2 : Int) ^ 27 = 134217728 := by decide
  rw [e]
  omega⟩
theorem gcd_bd {n : Nat} {a b : Int} (h : Bd n b) (hb : b ≠ 0) : Bd n (Int.gcd a b : Int) := by
  unfold Bd at *
  have h1 : Int.gcd a b ≤ b.natAbs := Nat.le_of_dvd (by omega) (Nat.gcd_dvd_right _ _)
  have h2 : ((Int.gcd a b : Nat) : Int).natAbs = Int.gcd a b := rfl
  omega
theorem gcd_ne {a b : Int} (hb : b ≠ 0) : (Int.gcd a b : Int) ≠ 0 := by
  have : Int.gcd a b ≠ 0 := fun e => by
    have := (Int.gcd_eq_zero_iff.mp e).2
    exact hb this
  omega
theorem gcd_fmod (x y : Int) : Int.gcd y (x.fmod y) = Int.gcd x y := by
  rw [Int.fmod_def, show x - y * x.fdiv y = x - x.fdiv y * y by rw [Int.mul_comm], Int.gcd_sub_mul_right_right, Int.gcd_comm]
theorem fmod_lt (x : Int) {y : Int} (h : y ≠ 0) : (x.fmod y).natAbs < y.natAbs := by
  rcases Int.lt_or_gt_of_ne h with h | h
  · have e : x.fmod y = -((-x).fmod (-y)) := by rw [Int.neg_fmod_neg]; omega
    have h1 := Int.fmod_lt_of_pos (-x) (show 0 < -y by omega)
    have h2 := Int.fmod_nonneg_of_pos (-x) (show 0 < -y by omega)
    omega
  · have h1 := Int.fmod_lt_of_pos x h
    have h2 := Int.fmod_nonneg_of_pos x h
    omega
/-! ratios -/
def dvs (a b : Int) : Int := if 0 < b then (Int.gcd a b : Int) else -(Int.gcd a b : Int)
theorem dvs_ne {a b : Int} (hb : b ≠ 0) : dvs a b ≠ 0 := by
  have := gcd_ne (a := a) hb
  unfold dvs
  split <;> omega
theorem dvs_bd {n : Nat} {a b : Int} (h : Bd n b) (hb : b ≠ 0) : Bd n (dvs a b) := by
  have := gcd_bd (a := a) h hb
  unfold dvs
  split
  · exact this
  · exact this.neg
theorem dvs_num {a b : Int} (hb : b ≠ 0) : a.fdiv (dvs a b) = (Rat.divInt a b).num := by
  have hd : (Int.gcd a b : Int) ∣ a := Int.gcd_dvd_left a b
  have hg := gcd_ne (a := a) hb
  rw [Rat.num_divInt, Int.gcd_comm b a]
  unfold dvs
  split
  · rename_i h
    rw [Int.sign_eq_one_of_pos h, Int.one_mul, Int.fdiv_eq_ediv_of_dvd hd]
  · rename_i h
    have hn : b < 0 := by omega
    rw [Int.sign_eq_neg_one_of_neg hn, Int.fdiv_neg hg, if_pos hd, Int.fdiv_eq_ediv_of_dvd hd, Int.neg_mul, Int.one_mul, Int.neg_ediv_of_dvd hd]
theorem dvs_den {a b : Int} (hb : b ≠ 0) : b.fdiv (dvs a b) = ((Rat.divInt a b).den : Int) := by
  have hd : (Int.gcd a b : Int) ∣ b := Int.gcd_dvd_right a b
  have hg := gcd_ne (a := a) hb
  rw [Rat.den_divInt, if_neg hb, Int.gcd_comm b a]
  unfold dvs
  split
  · rename_i h
    rw [Int.fdiv_eq_ediv_of_dvd hd]
    rw [Int.natCast_ediv, Int.natAbs_of_nonneg (by omega)]
  · rename_i h
    have hn : b < 0 := by omega
    rw [Int.fdiv_neg hg, if_pos hd, Int.fdiv_eq_ediv_of_dvd hd, Int.natCast_ediv, Int.ofNat_natAbs_of_nonpos (by omega), Int.neg_ediv_of_dvd hd]
structure Sz (n : Nat) (q : Rat) : Prop where
  num : Bd n q.num
  den : Bd n (q.den : Int)
theorem den_ne (q : Rat) : (q.den : Int) ≠ 0 := by
  have := q.den_nz
  omega
theorem den_pos (q : Rat) : 0 < (q.den : Int) := by
  have := q.den_nz
  omega
theorem add_divInt (p q : Rat) : Rat.divInt (p.num * (q.den : Int) + q.num * (p.den : Int)) ((p.den : Int) * (q.den : Int)) = p + q := by
  rw [← Rat.divInt_add_divInt _ _ (den_ne p) (den_ne q), Rat.num_divInt_den, Rat.num_divInt_den]
theorem sub_divInt (p q : Rat) : Rat.divInt (p.num * (q.den : Int) - q.num * (p.den : Int)) ((p.den : Int) * (q.den : Int)) = p - q := by
  rw [← Rat.divInt_sub_divInt _ _ (den_ne p) (den_ne q), Rat.num_divInt_den, Rat.num_divInt_den]
theorem mul_divInt (p q : Rat) : Rat.divInt (p.num * q.num) ((p.den : Int) * (q.den : Int)) = p * q := by
  rw [← Rat.divInt_mul_divInt, Rat.num_divInt_den, Rat.num_divInt_den]
theorem neg_divInt (p : Rat) : Rat.divInt (-p.num) (p.den : Int) = -p := by
  rw [← Rat.neg_divInt, Rat.num_divInt_den]
theorem div_divInt (p q : Rat) : Rat.divInt (p.num * (q.den : Int)) ((p.den : Int) * q.num) = p / q := by
  rw [Rat.div_def, Rat.inv_def, ← Rat.divInt_mul_divInt, Rat.num_divInt_den]
/-- the sizes of what is made -/
theorem divInt_sz {n : Nat} {a b : Int} (ha : Bd n a) (hb : Bd n b) (h0 : b ≠ 0) : Sz n (Rat.divInt a b) := by
  constructor
  · rw [← dvs_num h0]
    unfold Bd at *
    have hd : dvs a b ∣ a := by
      unfold dvs
      split
      · exact Int.gcd_dvd_left a b
      · exact (Int.neg_dvd).mpr (Int.gcd_dvd_left a b)
    rw [Int.fdiv_eq_ediv_of_dvd hd]
    have := Int.natAbs_ediv_le_natAbs a (dvs a b)
    omega
  · rw [← dvs_den h0]
    unfold Bd at *
    have hd : dvs a b ∣ b := by
      unfold dvs
      split
      · exact Int.gcd_dvd_right a b
      · exact (Int.neg_dvd).mpr (Int.gcd_dvd_right a b)
    rw [Int.fdiv_eq_ediv_of_dvd hd]
    have := Int.natAbs_ediv_le_natAbs b (dvs a b)
    omega
/-! data -/
def isInt : D → Bool
  | .int _ => true
  | _ => false
/-- data that may be asked for their type -/
def plain : D → Bool
  | .scr _ => false
  | .cls _ => false
  | .ins _ _ => false
  | .fr _ => false
  | _ => true
/-- the number that a datum is -/
def numQ : D → Option Rat
  | .int n => some (n : Rat)
  | .rat q => some q
  | _ => none
def tupR (q : Rat) : D := .tup [.int q.num, .int (q.den : Int)]
theorem eqv_int (a b : Int) : PyData.eqv (.int a) (.int b) = (a == b) := by unfold PyData.eqv; rfl
theorem eqv_tupR (p q : Rat) : PyData.eqv (toPy (tupR p)) (toPy (tupR q)) = decide (p = q) := by
  have e : PyData.eqv (toPy (tupR p)) (toPy (tupR q)) = (p.num == q.num && ((p.den : Int) == (q.den : Int) && true)) := rfl
  rw [e, Bool.and_true]
  by_cases h : p = q
  · subst h
    simp
  · rw [decide_eq_false h]
    by_cases h1 : p.num = q.num
    · have h2 : p.den ≠ q.den := fun e2 => h (Rat.ext h1 e2)
      simp [h1]
      omega
    · simp [h1]
theorem plain_tupR (q : Rat) : plainD (tupR q) = true := rfl
end Q

set_option Elab.async false
set_option linter.all false
set_option maxRecDepth 100000
set_option maxHeartbeats 4000000
namespace Q
open PySem L2 PySem.Spec PyProof.Rows He PySem.W
/-! ## 15. self by position, the others by keywords -/
def kwS (c : Ct) (f : List D → List D) : Ct := fun args Q E => match args with
  | [] => False
  | s :: rest => match valsOf rest with
    | some ds => c (s :: (f ds).map Slot.val) (fun d outs => match outs with
      | t :: _ => Q d (t :: rest)
      | [] => False) (fun x outs => match outs with
      | t :: _ => E x (t :: rest)
      | [] => False)
    | none => False
theorem argA_one : ∀ {s : Slot} {v : V} {ds : List D} {vs : List V}, argA (s :: ds.map Slot.val) (v :: vs) = argA [s] [v] := by
  intro s v ds vs
  cases s with
  | bor o =>
    cases v with
    | ref a => show a :: argA (ds.map Slot.val) vs = [a]; rw [argA_vals]
    | _ => exact argA_vals
  | _ => cases v <;> exact argA_vals
section
variable {X : Cx} {A : Around} {Fc : Cf}
theorem code_kwS {c : Ct} {k n : Nat} {f : Addr} {fd : FuncData} {ps ks : List Str} {g : List Value → List Value → List Value} {gV gW : List V → List V → List V} {fD : List D → List D} (Fn : FnOk X.prog X.w X.K X.mg X.base (L2.CX X.prog X.w) k f fd ps (spC Fc c)) (hA : A.frames = X.A.frames) (hr : Room k A) (hb : KBn X.K fd ps (n + 1) ks g gV)
    (hg : ∀ v vs zs, vs.length = n → zs.length = ks.length → gV (v :: vs) zs = v :: gW vs zs) (hl : ∀ (s : Slot) (ds : List D) Q E, c (s :: (fD ds).map Slot.val) Q E → ds.length = n + ks.length) (hf : ∀ (ds : List D) (vs zs : List V) G, vs.length = n → zs.length = ks.length → Reps Fc G ds (vs ++ zs) → Reps Fc G (fD ds) (gW vs zs)) : CodeOk X A Fc f (n + 1) ks (kwS c fD) := by
  refine code_fn Fn hA hr hb (fun args Q E h => ?_) fun vs zs H Q E l1 l2 h => ?_
  · cases args with
    | nil => exact h.elim
    | cons s rest =>
      dsimp only [kwS] at h
      split at h
      · rename_i ds e
        have := hl s ds _ _ h
        rw [List.length_cons, valsOf_eq e, List.length_map]
        omega
      · exact h.elim
  · cases vs with
    | nil => cases l1
    | cons v vs =>
      have l1' : vs.length = n := by simpa using l1
      obtain ⟨G, args, sb, ha, nd, Qc, Ec, hc, hq, he⟩ := h
      cases args with
      | nil => exact hc.elim
      | cons s rest =>
        obtain ⟨v', r', e0, hs, hrest⟩ := ha
        cases e0
        dsimp only [kwS] at hc
        split at hc
        · rename_i ds e
          have ea := valsOf_eq e
          subst ea
          have rp := hf ds vs zs G l1' l2 (args_vals.mp hrest)
          rw [hg v vs zs l1' l2]
          rw [List.cons_append, argA_one] at nd
          have out : ∀ {G' H' : Hp} {outs : List Slot}, Post G H (argA (s :: (fD ds).map Slot.val) (v :: gW vs zs)) G' H' → ArgsOk Fc G' H' outs (v :: gW vs zs) → shape (s :: (fD ds).map Slot.val) outs → ∃ t r, outs = t :: r ∧ Post G H (argA (s :: ds.map Slot.val) (v :: (vs ++ zs))) G' H' ∧ ArgsOk Fc G' H' (t :: ds.map Slot.val) (v :: (vs ++ zs)) ∧ shape (s :: ds.map Slot.val) (t :: ds.map Slot.val) := by
            intro G' H' outs p a sh
            cases outs with
            | nil => cases a
            | cons t outs =>
              obtain ⟨_, _, e1, ht, _⟩ := a
              cases e1
              refine ⟨t, outs, rfl, ?_, ⟨v, vs ++ zs, rfl, ht, args_vals.mpr ((args_vals.mp hrest).inc p.inc)⟩, ?_⟩
              · rw [argA_one] at p ⊢
                exact p
              · cases s with
                | bor o => exact ⟨sh.1, shape_vals⟩
                | no => exact ⟨sh.1, shape_vals⟩
                | val d => exact ⟨sh.1, shape_vals⟩
                | own o => exact ⟨sh.1, shape_vals⟩
                | exc c fs => exact ⟨sh.1, shape_vals⟩
          refine ⟨G, s :: (fD ds).map Slot.val, sb, ⟨v, _, rfl, hs, args_vals.mpr rp⟩, by rw [argA_one]; exact nd, _, _, hc, fun d outs w H' G' q p a sh r => ?_, fun x outs cls d' H' G' q p a sh r => ?_⟩
          · obtain ⟨t, r', rfl, p', a', sh'⟩ := out p a sh
            exact hq d _ w H' G' q p' a' sh' r
          · obtain ⟨t, r', rfl, p', a', sh'⟩ := out p a sh
            exact he x _ cls d' H' G' q p' a' sh' r
        · exact hc.elim
end
section
variable {P : Program} {w : World} {K : Frag} {mg : Str → Option Value} {base : Heap}
theorem FnB.kwSD {d : DefD} {k : Nat} {ps ks : List Str} {c : Ct} {X : Cx} {A : Around} {n : Nat} {fD : List D → List D} {g : {α : Type} → List α → List α → List α → List α} {gW : List V → List V → List V} (h : FnB P w K mg base d k ps c) (hX : X.prog = P) (hw : X.w = w) (hK : X.K = K) (hmg : X.mg = mg) (hb : X.base = base) (hA : A.frames = X.A.frames) (hr : Room k A) (hd : d.dvs K ≠ [])
    (hbd : ∀ (T : Addr) (kV doc pm : Value) (an : Option Addr) (cdv ct : Value) (us its ws : List Value), us.length = n + 1 → its.length = (d.dvs K).length → ws.length = ks.length → ∃ k, bindArgs (fnOf d.name d.qual d.params d.body d.scope (.ref T) kV doc pm an cdv ct) ⟨us, ks.zip ws⟩ = seqItems? (.ref T) >>= k ∧ k (some its.toArray) = pure (ps.zip (g us its ws)))
    (hrel : ∀ {vs ds zs : List V} {us its ws : List Value}, Vals vs us → Vals ds its → Vals zs ws → Vals (g vs ds zs) (g us its ws)) (hg : ∀ v vs zs, vs.length = n → zs.length = ks.length → g (v :: vs) (d.dvs K) zs = v :: gW vs zs)
    (hl : ∀ ds : List D, (fD ds).length + 1 = ps.length → ds.length = n + ks.length) (hf : ∀ (ds : List D) (vs zs : List V) G, vs.length = n → zs.length = ks.length → Reps (cf K) G ds (vs ++ zs) → Reps (cf K) G (fD ds) (gW vs zs)) : CodeOk X A (cf K) (fAd K d.at_) (n + 1) ks (kwS c fD) := by
  subst hX hw hK hmg hb
  obtain ⟨fd, F, G⟩ := h.ex
  obtain ⟨its, kb⟩ := F.kbindsD (n + 1) ks g hd hrel hbd
  exact code_kwS G hA hr kb hg (fun s ds Q E z => hl ds (by have := h.len _ _ _ z; rw [List.length_cons, List.length_map] at this; exact this)) hf
/-! ### a def that asks what is shown: nothing is being shown around it -/
structure FnG (P : Program) (w : World) (K : Frag) (mg : Str → Option Value) (base : Heap) (CX : CXT) (k : Nat) (f : Addr) (fd : FuncData) (ps : List Str) (sp : Sp) : Prop where
  len : ∀ vs H Q E, sp vs H Q E → vs.length = ps.length
  run : ∀ (A : Around) (outer : List PySem.Env) (s : Shared) (H : Hp) (args : Args) (us : List Value) (vs : List V) (Q : VK) (E : XK), A.guards = some [] → Room k A → Env0 P w K mg base A outer s H → BindsTo s fd args (ps.zip us) → Vals vs us → sp vs H Q E →
    codeAny (model P w) A (.call (.ref f) args) (CR CX outer P w H s Q E) s
theorem deeper_g (A : Around) (env : PySem.Env) : (A.deeper env).guards = A.guards := rfl
theorem in1_g (A : Around) : A.in1.guards = A.guards := rfl
theorem mark_g (A : Around) (h : Option Value) : (A.mark h).guards = A.guards := rfl
end
end Q

set_option Elab.async false
set_option linter.all false
set_option maxRecDepth 100000
set_option maxHeartbeats 4000000
namespace Q
open PySem L2 PySem.Spec PyProof.Rows He PySem.W
/-! ## 16. repr, and the defs that ask it -/
section
variable {X : Cx} {F : Fx} {E : XP}
def oRepr : ON := fun ds Γ Q _ => match ds with
  | [.non] => Q (.str "None") Γ
  | [.bl b] => Q (.str (if b then "True" else "False")) Γ
  | [.int i] => i.natAbs.log2 < 1920 ∧ Q (.str (toString i)) Γ
  | [.str x] => (reprText x).length ≤ sizeLine ∧ Q (.str (reprText x)) Γ
  | [.lst xs] => (isPys xs = true ∧ (toPy (.lst xs)).showable = true ∧ (toPy (.lst xs)).hasDict = false ∧ (toPy (.lst xs)).depth ≤ 50 ∧ (toPy (.lst xs)).shown.length ≤ sizeLine) ∧ Q (.str (toPy (.lst xs)).shown) Γ
  | [.tup xs] => (isPys xs = true ∧ (toPy (.tup xs)).showable = true ∧ (toPy (.tup xs)).hasDict = false ∧ (toPy (.tup xs)).depth ≤ 50 ∧ (toPy (.tup xs)).shown.length ≤ sizeLine) ∧ Q (.str (toPy (.tup xs)).shown) Γ
  | [.dic []] => Q (.str (PyData.dict []).shown) Γ
  | _ => False
theorem roomU {k : Nat} {A : Around} (r : Room k A) : A.units + 100 < cLine := by have := r.un; omega
theorem ol_eqU (hK : F.K = X.K) (hu : X.A.units + 100 < cLine) : OpL X F E (compareOp .Eq) oEq := OpL.of (op_eqD (by omega)) fun σ H G Γ x y d e Q k rx ry q => by
  obtain ⟨a, b, q⟩ := q
  exact ⟨toPy d, toPy e, hK ▸ dp_of k.sub (plain_py a).1 rx, hK ▸ dp_of k.sub (plain_py b).1 ry, (plain_py a).2, (plain_py b).2, fin0 k q rfl⟩
theorem bl_repr (hK : F.K = X.K) (hr : X.A.units + 100 < cLine) (hg : X.A.guards = some []) : BlL X F E (.builtin "repr") oRepr := by
  intro pins s σ H G Γ vs us ds Q I k rv rd q
  have shown : ∀ {d : PyData} {u : Value} {a : Addr} {as : List Addr}, u = .ref a → Reads s.heap u d as → d.showable = true → (d.hasDict = true → sysModules ∉ as) → d.depth ≤ 50 → d.shown.length ≤ sizeLine → Q (.str d.shown) Γ →
      wpAny (model X.prog X.w) X.A (call (.builtin "repr") [u]) (EP X pins σ (Fin F G σ Q)) X.xe s := by
    intro d u a as e r h1 h2 h3 h4 hq
    subst e
    exact repr_of_reads' r h1 h2 hg (by omega) (fun _ _ z => z) (fun h' u tk hk => ⟨.str d.shown, H, I.kept hk, ⟨_, rfl⟩, fin0 k hq rfl⟩) h4
  unfold oRepr at q
  split at q
  · obtain ⟨v, rfl, r⟩ := reps1 rd
    cases (show v = _ from r)
    obtain ⟨u, rfl, ru⟩ := vals1 rv
    cases (show u = Value.none from ru)
    exact PySem.P.repr_of_none ⟨.str _, H, I.tok _, ⟨_, rfl⟩, fin0 k q rfl⟩
  · rename_i b
    obtain ⟨v, rfl, r⟩ := reps1 rd
    cases (show v = _ from r)
    obtain ⟨u, rfl, ru⟩ := vals1 rv
    cases (show u = Value.bool b from ru)
    exact PySem.P.repr_of_bool ⟨.str _, H, I.tok _, ⟨_, rfl⟩, fin0 k q rfl⟩
  · rename_i i
    obtain ⟨v, rfl, r⟩ := reps1 rd
    cases (show v = _ from r)
    obtain ⟨u, rfl, ru⟩ := vals1 rv
    obtain ⟨t, rfl⟩ := (show ∃ t, u = Value.int i t from ru)
    exact PySem.P.repr_of_int q.1 ⟨.str _, H, I.tok _, ⟨_, rfl⟩, fin0 k q.2 rfl⟩
  · rename_i x
    obtain ⟨v, rfl, r⟩ := reps1 rd
    cases (show v = _ from r)
    obtain ⟨u, rfl, ru⟩ := vals1 rv
    obtain ⟨t, rfl⟩ := (show ∃ t, u = Value.str x t from ru)
    exact PySem.P.repr_of_str ⟨.str _, H, I.tok _, ⟨_, rfl⟩, fin0 k q.2 rfl⟩ q.1
  · rename_i xs
    obtain ⟨v, rfl, r⟩ := reps1 rd
    obtain ⟨u, rfl, ru⟩ := vals1 rv
    obtain ⟨⟨h1, h2, h3, h4, h5⟩, hq⟩ := q
    obtain ⟨as, rr⟩ := Dp.reads I _ v u (hK ▸ dp_of k.sub (d := .lst xs) h1 r) ru
    obtain ⟨a, ws, rfl, _⟩ := r
    exact shown ru rr h2 (fun z => by rw [h3] at z; cases z) h4 h5 hq
  · rename_i xs
    obtain ⟨v, rfl, r⟩ := reps1 rd
    obtain ⟨u, rfl, ru⟩ := vals1 rv
    obtain ⟨⟨h1, h2, h3, h4, h5⟩, hq⟩ := q
    obtain ⟨as, rr⟩ := Dp.reads I _ v u (hK ▸ dp_of k.sub (d := .tup xs) h1 r) ru
    obtain ⟨a, ws, rfl, _⟩ := r
    exact shown ru rr h2 (fun z => by rw [h3] at z; cases z) h4 h5 hq
  · obtain ⟨v, rfl, r⟩ := reps1 rd
    obtain ⟨u, rfl, ru⟩ := vals1 rv
    obtain ⟨a, ws, rfl, g, rw'⟩ := r
    cases (show ws = [] from rw')
    cases (show u = Value.ref a from ru)
    have key : ObjOk X.prog X.w H s.heap a (.dK []) := by
      rcases k.sub _ _ g with e | ⟨_, ob, e⟩
      · exact I.hok a _ e
      · exact (show ObjOk X.prog X.w H s.heap a (.frz ob (.dK [])) from I.hok a _ e).2
    obtain ⟨_, hs, vs, kv, o, es, ep, h1, h2, h3, _, h5, _⟩ := key
    cases kv
    have hes : es.toList = [] := by
      cases h : es.toList with
      | nil => rfl
      | cons _ _ => rw [h] at h5; cases h5
    refine shown (d := .dict []) (as := a :: [] ++ []) rfl (.dict (as := []) (bs := []) h1 h2.1 h3 (by rw [hes]; exact .nil) (by rw [hes]; exact .nil)) rfl (fun _ m => ?_) (by decide) (by decide) q
    have : sysModules = a := by simpa using m
    rw [this] at hs
    simp at hs
  · exact q.elim
end
section
variable {P : Program} {w : World} {mg : Str → Option Value} {base : Heap} {Fc : Cf}
theorem fnCG {c : Ct} {r : QS} {x qual : Str} {params : Arguments} {body : List Stmt} {scope : Scope} {dvs : List V} {kws : List (Str × V)} {f : Addr} {fd : FuncData} {N ps : List Str} {k : Nat} (Fn : FunD Fc.K x qual params body scope dvs kws f fd) (S : FnScope N ps scope)
    (hlen : ∀ args Q E, c args Q E → args.length = ps.length) (hw : ∀ args Q E, c args Q E → r (startE N.length args) (endsC args Q) (exnC args E))
    (hd : ∀ (cdv : Value) (A : Around) (outer : List PySem.Env) (s : Shared) (H : Hp) (E0 : XK), Room k (A.deeper (envOfC qual scope s.heap.objs.size f cdv)) → (A.deeper (envOfC qual scope s.heap.objs.size f cdv)).guards = some [] → ∀ (F : Fx) (E : XP), F.toCf = Fc →
      Takes (cxOf (L2.CX P w) P w Fc.K mg base N qual scope f cdv A outer s H E0) (wOf F E) → PassesOwn (model P w) (A.deeper (envOfC qual scope s.heap.objs.size f cdv)) (envOfC qual scope s.heap.objs.size f cdv) (cxOf (L2.CX P w) P w Fc.K mg base N qual scope f cdv A outer s H E0).xe →
      LSs (cxOf (L2.CX P w) P w Fc.K mg base N qual scope f cdv A outer s H E0) F E body r) :
    FnG P w Fc.K mg base (L2.CX P w) (k + 1) f fd ps (spC Fc c) := by
  obtain ⟨oc, od, dV, kV, doc, pm, an, cdv, ct, osl, rfl, lk, hcd, _, _⟩ := Fn.ex
  have len : ∀ vs H Q E, spC Fc c vs H Q E → vs.length = ps.length := fun vs H Q E ⟨G, args, sb, ha, nd, Qc, Ec, hc, _⟩ => by
    rw [ha.len]
    exact hlen _ _ _ hc
  refine ⟨len, fun A outer s H args us vs Q E hgd hr e0 hb rr hsp => ?_⟩
  have hl := len _ _ _ _ hsp
  have KX : Fc.K.In s.heap := e0.mod.kin.keeps fun b o e => (e0.bs b o e).1
  have lim : s.heap.NoLimit := e0.mod.nolimit.keeps fun b o e => (e0.bs b o e).1
  have hkind : ∀ y ∈ ps.zip us, scope.names.lookup y.1 = some .local ∨ (scope.names.lookup y.1 = some .cell ∧ ((cellsFrom (s.heap.objs.size + 1) scope.names []).lookup y.1).isSome = true) := fun ⟨n, v⟩ hy => by
    rcases S.par n (List.of_mem_zip hy).1 with q | q
    · exact .inl q
    · exact .inr ⟨q, PySem.W.cellsFrom_some _ _ _ (.inl q)⟩
  refine codeAny_call_function hr.depth (KX _ _ lk) rfl S.co S.gen rfl (PySem.W.codeRec_of KX hcd) (hb _ _ _ _ ?_)
  refine wpAny_newFunctionEnv_cells S.kind hkind fun env he s1 x => ?_
  subst he
  refine ⟨lim.keeps x.toInCall.keep, codeAny_func ?_⟩
  obtain ⟨G, args', sb, ha, nd, Qc, Ec, hc, hq, he⟩ := hsp
  have al : args'.length = ps.length := hlen _ _ _ hc
  have tk0 : Takes (cxOf (L2.CX P w) P w Fc.K mg base N qual scope f cdv A outer s H E) (fun cls d _ H' => E cls d H') := takes_of rfl rfl rfl rfl
  have tk : Takes (cxOf (L2.CX P w) P w Fc.K mg base N qual scope f cdv A outer s H E) (wOf (fxOf Fc G H args' vs) (exnC args' Ec)) := fun u s' ⟨a, B, sI, pins, σ, H', cls, d, e, I, nb, up, sky, na, os, ag, G', Γ', xx, kk, xr, q⟩ => by
    obtain ⟨p, o1, o2⟩ := post_end ha kk
    exact tk0 u s' ⟨a, B, sI, pins, σ, H', cls, d, e, I, nb, up, sky, na, os, ag, he xx _ cls d H' G' q p o1 o2 xr⟩
  have D := hd cdv A outer s H E (hr.deeper _) hgd (fxOf Fc G H args' vs) (exnC args' Ec) rfl tk PassesOwn.leaving
  have I : Inv (cxOf (L2.CX P w) P w Fc.K mg base N qual scope f cdv A outer s H E) [] (start N vs) H s1 := inv_start S hr.hd e0 hl rr x
  refine wpAny_mono (D.run [] s1 (start N vs) H G (startE N.length args') (endsC args' Qc) I (ok_start sb ha nd) (hw args' Qc Ec hc)) (fun fl s' hs => ?_) fun e s' hs => hs
  have fin : ∀ {σ' : St} {H' : Hp} {v : V} {u : Value}, Inv (cxOf (L2.CX P w) P w Fc.K mg base N qual scope f cdv A outer s H E) [] σ' H' s' → RelV v u → Q v H' → CE outer P w H s Q u s' :=
    fun {σ' H' v u} J rv q => ⟨v, H', J.os, J.bare, J.base, J.hok, rv, q⟩
  cases fl with
  | next =>
    obtain ⟨σ', H', I', Γ', G', q, i, kk⟩ := hs
    obtain ⟨p, o1, o2⟩ := post_end ha kk
    exact fin (v := V.non) (u := Value.none) I' rfl (hq _ _ .non H' G' q p o1 o2 rfl)
  | ret u =>
    obtain ⟨v, σ', H', I', rv, d, Γ', G', σ2, q, i, kk, rp⟩ := hs
    obtain ⟨p, o1, o2⟩ := post_end ha kk
    exact fin I' rv (hq _ _ v H' G' q p o1 o2 rp)
  | brk =>
    obtain ⟨σ', H', I', Γ', G', q, i, kk⟩ := hs
    exact q.elim
  | cont =>
    obtain ⟨σ', H', I', Γ', G', q, i, kk⟩ := hs
    exact q.elim
end
end Q

set_option Elab.async false
set_option linter.all false
set_option maxRecDepth 100000
set_option maxHeartbeats 4000000
namespace Q
open PySem L2 PySem.Spec PyProof.Rows He PySem.W
/-! ## 17. The law's end, where nothing is being shown -/
section
variable {X : Cx} {A : Around} {Fc : Cf}
theorem code_fnG {c0 c : Ct} {k n : Nat} {f : Addr} {fd : FuncData} {ps ks : List Str} {g : List Value → List Value → List Value} {gV : List V → List V → List V} (Fn : FnG X.prog X.w X.K X.mg X.base (L2.CX X.prog X.w) k f fd ps (spC Fc c0)) (hgd : A.guards = some []) (hA : A.frames = X.A.frames) (hr : Room k A) (hb : KBn X.K fd ps n ks g gV)
    (hl : ∀ args Q E, c args Q E → args.length = n + ks.length) (hsp : ∀ vs zs H Q E, vs.length = n → zs.length = ks.length → spC Fc c (vs ++ zs) H Q E → spC Fc c0 (gV vs zs) H Q E) : CodeOk X A Fc f n ks c := by
  refine ⟨hl, fun pins s σ H vs us zs ws Q W tk I r rz l1 l2 h => ?_⟩
  have r2 := hb.rel r rz
  refine codeAny_mono (Fn.run A X.stack s H ⟨us, ks.zip ws⟩ (g us ws) (gV vs zs) Q (WE W σ) hgd hr (env0_at hA I) (hb.to s us ws I.kIn (r.length.symm.trans l1) (rz.length.symm.trans l2)) r2 (hsp vs zs H Q _ l1 l2 h)) fun r s' hq => ?_
  cases r with
  | error e => exact passAt tk σ pins H s e s' I hq
  | ok fl =>
    cases fl with
    | ret u => exact I.after hq
    | next => exact False.elim hq
    | brk => exact False.elim hq
    | cont => exact False.elim hq
end
structure FnBG (P : Program) (w : World) (K : Frag) (mg : Str → Option Value) (base : Heap) (d : DefD) (k : Nat) (ps : List Str) (c : Ct) : Prop where
  ex : ∃ fd, FunD K d.name d.qual d.params d.body d.scope (d.dvs K) (d.kws K) (fAd K d.at_) fd ∧ FnG P w K mg base (L2.CX P w) k (fAd K d.at_) fd ps (spC (cf K) c)
  len : ∀ args Q E, c args Q E → args.length = ps.length
section
variable {P : Program} {w : World} {K : Frag} {mg : Str → Option Value} {base : Heap}
theorem FnBG.kp {d : DefD} {k : Nat} {ps : List Str} {c : Ct} (h : FnBG P w K mg base d k ps c) : keepIn K (.ref (fAd K d.at_)) = true := by
  obtain ⟨fd, F, _⟩ := h.ex
  exact F.kp
theorem FnBG.all {d : DefD} {k : Nat} {ps : List Str} {c : Ct} {X : Cx} {A : Around} {n : Nat} (h : FnBG P w K mg base d k ps c) (hgd : A.guards = some []) (hX : X.prog = P) (hw : X.w = w) (hK : X.K = K) (hmg : X.mg = mg) (hb : X.base = base) (hA : A.frames = X.A.frames) (hr : Room k A) (hd : d.dfl = []) (hn : n = ps.length)
    (hbd : ∀ (kV doc pm : Value) (an : Option Addr) (cdv ct : Value) (us : List Value), us.length = ps.length → bindArgs (fnOf d.name d.qual d.params d.body d.scope .none kV doc pm an cdv ct) ⟨us, []⟩ = pure (ps.zip us)) : CodeOk X A (cf K) (fAd K d.at_) n [] c := by
  subst hX hw hK hmg hb
  obtain ⟨fd, F, G⟩ := h.ex
  have hdv : d.dvs X.K = [] := by unfold DefD.dvs; rw [hd]; rfl
  rw [hdv] at F
  exact code_fnG G hgd hA hr (kbn_all (F.bindsN hbd) hn) (fun args Q E z => by rw [hn]; exact h.len args Q E z) fun vs zs H Q E l1 l2 h => by
    cases zs with
    | nil => rw [List.append_nil] at h; exact h
    | cons _ _ => cases l2
theorem FnBG.of {d : DefD} {k : Nat} {N ps : List Str} {c : Ct} {r : QS} (Fn : ∃ fd, FunD K d.name d.qual d.params d.body d.scope (d.dvs K) (d.kws K) (fAd K d.at_) fd) (S : FnScope N ps d.scope) (hlen : ∀ args Q E, c args Q E → args.length = ps.length) (hw : ∀ args Q E, c args Q E → r (startE N.length args) (endsC args Q) (exnC args E))
    (hd : ∀ (f : Addr) (cdv : Value) (A : Around) (outer : List PySem.Env) (s : Shared) (H : Hp) (E0 : XK), Room k (A.deeper (envOfC d.qual d.scope s.heap.objs.size f cdv)) → (A.deeper (envOfC d.qual d.scope s.heap.objs.size f cdv)).guards = some [] → ∀ (G0 H0 : Hp) (B : List Addr) (pin : List (Option Addr)) (xa : Addr) (xd : Option Addr) (xc : Cn) (E : XP),
      Takes (cxOf (L2.CX P w) P w K mg base N d.qual d.scope f cdv A outer s H E0) (wOf ⟨cf K, G0, H0, B, pin, xa, xd, xc⟩ E) → PassesOwn (model P w) (A.deeper (envOfC d.qual d.scope s.heap.objs.size f cdv)) (envOfC d.qual d.scope s.heap.objs.size f cdv) (cxOf (L2.CX P w) P w K mg base N d.qual d.scope f cdv A outer s H E0).xe →
      LSs (cxOf (L2.CX P w) P w K mg base N d.qual d.scope f cdv A outer s H E0) ⟨cf K, G0, H0, B, pin, xa, xd, xc⟩ E d.body r) : FnBG P w K mg base d (k + 1) ps c := by
  obtain ⟨fd, F⟩ := Fn
  refine ⟨⟨fd, F, fnCG (Fc := cf K) F S hlen hw fun cdv A outer s H E0 hr hgd Fx E hF tk hp => ?_⟩, hlen⟩
  obtain ⟨c0, G0, H0, B, pin, xa, xd, xc⟩ := Fx
  dsimp only at hF
  subst hF
  exact hd _ cdv A outer s H E0 hr hgd G0 H0 B pin xa xd xc E tk hp
end
/-- what is asked of a law's def: at every script it says True -/
def lawC (n : Nat) : Ct := fun args Q _ => ∃ ns : List Int, args = [.val (.scr ns)] ∧ ns.length ≤ n ∧ Q (.bl true) args
theorem lawC_sp {K : Frag} {n : Nat} {H : Hp} {a : Addr} {ns : List Int} {G : Hp} (sb : Sub G H) (hG : SqL K G a (ns.map V.int)) (hl : ns.length ≤ n) : spC (cf K) (lawC n) [.ref a] H (fun v _ => v = .bl true) (fun _ _ _ => False) := by
  refine ⟨G, [.val (.scr ns)], sb, ⟨.ref a, [], rfl, ⟨a, rfl, hG⟩, rfl⟩, List.nodup_nil, fun d _ => d = .bl true, fun _ _ => False, ⟨ns, rfl, hl, rfl⟩, fun d outs v H' G' q p ha sh r => ?_, fun x outs cls dd H' G' q p ha sh r => q⟩
  subst q
  exact r
theorem endG {l : OpenLaw} {n k : Nat} {q : Program} {loose : List Str} {XP : (Str → Option Value) → Heap → Prop} {YP : World → Heap → Prop} {d : DefRec} {x : Str}
    (hn : l.most = some n) (hn2 : n ≤ sizeLine) (hdf : d.params.defaults = []) (hr : Room k callerA)
    (F : ∀ (w : World) (mg : Str → Option Value) (fa : Addr) (h : Heap), YP w h → h.Ns mainGlobals mg → mg d.name = some (.ref fa) →
      ∃ (K : Frag) (fd : FuncData), K.In h ∧ (∀ (s : Shared) (u : Value), BindsTo s fd ⟨[u], []⟩ [(x, u)]) ∧
        ∀ base : Heap, K.In base → base.Ns mainGlobals mg → FnG l.prog w K mg base (L2.CX l.prog w) k fa fd [x] (spC (cf K) (lawC n))) :
    WalkO q loose XP YP l.row.toRowW d [] (fun f vs => PySem.call f vs) := by
  refine Att.attach_call hn hdf fun w s₀ s₁ mg mb fa o pm cd doc a vs ns G Y ho hd hcd hmg ha hi hlen hg => ?_
  obtain ⟨K, fd, KX, hbind, hF⟩ := F w mg fa _ Y G.T.g hmg
  have rv := vals_ints hi
  have lenV := hi.length
  have hl : ns.length ≤ sizeLine := Nat.le_trans hlen hn2
  -- H tells of the script alone
  have core : ∀ H : Hp, Only H → SqL K H a (ns.map V.int) → HOk l.prog w H s₁.heap → (∀ b, H b ≠ none → b = a) → (H a ≠ none → K.lookup a = none) →
      codeAny (model l.prog w) callerA (.call (.ref fa) ⟨[.ref a], []⟩) (fun r s' => r = .ok (.ret (.bool true)) ∧ OldK s₁.heap s'.heap ∧ s'.os = s₁.os ∧ AllBare s'.gens) s₁ := by
    intro H hO hS hok hA hK
    have own : ∀ {b : Addr} {u : HO}, H b = some u → b = a := fun {b u} e => hA b (by rw [e]; exact Option.some_ne_none u)
    have noA : ∀ {b : Addr} {o : Obj} {es : Array DictEntry} {ep : Nat}, s₁.heap.get? b = some o → o.data = .dict es ep → H b = none := fun {b o es ep} e dd => by
      cases hb : H b with
      | none => rfl
      | some u =>
        rw [own hb, ha] at e
        cases e
        cases dd
    have nsK : ∀ {b : Addr} {m : Str → Option Value}, s₁.heap.Ns b m → (hidT s₁.heap H).Ns b m := fun {b m} ⟨o, es, ep, e, dd, r⟩ => ⟨o, es, ep, hidT_get e (noA e dd), dd, r⟩
    have hKb : K.In (hidT s₁.heap H) := fun b o e => hidT_get (KX b o e) (by
      cases hb : H b with
      | none => rfl
      | some u =>
        have eb := own hb
        subst eb
        rw [hK (by rw [hb]; exact Option.some_ne_none u)] at e
        cases e)
    have hM : Mod K mg (hidT s₁.heap H) := ⟨hKb, nsK G.T.g, ⟨mb, nsK G.T.b, G.T.builtins⟩, let ⟨mc, h1, h2⟩ := G.T.nolimit; ⟨mc, nsK h1, h2⟩⟩
    have e0 : Env0 l.prog w K mg (hidT s₁.heap H) callerA [] s₁ H := ⟨rfl, hM, fun b o e => of_hidT e, Nat.le_of_eq (hidT_size _ _), trivial, fun b hb => absurd (show b ∈ ([] : List Addr) from hb) (by simp), hok, .of_eq hg⟩
    refine codeAny_mono ((hF _ hKb (nsK G.T.g)).run callerA [] s₁ H ⟨[.ref a], []⟩ [.ref a] [.ref a] _ _ rfl hr e0 (hbind s₁ (.ref a)) (.cons rfl .nil) (lawC_sp (G := H) (fun b o e => .inl e) hS hlen)) fun r s' h => ?_
    cases r with
    | error e =>
      obtain ⟨_, _, _, _, _, _, _, _, _, _, _, _, z⟩ := (show L2.CX l.prog w [] H s₁ (fun _ _ _ => False) e s' from h)
      exact z.elim
    | ok fl =>
      cases fl with
      | next => exact False.elim h
      | brk => exact False.elim h
      | cont => exact False.elim h
      | ret u =>
        obtain ⟨v, H', os, bare, un, hok', r', z⟩ := h
        have z' : v = .bl true := z
        subst z'
        obtain rfl : u = Value.bool true := r'
        refine ⟨rfl, OldK.of_keep fun b o e => ?_, os, bare⟩
        cases hb : H b with
        | none => exact un.keep b o e hb (fun y => absurd (show b ∈ ([] : List Addr) from y) (by simp)) (by simp)
        | some u =>
          rcases hO b with y | ⟨ob, xs, y⟩
          · rw [hb] at y
            cases y
          · obtain ⟨e1, _⟩ := hok b _ y
            obtain ⟨e2, _⟩ := hok' b _ (un.frzs b ob _ y)
            rw [e] at e1
            cases e1
            exact e2
  cases hk : K.lookup a with
  | some o =>
    have e := KX a o hk
    rw [ha] at e
    cases e
    exact core (fun _ => none) (fun _ => .inl rfl) (.inr ⟨_, vs.toArray, _, hk, rfl, rfl, rfl, by rw [List.size_toArray, lenV]; exact hl, by simpa using rv⟩) (fun b u z => by cases (show (none : Option HO) = some u from z)) (fun b z => absurd rfl z) fun z => absurd rfl z
  | none =>
    refine core (fun b => if b = a then some (.frz { cls := .type "list", data := .seq vs.toArray } (.lst (ns.map V.int))) else none) (fun b => ?_) (.inl (.inr ⟨{ cls := .type "list", data := .seq vs.toArray }, if_pos rfl⟩)) (fun b u z => ?_) (fun b z => ?_) fun _ => hk
    · by_cases hb : b = a
      · exact .inr ⟨_, _, if_pos hb⟩
      · exact .inl (if_neg hb)
    · by_cases hb : b = a
      · have z' := (if_pos hb).symm.trans z
        cases z'
        subst hb
        exact ⟨ha, by rw [List.length_map]; exact hl, vs, _, rv, ha⟩
      · have z' := (if_neg hb).symm.trans z
        cases z'
    · by_cases hb : b = a
      · exact hb
      · exact absurd (if_neg hb) z
end Q

set_option Elab.async false
set_option linter.all false
set_option maxRecDepth 100000
set_option maxHeartbeats 4000000
namespace Q
open PySem L2 PySem.Spec PyProof.Rows He PySem.W
/-- the function object at an address is one -/
theorem same_fd {K : Frag} {x qual x' qual' : Str} {params params' : Arguments} {body body' : List Stmt} {scope scope' : Scope} {dvs dvs' : List V} {kws kws' : List (Str × V)} {f : Addr} {fd fd' : FuncData} (F : FunD K x qual params body scope dvs kws f fd) (F' : FunD K x' qual' params' body' scope' dvs' kws' f fd') : fd' = fd := by
  obtain ⟨oc, od, dV, kV, doc, pm, an, cdv, ct, osl, _, lk, _⟩ := F.ex
  obtain ⟨oc', od', dV', kV', doc', pm', an', cdv', ct', osl', _, lk', _⟩ := F'.ex
  rw [lk] at lk'
  cases lk'
  rfl
end Q

set_option Elab.async false
set_option linter.all false
set_option maxRecDepth 100000
set_option maxHeartbeats 4000000
namespace K02
open PySem L2 PySem.Spec PyProof.Rows He PySem.W Q
abbrev PR : Program := PySem.Challenge.pw_filterorders_k02_ratios
def top (i : Nat) : Stmt := PR.main.body.getD i (.Pass ⟨0, 0, 0, 0⟩)
def meth (i j : Nat) : Stmt := match top i with
  | .ClassDef _ _ _ b _ _ _ _ _ _ _ => b.getD j (.Pass ⟨0, 0, 0, 0⟩)
  | s => s

def isa0 : IsaT := {}
def isa_int : IsaT := { bl := true, int := true, own := [(.ratio, false)] }
def isa_bool : IsaT := { bl := true, own := [(.ratio, false)] }
def isa_Ratio : IsaT := { own := [(.ratio, true)] }
def exm_BadNumber : List (Cn × Bool) := [(.badNumber, true), (.byZero, false)]
def exm_ByZero : List (Cn × Bool) := [(.byZero, true), (.badNumber, false)]
def cmt : CmpT := { blt := true, own := [.ratio] }
structure Wd (K : Frag) (mg : Str → Option Value) : Prop where
  f_isinstance : mg "isinstance" = none
  f_int : mg "int" = none
  f_bool : mg "bool" = none
  f_abs : mg "abs" = none
  f_max : mg "max" = none
  f_min : mg "min" = none
  f_len : mg "len" = none
  f_range : mg "range" = none
  f_repr : mg "repr" = none
  g_is_integer : mg "is_integer" = some (.ref (ga K "is_integer"))
  g_greatest : mg "greatest" = some (.ref (ga K "greatest"))
  g_parts : mg "parts" = some (.ref (ga K "parts"))
  g_checked : mg "checked" = some (.ref (ga K "checked"))
  g_as_ratio : mg "as_ratio" = some (.ref (ga K "as_ratio"))
  g_sign : mg "sign" = some (.ref (ga K "sign"))
  g__law_cell : mg "_law_cell" = some (.ref (ga K "_law_cell"))
  g__law_box : mg "_law_box" = some (.ref (ga K "_law_box"))
  g__law_take : mg "_law_take" = some (.ref (ga K "_law_take"))
  g__law_frac : mg "_law_frac" = some (.ref (ga K "_law_frac"))
  g__law_plus : mg "_law_plus" = some (.ref (ga K "_law_plus"))
  g__law_times : mg "_law_times" = some (.ref (ga K "_law_times"))
  g__law_minus : mg "_law_minus" = some (.ref (ga K "_law_minus"))
  g__law_less : mg "_law_less" = some (.ref (ga K "_law_less"))
  g__law_pick : mg "_law_pick" = some (.ref (ga K "_law_pick"))
  g__law_is : mg "_law_is" = some (.ref (ga K "_law_is"))
  g__law_refused : mg "_law_refused" = some (.ref (ga K "_law_refused"))
  g__law_zero : mg "_law_zero" = some (.ref (ga K "_law_zero"))
  g__law_compared : mg "_law_compared" = some (.ref (ga K "_law_compared"))
  g__law_signs : mg "_law_signs" = some (.ref (ga K "_law_signs"))
  g_law : mg "law" = some (.ref (ga K "law"))
  g_FilterError : mg "FilterError" = some (.ref (ga K "FilterError"))
  g_ByZero : mg "ByZero" = some (.ref (ga K "ByZero"))
  g_BadNumber : mg "BadNumber" = some (.ref (ga K "BadNumber"))
  g_Ratio : mg "Ratio" = some (.ref (ga K "Ratio"))
  c_Ratio : pCls .ratio K
  no_top : pNo .ratio "top" K
  no_bottom : pNo .ratio "bottom" K
  mk_Ratio : pMk .ratio K
  first_Ratio : pFirst .ratio K
  m_Ratio_uaddu : pMeth .ratio "__add__" K
  m_Ratio_usubu : pMeth .ratio "__sub__" K
  m_Ratio_umulu : pMeth .ratio "__mul__" K
  m_Ratio_unegu : pMeth .ratio "__neg__" K
  m_Ratio_uequ : pMeth .ratio "__eq__" K
  m_Ratio_ultu : pMeth .ratio "__lt__" K
  m_Ratio_uleu : pMeth .ratio "__le__" K
  m_Ratio_over : pMeth .ratio "over" K
  opt_Ratio_uaddu : pOpT .ratio .Add "int" K
  opt_Ratio_usubu : pOpT .ratio .Sub "int" K
  opt_Ratio_umulu : pOpT .ratio .Mult "int" K
  ne_Ratio : pNe .ratio K
  nf0_Ratio : pNF .ratio [.ratio] K
  i_int : pIsa [.ty "int"] isa_int K
  i_bool : pIsa [.ty "bool"] isa_bool K
  i_Ratio : pIsa [.own .ratio] isa_Ratio K
  errB : pErrB K
  e_ByZero : pErr .byZero K
  x_ByZero : pExm .byZero exm_ByZero K
  e_BadNumber : pErr .badNumber K
  x_BadNumber : pExm .badNumber exm_BadNumber K
  no_BadNumber_given : pNo .badNumber "given" K
theorem Wd.kl_ratio {K : Frag} {mg : Str → Option Value} (W : Wd K mg) : Kl (cf K) .ratio := ⟨pCls_cls W.c_Ratio, fun f hf => by
  have h : f = "top" ∨ f = "bottom" := by simpa [Cn.fields] using hf
  rcases h with rfl | rfl
  · exact W.no_top
  · exact W.no_bottom⟩
theorem Wd.nf_Ratio {K : Frag} {mg : Str → Option Value} (W : Wd K mg) : CmpOk (cf K) .ratio cmt := nf_ok W.nf0_Ratio fun d m => by
  have h : d = .ratio := by simpa using m
  rw [h]
  exact W.c_Ratio
theorem Wd.isc_int {K : Frag} {mg : Str → Option Value} (W : Wd K mg) : ∀ p ∈ isa_int.own, pCls p.1 K := fun p m => by
  have h : p.1 = .ratio := by simp [isa_int] at m; rw [m]
  rw [h]
  exact W.c_Ratio
theorem Wd.isc_bool {K : Frag} {mg : Str → Option Value} (W : Wd K mg) : ∀ p ∈ isa_bool.own, pCls p.1 K := fun p m => by
  have h : p.1 = .ratio := by simp [isa_bool] at m; rw [m]
  rw [h]
  exact W.c_Ratio
theorem Wd.isc_Ratio {K : Frag} {mg : Str → Option Value} (W : Wd K mg) : ∀ p ∈ isa_Ratio.own, pCls p.1 K := fun p m => by
  have h : p.1 = .ratio := by simp [isa_Ratio] at m; rw [m]
  rw [h]
  exact W.c_Ratio
abbrev s_ByZero_uinitu : Stmt := (meth 2 0)
def d_ByZero_uinitu : DefD := ⟨("ByZero", some "__init__"), "__init__", "ByZero.__init__", defArgs s_ByZero_uinitu, defBody s_ByZero_uinitu, defScope s_ByZero_uinitu, [], []⟩
abbrev s_BadNumber_uinitu : Stmt := (meth 3 0)
def d_BadNumber_uinitu : DefD := ⟨("BadNumber", some "__init__"), "__init__", "BadNumber.__init__", defArgs s_BadNumber_uinitu, defBody s_BadNumber_uinitu, defScope s_BadNumber_uinitu, [], []⟩
abbrev s_is_integer : Stmt := (top 6)
def d_is_integer : DefD := ⟨("is_integer", none), "is_integer", "is_integer", defArgs s_is_integer, defBody s_is_integer, defScope s_is_integer, [], []⟩
abbrev N_is_integer : List Str := ["value"]
abbrev ps_is_integer : List Str := ["value"]
theorem sc_is_integer : FnScope N_is_integer ps_is_integer d_is_integer.scope := ⟨rfl, rfl, rfl, by decide +kernel, rfl, by decide +kernel, by decide +kernel⟩
theorem bd_is_integer : ∀ (kV doc pm : Value) (an : Option Addr) (cdv ct : Value) (us : List Value), us.length = ps_is_integer.length → bindArgs (fnOf d_is_integer.name d_is_integer.qual d_is_integer.params d_is_integer.body d_is_integer.scope .none kV doc pm an cdv ct) ⟨us, []⟩ = pure (ps_is_integer.zip us) := fun _ _ _ _ _ _ us hl => match us, hl with | [_], _ => rfl
def c_is_integer : Ct := fun args Q _ => ∃ d, args = [.val d] ∧ plain d = true ∧ Q (.bl (isInt d)) args
def r_is_integer : QS := (qRet (qAndV (qUn (oIsa isa_int) (qVar 0)) (qNotV (qUn (oIsa isa_bool) (qVar 0)))))
theorem len_is_integer : ∀ args Q E, c_is_integer args Q E → args.length = ps_is_integer.length := by
  rintro args Q E ⟨_, rfl, _⟩
  rfl
theorem pure_is_integer : ∀ args Q E, c_is_integer args Q E → r_is_integer (startE N_is_integer.length args) (endsC args Q) (exnC args E) := by
  rintro args Q E ⟨d, rfl, hp, hq⟩
  cases d <;> first | exact hq | cases hp
theorem ok_is_integer {P : Program} {w : World} {K : Frag} {mg : Str → Option Value} {base : Heap} (W : Wd K mg) (Fn : ∃ fd, FunD K d_is_integer.name d_is_integer.qual d_is_integer.params d_is_integer.body d_is_integer.scope (d_is_integer.dvs K) (d_is_integer.kws K) (fAd K d_is_integer.at_) fd) : FnB P w K mg base d_is_integer 2 ps_is_integer c_is_integer := by
  refine FnB.of (N := N_is_integer) (r := r_is_integer) Fn sc_is_integer len_is_integer pure_is_integer ?_
  intro f cdv A outer s H E0 hr G0 H0 B pin xa xd xc E tk hp
  have sc := sc_is_integer
  exact (lss_one (ls_ret (le_and (le_isi (isa_ok W.i_int W.isc_int) rfl (pe_bltn (v := .ty "int") (u := .type "int") rfl W.f_int rfl rfl) (.ty _) (le_var 0) W.f_isinstance) (le_one (le_not (le_isi (isa_ok W.i_bool W.isc_bool) rfl (pe_bltn (v := .ty "bool") (u := .type "bool") rfl W.f_bool rfl rfl) (.ty _) (le_var 0) W.f_isinstance))))))
abbrev s_greatest : Stmt := (top 7)
def d_greatest : DefD := ⟨("greatest", none), "greatest", "greatest", defArgs s_greatest, defBody s_greatest, defScope s_greatest, [], []⟩
abbrev N_greatest : List Str := ["one", "other"]
abbrev ps_greatest : List Str := ["one", "other"]
theorem sc_greatest : FnScope N_greatest ps_greatest d_greatest.scope := ⟨rfl, rfl, rfl, by decide +kernel, rfl, by decide +kernel, by decide +kernel⟩
theorem bd_greatest : ∀ (kV doc pm : Value) (an : Option Addr) (cdv ct : Value) (us : List Value), us.length = ps_greatest.length → bindArgs (fnOf d_greatest.name d_greatest.qual d_greatest.params d_greatest.body d_greatest.scope .none kV doc pm an cdv ct) ⟨us, []⟩ = pure (ps_greatest.zip us) := fun _ _ _ _ _ _ us hl => match us, hl with | [_, _], _ => rfl
def c_greatest : Ct := fun args Q _ => ∃ a b : Int, args = [.val (.int a), .val (.int b)] ∧ Q (.int (Int.gcd a b : Int)) args
def r_greatest : QS := (qSeq (qWhile (qTest (qBin oNe (qVar 1) (qC (.int 0)))) (qPar 0 1 (qCons (qVar 1) (qCons (qBin oMod (qVar 0) (qVar 1)) qNil))))
    (qRet (qB oAbs (qCons (qVar 0) qNil))))
theorem len_greatest : ∀ args Q E, c_greatest args Q E → args.length = ps_greatest.length := by
  rintro args Q E ⟨_, _, rfl, _⟩
  rfl
theorem pure_greatest : ∀ args Q E, c_greatest args Q E → r_greatest (startE N_greatest.length args) (endsC args Q) (exnC args E) := by
  rintro args Q E ⟨a, b, rfl, hq⟩
  refine ⟨fun m Γ => ∃ x y : Int, Γ = [.val (.int x), .val (.int y)] ∧ m = y.natAbs ∧ Int.gcd x y = Int.gcd a b, ⟨b.natAbs, a, b, rfl, rfl, rfl⟩, ?_⟩
  rintro m Γ ⟨x, y, rfl, rfl, hg⟩
  refine ⟨rfl, rfl, ?_⟩
  show (match !PyData.eqv (.int y) (.int 0) with | true => _ | false => _)
  rw [eqv_int]
  by_cases h : y = 0
  · subst h
    show Q (.int (if x < 0 then -x else x)) _
    have e : (if x < 0 then -x else x) = (Int.gcd a b : Int) := by
      rw [← hg, Int.gcd_zero_right]
      split <;> omega
    rw [e]
    exact hq
  · have e : (!(y == 0)) = true := by simp [h]
    rw [e]
    exact ⟨h, (x.fmod y).natAbs, fmod_lt x h, y, x.fmod y, rfl, rfl, by rw [gcd_fmod]; exact hg⟩
theorem ok_greatest {P : Program} {w : World} {K : Frag} {mg : Str → Option Value} {base : Heap} (W : Wd K mg) (Fn : ∃ fd, FunD K d_greatest.name d_greatest.qual d_greatest.params d_greatest.body d_greatest.scope (d_greatest.dvs K) (d_greatest.kws K) (fAd K d_greatest.at_) fd) : FnB P w K mg base d_greatest 2 ps_greatest c_greatest := by
  refine FnB.of (N := N_greatest) (r := r_greatest) Fn sc_greatest len_greatest pure_greatest ?_
  intro f cdv A outer s H E0 hr G0 H0 B pin xa xd xc E tk hp
  have sc := sc_greatest
  exact (lss_cons (ls_while hp (lt_cmp (ol_ne rfl hr) (le_var 1) le_int) (lss_one (ls_par 0 1 rfl sc.nd (la_cons (le_var 1) (la_cons (le_bin ol_mod (le_var 0) (le_var 1)) la_nil)))))
    (lss_one (ls_ret (le_b bl_abs (la_cons (le_var 0) la_nil) W.f_abs))))
abbrev s_parts : Stmt := (top 8)
def d_parts : DefD := ⟨("parts", none), "parts", "parts", defArgs s_parts, defBody s_parts, defScope s_parts, [], []⟩
abbrev N_parts : List Str := ["given"]
abbrev ps_parts : List Str := ["given"]
theorem sc_parts : FnScope N_parts ps_parts d_parts.scope := ⟨rfl, rfl, rfl, by decide +kernel, rfl, by decide +kernel, by decide +kernel⟩
theorem bd_parts : ∀ (kV doc pm : Value) (an : Option Addr) (cdv ct : Value) (us : List Value), us.length = ps_parts.length → bindArgs (fnOf d_parts.name d_parts.qual d_parts.params d_parts.body d_parts.scope .none kV doc pm an cdv ct) ⟨us, []⟩ = pure (ps_parts.zip us) := fun _ _ _ _ _ _ us hl => match us, hl with | [_], _ => rfl
def partsD (d : D) : D := match numQ d with
  | some x => tupR x
  | none => .non
def c_parts : Ct := fun args Q _ => ∃ d, args = [.val d] ∧ plain d = true ∧ Q (partsD d) args
def r_parts : QS := (qSeq (qIfS (qTest (qCall c_is_integer (qhVal (qVar 0) qhNil))) (qRet (qTup (qCons (qVar 0) (qCons (qC (.int 1)) qNil)))) qNx)
    (qRet (qIf (qTest (qUn (oIsa isa_Ratio) (qVar 0))) (qTup (qCons (qUn oTop (qVar 0)) (qCons (qUn oBot (qVar 0)) qNil))) (qC .non))))
theorem len_parts : ∀ args Q E, c_parts args Q E → args.length = ps_parts.length := by
  rintro args Q E ⟨_, rfl, _⟩
  rfl
theorem pure_parts : ∀ args Q E, c_parts args Q E → r_parts (startE N_parts.length args) (endsC args Q) (exnC args E) := by
  rintro args Q E ⟨d, rfl, hp, hq⟩
  cases d <;> first | exact ⟨_, rfl, rfl, hq⟩ | exact ⟨_, rfl, rfl, Nat.le_of_ble_eq_true rfl, hq⟩ | cases hp
theorem ok_parts {P : Program} {w : World} {K : Frag} {mg : Str → Option Value} {base : Heap} (W : Wd K mg) (Fn : ∃ fd, FunD K d_parts.name d_parts.qual d_parts.params d_parts.body d_parts.scope (d_parts.dvs K) (d_parts.kws K) (fAd K d_parts.at_) fd) (h_is_integer : FnB P w K mg base d_is_integer 2 ps_is_integer c_is_integer) : FnB P w K mg base d_parts 5 ps_parts c_parts := by
  refine FnB.of (N := N_parts) (r := r_parts) Fn sc_parts len_parts pure_parts ?_
  intro f cdv A outer s H E0 hr G0 H0 B pin xa xd xc E tk hp
  have sc := sc_parts
  exact (lss_cons (ls_if (lt_val (le_callC (h_is_integer.all rfl rfl rfl rfl rfl rfl (hr.mono (by decide : 2 ≤ 4)) rfl rfl bd_is_integer) W.g_is_integer h_is_integer.kp tk (lc_p (lh_val (le_var 0) lh_nil)))) (lss_one (ls_ret (le_tup (la_cons (le_var 0) (la_cons le_int la_nil))))) lss_nil)
    (lss_one (ls_ret (le_if (lt_val (le_isi (isa_ok W.i_Ratio W.isc_Ratio) rfl (pe_glob (v := .ref (ga _ "Ratio")) rfl W.g_Ratio rfl) (.own _) (le_var 0) W.f_isinstance)) (le_tup (la_cons (le_top W.kl_ratio rfl (le_var 0)) (la_cons (le_bot W.kl_ratio rfl (le_var 0)) la_nil))) le_non))))
abbrev s_checked : Stmt := (top 9)
def d_checked : DefD := ⟨("checked", none), "checked", "checked", defArgs s_checked, defBody s_checked, defScope s_checked, [], []⟩
abbrev N_checked : List Str := ["given", "found"]
abbrev ps_checked : List Str := ["given"]
theorem sc_checked : FnScope N_checked ps_checked d_checked.scope := ⟨rfl, rfl, rfl, by decide +kernel, rfl, by decide +kernel, by decide +kernel⟩
theorem bd_checked : ∀ (kV doc pm : Value) (an : Option Addr) (cdv ct : Value) (us : List Value), us.length = ps_checked.length → bindArgs (fnOf d_checked.name d_checked.qual d_checked.params d_checked.body d_checked.scope .none kV doc pm an cdv ct) ⟨us, []⟩ = pure (ps_checked.zip us) := fun _ _ _ _ _ _ us hl => match us, hl with | [_], _ => rfl
def c_checked : Ct := fun args Q E => ∃ d, args = [.val d] ∧ plain d = true ∧ (∀ x, numQ d = some x → Q (tupR x) args) ∧ (numQ d = none → E ⟨.badNumber, [d]⟩ args)
def r_checked : QS := (qSeq (qSet 1 (qCall c_parts (qhVal (qVar 0) qhNil)))
    (qSeq (qIfS (qTest (qIsN (qVar 1))) (qRaise1 .badNumber (qVar 0)) qNx)
    (qRet (qVar 1))))
theorem len_checked : ∀ args Q E, c_checked args Q E → args.length = ps_checked.length := by
  rintro args Q E ⟨_, rfl, _⟩
  rfl
theorem pure_checked : ∀ args Q E, c_checked args Q E → r_checked (startE N_checked.length args) (endsC args Q) (exnC args E) := by
  rintro args Q E ⟨d, rfl, hp, h1, h2⟩
  refine ⟨_, rfl, hp, ?_⟩
  cases d with
  | int n => exact h1 _ rfl
  | rat q => exact h1 _ rfl
  | non => exact h2 rfl
  | bl _ => exact h2 rfl
  | str _ => exact h2 rfl
  | lst _ => exact h2 rfl
  | tup _ => exact h2 rfl
  | dic _ => exact h2 rfl
  | _ => cases hp
theorem ok_checked {P : Program} {w : World} {K : Frag} {mg : Str → Option Value} {base : Heap} (W : Wd K mg) (Fn : ∃ fd, FunD K d_checked.name d_checked.qual d_checked.params d_checked.body d_checked.scope (d_checked.dvs K) (d_checked.kws K) (fAd K d_checked.at_) fd) (h_parts : FnB P w K mg base d_parts 5 ps_parts c_parts) (e_BadNumber : ∃ fd, Er1 P w (cf K) mg base .badNumber "given" (fAd K d_BadNumber_uinitu.at_) fd ["self", "given"]) : FnB P w K mg base d_checked 8 ps_checked c_checked := by
  obtain ⟨fd_BadNumber, e_BadNumber⟩ := e_BadNumber
  refine FnB.of (N := N_checked) (r := r_checked) Fn sc_checked len_checked pure_checked ?_
  intro f cdv A outer s H E0 hr G0 H0 B pin xa xd xc E tk hp
  have sc := sc_checked
  exact (lss_cons (ls_set 1 sc.nd (le_callC (h_parts.all rfl rfl rfl rfl rfl rfl (hr.mono (by decide : 5 ≤ 7)) rfl rfl bd_parts) W.g_parts h_parts.kp tk (lc_p (lh_val (le_var 0) lh_nil))))
    (lss_cons (ls_if (lt_isN (le_var 1)) (lss_one (ls_raise1 e_BadNumber rfl (hr.mono (by decide : 0 + 2 ≤ 7)) rfl tk (le_var 0) W.g_BadNumber)) lss_nil)
    (lss_one (ls_ret (le_var 1)))))
abbrev s_Ratio_uinitu : Stmt := (meth 10 0)
def d_Ratio_uinitu : DefD := ⟨("Ratio", some "__init__"), "__init__", "Ratio.__init__", defArgs s_Ratio_uinitu, defBody s_Ratio_uinitu, defScope s_Ratio_uinitu, [.int 1], []⟩
abbrev N_Ratio_uinitu : List Str := ["self", "top", "bottom", "divisor"]
abbrev ps_Ratio_uinitu : List Str := ["self", "top", "bottom"]
theorem sc_Ratio_uinitu : FnScope N_Ratio_uinitu ps_Ratio_uinitu d_Ratio_uinitu.scope := ⟨rfl, rfl, rfl, by decide +kernel, rfl, by decide +kernel, by decide +kernel⟩
theorem bdf_Ratio_uinitu : ∀ (T : Addr) (kV doc pm : Value) (an : Option Addr) (cdv ct : Value) (us its : List Value), us.length = 3 → its.length = 1 → ∃ k, bindArgs (fnOf d_Ratio_uinitu.name d_Ratio_uinitu.qual d_Ratio_uinitu.params d_Ratio_uinitu.body d_Ratio_uinitu.scope (.ref T) kV doc pm an cdv ct) ⟨us, []⟩ = seqItems? (.ref T) >>= k ∧ k (some its.toArray) = pure (ps_Ratio_uinitu.zip (us ++ its.drop 1)) := fun _ _ _ _ _ _ _ us its hl h2 => match us, its, hl, h2 with | [_, _, _], [_], _, _ => ⟨_, rfl, rfl⟩
theorem bdd_Ratio_uinitu : ∀ (T : Addr) (kV doc pm : Value) (an : Option Addr) (cdv ct : Value) (us its : List Value), us.length = 2 → its.length = 1 → ∃ k, bindArgs (fnOf d_Ratio_uinitu.name d_Ratio_uinitu.qual d_Ratio_uinitu.params d_Ratio_uinitu.body d_Ratio_uinitu.scope (.ref T) kV doc pm an cdv ct) ⟨us, []⟩ = seqItems? (.ref T) >>= k ∧ k (some its.toArray) = pure (ps_Ratio_uinitu.zip (us ++ its.drop 0)) := fun _ _ _ _ _ _ _ us its hl h2 => match us, its, hl, h2 with | [_, _], [_], _, _ => ⟨_, rfl, rfl⟩
def dd_Ratio_uinitu : List D := [.int 1]
theorem dr_Ratio_uinitu {K : Frag} : ∀ G, Reps (cf K) G dd_Ratio_uinitu (d_Ratio_uinitu.dvs K) := fun G => ⟨_, _, rfl, rfl, rfl⟩
def c_Ratio_uinitu : Ct := fun args Q E => ∃ a b : Int, args = [.bor (.ins .ratio []), .val (.int a), .val (.int b)] ∧ Bd 8999 b ∧ (b = 0 → E ⟨.byZero, []⟩ args) ∧
  (b ≠ 0 → Q .non [.bor (.ins .ratio [.int (Rat.divInt a b).num, .int ((Rat.divInt a b).den : Int)]), .val (.int a), .val (.int b)])
def r_Ratio_uinitu : QS := (qSeq (qIfS (qTest (qBin oEq (qVar 2) (qC (.int 0)))) (qRaise0 .byZero) qNx)
    (qSeq (qSet 3 (qIf (qTest (qBin oGt (qVar 2) (qC (.int 0)))) (qCall c_greatest (qhVal (qVar 1) (qhVal (qVar 2) qhNil))) (qUn oNeg (qCall c_greatest (qhVal (qVar 1) (qhVal (qVar 2) qhNil))))))
    (qSeq (qFldS 0 .ratio 0 (qBin oDiv (qVar 1) (qVar 3)))
    (qFldS 0 .ratio 1 (qBin oDiv (qVar 2) (qVar 3))))))
theorem len_Ratio_uinitu : ∀ args Q E, c_Ratio_uinitu args Q E → args.length = ps_Ratio_uinitu.length := by
  rintro args Q E ⟨_, _, rfl, _⟩
  rfl
theorem pure_Ratio_uinitu : ∀ args Q E, c_Ratio_uinitu args Q E → r_Ratio_uinitu (startE N_Ratio_uinitu.length args) (endsC args Q) (exnC args E) := by
  rintro args Q E ⟨a, b, rfl, hb, h1, h2⟩
  refine ⟨rfl, rfl, ?_⟩
  show (match PyData.eqv (.int b) (.int 0) with | true => _ | false => _)
  rw [eqv_int]
  by_cases h : b = 0
  · subst h
    exact h1 rfl
  · have e : (b == 0) = false := by simp [h]
    rw [e]
    have h2 := h2 h
    rw [← dvs_num h, ← dvs_den h] at h2
    show (match decide (0 < b) with | true => _ | false => _)
    by_cases h0 : 0 < b
    · rw [decide_eq_true h0]
      have ed : dvs a b = (Int.gcd a b : Int) := if_pos h0
      rw [ed] at h2
      exact ⟨a, b, rfl, ⟨gcd_ne h, (div_ok (gcd_ne h) (gcd_bd hb h)).2⟩, ⟨gcd_ne h, (div_ok (gcd_ne h) (gcd_bd hb h)).2⟩, h2⟩
    · rw [decide_eq_false h0]
      have ed : dvs a b = -(Int.gcd a b : Int) := if_neg h0
      have hn : -(Int.gcd a b : Int) ≠ 0 := by rw [← ed]; exact dvs_ne h
      rw [ed] at h2
      exact ⟨a, b, rfl, ⟨hn, (div_ok hn (gcd_bd hb h).neg).2⟩, ⟨hn, (div_ok hn (gcd_bd hb h).neg).2⟩, h2⟩
theorem ok_Ratio_uinitu {P : Program} {w : World} {K : Frag} {mg : Str → Option Value} {base : Heap} (W : Wd K mg) (Fn : ∃ fd, FunD K d_Ratio_uinitu.name d_Ratio_uinitu.qual d_Ratio_uinitu.params d_Ratio_uinitu.body d_Ratio_uinitu.scope (d_Ratio_uinitu.dvs K) (d_Ratio_uinitu.kws K) (fAd K d_Ratio_uinitu.at_) fd) (h_greatest : FnB P w K mg base d_greatest 2 ps_greatest c_greatest) (e_ByZero : ∃ fd, Er0 P w (cf K) mg base .byZero (fAd K d_ByZero_uinitu.at_) fd ["self"]) : FnB P w K mg base d_Ratio_uinitu 5 ps_Ratio_uinitu c_Ratio_uinitu := by
  obtain ⟨fd_ByZero, e_ByZero⟩ := e_ByZero
  refine FnB.of (N := N_Ratio_uinitu) (r := r_Ratio_uinitu) Fn sc_Ratio_uinitu len_Ratio_uinitu pure_Ratio_uinitu ?_
  intro f cdv A outer s H E0 hr G0 H0 B pin xa xd xc E tk hp
  have sc := sc_Ratio_uinitu
  exact (lss_cons (ls_if (lt_cmp (ol_eq rfl hr) (le_var 2) le_int) (lss_one (ls_raise0 e_ByZero rfl (hr.mono (by decide : 0 + 2 ≤ 4)) rfl tk W.g_ByZero)) lss_nil)
    (lss_cons (ls_set 3 sc.nd (le_if (lt_cmp ol_gt (le_var 2) le_int) (le_callC (h_greatest.all rfl rfl rfl rfl rfl rfl (hr.mono (by decide : 2 ≤ 4)) rfl rfl bd_greatest) W.g_greatest h_greatest.kp tk (lc_p (lh_val (le_var 1) (lh_val (le_var 2) lh_nil)))) (le_un ul_neg (le_callC (h_greatest.all rfl rfl rfl rfl rfl rfl (hr.mono (by decide : 2 ≤ 4)) rfl rfl bd_greatest) W.g_greatest h_greatest.kp tk (lc_p (lh_val (le_var 1) (lh_val (le_var 2) lh_nil)))))))
    (lss_cons (ls_fldS 0 .ratio 0 W.kl_ratio rfl (le_bin ol_div (le_var 1) (le_var 3)))
    (lss_one (ls_fldS 0 .ratio 1 W.kl_ratio rfl (le_bin ol_div (le_var 2) (le_var 3)))))))
end K02

set_option Elab.async false
set_option linter.all false
set_option maxRecDepth 100000
set_option maxHeartbeats 4000000
namespace K02
open PySem L2 PySem.Spec PyProof.Rows He PySem.W Q
abbrev s_Ratio_uaddu : Stmt := (meth 10 2)
def d_Ratio_uaddu : DefD := ⟨("Ratio", some "__add__"), "__add__", "Ratio.__add__", defArgs s_Ratio_uaddu, defBody s_Ratio_uaddu, defScope s_Ratio_uaddu, [], []⟩
abbrev N_Ratio_uaddu : List Str := ["self", "other", "top", "bottom"]
abbrev ps_Ratio_uaddu : List Str := ["self", "other"]
theorem sc_Ratio_uaddu : FnScope N_Ratio_uaddu ps_Ratio_uaddu d_Ratio_uaddu.scope := ⟨rfl, rfl, rfl, by decide +kernel, rfl, by decide +kernel, by decide +kernel⟩
theorem bd_Ratio_uaddu : ∀ (kV doc pm : Value) (an : Option Addr) (cdv ct : Value) (us : List Value), us.length = ps_Ratio_uaddu.length → bindArgs (fnOf d_Ratio_uaddu.name d_Ratio_uaddu.qual d_Ratio_uaddu.params d_Ratio_uaddu.body d_Ratio_uaddu.scope .none kV doc pm an cdv ct) ⟨us, []⟩ = pure (ps_Ratio_uaddu.zip us) := fun _ _ _ _ _ _ us hl => match us, hl with | [_, _], _ => rfl
def c_Ratio_uaddu : Ct := fun args Q E => ∃ (q : Rat) (d : D), args = [.val (.rat q), .val d] ∧ plain d = true ∧ (∀ x, numQ d = some x → Sz 4000 q ∧ Sz 4000 x ∧ Q (.rat (q + x)) args) ∧ (numQ d = none → E ⟨.badNumber, [d]⟩ args)
def r_Ratio_uaddu : QS := (qSeq (qAsg (qCall c_checked (qhVal (qVar 1) qhNil)) (gT 2 (gsCons (gV 2) (gsCons (gV 3) gsNil))))
    (qRet (qCall (mkC .ratio c_Ratio_uinitu) (qhVal (qBin oAdd (qBin oMul (qUn oTop (qVar 0)) (qVar 3)) (qBin oMul (qVar 2) (qUn oBot (qVar 0)))) (qhVal (qBin oMul (qUn oBot (qVar 0)) (qVar 3)) qhNil)))))
theorem len_Ratio_uaddu : ∀ args Q E, c_Ratio_uaddu args Q E → args.length = ps_Ratio_uaddu.length := by
  rintro args Q E ⟨_, _, rfl, _⟩
  rfl
theorem pure_Ratio_uaddu : ∀ args Q E, c_Ratio_uaddu args Q E → r_Ratio_uaddu (startE N_Ratio_uaddu.length args) (endsC args Q) (exnC args E) := by
  rintro args Q E ⟨q, d, rfl, hp, h1, h2⟩
  refine ⟨d, rfl, hp, fun x hx => ?_, h2⟩
  obtain ⟨hs, hx, hq⟩ := h1 x hx
  refine ⟨rfl, mul_ok hs.num hx.den (by decide), mul_ok hx.num hs.den (by decide), mul_ok hs.den hx.den (by decide), _, _, rfl, (hs.den.mul hx.den).mono (by decide), fun h0 => ?_, fun _ => ⟨_, rfl, ?_⟩⟩
  · rcases Int.mul_eq_zero.mp h0 with z | z
    · exact absurd z (den_ne q)
    · exact absurd z (den_ne x)
  · show Q (.rat (Rat.divInt (q.num * (x.den : Int) + x.num * (q.den : Int)) ((q.den : Int) * (x.den : Int)))) _
    rw [add_divInt]
    exact hq
theorem ok_Ratio_uaddu {P : Program} {w : World} {K : Frag} {mg : Str → Option Value} {base : Heap} (W : Wd K mg) (Fn : ∃ fd, FunD K d_Ratio_uaddu.name d_Ratio_uaddu.qual d_Ratio_uaddu.params d_Ratio_uaddu.body d_Ratio_uaddu.scope (d_Ratio_uaddu.dvs K) (d_Ratio_uaddu.kws K) (fAd K d_Ratio_uaddu.at_) fd) (h_checked : FnB P w K mg base d_checked 8 ps_checked c_checked) (h_Ratio_uinitu : FnB P w K mg base d_Ratio_uinitu 5 ps_Ratio_uinitu c_Ratio_uinitu) : FnB P w K mg base d_Ratio_uaddu 11 ps_Ratio_uaddu c_Ratio_uaddu := by
  refine FnB.of (N := N_Ratio_uaddu) (r := r_Ratio_uaddu) Fn sc_Ratio_uaddu len_Ratio_uaddu pure_Ratio_uaddu ?_
  intro f cdv A outer s H E0 hr G0 H0 B pin xa xd xc E tk hp
  have sc := sc_Ratio_uaddu
  exact (lss_cons (ls_asg (le_callC (h_checked.all rfl rfl rfl rfl rfl rfl (hr.mono (by decide : 8 ≤ 10)) rfl rfl bd_checked) W.g_checked h_checked.kp tk (lc_p (lh_val (le_var 1) lh_nil))) (lg_tup rfl rfl (lgs_cons (lg_name 2 sc.nd) (lgs_cons (lg_name 3 sc.nd) lgs_nil))))
    (lss_one (ls_ret (le_callC (code_make (pMk_ok W.mk_Ratio) fun us kw => (h_Ratio_uinitu.full rfl rfl rfl rfl rfl rfl ((hr.mono (by decide : 5 + 1 ≤ 10)).make _ us kw) (List.cons_ne_nil _ _) rfl bdf_Ratio_uinitu)) W.g_Ratio W.mk_Ratio.2.2.2 tk (lc_p (lh_val (le_bin ol_add (le_bin ol_mul (le_top W.kl_ratio rfl (le_var 0)) (le_var 3)) (le_bin ol_mul (le_var 2) (le_bot W.kl_ratio rfl (le_var 0)))) (lh_val (le_bin ol_mul (le_bot W.kl_ratio rfl (le_var 0)) (le_var 3)) lh_nil)))))))
abbrev s_Ratio_usubu : Stmt := (meth 10 3)
def d_Ratio_usubu : DefD := ⟨("Ratio", some "__sub__"), "__sub__", "Ratio.__sub__", defArgs s_Ratio_usubu, defBody s_Ratio_usubu, defScope s_Ratio_usubu, [], []⟩
abbrev N_Ratio_usubu : List Str := ["self", "other", "top", "bottom"]
abbrev ps_Ratio_usubu : List Str := ["self", "other"]
theorem sc_Ratio_usubu : FnScope N_Ratio_usubu ps_Ratio_usubu d_Ratio_usubu.scope := ⟨rfl, rfl, rfl, by decide +kernel, rfl, by decide +kernel, by decide +kernel⟩
theorem bd_Ratio_usubu : ∀ (kV doc pm : Value) (an : Option Addr) (cdv ct : Value) (us : List Value), us.length = ps_Ratio_usubu.length → bindArgs (fnOf d_Ratio_usubu.name d_Ratio_usubu.qual d_Ratio_usubu.params d_Ratio_usubu.body d_Ratio_usubu.scope .none kV doc pm an cdv ct) ⟨us, []⟩ = pure (ps_Ratio_usubu.zip us) := fun _ _ _ _ _ _ us hl => match us, hl with | [_, _], _ => rfl
def c_Ratio_usubu : Ct := fun args Q E => ∃ (q : Rat) (d : D), args = [.val (.rat q), .val d] ∧ plain d = true ∧ (∀ x, numQ d = some x → Sz 4000 q ∧ Sz 4000 x ∧ Q (.rat (q - x)) args) ∧ (numQ d = none → E ⟨.badNumber, [d]⟩ args)
def r_Ratio_usubu : QS := (qSeq (qAsg (qCall c_checked (qhVal (qVar 1) qhNil)) (gT 2 (gsCons (gV 2) (gsCons (gV 3) gsNil))))
    (qRet (qCall (mkC .ratio c_Ratio_uinitu) (qhVal (qBin oSub (qBin oMul (qUn oTop (qVar 0)) (qVar 3)) (qBin oMul (qVar 2) (qUn oBot (qVar 0)))) (qhVal (qBin oMul (qUn oBot (qVar 0)) (qVar 3)) qhNil)))))
theorem len_Ratio_usubu : ∀ args Q E, c_Ratio_usubu args Q E → args.length = ps_Ratio_usubu.length := by
  rintro args Q E ⟨_, _, rfl, _⟩
  rfl
theorem pure_Ratio_usubu : ∀ args Q E, c_Ratio_usubu args Q E → r_Ratio_usubu (startE N_Ratio_usubu.length args) (endsC args Q) (exnC args E) := by
  rintro args Q E ⟨q, d, rfl, hp, h1, h2⟩
  refine ⟨d, rfl, hp, fun x hx => ?_, h2⟩
  obtain ⟨hs, hx, hq⟩ := h1 x hx
  refine ⟨rfl, mul_ok hs.num hx.den (by decide), mul_ok hx.num hs.den (by decide), mul_ok hs.den hx.den (by decide), _, _, rfl, (hs.den.mul hx.den).mono (by decide), fun h0 => ?_, fun _ => ⟨_, rfl, ?_⟩⟩
  · rcases Int.mul_eq_zero.mp h0 with z | z
    · exact absurd z (den_ne q)
    · exact absurd z (den_ne x)
  · show Q (.rat (Rat.divInt (q.num * (x.den : Int) - x.num * (q.den : Int)) ((q.den : Int) * (x.den : Int)))) _
    rw [sub_divInt]
    exact hq
theorem ok_Ratio_usubu {P : Program} {w : World} {K : Frag} {mg : Str → Option Value} {base : Heap} (W : Wd K mg) (Fn : ∃ fd, FunD K d_Ratio_usubu.name d_Ratio_usubu.qual d_Ratio_usubu.params d_Ratio_usubu.body d_Ratio_usubu.scope (d_Ratio_usubu.dvs K) (d_Ratio_usubu.kws K) (fAd K d_Ratio_usubu.at_) fd) (h_checked : FnB P w K mg base d_checked 8 ps_checked c_checked) (h_Ratio_uinitu : FnB P w K mg base d_Ratio_uinitu 5 ps_Ratio_uinitu c_Ratio_uinitu) : FnB P w K mg base d_Ratio_usubu 11 ps_Ratio_usubu c_Ratio_usubu := by
  refine FnB.of (N := N_Ratio_usubu) (r := r_Ratio_usubu) Fn sc_Ratio_usubu len_Ratio_usubu pure_Ratio_usubu ?_
  intro f cdv A outer s H E0 hr G0 H0 B pin xa xd xc E tk hp
  have sc := sc_Ratio_usubu
  exact (lss_cons (ls_asg (le_callC (h_checked.all rfl rfl rfl rfl rfl rfl (hr.mono (by decide : 8 ≤ 10)) rfl rfl bd_checked) W.g_checked h_checked.kp tk (lc_p (lh_val (le_var 1) lh_nil))) (lg_tup rfl rfl (lgs_cons (lg_name 2 sc.nd) (lgs_cons (lg_name 3 sc.nd) lgs_nil))))
    (lss_one (ls_ret (le_callC (code_make (pMk_ok W.mk_Ratio) fun us kw => (h_Ratio_uinitu.full rfl rfl rfl rfl rfl rfl ((hr.mono (by decide : 5 + 1 ≤ 10)).make _ us kw) (List.cons_ne_nil _ _) rfl bdf_Ratio_uinitu)) W.g_Ratio W.mk_Ratio.2.2.2 tk (lc_p (lh_val (le_bin ol_sub (le_bin ol_mul (le_top W.kl_ratio rfl (le_var 0)) (le_var 3)) (le_bin ol_mul (le_var 2) (le_bot W.kl_ratio rfl (le_var 0)))) (lh_val (le_bin ol_mul (le_bot W.kl_ratio rfl (le_var 0)) (le_var 3)) lh_nil)))))))
abbrev s_Ratio_umulu : Stmt := (meth 10 4)
def d_Ratio_umulu : DefD := ⟨("Ratio", some "__mul__"), "__mul__", "Ratio.__mul__", defArgs s_Ratio_umulu, defBody s_Ratio_umulu, defScope s_Ratio_umulu, [], []⟩
abbrev N_Ratio_umulu : List Str := ["self", "other", "top", "bottom"]
abbrev ps_Ratio_umulu : List Str := ["self", "other"]
theorem sc_Ratio_umulu : FnScope N_Ratio_umulu ps_Ratio_umulu d_Ratio_umulu.scope := ⟨rfl, rfl, rfl, by decide +kernel, rfl, by decide +kernel, by decide +kernel⟩
theorem bd_Ratio_umulu : ∀ (kV doc pm : Value) (an : Option Addr) (cdv ct : Value) (us : List Value), us.length = ps_Ratio_umulu.length → bindArgs (fnOf d_Ratio_umulu.name d_Ratio_umulu.qual d_Ratio_umulu.params d_Ratio_umulu.body d_Ratio_umulu.scope .none kV doc pm an cdv ct) ⟨us, []⟩ = pure (ps_Ratio_umulu.zip us) := fun _ _ _ _ _ _ us hl => match us, hl with | [_, _], _ => rfl
def c_Ratio_umulu : Ct := fun args Q E => ∃ (q : Rat) (d : D), args = [.val (.rat q), .val d] ∧ plain d = true ∧ (∀ x, numQ d = some x → Sz 4000 q ∧ Sz 4000 x ∧ Q (.rat (q * x)) args) ∧ (numQ d = none → E ⟨.badNumber, [d]⟩ args)
def r_Ratio_umulu : QS := (qSeq (qAsg (qCall c_checked (qhVal (qVar 1) qhNil)) (gT 2 (gsCons (gV 2) (gsCons (gV 3) gsNil))))
    (qRet (qCall (mkC .ratio c_Ratio_uinitu) (qhVal (qBin oMul (qUn oTop (qVar 0)) (qVar 2)) (qhVal (qBin oMul (qUn oBot (qVar 0)) (qVar 3)) qhNil)))))
theorem len_Ratio_umulu : ∀ args Q E, c_Ratio_umulu args Q E → args.length = ps_Ratio_umulu.length := by
  rintro args Q E ⟨_, _, rfl, _⟩
  rfl
theorem pure_Ratio_umulu : ∀ args Q E, c_Ratio_umulu args Q E → r_Ratio_umulu (startE N_Ratio_umulu.length args) (endsC args Q) (exnC args E) := by
  rintro args Q E ⟨q, d, rfl, hp, h1, h2⟩
  refine ⟨d, rfl, hp, fun x hx => ?_, h2⟩
  obtain ⟨hs, hx, hq⟩ := h1 x hx
  refine ⟨rfl, mul_ok hs.num hx.num (by decide), mul_ok hs.den hx.den (by decide), _, _, rfl, (hs.den.mul hx.den).mono (by decide), fun h0 => ?_, fun _ => ⟨_, rfl, ?_⟩⟩
  · rcases Int.mul_eq_zero.mp h0 with z | z
    · exact absurd z (den_ne q)
    · exact absurd z (den_ne x)
  · show Q (.rat (Rat.divInt (q.num * x.num) ((q.den : Int) * (x.den : Int)))) _
    rw [mul_divInt]
    exact hq
theorem ok_Ratio_umulu {P : Program} {w : World} {K : Frag} {mg : Str → Option Value} {base : Heap} (W : Wd K mg) (Fn : ∃ fd, FunD K d_Ratio_umulu.name d_Ratio_umulu.qual d_Ratio_umulu.params d_Ratio_umulu.body d_Ratio_umulu.scope (d_Ratio_umulu.dvs K) (d_Ratio_umulu.kws K) (fAd K d_Ratio_umulu.at_) fd) (h_checked : FnB P w K mg base d_checked 8 ps_checked c_checked) (h_Ratio_uinitu : FnB P w K mg base d_Ratio_uinitu 5 ps_Ratio_uinitu c_Ratio_uinitu) : FnB P w K mg base d_Ratio_umulu 11 ps_Ratio_umulu c_Ratio_umulu := by
  refine FnB.of (N := N_Ratio_umulu) (r := r_Ratio_umulu) Fn sc_Ratio_umulu len_Ratio_umulu pure_Ratio_umulu ?_
  intro f cdv A outer s H E0 hr G0 H0 B pin xa xd xc E tk hp
  have sc := sc_Ratio_umulu
  exact (lss_cons (ls_asg (le_callC (h_checked.all rfl rfl rfl rfl rfl rfl (hr.mono (by decide : 8 ≤ 10)) rfl rfl bd_checked) W.g_checked h_checked.kp tk (lc_p (lh_val (le_var 1) lh_nil))) (lg_tup rfl rfl (lgs_cons (lg_name 2 sc.nd) (lgs_cons (lg_name 3 sc.nd) lgs_nil))))
    (lss_one (ls_ret (le_callC (code_make (pMk_ok W.mk_Ratio) fun us kw => (h_Ratio_uinitu.full rfl rfl rfl rfl rfl rfl ((hr.mono (by decide : 5 + 1 ≤ 10)).make _ us kw) (List.cons_ne_nil _ _) rfl bdf_Ratio_uinitu)) W.g_Ratio W.mk_Ratio.2.2.2 tk (lc_p (lh_val (le_bin ol_mul (le_top W.kl_ratio rfl (le_var 0)) (le_var 2)) (lh_val (le_bin ol_mul (le_bot W.kl_ratio rfl (le_var 0)) (le_var 3)) lh_nil)))))))
abbrev s_Ratio_unegu : Stmt := (meth 10 5)
def d_Ratio_unegu : DefD := ⟨("Ratio", some "__neg__"), "__neg__", "Ratio.__neg__", defArgs s_Ratio_unegu, defBody s_Ratio_unegu, defScope s_Ratio_unegu, [], []⟩
abbrev N_Ratio_unegu : List Str := ["self"]
abbrev ps_Ratio_unegu : List Str := ["self"]
theorem sc_Ratio_unegu : FnScope N_Ratio_unegu ps_Ratio_unegu d_Ratio_unegu.scope := ⟨rfl, rfl, rfl, by decide +kernel, rfl, by decide +kernel, by decide +kernel⟩
theorem bd_Ratio_unegu : ∀ (kV doc pm : Value) (an : Option Addr) (cdv ct : Value) (us : List Value), us.length = ps_Ratio_unegu.length → bindArgs (fnOf d_Ratio_unegu.name d_Ratio_unegu.qual d_Ratio_unegu.params d_Ratio_unegu.body d_Ratio_unegu.scope .none kV doc pm an cdv ct) ⟨us, []⟩ = pure (ps_Ratio_unegu.zip us) := fun _ _ _ _ _ _ us hl => match us, hl with | [_], _ => rfl
def c_Ratio_unegu : Ct := fun args Q _ => ∃ q : Rat, args = [.val (.rat q)] ∧ Sz 8000 q ∧ Q (.rat (-q)) args
def r_Ratio_unegu : QS := (qRet (qCall (mkC .ratio c_Ratio_uinitu) (qhVal (qUn oNeg (qUn oTop (qVar 0))) (qhVal (qUn oBot (qVar 0)) qhNil))))
theorem len_Ratio_unegu : ∀ args Q E, c_Ratio_unegu args Q E → args.length = ps_Ratio_unegu.length := by
  rintro args Q E ⟨_, rfl, _⟩
  rfl
theorem pure_Ratio_unegu : ∀ args Q E, c_Ratio_unegu args Q E → r_Ratio_unegu (startE N_Ratio_unegu.length args) (endsC args Q) (exnC args E) := by
  rintro args Q E ⟨q, rfl, hs, hq⟩
  refine ⟨_, _, rfl, hs.den.mono (by decide), fun h0 => absurd h0 (den_ne q), fun _ => ⟨_, rfl, ?_⟩⟩
  show Q (.rat (Rat.divInt (-q.num) (q.den : Int))) _
  rw [neg_divInt]
  exact hq
theorem ok_Ratio_unegu {P : Program} {w : World} {K : Frag} {mg : Str → Option Value} {base : Heap} (W : Wd K mg) (Fn : ∃ fd, FunD K d_Ratio_unegu.name d_Ratio_unegu.qual d_Ratio_unegu.params d_Ratio_unegu.body d_Ratio_unegu.scope (d_Ratio_unegu.dvs K) (d_Ratio_unegu.kws K) (fAd K d_Ratio_unegu.at_) fd) (h_Ratio_uinitu : FnB P w K mg base d_Ratio_uinitu 5 ps_Ratio_uinitu c_Ratio_uinitu) : FnB P w K mg base d_Ratio_unegu 8 ps_Ratio_unegu c_Ratio_unegu := by
  refine FnB.of (N := N_Ratio_unegu) (r := r_Ratio_unegu) Fn sc_Ratio_unegu len_Ratio_unegu pure_Ratio_unegu ?_
  intro f cdv A outer s H E0 hr G0 H0 B pin xa xd xc E tk hp
  have sc := sc_Ratio_unegu
  exact (lss_one (ls_ret (le_callC (code_make (pMk_ok W.mk_Ratio) fun us kw => (h_Ratio_uinitu.full rfl rfl rfl rfl rfl rfl ((hr.mono (by decide : 5 + 1 ≤ 7)).make _ us kw) (List.cons_ne_nil _ _) rfl bdf_Ratio_uinitu)) W.g_Ratio W.mk_Ratio.2.2.2 tk (lc_p (lh_val (le_un ul_neg (le_top W.kl_ratio rfl (le_var 0))) (lh_val (le_bot W.kl_ratio rfl (le_var 0)) lh_nil))))))
abbrev s_Ratio_uequ : Stmt := (meth 10 6)
def d_Ratio_uequ : DefD := ⟨("Ratio", some "__eq__"), "__eq__", "Ratio.__eq__", defArgs s_Ratio_uequ, defBody s_Ratio_uequ, defScope s_Ratio_uequ, [], []⟩
abbrev N_Ratio_uequ : List Str := ["self", "other", "found"]
abbrev ps_Ratio_uequ : List Str := ["self", "other"]
theorem sc_Ratio_uequ : FnScope N_Ratio_uequ ps_Ratio_uequ d_Ratio_uequ.scope := ⟨rfl, rfl, rfl, by decide +kernel, rfl, by decide +kernel, by decide +kernel⟩
theorem bd_Ratio_uequ : ∀ (kV doc pm : Value) (an : Option Addr) (cdv ct : Value) (us : List Value), us.length = ps_Ratio_uequ.length → bindArgs (fnOf d_Ratio_uequ.name d_Ratio_uequ.qual d_Ratio_uequ.params d_Ratio_uequ.body d_Ratio_uequ.scope .none kV doc pm an cdv ct) ⟨us, []⟩ = pure (ps_Ratio_uequ.zip us) := fun _ _ _ _ _ _ us hl => match us, hl with | [_, _], _ => rfl
def eqD (q : Rat) (d : D) : Bool := match numQ d with
  | some x => decide (x = q)
  | none => false
def c_Ratio_uequ : Ct := fun args Q _ => ∃ (q : Rat) (d : D), args = [.val (.rat q), .val d] ∧ plain d = true ∧ Q (.bl (eqD q d)) args
def r_Ratio_uequ : QS := (qSeq (qSet 2 (qCall c_parts (qhVal (qVar 1) qhNil)))
    (qRet (qAndV (qNotN (qVar 2)) (qBin oEq (qVar 2) (qTup (qCons (qUn oTop (qVar 0)) (qCons (qUn oBot (qVar 0)) qNil)))))))
theorem len_Ratio_uequ : ∀ args Q E, c_Ratio_uequ args Q E → args.length = ps_Ratio_uequ.length := by
  rintro args Q E ⟨_, _, rfl, _⟩
  rfl
theorem pure_Ratio_uequ : ∀ args Q E, c_Ratio_uequ args Q E → r_Ratio_uequ (startE N_Ratio_uequ.length args) (endsC args Q) (exnC args E) := by
  rintro args Q E ⟨q, d, rfl, hp, hq⟩
  refine ⟨d, rfl, hp, ?_⟩
  have key : ∀ x : Rat, Q (.bl (decide (x = q))) [.val (.rat q), .val d] → Q (.bl (PyData.eqv (toPy (tupR x)) (toPy (tupR q)))) [.val (.rat q), .val d] := fun x h => by
    rw [eqv_tupR]
    exact h
  cases d with
  | int n => exact ⟨Nat.le_of_ble_eq_true rfl, rfl, rfl, key _ hq⟩
  | rat x => exact ⟨Nat.le_of_ble_eq_true rfl, rfl, rfl, key _ hq⟩
  | non => exact hq
  | bl _ => exact hq
  | str _ => exact hq
  | lst _ => exact hq
  | tup _ => exact hq
  | dic _ => exact hq
  | _ => cases hp
theorem ok_Ratio_uequ {P : Program} {w : World} {K : Frag} {mg : Str → Option Value} {base : Heap} (W : Wd K mg) (Fn : ∃ fd, FunD K d_Ratio_uequ.name d_Ratio_uequ.qual d_Ratio_uequ.params d_Ratio_uequ.body d_Ratio_uequ.scope (d_Ratio_uequ.dvs K) (d_Ratio_uequ.kws K) (fAd K d_Ratio_uequ.at_) fd) (h_parts : FnB P w K mg base d_parts 5 ps_parts c_parts) : FnB P w K mg base d_Ratio_uequ 8 ps_Ratio_uequ c_Ratio_uequ := by
  refine FnB.of (N := N_Ratio_uequ) (r := r_Ratio_uequ) Fn sc_Ratio_uequ len_Ratio_uequ pure_Ratio_uequ ?_
  intro f cdv A outer s H E0 hr G0 H0 B pin xa xd xc E tk hp
  have sc := sc_Ratio_uequ
  exact (lss_cons (ls_set 2 sc.nd (le_callC (h_parts.all rfl rfl rfl rfl rfl rfl (hr.mono (by decide : 5 ≤ 7)) rfl rfl bd_parts) W.g_parts h_parts.kp tk (lc_p (lh_val (le_var 1) lh_nil))))
    (lss_one (ls_ret (le_and (le_notN (le_var 2)) (le_one (le_cmp (ol_eq rfl hr) (le_var 2) (le_tup (la_cons (le_top W.kl_ratio rfl (le_var 0)) (la_cons (le_bot W.kl_ratio rfl (le_var 0)) la_nil)))))))))
abbrev s_Ratio_ultu : Stmt := (meth 10 7)
def d_Ratio_ultu : DefD := ⟨("Ratio", some "__lt__"), "__lt__", "Ratio.__lt__", defArgs s_Ratio_ultu, defBody s_Ratio_ultu, defScope s_Ratio_ultu, [], []⟩
abbrev N_Ratio_ultu : List Str := ["self", "other", "top", "bottom"]
abbrev ps_Ratio_ultu : List Str := ["self", "other"]
theorem sc_Ratio_ultu : FnScope N_Ratio_ultu ps_Ratio_ultu d_Ratio_ultu.scope := ⟨rfl, rfl, rfl, by decide +kernel, rfl, by decide +kernel, by decide +kernel⟩
theorem bd_Ratio_ultu : ∀ (kV doc pm : Value) (an : Option Addr) (cdv ct : Value) (us : List Value), us.length = ps_Ratio_ultu.length → bindArgs (fnOf d_Ratio_ultu.name d_Ratio_ultu.qual d_Ratio_ultu.params d_Ratio_ultu.body d_Ratio_ultu.scope .none kV doc pm an cdv ct) ⟨us, []⟩ = pure (ps_Ratio_ultu.zip us) := fun _ _ _ _ _ _ us hl => match us, hl with | [_, _], _ => rfl
def c_Ratio_ultu : Ct := fun args Q E => ∃ (q : Rat) (d : D), args = [.val (.rat q), .val d] ∧ plain d = true ∧ (∀ x, numQ d = some x → Sz 4000 q ∧ Sz 4000 x ∧ Q (.bl (decide (q < x))) args) ∧ (numQ d = none → E ⟨.badNumber, [d]⟩ args)
def r_Ratio_ultu : QS := (qSeq (qAsg (qCall c_checked (qhVal (qVar 1) qhNil)) (gT 2 (gsCons (gV 2) (gsCons (gV 3) gsNil))))
    (qRet (qBin oLt (qBin oMul (qUn oTop (qVar 0)) (qVar 3)) (qBin oMul (qVar 2) (qUn oBot (qVar 0))))))
theorem len_Ratio_ultu : ∀ args Q E, c_Ratio_ultu args Q E → args.length = ps_Ratio_ultu.length := by
  rintro args Q E ⟨_, _, rfl, _⟩
  rfl
theorem pure_Ratio_ultu : ∀ args Q E, c_Ratio_ultu args Q E → r_Ratio_ultu (startE N_Ratio_ultu.length args) (endsC args Q) (exnC args E) := by
  rintro args Q E ⟨q, d, rfl, hp, h1, h2⟩
  refine ⟨d, rfl, hp, fun x hx => ?_, h2⟩
  obtain ⟨hs, hx, hq⟩ := h1 x hx
  refine ⟨rfl, mul_ok hs.num hx.den (by decide), mul_ok hx.num hs.den (by decide), ?_⟩
  show Q (.bl (decide (q.num * (x.den : Int) < x.num * (q.den : Int)))) _
  have e : decide (q.num * (x.den : Int) < x.num * (q.den : Int)) = decide (q < x) := decide_eq_decide.mpr (Rat.lt_iff q x).symm
  rw [e]
  exact hq
theorem ok_Ratio_ultu {P : Program} {w : World} {K : Frag} {mg : Str → Option Value} {base : Heap} (W : Wd K mg) (Fn : ∃ fd, FunD K d_Ratio_ultu.name d_Ratio_ultu.qual d_Ratio_ultu.params d_Ratio_ultu.body d_Ratio_ultu.scope (d_Ratio_ultu.dvs K) (d_Ratio_ultu.kws K) (fAd K d_Ratio_ultu.at_) fd) (h_checked : FnB P w K mg base d_checked 8 ps_checked c_checked) : FnB P w K mg base d_Ratio_ultu 11 ps_Ratio_ultu c_Ratio_ultu := by
  refine FnB.of (N := N_Ratio_ultu) (r := r_Ratio_ultu) Fn sc_Ratio_ultu len_Ratio_ultu pure_Ratio_ultu ?_
  intro f cdv A outer s H E0 hr G0 H0 B pin xa xd xc E tk hp
  have sc := sc_Ratio_ultu
  exact (lss_cons (ls_asg (le_callC (h_checked.all rfl rfl rfl rfl rfl rfl (hr.mono (by decide : 8 ≤ 10)) rfl rfl bd_checked) W.g_checked h_checked.kp tk (lc_p (lh_val (le_var 1) lh_nil))) (lg_tup rfl rfl (lgs_cons (lg_name 2 sc.nd) (lgs_cons (lg_name 3 sc.nd) lgs_nil))))
    (lss_one (ls_ret (le_cmp ol_lt (le_bin ol_mul (le_top W.kl_ratio rfl (le_var 0)) (le_var 3)) (le_bin ol_mul (le_var 2) (le_bot W.kl_ratio rfl (le_var 0)))))))
abbrev s_Ratio_uleu : Stmt := (meth 10 8)
def d_Ratio_uleu : DefD := ⟨("Ratio", some "__le__"), "__le__", "Ratio.__le__", defArgs s_Ratio_uleu, defBody s_Ratio_uleu, defScope s_Ratio_uleu, [], []⟩
abbrev N_Ratio_uleu : List Str := ["self", "other", "top", "bottom"]
abbrev ps_Ratio_uleu : List Str := ["self", "other"]
theorem sc_Ratio_uleu : FnScope N_Ratio_uleu ps_Ratio_uleu d_Ratio_uleu.scope := ⟨rfl, rfl, rfl, by decide +kernel, rfl, by decide +kernel, by decide +kernel⟩
theorem bd_Ratio_uleu : ∀ (kV doc pm : Value) (an : Option Addr) (cdv ct : Value) (us : List Value), us.length = ps_Ratio_uleu.length → bindArgs (fnOf d_Ratio_uleu.name d_Ratio_uleu.qual d_Ratio_uleu.params d_Ratio_uleu.body d_Ratio_uleu.scope .none kV doc pm an cdv ct) ⟨us, []⟩ = pure (ps_Ratio_uleu.zip us) := fun _ _ _ _ _ _ us hl => match us, hl with | [_, _], _ => rfl
def c_Ratio_uleu : Ct := fun args Q E => ∃ (q : Rat) (d : D), args = [.val (.rat q), .val d] ∧ plain d = true ∧ (∀ x, numQ d = some x → Sz 4000 q ∧ Sz 4000 x ∧ Q (.bl (decide (q ≤ x))) args) ∧ (numQ d = none → E ⟨.badNumber, [d]⟩ args)
def r_Ratio_uleu : QS := (qSeq (qAsg (qCall c_checked (qhVal (qVar 1) qhNil)) (gT 2 (gsCons (gV 2) (gsCons (gV 3) gsNil))))
    (qRet (qBin oLe (qBin oMul (qUn oTop (qVar 0)) (qVar 3)) (qBin oMul (qVar 2) (qUn oBot (qVar 0))))))
theorem len_Ratio_uleu : ∀ args Q E, c_Ratio_uleu args Q E → args.length = ps_Ratio_uleu.length := by
  rintro args Q E ⟨_, _, rfl, _⟩
  rfl
theorem pure_Ratio_uleu : ∀ args Q E, c_Ratio_uleu args Q E → r_Ratio_uleu (startE N_Ratio_uleu.length args) (endsC args Q) (exnC args E) := by
  rintro args Q E ⟨q, d, rfl, hp, h1, h2⟩
  refine ⟨d, rfl, hp, fun x hx => ?_, h2⟩
  obtain ⟨hs, hx, hq⟩ := h1 x hx
  refine ⟨rfl, mul_ok hs.num hx.den (by decide), mul_ok hx.num hs.den (by decide), ?_⟩
  show Q (.bl (decide (q.num * (x.den : Int) ≤ x.num * (q.den : Int)))) _
  have e : decide (q.num * (x.den : Int) ≤ x.num * (q.den : Int)) = decide (q ≤ x) := decide_eq_decide.mpr (Rat.le_iff q x).symm
  rw [e]
  exact hq
theorem ok_Ratio_uleu {P : Program} {w : World} {K : Frag} {mg : Str → Option Value} {base : Heap} (W : Wd K mg) (Fn : ∃ fd, FunD K d_Ratio_uleu.name d_Ratio_uleu.qual d_Ratio_uleu.params d_Ratio_uleu.body d_Ratio_uleu.scope (d_Ratio_uleu.dvs K) (d_Ratio_uleu.kws K) (fAd K d_Ratio_uleu.at_) fd) (h_checked : FnB P w K mg base d_checked 8 ps_checked c_checked) : FnB P w K mg base d_Ratio_uleu 11 ps_Ratio_uleu c_Ratio_uleu := by
  refine FnB.of (N := N_Ratio_uleu) (r := r_Ratio_uleu) Fn sc_Ratio_uleu len_Ratio_uleu pure_Ratio_uleu ?_
  intro f cdv A outer s H E0 hr G0 H0 B pin xa xd xc E tk hp
  have sc := sc_Ratio_uleu
  exact (lss_cons (ls_asg (le_callC (h_checked.all rfl rfl rfl rfl rfl rfl (hr.mono (by decide : 8 ≤ 10)) rfl rfl bd_checked) W.g_checked h_checked.kp tk (lc_p (lh_val (le_var 1) lh_nil))) (lg_tup rfl rfl (lgs_cons (lg_name 2 sc.nd) (lgs_cons (lg_name 3 sc.nd) lgs_nil))))
    (lss_one (ls_ret (le_cmp ol_le (le_bin ol_mul (le_top W.kl_ratio rfl (le_var 0)) (le_var 3)) (le_bin ol_mul (le_var 2) (le_bot W.kl_ratio rfl (le_var 0)))))))
abbrev s_Ratio_over : Stmt := (meth 10 9)
def d_Ratio_over : DefD := ⟨("Ratio", some "over"), "over", "Ratio.over", defArgs s_Ratio_over, defBody s_Ratio_over, defScope s_Ratio_over, [], []⟩
abbrev N_Ratio_over : List Str := ["self", "number", "top", "bottom"]
abbrev ps_Ratio_over : List Str := ["self", "number"]
theorem sc_Ratio_over : FnScope N_Ratio_over ps_Ratio_over d_Ratio_over.scope := ⟨rfl, rfl, rfl, by decide +kernel, rfl, by decide +kernel, by decide +kernel⟩
theorem bd_Ratio_over : ∀ (kV doc pm : Value) (an : Option Addr) (cdv ct : Value) (us : List Value), us.length = ps_Ratio_over.length → bindArgs (fnOf d_Ratio_over.name d_Ratio_over.qual d_Ratio_over.params d_Ratio_over.body d_Ratio_over.scope .none kV doc pm an cdv ct) ⟨us, []⟩ = pure (ps_Ratio_over.zip us) := fun _ _ _ _ _ _ us hl => match us, hl with | [_, _], _ => rfl
def c_Ratio_over : Ct := fun args Q E => ∃ (q : Rat) (d : D), args = [.val (.rat q), .val d] ∧ plain d = true ∧ (∀ x, numQ d = some x → Sz 4000 q ∧ Sz 4000 x ∧ (x = 0 → E ⟨.byZero, []⟩ args) ∧ (x ≠ 0 → Q (.rat (q / x)) args)) ∧ (numQ d = none → E ⟨.badNumber, [d]⟩ args)
def r_Ratio_over : QS := (qSeq (qAsg (qCall c_checked (qhVal (qVar 1) qhNil)) (gT 2 (gsCons (gV 2) (gsCons (gV 3) gsNil))))
    (qRet (qCall (mkC .ratio c_Ratio_uinitu) (qhVal (qBin oMul (qUn oTop (qVar 0)) (qVar 3)) (qhVal (qBin oMul (qUn oBot (qVar 0)) (qVar 2)) qhNil)))))
theorem len_Ratio_over : ∀ args Q E, c_Ratio_over args Q E → args.length = ps_Ratio_over.length := by
  rintro args Q E ⟨_, _, rfl, _⟩
  rfl
theorem pure_Ratio_over : ∀ args Q E, c_Ratio_over args Q E → r_Ratio_over (startE N_Ratio_over.length args) (endsC args Q) (exnC args E) := by
  rintro args Q E ⟨q, d, rfl, hp, h1, h2⟩
  refine ⟨d, rfl, hp, fun x hx => ?_, h2⟩
  obtain ⟨hs, hx, hz, hq⟩ := h1 x hx
  refine ⟨rfl, mul_ok hs.num hx.den (by decide), mul_ok hs.den hx.num (by decide), _, _, rfl, (hs.den.mul hx.num).mono (by decide), fun h0 => ?_, fun h0 => ⟨_, rfl, ?_⟩⟩
  · refine hz ?_
    rcases Int.mul_eq_zero.mp h0 with z | z
    · exact absurd z (den_ne q)
    · exact Rat.num_eq_zero.mp z
  · show Q (.rat (Rat.divInt (q.num * (x.den : Int)) ((q.den : Int) * x.num))) _
    rw [div_divInt]
    exact hq fun e => h0 (by rw [e]; exact Int.mul_zero _)
theorem ok_Ratio_over {P : Program} {w : World} {K : Frag} {mg : Str → Option Value} {base : Heap} (W : Wd K mg) (Fn : ∃ fd, FunD K d_Ratio_over.name d_Ratio_over.qual d_Ratio_over.params d_Ratio_over.body d_Ratio_over.scope (d_Ratio_over.dvs K) (d_Ratio_over.kws K) (fAd K d_Ratio_over.at_) fd) (h_checked : FnB P w K mg base d_checked 8 ps_checked c_checked) (h_Ratio_uinitu : FnB P w K mg base d_Ratio_uinitu 5 ps_Ratio_uinitu c_Ratio_uinitu) : FnB P w K mg base d_Ratio_over 11 ps_Ratio_over c_Ratio_over := by
  refine FnB.of (N := N_Ratio_over) (r := r_Ratio_over) Fn sc_Ratio_over len_Ratio_over pure_Ratio_over ?_
  intro f cdv A outer s H E0 hr G0 H0 B pin xa xd xc E tk hp
  have sc := sc_Ratio_over
  exact (lss_cons (ls_asg (le_callC (h_checked.all rfl rfl rfl rfl rfl rfl (hr.mono (by decide : 8 ≤ 10)) rfl rfl bd_checked) W.g_checked h_checked.kp tk (lc_p (lh_val (le_var 1) lh_nil))) (lg_tup rfl rfl (lgs_cons (lg_name 2 sc.nd) (lgs_cons (lg_name 3 sc.nd) lgs_nil))))
    (lss_one (ls_ret (le_callC (code_make (pMk_ok W.mk_Ratio) fun us kw => (h_Ratio_uinitu.full rfl rfl rfl rfl rfl rfl ((hr.mono (by decide : 5 + 1 ≤ 10)).make _ us kw) (List.cons_ne_nil _ _) rfl bdf_Ratio_uinitu)) W.g_Ratio W.mk_Ratio.2.2.2 tk (lc_p (lh_val (le_bin ol_mul (le_top W.kl_ratio rfl (le_var 0)) (le_var 3)) (lh_val (le_bin ol_mul (le_bot W.kl_ratio rfl (le_var 0)) (le_var 2)) lh_nil)))))))
abbrev s_as_ratio : Stmt := (top 12)
def d_as_ratio : DefD := ⟨("as_ratio", none), "as_ratio", "as_ratio", defArgs s_as_ratio, defBody s_as_ratio, defScope s_as_ratio, [], []⟩
abbrev N_as_ratio : List Str := ["given", "top", "bottom"]
abbrev ps_as_ratio : List Str := ["given"]
theorem sc_as_ratio : FnScope N_as_ratio ps_as_ratio d_as_ratio.scope := ⟨rfl, rfl, rfl, by decide +kernel, rfl, by decide +kernel, by decide +kernel⟩
theorem bd_as_ratio : ∀ (kV doc pm : Value) (an : Option Addr) (cdv ct : Value) (us : List Value), us.length = ps_as_ratio.length → bindArgs (fnOf d_as_ratio.name d_as_ratio.qual d_as_ratio.params d_as_ratio.body d_as_ratio.scope .none kV doc pm an cdv ct) ⟨us, []⟩ = pure (ps_as_ratio.zip us) := fun _ _ _ _ _ _ us hl => match us, hl with | [_], _ => rfl
def c_as_ratio : Ct := fun args Q E => ∃ d, args = [.val d] ∧ plain d = true ∧ (∀ x, numQ d = some x → Sz 8000 x ∧ Q (.rat x) args) ∧ (numQ d = none → E ⟨.badNumber, [d]⟩ args)
def r_as_ratio : QS := (qSeq (qAsg (qCall c_checked (qhVal (qVar 0) qhNil)) (gT 2 (gsCons (gV 1) (gsCons (gV 2) gsNil))))
    (qRet (qCall (mkC .ratio c_Ratio_uinitu) (qhVal (qVar 1) (qhVal (qVar 2) qhNil)))))
theorem len_as_ratio : ∀ args Q E, c_as_ratio args Q E → args.length = ps_as_ratio.length := by
  rintro args Q E ⟨_, rfl, _⟩
  rfl
theorem pure_as_ratio : ∀ args Q E, c_as_ratio args Q E → r_as_ratio (startE N_as_ratio.length args) (endsC args Q) (exnC args E) := by
  rintro args Q E ⟨d, rfl, hp, h1, h2⟩
  refine ⟨d, rfl, hp, fun x hx => ?_, h2⟩
  obtain ⟨hx, hq⟩ := h1 x hx
  refine ⟨rfl, _, _, rfl, hx.den.mono (by decide), fun h0 => absurd h0 (den_ne x), fun _ => ⟨_, rfl, ?_⟩⟩
  show Q (.rat (Rat.divInt x.num (x.den : Int))) _
  rw [Rat.num_divInt_den]
  exact hq
theorem ok_as_ratio {P : Program} {w : World} {K : Frag} {mg : Str → Option Value} {base : Heap} (W : Wd K mg) (Fn : ∃ fd, FunD K d_as_ratio.name d_as_ratio.qual d_as_ratio.params d_as_ratio.body d_as_ratio.scope (d_as_ratio.dvs K) (d_as_ratio.kws K) (fAd K d_as_ratio.at_) fd) (h_checked : FnB P w K mg base d_checked 8 ps_checked c_checked) (h_Ratio_uinitu : FnB P w K mg base d_Ratio_uinitu 5 ps_Ratio_uinitu c_Ratio_uinitu) : FnB P w K mg base d_as_ratio 11 ps_as_ratio c_as_ratio := by
  refine FnB.of (N := N_as_ratio) (r := r_as_ratio) Fn sc_as_ratio len_as_ratio pure_as_ratio ?_
  intro f cdv A outer s H E0 hr G0 H0 B pin xa xd xc E tk hp
  have sc := sc_as_ratio
  exact (lss_cons (ls_asg (le_callC (h_checked.all rfl rfl rfl rfl rfl rfl (hr.mono (by decide : 8 ≤ 10)) rfl rfl bd_checked) W.g_checked h_checked.kp tk (lc_p (lh_val (le_var 0) lh_nil))) (lg_tup rfl rfl (lgs_cons (lg_name 1 sc.nd) (lgs_cons (lg_name 2 sc.nd) lgs_nil))))
    (lss_one (ls_ret (le_callC (code_make (pMk_ok W.mk_Ratio) fun us kw => (h_Ratio_uinitu.full rfl rfl rfl rfl rfl rfl ((hr.mono (by decide : 5 + 1 ≤ 10)).make _ us kw) (List.cons_ne_nil _ _) rfl bdf_Ratio_uinitu)) W.g_Ratio W.mk_Ratio.2.2.2 tk (lc_p (lh_val (le_var 1) (lh_val (le_var 2) lh_nil)))))))
abbrev s_sign : Stmt := (top 13)
def d_sign : DefD := ⟨("sign", none), "sign", "sign", defArgs s_sign, defBody s_sign, defScope s_sign, [], []⟩
abbrev N_sign : List Str := ["number", "top"]
abbrev ps_sign : List Str := ["number"]
theorem sc_sign : FnScope N_sign ps_sign d_sign.scope := ⟨rfl, rfl, rfl, by decide +kernel, rfl, by decide +kernel, by decide +kernel⟩
theorem bd_sign : ∀ (kV doc pm : Value) (an : Option Addr) (cdv ct : Value) (us : List Value), us.length = ps_sign.length → bindArgs (fnOf d_sign.name d_sign.qual d_sign.params d_sign.body d_sign.scope .none kV doc pm an cdv ct) ⟨us, []⟩ = pure (ps_sign.zip us) := fun _ _ _ _ _ _ us hl => match us, hl with | [_], _ => rfl
def sgn (n : Int) : Int := (if decide (0 < n) = true then 1 else 0) - (if decide (n < 0) = true then 1 else 0)
def c_sign : Ct := fun args Q E => ∃ d, args = [.val d] ∧ plain d = true ∧ (∀ x, numQ d = some x → Q (.int (sgn x.num)) args) ∧ (numQ d = none → E ⟨.badNumber, [d]⟩ args)
def r_sign : QS := (qSeq (qSet 1 (qBin oIx (qCall c_checked (qhVal (qVar 0) qhNil)) (qC (.int 0))))
    (qRet (qBin oSub (qB oInt (qCons (qBin oGt (qVar 1) (qC (.int 0))) qNil)) (qB oInt (qCons (qBin oLt (qVar 1) (qC (.int 0))) qNil)))))
theorem len_sign : ∀ args Q E, c_sign args Q E → args.length = ps_sign.length := by
  rintro args Q E ⟨_, rfl, _⟩
  rfl
theorem pure_sign : ∀ args Q E, c_sign args Q E → r_sign (startE N_sign.length args) (endsC args Q) (exnC args E) := by
  rintro args Q E ⟨d, rfl, hp, h1, h2⟩
  exact ⟨d, rfl, hp, fun x hx => ⟨_, rfl, h1 x hx⟩, h2⟩
theorem ok_sign {P : Program} {w : World} {K : Frag} {mg : Str → Option Value} {base : Heap} (W : Wd K mg) (Fn : ∃ fd, FunD K d_sign.name d_sign.qual d_sign.params d_sign.body d_sign.scope (d_sign.dvs K) (d_sign.kws K) (fAd K d_sign.at_) fd) (h_checked : FnB P w K mg base d_checked 8 ps_checked c_checked) : FnB P w K mg base d_sign 11 ps_sign c_sign := by
  refine FnB.of (N := N_sign) (r := r_sign) Fn sc_sign len_sign pure_sign ?_
  intro f cdv A outer s H E0 hr G0 H0 B pin xa xd xc E tk hp
  have sc := sc_sign
  exact (lss_cons (ls_set 1 sc.nd (le_ix (il_ix rfl) (le_callC (h_checked.all rfl rfl rfl rfl rfl rfl (hr.mono (by decide : 8 ≤ 10)) rfl rfl bd_checked) W.g_checked h_checked.kp tk (lc_p (lh_val (le_var 0) lh_nil))) le_int))
    (lss_one (ls_ret (le_bin ol_sub (le_bty bl_int (la_cons (le_cmp ol_gt (le_var 1) le_int) la_nil) W.f_int) (le_bty bl_int (la_cons (le_cmp ol_lt (le_var 1) le_int) la_nil) W.f_int)))))
end K02

set_option Elab.async false
set_option linter.all false
set_option maxRecDepth 100000
set_option maxHeartbeats 4000000
namespace K02
open PySem L2 PySem.Spec PyProof.Rows He PySem.W Q
abbrev s__law_cell : Stmt := (top 15)
def d__law_cell : DefD := ⟨("_law_cell", none), "_law_cell", "_law_cell", defArgs s__law_cell, defBody s__law_cell, defScope s__law_cell, [], []⟩
abbrev N__law_cell : List Str := ["_law_script", "_law_k"]
abbrev ps__law_cell : List Str := ["_law_script", "_law_k"]
theorem sc__law_cell : FnScope N__law_cell ps__law_cell d__law_cell.scope := ⟨rfl, rfl, rfl, by decide +kernel, rfl, by decide +kernel, by decide +kernel⟩
theorem bd__law_cell : ∀ (kV doc pm : Value) (an : Option Addr) (cdv ct : Value) (us : List Value), us.length = ps__law_cell.length → bindArgs (fnOf d__law_cell.name d__law_cell.qual d__law_cell.params d__law_cell.body d__law_cell.scope .none kV doc pm an cdv ct) ⟨us, []⟩ = pure (ps__law_cell.zip us) := fun _ _ _ _ _ _ us hl => match us, hl with | [_, _], _ => rfl
def c__law_cell : Ct := fun args Q _ => ∃ (ns : List Int) (k : Int), args = [.val (.scr ns), .val (.int k)] ∧ 0 ≤ k ∧ Q (.int (ns.getD k.toNat 0)) args
def r__law_cell : QS := (qRet (qIf (qTest (qBin oLt (qVar 1) (qB oLen (qCons (qVar 0) qNil)))) (qIxM 0 (qVar 1)) (qC (.int 0))))
theorem len__law_cell : ∀ args Q E, c__law_cell args Q E → args.length = ps__law_cell.length := by
  rintro args Q E ⟨_, _, rfl, _⟩
  rfl
theorem pure__law_cell : ∀ args Q E, c__law_cell args Q E → r__law_cell (startE N__law_cell.length args) (endsC args Q) (exnC args E) := by
  rintro args Q E ⟨ns, k, rfl, h0, hq⟩
  show (match decide (k < (ns.length : Int)) with | true => _ | false => _)
  by_cases h : k < (ns.length : Int)
  · rw [decide_eq_true h]
    have hl : k.toNat < ns.length := by omega
    refine ⟨.int (ns.getD k.toNat 0), ?_, hq⟩
    unfold atD
    rw [if_pos h0, List.getElem?_map, List.getElem?_eq_getElem hl, List.getD_eq_getElem?_getD, List.getElem?_eq_getElem hl]
    rfl
  · rw [decide_eq_false h]
    have e : ns.getD k.toNat 0 = 0 := by
      rw [List.getD_eq_getElem?_getD, List.getElem?_eq_none (by omega)]
      rfl
    rw [e] at hq
    exact hq
theorem ok__law_cell {P : Program} {w : World} {K : Frag} {mg : Str → Option Value} {base : Heap} (W : Wd K mg) (Fn : ∃ fd, FunD K d__law_cell.name d__law_cell.qual d__law_cell.params d__law_cell.body d__law_cell.scope (d__law_cell.dvs K) (d__law_cell.kws K) (fAd K d__law_cell.at_) fd) : FnB P w K mg base d__law_cell 2 ps__law_cell c__law_cell := by
  refine FnB.of (N := N__law_cell) (r := r__law_cell) Fn sc__law_cell len__law_cell pure__law_cell ?_
  intro f cdv A outer s H E0 hr G0 H0 B pin xa xd xc E tk hp
  have sc := sc__law_cell
  exact (lss_one (ls_ret (le_if (lt_cmp ol_lt (le_var 1) (le_b (bl_len rfl) (la_cons (le_var 0) la_nil) W.f_len)) (le_ixM 0 rfl (le_var 1)) le_int)))
abbrev s__law_box : Stmt := (top 16)
def d__law_box : DefD := ⟨("_law_box", none), "_law_box", "_law_box", defArgs s__law_box, defBody s__law_box, defScope s__law_box, [], []⟩
abbrev N__law_box : List Str := ["_law_script", "_law_k"]
abbrev ps__law_box : List Str := ["_law_script", "_law_k"]
theorem sc__law_box : FnScope N__law_box ps__law_box d__law_box.scope := ⟨rfl, rfl, rfl, by decide +kernel, rfl, by decide +kernel, by decide +kernel⟩
theorem bd__law_box : ∀ (kV doc pm : Value) (an : Option Addr) (cdv ct : Value) (us : List Value), us.length = ps__law_box.length → bindArgs (fnOf d__law_box.name d__law_box.qual d__law_box.params d__law_box.body d__law_box.scope .none kV doc pm an cdv ct) ⟨us, []⟩ = pure (ps__law_box.zip us) := fun _ _ _ _ _ _ us hl => match us, hl with | [_, _], _ => rfl
def c__law_box : Ct := fun args Q _ => ∃ (ns : List Int) (k : Int), args = [.val (.scr ns), .val (.int k)] ∧ 0 ≤ k ∧ Bd 100 k ∧ ∀ a : Int, 0 ≤ a → Q (.fr (.lst [.int a, .int 0, .int (40503 * k + 911)])) args
def r__law_box : QS := (qRetN (qnLst (qCons (qB oAbs (qCons (qB oInt (qCons (qCall c__law_cell (qhVal (qVar 0) (qhVal (qVar 1) qhNil))) qNil)) qNil)) (qCons (qC (.int 0)) (qCons (qBin oAdd (qBin oMul (qC (.int 40503)) (qVar 1)) (qC (.int 911))) qNil)))))
theorem len__law_box : ∀ args Q E, c__law_box args Q E → args.length = ps__law_box.length := by
  rintro args Q E ⟨_, _, rfl, _⟩
  rfl
theorem pure__law_box : ∀ args Q E, c__law_box args Q E → r__law_box (startE N__law_box.length args) (endsC args Q) (exnC args E) := by
  rintro args Q E ⟨ns, k, rfl, h0, hk, hq⟩
  refine ⟨ns, k, rfl, h0, mul_ok (n := 100) (bd_of (by decide)) hk (by decide), Nat.le_of_ble_eq_true rfl, ?_⟩
  refine hq _ ?_
  split <;> omega
theorem ok__law_box {P : Program} {w : World} {K : Frag} {mg : Str → Option Value} {base : Heap} (W : Wd K mg) (Fn : ∃ fd, FunD K d__law_box.name d__law_box.qual d__law_box.params d__law_box.body d__law_box.scope (d__law_box.dvs K) (d__law_box.kws K) (fAd K d__law_box.at_) fd) (h__law_cell : FnB P w K mg base d__law_cell 2 ps__law_cell c__law_cell) : FnB P w K mg base d__law_box 5 ps__law_box c__law_box := by
  refine FnB.of (N := N__law_box) (r := r__law_box) Fn sc__law_box len__law_box pure__law_box ?_
  intro f cdv A outer s H E0 hr G0 H0 B pin xa xd xc E tk hp
  have sc := sc__law_box
  exact (lss_one (ls_retN (ln_lst (la_cons (le_b bl_abs (la_cons (le_bty bl_int (la_cons (le_callC (h__law_cell.all rfl rfl rfl rfl rfl rfl (hr.mono (by decide : 2 ≤ 4)) rfl rfl bd__law_cell) W.g__law_cell h__law_cell.kp tk (lc_p (lh_val (le_var 0) (lh_val (le_var 1) lh_nil)))) la_nil) W.f_int) la_nil) W.f_abs) (la_cons le_int (la_cons (le_bin ol_add (le_bin ol_mul le_int (le_var 1)) le_int) la_nil))))))
abbrev s__law_take : Stmt := (top 17)
def d__law_take : DefD := ⟨("_law_take", none), "_law_take", "_law_take", defArgs s__law_take, defBody s__law_take, defScope s__law_take, [], []⟩
abbrev N__law_take : List Str := ["_law_box_here", "_law_many", "_law_digit", "_law_mixed"]
abbrev ps__law_take : List Str := ["_law_box_here", "_law_many"]
theorem sc__law_take : FnScope N__law_take ps__law_take d__law_take.scope := ⟨rfl, rfl, rfl, by decide +kernel, rfl, by decide +kernel, by decide +kernel⟩
theorem bd__law_take : ∀ (kV doc pm : Value) (an : Option Addr) (cdv ct : Value) (us : List Value), us.length = ps__law_take.length → bindArgs (fnOf d__law_take.name d__law_take.qual d__law_take.params d__law_take.body d__law_take.scope .none kV doc pm an cdv ct) ⟨us, []⟩ = pure (ps__law_take.zip us) := fun _ _ _ _ _ _ us hl => match us, hl with | [_, _], _ => rfl
structure BoxOk (a b c : Int) : Prop where
  ha : 0 ≤ a
  hb : 0 ≤ b
  hb2 : b < 1000000
  hc : 0 ≤ c
  hc2 : c < 1000000000
def boxD (a b c : Int) : Slot := .bor (.lst [.int a, .int b, .int c])
def c__law_take : Ct := fun args Q _ => ∃ a b c m : Int, args = [boxD a b c, .val (.int m)] ∧ BoxOk a b c ∧ 0 < m ∧ Bd 8000 m ∧ ∀ r a' b' : Int, 0 ≤ r → r < m → 0 ≤ a' → 0 ≤ b' → b' ≤ b + 1 → Q (.int r) [boxD a' b' c, .val (.int m)]
def r__law_take : QS := (qSeq (qIfS (qTest (qBin oGe (qIxM 0 (qC (.int 0))) (qBin oPow (qC (.int 10)) (qC (.int 18))))) (qSeq (qSet 2 (qBin oMod (qB oInt (qCons (qIxM 0 (qC (.int 0))) qNil)) (qVar 1)))
    (qSeq (qSetIx 0 (qBin oDiv (qIxM 0 (qC (.int 0))) (qVar 1)) (qC (.int 0)))
    (qRet (qVar 2)))) qNx)
    (qSeq (qSetIx 0 (qBin oAdd (qIxM 0 (qC (.int 1))) (qC (.int 1))) (qC (.int 1)))
    (qSeq (qSet 3 (qBin oMod (qBin oPow (qB oInt (qCons (qBin oAdd (qBin oAdd (qBin oMul (qBin oAdd (qIxM 0 (qC (.int 0))) (qC (.int 7))) (qC (.int 69069))) (qBin oMul (qIxM 0 (qC (.int 1))) (qC (.int 40692)))) (qIxM 0 (qC (.int 2)))) qNil)) (qC (.int 3))) (qC (.int 2147483647))))
    (qSeq (qSet 3 (qBin oMod (qBin oPow (qB oInt (qCons (qBin oAdd (qVar 3) (qBin oMul (qIxM 0 (qC (.int 1))) (qC (.int 17389)))) qNil)) (qC (.int 3))) (qC (.int 2147483399))))
    (qRet (qBin oMod (qB oInt (qCons (qBin oDiv (qVar 3) (qC (.int 64))) qNil)) (qVar 1)))))))
theorem len__law_take : ∀ args Q E, c__law_take args Q E → args.length = ps__law_take.length := by
  rintro args Q E ⟨_, _, _, _, rfl, _⟩
  rfl
theorem pure__law_take : ∀ args Q E, c__law_take args Q E → r__law_take (startE N__law_take.length args) (endsC args Q) (exnC args E) := by
  rintro args Q E ⟨a, b, c, m, rfl, hb, hm, hm2, hq⟩
  refine ⟨_, rfl, ⟨by decide, by decide⟩, ?_⟩
  show (match decide ((10 : Int) ^ (18 : Int).toNat ≤ a) with | true => _ | false => _)
  have e18 : (10 : Int) ^ (18 : Int).toNat = 1000000000000000000 := by decide
  by_cases h : (10 : Int) ^ (18 : Int).toNat ≤ a
  · rw [decide_eq_true h]
    refine ⟨_, rfl, by omega, _, rfl, div_ok (by omega) (hm2.mono (by decide)), by decide, ?_⟩
    exact hq (a.fmod m) (a.fdiv m) b (Int.fmod_nonneg_of_pos _ hm) (Int.fmod_lt_of_pos _ hm) (Int.fdiv_nonneg hb.ha (by omega)) hb.hb (by omega)
  · rw [decide_eq_false h]
    have h' : a < 1000000000000000000 := by omega
    have ha := hb.ha
    have hb1 := hb.hb
    have hb2 := hb.hb2
    have hc1 := hb.hc
    have hc2 := hb.hc2
    have bd : ∀ z : Int, 0 ≤ z → z < 2 ^ 200 → Bd 200 z := fun z h1 h2 => by
      unfold Bd
      omega
    have p1 : Bd 200 ((a + 7) * 69069 + (b + 1) * 40692 + c) := bd _ (by omega) (by omega)
    have e1 := Int.fmod_nonneg_of_pos (((a + 7) * 69069 + (b + 1) * 40692 + c) ^ 3) (show (0 : Int) < 2147483647 by decide)
    have e2 := Int.fmod_lt_of_pos (((a + 7) * 69069 + (b + 1) * 40692 + c) ^ 3) (show (0 : Int) < 2147483647 by decide)
    refine ⟨_, rfl, by decide, _, rfl, mul_ok (n := 200) (m := 200) (bd _ (by omega) (by omega)) (bd _ (by decide) (by decide)) (by decide), _, rfl, mul_ok (n := 200) (m := 200) (bd _ (by omega) (by omega)) (bd _ (by decide) (by decide)) (by decide), _, rfl, pow3_ok p1 (by decide), by decide, _, rfl, mul_ok (n := 200) (m := 200) (bd _ (by omega) (by omega)) (bd _ (by decide) (by decide)) (by decide), ?_⟩
    have p2 : Bd 200 ((((a + 7) * 69069 + (b + 1) * 40692 + c) ^ 3).fmod 2147483647 + (b + 1) * 17389) := bd _ (by omega) (by omega)
    refine ⟨pow3_ok p2 (by decide), by decide, div_ok (by decide) (bd_of (by decide)), by omega, ?_⟩
    exact hq _ a (b + 1) (Int.fmod_nonneg_of_pos _ hm) (Int.fmod_lt_of_pos _ hm) ha (by omega) (by omega)
theorem ok__law_take {P : Program} {w : World} {K : Frag} {mg : Str → Option Value} {base : Heap} (W : Wd K mg) (Fn : ∃ fd, FunD K d__law_take.name d__law_take.qual d__law_take.params d__law_take.body d__law_take.scope (d__law_take.dvs K) (d__law_take.kws K) (fAd K d__law_take.at_) fd) : FnB P w K mg base d__law_take 2 ps__law_take c__law_take := by
  refine FnB.of (N := N__law_take) (r := r__law_take) Fn sc__law_take len__law_take pure__law_take ?_
  intro f cdv A outer s H E0 hr G0 H0 B pin xa xd xc E tk hp
  have sc := sc__law_take
  exact (lss_cons (ls_if (lt_cmp ol_ge (le_ixM 0 rfl le_int) (le_bin ol_pow le_int le_int)) (lss_cons (ls_set 2 sc.nd (le_bin ol_mod (le_bty bl_int (la_cons (le_ixM 0 rfl le_int) la_nil) W.f_int) (le_var 1)))
    (lss_cons (ls_setIx 0 (le_bin ol_div (le_ixM 0 rfl le_int) (le_var 1)) le_int)
    (lss_one (ls_ret (le_var 2))))) lss_nil)
    (lss_cons (ls_setIx 0 (le_bin ol_add (le_ixM 0 rfl le_int) le_int) le_int)
    (lss_cons (ls_set 3 sc.nd (le_bin ol_mod (le_bin ol_pow (le_bty bl_int (la_cons (le_bin ol_add (le_bin ol_add (le_bin ol_mul (le_bin ol_add (le_ixM 0 rfl le_int) le_int) le_int) (le_bin ol_mul (le_ixM 0 rfl le_int) le_int)) (le_ixM 0 rfl le_int)) la_nil) W.f_int) le_int) le_int))
    (lss_cons (ls_set 3 sc.nd (le_bin ol_mod (le_bin ol_pow (le_bty bl_int (la_cons (le_bin ol_add (le_var 3) (le_bin ol_mul (le_ixM 0 rfl le_int) le_int)) la_nil) W.f_int) le_int) le_int))
    (lss_one (ls_ret (le_bin ol_mod (le_bty bl_int (la_cons (le_bin ol_div (le_var 3) le_int) la_nil) W.f_int) (le_var 1))))))))
abbrev s__law_frac : Stmt := (top 18)
def d__law_frac : DefD := ⟨("_law_frac", none), "_law_frac", "_law_frac", defArgs s__law_frac, defBody s__law_frac, defScope s__law_frac, [], []⟩
abbrev N__law_frac : List Str := ["_law_up", "_law_down", "_law_one", "_law_other"]
abbrev ps__law_frac : List Str := ["_law_up", "_law_down"]
theorem sc__law_frac : FnScope N__law_frac ps__law_frac d__law_frac.scope := ⟨rfl, rfl, rfl, by decide +kernel, rfl, by decide +kernel, by decide +kernel⟩
theorem bd__law_frac : ∀ (kV doc pm : Value) (an : Option Addr) (cdv ct : Value) (us : List Value), us.length = ps__law_frac.length → bindArgs (fnOf d__law_frac.name d__law_frac.qual d__law_frac.params d__law_frac.body d__law_frac.scope .none kV doc pm an cdv ct) ⟨us, []⟩ = pure (ps__law_frac.zip us) := fun _ _ _ _ _ _ us hl => match us, hl with | [_, _], _ => rfl
def c__law_frac : Ct := fun args Q _ => ∃ a b : Int, args = [.val (.int a), .val (.int b)] ∧ b ≠ 0 ∧ Bd 8999 b ∧ Q (tupR (Rat.divInt a b)) args
def r__law_frac : QS := (qSeq (qPar 2 3 (qCons (qB oAbs (qCons (qVar 0) qNil)) (qCons (qB oAbs (qCons (qVar 1) qNil)) qNil)))
    (qSeq (qWhile (qTest (qBin oGt (qVar 3) (qC (.int 0)))) (qPar 2 3 (qCons (qVar 3) (qCons (qBin oMod (qVar 2) (qVar 3)) qNil))))
    (qSeq (qIfS (qTest (qBin oLt (qVar 1) (qC (.int 0)))) (qSet 2 (qBin oSub (qC (.int 0)) (qVar 2))) qNx)
    (qRet (qTup (qCons (qBin oDiv (qVar 0) (qVar 2)) (qCons (qBin oDiv (qVar 1) (qVar 2)) qNil)))))))
theorem len__law_frac : ∀ args Q E, c__law_frac args Q E → args.length = ps__law_frac.length := by
  rintro args Q E ⟨_, _, rfl, _⟩
  rfl
theorem pure__law_frac : ∀ args Q E, c__law_frac args Q E → r__law_frac (startE N__law_frac.length args) (endsC args Q) (exnC args E) := by
  rintro args Q E ⟨a, b, rfl, h, hb, hq⟩
  have hq' : Q (.tup [.int (a.fdiv (dvs a b)), .int (b.fdiv (dvs a b))]) [.val (.int a), .val (.int b)] := by
    rw [dvs_num h, dvs_den h]
    exact hq
  refine ⟨fun m Γ => ∃ x y : Int, Γ = [.val (.int a), .val (.int b), .val (.int x), .val (.int y)] ∧ 0 ≤ x ∧ 0 ≤ y ∧ m = y.natAbs ∧ Int.gcd x y = Int.gcd a b, ⟨_, _, _, rfl, ?_, ?_, rfl, ?_⟩, ?_⟩
  · split <;> omega
  · split <;> omega
  · have e1 : (if a < 0 then -a else a) = (a.natAbs : Int) := by split <;> omega
    have e2 : (if b < 0 then -b else b) = (b.natAbs : Int) := by split <;> omega
    rw [e1, e2]
    rfl
  rintro m Γ ⟨x, y, rfl, hx, hy, rfl, hg⟩
  show (match decide (0 < y) with | true => _ | false => _)
  by_cases h0 : 0 < y
  · rw [decide_eq_true h0]
    exact ⟨by omega, (x.fmod y).natAbs, fmod_lt x (by omega), y, x.fmod y, rfl, hy, Int.fmod_nonneg_of_pos x h0, rfl, by rw [gcd_fmod]; exact hg⟩
  · rw [decide_eq_false h0]
    have hy0 : y = 0 := by omega
    subst hy0
    have ex : x = (Int.gcd a b : Int) := by
      rw [← hg, Int.gcd_zero_right]
      omega
    show (match decide (b < 0) with | true => _ | false => _)
    by_cases h1 : b < 0
    · rw [decide_eq_true h1]
      have ed : 0 - x = dvs a b := by
        unfold dvs
        rw [if_neg (by omega), ex]
        omega
      rw [← ed] at hq'
      have hn : 0 - x ≠ 0 := by rw [ed]; exact dvs_ne h
      have hbd : Bd 8999 (0 - x) := by rw [ed]; exact dvs_bd hb h
      exact ⟨div_ok hn hbd, div_ok hn hbd, Nat.le_of_ble_eq_true rfl, hq'⟩
    · rw [decide_eq_false h1]
      have ed : x = dvs a b := by
        unfold dvs
        rw [if_pos (by omega), ex]
      rw [← ed] at hq'
      have hn : x ≠ 0 := by rw [ed]; exact dvs_ne h
      have hbd : Bd 8999 x := by rw [ed]; exact dvs_bd hb h
      exact ⟨div_ok hn hbd, div_ok hn hbd, Nat.le_of_ble_eq_true rfl, hq'⟩
theorem ok__law_frac {P : Program} {w : World} {K : Frag} {mg : Str → Option Value} {base : Heap} (W : Wd K mg) (Fn : ∃ fd, FunD K d__law_frac.name d__law_frac.qual d__law_frac.params d__law_frac.body d__law_frac.scope (d__law_frac.dvs K) (d__law_frac.kws K) (fAd K d__law_frac.at_) fd) : FnB P w K mg base d__law_frac 2 ps__law_frac c__law_frac := by
  refine FnB.of (N := N__law_frac) (r := r__law_frac) Fn sc__law_frac len__law_frac pure__law_frac ?_
  intro f cdv A outer s H E0 hr G0 H0 B pin xa xd xc E tk hp
  have sc := sc__law_frac
  exact (lss_cons (ls_par 2 3 rfl sc.nd (la_cons (le_b bl_abs (la_cons (le_var 0) la_nil) W.f_abs) (la_cons (le_b bl_abs (la_cons (le_var 1) la_nil) W.f_abs) la_nil)))
    (lss_cons (ls_while hp (lt_cmp ol_gt (le_var 3) le_int) (lss_one (ls_par 2 3 rfl sc.nd (la_cons (le_var 3) (la_cons (le_bin ol_mod (le_var 2) (le_var 3)) la_nil)))))
    (lss_cons (ls_if (lt_cmp ol_lt (le_var 1) le_int) (lss_one (ls_set 2 sc.nd (le_bin ol_sub le_int (le_var 2)))) lss_nil)
    (lss_one (ls_ret (le_tup (la_cons (le_bin ol_div (le_var 0) (le_var 2)) (la_cons (le_bin ol_div (le_var 1) (le_var 2)) la_nil))))))))
abbrev s__law_plus : Stmt := (top 19)
def d__law_plus : DefD := ⟨("_law_plus", none), "_law_plus", "_law_plus", defArgs s__law_plus, defBody s__law_plus, defScope s__law_plus, [], []⟩
abbrev N__law_plus : List Str := ["_law_x", "_law_y"]
abbrev ps__law_plus : List Str := ["_law_x", "_law_y"]
theorem sc__law_plus : FnScope N__law_plus ps__law_plus d__law_plus.scope := ⟨rfl, rfl, rfl, by decide +kernel, rfl, by decide +kernel, by decide +kernel⟩
theorem bd__law_plus : ∀ (kV doc pm : Value) (an : Option Addr) (cdv ct : Value) (us : List Value), us.length = ps__law_plus.length → bindArgs (fnOf d__law_plus.name d__law_plus.qual d__law_plus.params d__law_plus.body d__law_plus.scope .none kV doc pm an cdv ct) ⟨us, []⟩ = pure (ps__law_plus.zip us) := fun _ _ _ _ _ _ us hl => match us, hl with | [_, _], _ => rfl
def c__law_plus : Ct := fun args Q _ => ∃ p q : Rat, args = [.val (tupR p), .val (tupR q)] ∧ Sz 4000 p ∧ Sz 4000 q ∧ Q (tupR (p + q)) args
def r__law_plus : QS := (qRet (qCall c__law_frac (qhVal (qBin oAdd (qBin oMul (qBin oIx (qVar 0) (qC (.int 0))) (qBin oIx (qVar 1) (qC (.int 1)))) (qBin oMul (qBin oIx (qVar 1) (qC (.int 0))) (qBin oIx (qVar 0) (qC (.int 1))))) (qhVal (qBin oMul (qBin oIx (qVar 0) (qC (.int 1))) (qBin oIx (qVar 1) (qC (.int 1)))) qhNil))))
theorem len__law_plus : ∀ args Q E, c__law_plus args Q E → args.length = ps__law_plus.length := by
  rintro args Q E ⟨_, _, rfl, _⟩
  rfl
theorem pure__law_plus : ∀ args Q E, c__law_plus args Q E → r__law_plus (startE N__law_plus.length args) (endsC args Q) (exnC args E) := by
  rintro args Q E ⟨p, q, rfl, hp, hx, hq⟩
  refine ⟨_, rfl, _, rfl, mul_ok hp.num hx.den (by decide), _, rfl, _, rfl, mul_ok hx.num hp.den (by decide), _, rfl, _, rfl, mul_ok hp.den hx.den (by decide), _, _, rfl, ?_, (hp.den.mul hx.den).mono (by decide), ?_⟩
  · intro h0
    rcases Int.mul_eq_zero.mp h0 with z | z
    · exact den_ne p z
    · exact den_ne q z
  · show Q (tupR (Rat.divInt (p.num * (q.den : Int) + q.num * (p.den : Int)) ((p.den : Int) * (q.den : Int)))) _
    rw [add_divInt]
    exact hq
theorem ok__law_plus {P : Program} {w : World} {K : Frag} {mg : Str → Option Value} {base : Heap} (W : Wd K mg) (Fn : ∃ fd, FunD K d__law_plus.name d__law_plus.qual d__law_plus.params d__law_plus.body d__law_plus.scope (d__law_plus.dvs K) (d__law_plus.kws K) (fAd K d__law_plus.at_) fd) (h__law_frac : FnB P w K mg base d__law_frac 2 ps__law_frac c__law_frac) : FnB P w K mg base d__law_plus 5 ps__law_plus c__law_plus := by
  refine FnB.of (N := N__law_plus) (r := r__law_plus) Fn sc__law_plus len__law_plus pure__law_plus ?_
  intro f cdv A outer s H E0 hr G0 H0 B pin xa xd xc E tk hp
  have sc := sc__law_plus
  exact (lss_one (ls_ret (le_callC (h__law_frac.all rfl rfl rfl rfl rfl rfl (hr.mono (by decide : 2 ≤ 4)) rfl rfl bd__law_frac) W.g__law_frac h__law_frac.kp tk (lc_p (lh_val (le_bin ol_add (le_bin ol_mul (le_ix (il_ix rfl) (le_var 0) le_int) (le_ix (il_ix rfl) (le_var 1) le_int)) (le_bin ol_mul (le_ix (il_ix rfl) (le_var 1) le_int) (le_ix (il_ix rfl) (le_var 0) le_int))) (lh_val (le_bin ol_mul (le_ix (il_ix rfl) (le_var 0) le_int) (le_ix (il_ix rfl) (le_var 1) le_int)) lh_nil))))))
abbrev s__law_times : Stmt := (top 20)
def d__law_times : DefD := ⟨("_law_times", none), "_law_times", "_law_times", defArgs s__law_times, defBody s__law_times, defScope s__law_times, [], []⟩
abbrev N__law_times : List Str := ["_law_x", "_law_y"]
abbrev ps__law_times : List Str := ["_law_x", "_law_y"]
theorem sc__law_times : FnScope N__law_times ps__law_times d__law_times.scope := ⟨rfl, rfl, rfl, by decide +kernel, rfl, by decide +kernel, by decide +kernel⟩
theorem bd__law_times : ∀ (kV doc pm : Value) (an : Option Addr) (cdv ct : Value) (us : List Value), us.length = ps__law_times.length → bindArgs (fnOf d__law_times.name d__law_times.qual d__law_times.params d__law_times.body d__law_times.scope .none kV doc pm an cdv ct) ⟨us, []⟩ = pure (ps__law_times.zip us) := fun _ _ _ _ _ _ us hl => match us, hl with | [_, _], _ => rfl
def c__law_times : Ct := fun args Q _ => ∃ p q : Rat, args = [.val (tupR p), .val (tupR q)] ∧ Sz 4000 p ∧ Sz 4000 q ∧ Q (tupR (p * q)) args
def r__law_times : QS := (qRet (qCall c__law_frac (qhVal (qBin oMul (qBin oIx (qVar 0) (qC (.int 0))) (qBin oIx (qVar 1) (qC (.int 0)))) (qhVal (qBin oMul (qBin oIx (qVar 0) (qC (.int 1))) (qBin oIx (qVar 1) (qC (.int 1)))) qhNil))))
theorem len__law_times : ∀ args Q E, c__law_times args Q E → args.length = ps__law_times.length := by
  rintro args Q E ⟨_, _, rfl, _⟩
  rfl
theorem pure__law_times : ∀ args Q E, c__law_times args Q E → r__law_times (startE N__law_times.length args) (endsC args Q) (exnC args E) := by
  rintro args Q E ⟨p, q, rfl, hp, hx, hq⟩
  refine ⟨_, rfl, _, rfl, mul_ok hp.num hx.num (by decide), _, rfl, _, rfl, mul_ok hp.den hx.den (by decide), _, _, rfl, ?_, (hp.den.mul hx.den).mono (by decide), ?_⟩
  · intro h0
    rcases Int.mul_eq_zero.mp h0 with z | z
    · exact den_ne p z
    · exact den_ne q z
  · show Q (tupR (Rat.divInt (p.num * q.num) ((p.den : Int) * (q.den : Int)))) _
    rw [mul_divInt]
    exact hq
theorem ok__law_times {P : Program} {w : World} {K : Frag} {mg : Str → Option Value} {base : Heap} (W : Wd K mg) (Fn : ∃ fd, FunD K d__law_times.name d__law_times.qual d__law_times.params d__law_times.body d__law_times.scope (d__law_times.dvs K) (d__law_times.kws K) (fAd K d__law_times.at_) fd) (h__law_frac : FnB P w K mg base d__law_frac 2 ps__law_frac c__law_frac) : FnB P w K mg base d__law_times 5 ps__law_times c__law_times := by
  refine FnB.of (N := N__law_times) (r := r__law_times) Fn sc__law_times len__law_times pure__law_times ?_
  intro f cdv A outer s H E0 hr G0 H0 B pin xa xd xc E tk hp
  have sc := sc__law_times
  exact (lss_one (ls_ret (le_callC (h__law_frac.all rfl rfl rfl rfl rfl rfl (hr.mono (by decide : 2 ≤ 4)) rfl rfl bd__law_frac) W.g__law_frac h__law_frac.kp tk (lc_p (lh_val (le_bin ol_mul (le_ix (il_ix rfl) (le_var 0) le_int) (le_ix (il_ix rfl) (le_var 1) le_int)) (lh_val (le_bin ol_mul (le_ix (il_ix rfl) (le_var 0) le_int) (le_ix (il_ix rfl) (le_var 1) le_int)) lh_nil))))))
abbrev s__law_minus : Stmt := (top 21)
def d__law_minus : DefD := ⟨("_law_minus", none), "_law_minus", "_law_minus", defArgs s__law_minus, defBody s__law_minus, defScope s__law_minus, [], []⟩
abbrev N__law_minus : List Str := ["_law_x", "_law_y"]
abbrev ps__law_minus : List Str := ["_law_x", "_law_y"]
theorem sc__law_minus : FnScope N__law_minus ps__law_minus d__law_minus.scope := ⟨rfl, rfl, rfl, by decide +kernel, rfl, by decide +kernel, by decide +kernel⟩
theorem bd__law_minus : ∀ (kV doc pm : Value) (an : Option Addr) (cdv ct : Value) (us : List Value), us.length = ps__law_minus.length → bindArgs (fnOf d__law_minus.name d__law_minus.qual d__law_minus.params d__law_minus.body d__law_minus.scope .none kV doc pm an cdv ct) ⟨us, []⟩ = pure (ps__law_minus.zip us) := fun _ _ _ _ _ _ us hl => match us, hl with | [_, _], _ => rfl
def c__law_minus : Ct := fun args Q _ => ∃ p q : Rat, args = [.val (tupR p), .val (tupR q)] ∧ Sz 4000 p ∧ Sz 4000 q ∧ Q (tupR (p - q)) args
def r__law_minus : QS := (qRet (qCall c__law_frac (qhVal (qBin oSub (qBin oMul (qBin oIx (qVar 0) (qC (.int 0))) (qBin oIx (qVar 1) (qC (.int 1)))) (qBin oMul (qBin oIx (qVar 1) (qC (.int 0))) (qBin oIx (qVar 0) (qC (.int 1))))) (qhVal (qBin oMul (qBin oIx (qVar 0) (qC (.int 1))) (qBin oIx (qVar 1) (qC (.int 1)))) qhNil))))
theorem len__law_minus : ∀ args Q E, c__law_minus args Q E → args.length = ps__law_minus.length := by
  rintro args Q E ⟨_, _, rfl, _⟩
  rfl
theorem pure__law_minus : ∀ args Q E, c__law_minus args Q E → r__law_minus (startE N__law_minus.length args) (endsC args Q) (exnC args E) := by
  rintro args Q E ⟨p, q, rfl, hp, hx, hq⟩
  refine ⟨_, rfl, _, rfl, mul_ok hp.num hx.den (by decide), _, rfl, _, rfl, mul_ok hx.num hp.den (by decide), _, rfl, _, rfl, mul_ok hp.den hx.den (by decide), _, _, rfl, ?_, (hp.den.mul hx.den).mono (by decide), ?_⟩
  · intro h0
    rcases Int.mul_eq_zero.mp h0 with z | z
    · exact den_ne p z
    · exact den_ne q z
  · show Q (tupR (Rat.divInt (p.num * (q.den : Int) - q.num * (p.den : Int)) ((p.den : Int) * (q.den : Int)))) _
    rw [sub_divInt]
    exact hq
theorem ok__law_minus {P : Program} {w : World} {K : Frag} {mg : Str → Option Value} {base : Heap} (W : Wd K mg) (Fn : ∃ fd, FunD K d__law_minus.name d__law_minus.qual d__law_minus.params d__law_minus.body d__law_minus.scope (d__law_minus.dvs K) (d__law_minus.kws K) (fAd K d__law_minus.at_) fd) (h__law_frac : FnB P w K mg base d__law_frac 2 ps__law_frac c__law_frac) : FnB P w K mg base d__law_minus 5 ps__law_minus c__law_minus := by
  refine FnB.of (N := N__law_minus) (r := r__law_minus) Fn sc__law_minus len__law_minus pure__law_minus ?_
  intro f cdv A outer s H E0 hr G0 H0 B pin xa xd xc E tk hp
  have sc := sc__law_minus
  exact (lss_one (ls_ret (le_callC (h__law_frac.all rfl rfl rfl rfl rfl rfl (hr.mono (by decide : 2 ≤ 4)) rfl rfl bd__law_frac) W.g__law_frac h__law_frac.kp tk (lc_p (lh_val (le_bin ol_sub (le_bin ol_mul (le_ix (il_ix rfl) (le_var 0) le_int) (le_ix (il_ix rfl) (le_var 1) le_int)) (le_bin ol_mul (le_ix (il_ix rfl) (le_var 1) le_int) (le_ix (il_ix rfl) (le_var 0) le_int))) (lh_val (le_bin ol_mul (le_ix (il_ix rfl) (le_var 0) le_int) (le_ix (il_ix rfl) (le_var 1) le_int)) lh_nil))))))
abbrev s__law_less : Stmt := (top 22)
def d__law_less : DefD := ⟨("_law_less", none), "_law_less", "_law_less", defArgs s__law_less, defBody s__law_less, defScope s__law_less, [], []⟩
abbrev N__law_less : List Str := ["_law_x", "_law_y"]
abbrev ps__law_less : List Str := ["_law_x", "_law_y"]
theorem sc__law_less : FnScope N__law_less ps__law_less d__law_less.scope := ⟨rfl, rfl, rfl, by decide +kernel, rfl, by decide +kernel, by decide +kernel⟩
theorem bd__law_less : ∀ (kV doc pm : Value) (an : Option Addr) (cdv ct : Value) (us : List Value), us.length = ps__law_less.length → bindArgs (fnOf d__law_less.name d__law_less.qual d__law_less.params d__law_less.body d__law_less.scope .none kV doc pm an cdv ct) ⟨us, []⟩ = pure (ps__law_less.zip us) := fun _ _ _ _ _ _ us hl => match us, hl with | [_, _], _ => rfl
def c__law_less : Ct := fun args Q _ => ∃ p q : Rat, args = [.val (tupR p), .val (tupR q)] ∧ Sz 4000 p ∧ Sz 4000 q ∧ Q (.bl (decide (p < q))) args
def r__law_less : QS := (qRet (qBin oLt (qBin oMul (qBin oIx (qVar 0) (qC (.int 0))) (qBin oIx (qVar 1) (qC (.int 1)))) (qBin oMul (qBin oIx (qVar 1) (qC (.int 0))) (qBin oIx (qVar 0) (qC (.int 1))))))
theorem len__law_less : ∀ args Q E, c__law_less args Q E → args.length = ps__law_less.length := by
  rintro args Q E ⟨_, _, rfl, _⟩
  rfl
theorem pure__law_less : ∀ args Q E, c__law_less args Q E → r__law_less (startE N__law_less.length args) (endsC args Q) (exnC args E) := by
  rintro args Q E ⟨p, q, rfl, hp, hx, hq⟩
  refine ⟨_, rfl, _, rfl, mul_ok hp.num hx.den (by decide), _, rfl, _, rfl, mul_ok hx.num hp.den (by decide), ?_⟩
  show Q (.bl (decide (p.num * (q.den : Int) < q.num * (p.den : Int)))) _
  have e : decide (p.num * (q.den : Int) < q.num * (p.den : Int)) = decide (p < q) := decide_eq_decide.mpr (Rat.lt_iff p q).symm
  rw [e]
  exact hq
theorem ok__law_less {P : Program} {w : World} {K : Frag} {mg : Str → Option Value} {base : Heap} (W : Wd K mg) (Fn : ∃ fd, FunD K d__law_less.name d__law_less.qual d__law_less.params d__law_less.body d__law_less.scope (d__law_less.dvs K) (d__law_less.kws K) (fAd K d__law_less.at_) fd) : FnB P w K mg base d__law_less 2 ps__law_less c__law_less := by
  refine FnB.of (N := N__law_less) (r := r__law_less) Fn sc__law_less len__law_less pure__law_less ?_
  intro f cdv A outer s H E0 hr G0 H0 B pin xa xd xc E tk hp
  have sc := sc__law_less
  exact (lss_one (ls_ret (le_cmp ol_lt (le_bin ol_mul (le_ix (il_ix rfl) (le_var 0) le_int) (le_ix (il_ix rfl) (le_var 1) le_int)) (le_bin ol_mul (le_ix (il_ix rfl) (le_var 1) le_int) (le_ix (il_ix rfl) (le_var 0) le_int)))))
end K02

set_option Elab.async false
set_option linter.all false
set_option maxRecDepth 100000
set_option maxHeartbeats 4000000
namespace K02
open PySem L2 PySem.Spec PyProof.Rows He PySem.W Q
abbrev s__law_pick : Stmt := (top 23)
def d__law_pick : DefD := ⟨("_law_pick", none), "_law_pick", "_law_pick", defArgs s__law_pick, defBody s__law_pick, defScope s__law_pick, [], []⟩
abbrev N__law_pick : List Str := ["_law_box_here", "_law_most", "_law_up", "_law_down"]
abbrev ps__law_pick : List Str := ["_law_box_here"]
theorem sc__law_pick : FnScope N__law_pick ps__law_pick d__law_pick.scope := ⟨rfl, rfl, rfl, by decide +kernel, rfl, by decide +kernel, by decide +kernel⟩
theorem bd__law_pick : ∀ (kV doc pm : Value) (an : Option Addr) (cdv ct : Value) (us : List Value), us.length = ps__law_pick.length → bindArgs (fnOf d__law_pick.name d__law_pick.qual d__law_pick.params d__law_pick.body d__law_pick.scope .none kV doc pm an cdv ct) ⟨us, []⟩ = pure (ps__law_pick.zip us) := fun _ _ _ _ _ _ us hl => match us, hl with | [_], _ => rfl
def c__law_pick : Ct := fun args Q _ => ∃ a b c : Int, args = [boxD a b c] ∧ BoxOk a b c ∧ b < 900000 ∧ ∀ u v a' b' : Int, v ≠ 0 → Bd 110 u → Bd 110 v → 0 ≤ a' → 0 ≤ b' → b' ≤ b + 5 → Q (.lst [.int u, .int v]) [boxD a' b' c]
theorem pick5 {r : Int} (h0 : 0 ≤ r) (h1 : r < 5) : ∃ z : Int, atD [.int 3, .int 9, .int 60, .int (3 * 10 ^ (8 : Int).toNat), .int (10 ^ (30 : Int).toNat)] r = some (.int z) ∧ 3 ≤ z ∧ z ≤ 1000000000000000000000000000000 := by
  have : r = 0 ∨ r = 1 ∨ r = 2 ∨ r = 3 ∨ r = 4 := by omega
  rcases this with rfl | rfl | rfl | rfl | rfl
  · exact ⟨3, rfl, by decide, by decide⟩
  · exact ⟨9, rfl, by decide, by decide⟩
  · exact ⟨60, rfl, by decide, by decide⟩
  · exact ⟨_, rfl, by decide, by decide⟩
  · exact ⟨_, rfl, by decide, by decide⟩
theorem pick2 {r : Int} (h0 : 0 ≤ r) (h1 : r < 2) : ∃ z : Int, atD [.int 1, .int (-1)] r = some (.int z) ∧ (z = 1 ∨ z = -1) := by
  have : r = 0 ∨ r = 1 := by omega
  rcases this with rfl | rfl
  · exact ⟨1, rfl, .inl rfl⟩
  · exact ⟨-1, rfl, .inr rfl⟩
theorem pick3 {r w : Int} (h0 : 0 ≤ r) (h1 : r < 3) : ∃ z : Int, atD [.int w, .int 1, .int 1] r = some (.int z) ∧ (z = w ∨ z = 1) := by
  have : r = 0 ∨ r = 1 ∨ r = 2 := by omega
  rcases this with rfl | rfl | rfl
  · exact ⟨w, rfl, .inl rfl⟩
  · exact ⟨1, rfl, .inr rfl⟩
  · exact ⟨1, rfl, .inr rfl⟩
theorem bd110 {z : Int} (h1 : -10000000000000000000000000000000 ≤ z) (h2 : z ≤ 10000000000000000000000000000000) : Bd 110 z := by
  unfold Bd
  have : (2 : Nat) ^ 110 = 1298074214633706907132624082305024 := by decide
  omega
def r__law_pick : QS := (qSeq (qSet 1 (qBin oIx (qLst (qCons (qC (.int 3)) (qCons (qC (.int 9)) (qCons (qC (.int 60)) (qCons (qBin oMul (qC (.int 3)) (qBin oPow (qC (.int 10)) (qC (.int 8)))) (qCons (qBin oPow (qC (.int 10)) (qC (.int 30))) qNil)))))) (qCall c__law_take (qhSlot 0 (qhVal (qC (.int 5)) qhNil)))))
    (qSeq (qSet 2 (qBin oSub (qCall c__law_take (qhSlot 0 (qhVal (qBin oAdd (qBin oMul (qC (.int 2)) (qVar 1)) (qC (.int 1))) qhNil))) (qVar 1)))
    (qSeq (qSet 3 (qBin oMul (qBin oAdd (qC (.int 1)) (qCall c__law_take (qhSlot 0 (qhVal (qVar 1) qhNil)))) (qBin oIx (qLst (qCons (qC (.int 1)) (qCons (qUn oNeg (qC (.int 1))) qNil))) (qCall c__law_take (qhSlot 0 (qhVal (qC (.int 2)) qhNil))))))
    (qRet (qLst (qCons (qVar 2) (qCons (qBin oIx (qLst (qCons (qVar 3) (qCons (qC (.int 1)) (qCons (qC (.int 1)) qNil)))) (qCall c__law_take (qhSlot 0 (qhVal (qC (.int 3)) qhNil)))) qNil)))))))
theorem len__law_pick : ∀ args Q E, c__law_pick args Q E → args.length = ps__law_pick.length := by
  rintro args Q E ⟨_, _, _, rfl, _⟩
  rfl
theorem pure__law_pick : ∀ args Q E, c__law_pick args Q E → r__law_pick (startE N__law_pick.length args) (endsC args Q) (exnC args E) := by
  rintro args Q E ⟨a, b, c, rfl, hb, hb3, hq⟩
  refine ⟨⟨by decide, by decide⟩, mul_ok (n := 100) (m := 100) (bd_of (by decide)) (bd_of (by decide)) (by decide), ⟨by decide, by decide⟩, Nat.le_of_ble_eq_true rfl, a, b, c, 5, rfl, hb, by decide, (bd_of (n := 10) (by decide)).mono (by decide), fun r a1 b1 h1 h2 h3 h4 h5 => ?_⟩
  have hb0 := hb.hb
  have hc0 := hb.hc
  have hc1 := hb.hc2
  obtain ⟨z, hz, z1, z2⟩ := pick5 h1 h2
  refine ⟨.int z, hz, mul_ok (n := 110) (m := 110) (bd110 (by decide) (by decide)) (bd110 (by omega) (by omega)) (by decide), a1, b1, c, 2 * z + 1, rfl, ⟨h3, h4, by omega, hc0, hc1⟩, by omega, (bd110 (by omega) (by omega)).mono (by decide), fun r2 a2 b2 g1 g2 g3 g4 g5 => ?_⟩
  refine ⟨a2, b2, c, z, rfl, ⟨g3, g4, by omega, hc0, hc1⟩, by omega, (bd110 (by omega) (by omega)).mono (by decide), fun r3 a3 b3 i1 i2 i3 i4 i5 => ?_⟩
  refine ⟨Nat.le_of_ble_eq_true rfl, a3, b3, c, 2, rfl, ⟨i3, i4, by omega, hc0, hc1⟩, by decide, (bd_of (n := 10) (by decide)).mono (by decide), fun r4 a4 b4 j1 j2 j3 j4 j5 => ?_⟩
  obtain ⟨y, hy, y1⟩ := pick2 j1 j2
  refine ⟨.int y, hy, mul_ok (n := 110) (m := 110) (bd110 (by omega) (by omega)) (bd110 (by omega) (by omega)) (by decide), Nat.le_of_ble_eq_true rfl, a4, b4, c, 3, rfl, ⟨j3, j4, by omega, hc0, hc1⟩, by decide, (bd_of (n := 10) (by decide)).mono (by decide), fun r5 a5 b5 k1 k2 k3 k4 k5 => ?_⟩
  obtain ⟨x, hx, x1⟩ := pick3 (w := (1 + r3) * y) k1 k2
  refine ⟨.int x, hx, Nat.le_of_ble_eq_true rfl, ?_⟩
  have hx0 : x ≠ 0 ∧ -10000000000000000000000000000000 ≤ x ∧ x ≤ 10000000000000000000000000000000 := by
    rcases x1 with rfl | rfl
    · rcases y1 with rfl | rfl
      · omega
      · omega
    · omega
  exact hq (r2 - z) x a5 b5 hx0.1 (bd110 (by omega) (by omega)) (bd110 hx0.2.1 hx0.2.2) k3 k4 (by omega)
theorem ok__law_pick {P : Program} {w : World} {K : Frag} {mg : Str → Option Value} {base : Heap} (W : Wd K mg) (Fn : ∃ fd, FunD K d__law_pick.name d__law_pick.qual d__law_pick.params d__law_pick.body d__law_pick.scope (d__law_pick.dvs K) (d__law_pick.kws K) (fAd K d__law_pick.at_) fd) (h__law_take : FnB P w K mg base d__law_take 2 ps__law_take c__law_take) : FnB P w K mg base d__law_pick 5 ps__law_pick c__law_pick := by
  refine FnB.of (N := N__law_pick) (r := r__law_pick) Fn sc__law_pick len__law_pick pure__law_pick ?_
  intro f cdv A outer s H E0 hr G0 H0 B pin xa xd xc E tk hp
  have sc := sc__law_pick
  exact (lss_cons (ls_set 1 sc.nd (le_ix (il_ix rfl) (le_lst (la_cons le_int (la_cons le_int (la_cons le_int (la_cons (le_bin ol_mul le_int (le_bin ol_pow le_int le_int)) (la_cons (le_bin ol_pow le_int le_int) la_nil)))))) (le_callC (h__law_take.all rfl rfl rfl rfl rfl rfl (hr.mono (by decide : 2 ≤ 4)) rfl rfl bd__law_take) W.g__law_take h__law_take.kp tk (lc_p (lh_slot 0 (lh_val le_int lh_nil))))))
    (lss_cons (ls_set 2 sc.nd (le_bin ol_sub (le_callC (h__law_take.all rfl rfl rfl rfl rfl rfl (hr.mono (by decide : 2 ≤ 4)) rfl rfl bd__law_take) W.g__law_take h__law_take.kp tk (lc_p (lh_slot 0 (lh_val (le_bin ol_add (le_bin ol_mul le_int (le_var 1)) le_int) lh_nil)))) (le_var 1)))
    (lss_cons (ls_set 3 sc.nd (le_bin ol_mul (le_bin ol_add le_int (le_callC (h__law_take.all rfl rfl rfl rfl rfl rfl (hr.mono (by decide : 2 ≤ 4)) rfl rfl bd__law_take) W.g__law_take h__law_take.kp tk (lc_p (lh_slot 0 (lh_val (le_var 1) lh_nil))))) (le_ix (il_ix rfl) (le_lst (la_cons le_int (la_cons (le_un ul_neg le_int) la_nil))) (le_callC (h__law_take.all rfl rfl rfl rfl rfl rfl (hr.mono (by decide : 2 ≤ 4)) rfl rfl bd__law_take) W.g__law_take h__law_take.kp tk (lc_p (lh_slot 0 (lh_val le_int lh_nil)))))))
    (lss_one (ls_ret (le_lst (la_cons (le_var 2) (la_cons (le_ix (il_ix rfl) (le_lst (la_cons (le_var 3) (la_cons le_int (la_cons le_int la_nil)))) (le_callC (h__law_take.all rfl rfl rfl rfl rfl rfl (hr.mono (by decide : 2 ≤ 4)) rfl rfl bd__law_take) W.g__law_take h__law_take.kp tk (lc_p (lh_slot 0 (lh_val le_int lh_nil))))) la_nil))))))))
abbrev s__law_is : Stmt := (top 24)
def d__law_is : DefD := ⟨("_law_is", none), "_law_is", "_law_is", defArgs s__law_is, defBody s__law_is, defScope s__law_is, [], []⟩
abbrev N__law_is : List Str := ["_law_amount", "_law_due"]
abbrev ps__law_is : List Str := ["_law_amount", "_law_due"]
theorem sc__law_is : FnScope N__law_is ps__law_is d__law_is.scope := ⟨rfl, rfl, rfl, by decide +kernel, rfl, by decide +kernel, by decide +kernel⟩
theorem bd__law_is : ∀ (kV doc pm : Value) (an : Option Addr) (cdv ct : Value) (us : List Value), us.length = ps__law_is.length → bindArgs (fnOf d__law_is.name d__law_is.qual d__law_is.params d__law_is.body d__law_is.scope .none kV doc pm an cdv ct) ⟨us, []⟩ = pure (ps__law_is.zip us) := fun _ _ _ _ _ _ us hl => match us, hl with | [_, _], _ => rfl
def c__law_is : Ct := fun args Q _ => ∃ p q : Rat, args = [.val (.rat p), .val (tupR q)] ∧ Q (.bl (decide (p = q))) args
def r__law_is : QS := (qRet (qAndV (qUn (oIsa isa_Ratio) (qVar 0)) (qBin oEq (qTup (qCons (qUn oTop (qVar 0)) (qCons (qUn oBot (qVar 0)) qNil))) (qVar 1))))
theorem len__law_is : ∀ args Q E, c__law_is args Q E → args.length = ps__law_is.length := by
  rintro args Q E ⟨_, _, rfl, _⟩
  rfl
theorem pure__law_is : ∀ args Q E, c__law_is args Q E → r__law_is (startE N__law_is.length args) (endsC args Q) (exnC args E) := by
  rintro args Q E ⟨p, q, rfl, hq⟩
  refine ⟨Nat.le_of_ble_eq_true rfl, rfl, rfl, ?_⟩
  show Q (.bl (PyData.eqv (toPy (tupR p)) (toPy (tupR q)))) _
  rw [eqv_tupR]
  exact hq
theorem ok__law_is {P : Program} {w : World} {K : Frag} {mg : Str → Option Value} {base : Heap} (W : Wd K mg) (Fn : ∃ fd, FunD K d__law_is.name d__law_is.qual d__law_is.params d__law_is.body d__law_is.scope (d__law_is.dvs K) (d__law_is.kws K) (fAd K d__law_is.at_) fd) : FnB P w K mg base d__law_is 2 ps__law_is c__law_is := by
  refine FnB.of (N := N__law_is) (r := r__law_is) Fn sc__law_is len__law_is pure__law_is ?_
  intro f cdv A outer s H E0 hr G0 H0 B pin xa xd xc E tk hp
  have sc := sc__law_is
  exact (lss_one (ls_ret (le_and (le_isi (isa_ok W.i_Ratio W.isc_Ratio) rfl (pe_glob (v := .ref (ga _ "Ratio")) rfl W.g_Ratio rfl) (.own _) (le_var 0) W.f_isinstance) (le_one (le_cmp (ol_eq rfl hr) (le_tup (la_cons (le_top W.kl_ratio rfl (le_var 0)) (la_cons (le_bot W.kl_ratio rfl (le_var 0)) la_nil))) (le_var 1))))))
abbrev s__law_compared : Stmt := (top 27)
def d__law_compared : DefD := ⟨("_law_compared", none), "_law_compared", "_law_compared", defArgs s__law_compared, defBody s__law_compared, defScope s__law_compared, [], []⟩
abbrev N__law_compared : List Str := ["_law_one", "_law_other", "_law_x", "_law_y"]
abbrev ps__law_compared : List Str := ["_law_one", "_law_other", "_law_x", "_law_y"]
theorem sc__law_compared : FnScope N__law_compared ps__law_compared d__law_compared.scope := ⟨rfl, rfl, rfl, by decide +kernel, rfl, by decide +kernel, by decide +kernel⟩
theorem bd__law_compared : ∀ (kV doc pm : Value) (an : Option Addr) (cdv ct : Value) (us : List Value), us.length = ps__law_compared.length → bindArgs (fnOf d__law_compared.name d__law_compared.qual d__law_compared.params d__law_compared.body d__law_compared.scope .none kV doc pm an cdv ct) ⟨us, []⟩ = pure (ps__law_compared.zip us) := fun _ _ _ _ _ _ us hl => match us, hl with | [_, _, _, _], _ => rfl
def c__law_compared : Ct := fun args Q _ => ∃ (p q : Rat) (d : D), args = [.val (.rat p), .val d, .val (tupR p), .val (tupR q)] ∧ plain d = true ∧ numQ d = some q ∧ Sz 4000 p ∧ Sz 4000 q ∧ Q (.bl true) args
theorem cmt_ok {d : D} (hp : plain d = true) : cmt.ok d = true := by
  cases d <;> first | rfl | cases hp
theorem eqv_bool (a b : Bool) : PyData.eqv (.bool a) (.bool b) = (a == b) := by unfold PyData.eqv; rfl
def r__law_compared : QS := (qSeq (qIfS (qOr (qTest (qBin (oSw .ratio (oOwnN .ratio cmt c_Ratio_uequ) oNe) (qBin (oSw .ratio (oOwnC .ratio cmt c_Ratio_uequ) oEq) (qVar 0) (qVar 1)) (qBin (oSw .ratio (oOwnC .ratio cmt c_Ratio_uequ) oEq) (qVar 2) (qVar 3)))) (qTest (qBin (oSw .ratio (oOwnN .ratio cmt c_Ratio_uequ) oNe) (qBin (oSw .ratio (oOwnC .ratio cmt c_Ratio_ultu) oLt) (qVar 0) (qVar 1)) (qCall c__law_less (qhVal (qVar 2) (qhVal (qVar 3) qhNil)))))) (qRet (qC (.bl false))) qNx)
    (qRet (qBin (oSw .ratio (oOwnC .ratio cmt c_Ratio_uequ) oEq) (qBin (oSw .ratio (oOwnC .ratio cmt c_Ratio_uleu) oLe) (qVar 0) (qVar 1)) (qNotV (qCall c__law_less (qhVal (qVar 3) (qhVal (qVar 2) qhNil)))))))
theorem len__law_compared : ∀ args Q E, c__law_compared args Q E → args.length = ps__law_compared.length := by
  rintro args Q E ⟨_, _, _, rfl, _⟩
  rfl
theorem pure__law_compared : ∀ args Q E, c__law_compared args Q E → r__law_compared (startE N__law_compared.length args) (endsC args Q) (exnC args E) := by
  rintro args Q E ⟨p, q, d, rfl, hp, hd, hs, hx, hq⟩
  have e1 : eqD p d = decide (p = q) := by
    unfold eqD
    rw [hd]
    exact decide_eq_decide.mpr ⟨fun h => h.symm, fun h => h.symm⟩
  show (match cmt.ok d with | true => _ | false => False)
  rw [cmt_ok hp]
  refine ⟨p, d, rfl, hp, rfl, rfl, rfl, rfl, ?_⟩
  show (match !PyData.eqv (.bool (eqD p d)) (.bool (PyData.eqv (toPy (tupR p)) (toPy (tupR q)))) with | true => _ | false => _)
  rw [eqv_tupR, e1, eqv_bool, beq_self_eq_true]
  show (match cmt.ok d with | true => _ | false => False)
  rw [cmt_ok hp]
  refine ⟨p, d, rfl, hp, fun x hx2 => ⟨hs, ?_, ?_⟩, fun hn => by rw [hd] at hn; cases hn⟩
  · rw [hd] at hx2
    cases hx2
    exact hx
  rw [hd] at hx2
  cases hx2
  refine ⟨p, q, rfl, hs, hx, rfl, rfl, ?_⟩
  show (match !PyData.eqv (.bool (decide (p < q))) (.bool (decide (p < q))) with | true => _ | false => _)
  rw [eqv_bool, beq_self_eq_true]
  show (match cmt.ok d with | true => _ | false => False)
  rw [cmt_ok hp]
  refine ⟨p, d, rfl, hp, fun x hx2 => ⟨hs, ?_, ?_⟩, fun hn => by rw [hd] at hn; cases hn⟩
  · rw [hd] at hx2
    cases hx2
    exact hx
  rw [hd] at hx2
  cases hx2
  refine ⟨q, p, rfl, hx, hs, rfl, rfl, ?_⟩
  show Q (.bl (PyData.eqv (.bool (decide (p ≤ q))) (.bool (!decide (q < p))))) _
  have e2 : (!decide (q < p)) = decide (p ≤ q) := by
    rw [← decide_not]
    exact decide_eq_decide.mpr Rat.not_lt
  rw [e2, eqv_bool, beq_self_eq_true]
  exact hq
theorem ok__law_compared {P : Program} {w : World} {K : Frag} {mg : Str → Option Value} {base : Heap} (W : Wd K mg) (Fn : ∃ fd, FunD K d__law_compared.name d__law_compared.qual d__law_compared.params d__law_compared.body d__law_compared.scope (d__law_compared.dvs K) (d__law_compared.kws K) (fAd K d__law_compared.at_) fd) (h_Ratio_uequ : FnB P w K mg base d_Ratio_uequ 8 ps_Ratio_uequ c_Ratio_uequ) (h_Ratio_ultu : FnB P w K mg base d_Ratio_ultu 11 ps_Ratio_ultu c_Ratio_ultu) (h__law_less : FnB P w K mg base d__law_less 2 ps__law_less c__law_less) (h_Ratio_uleu : FnB P w K mg base d_Ratio_uleu 11 ps_Ratio_uleu c_Ratio_uleu) : FnB P w K mg base d__law_compared 14 ps__law_compared c__law_compared := by
  refine FnB.of (N := N__law_compared) (r := r__law_compared) Fn sc__law_compared len__law_compared pure__law_compared ?_
  intro f cdv A outer s H E0 hr G0 H0 B pin xa xd xc E tk hp
  have sc := sc__law_compared
  exact (lss_cons (ls_if (lw_or (lt_cmp (ol_sw (ol_cmpN rfl hr W.nf_Ratio (ne_ok W.c_Ratio W.ne_Ratio W.m_Ratio_uequ) (h_Ratio_uequ.all (A := Around.in1 _) rfl rfl rfl rfl rfl rfl (hr.mono (by decide : 8 + 1 ≤ 13)).in1 rfl rfl bd_Ratio_uequ) tk) (ol_ne rfl hr)) (le_cmp (ol_sw (ol_cmp rfl hr (fun _ _ => rfl) W.nf_Ratio (cmp_ok (op := .Eq) rfl W.m_Ratio_uequ) (h_Ratio_uequ.all rfl rfl rfl rfl rfl rfl (hr.mono (by decide : 8 ≤ 13)) rfl rfl bd_Ratio_uequ) tk) (ol_eq rfl hr)) (le_var 0) (le_var 1)) (le_cmp (ol_sw (ol_cmp rfl hr (fun _ _ => rfl) W.nf_Ratio (cmp_ok (op := .Eq) rfl W.m_Ratio_uequ) (h_Ratio_uequ.all rfl rfl rfl rfl rfl rfl (hr.mono (by decide : 8 ≤ 13)) rfl rfl bd_Ratio_uequ) tk) (ol_eq rfl hr)) (le_var 2) (le_var 3))) (lw_or1 (lt_cmp (ol_sw (ol_cmpN rfl hr W.nf_Ratio (ne_ok W.c_Ratio W.ne_Ratio W.m_Ratio_uequ) (h_Ratio_uequ.all (A := Around.in1 _) rfl rfl rfl rfl rfl rfl (hr.mono (by decide : 8 + 1 ≤ 13)).in1 rfl rfl bd_Ratio_uequ) tk) (ol_ne rfl hr)) (le_cmp (ol_sw (ol_cmp rfl hr (fun _ _ => rfl) W.nf_Ratio (cmp_ok (op := .Lt) rfl W.m_Ratio_ultu) (h_Ratio_ultu.all rfl rfl rfl rfl rfl rfl (hr.mono (by decide : 11 ≤ 13)) rfl rfl bd_Ratio_ultu) tk) ol_lt) (le_var 0) (le_var 1)) (le_callC (h__law_less.all rfl rfl rfl rfl rfl rfl (hr.mono (by decide : 2 ≤ 13)) rfl rfl bd__law_less) W.g__law_less h__law_less.kp tk (lc_p (lh_val (le_var 2) (lh_val (le_var 3) lh_nil))))))).lt (lss_one (ls_ret le_bl)) lss_nil)
    (lss_one (ls_ret (le_cmp (ol_sw (ol_cmp rfl hr (fun _ _ => rfl) W.nf_Ratio (cmp_ok (op := .Eq) rfl W.m_Ratio_uequ) (h_Ratio_uequ.all rfl rfl rfl rfl rfl rfl (hr.mono (by decide : 8 ≤ 13)) rfl rfl bd_Ratio_uequ) tk) (ol_eq rfl hr)) (le_cmp (ol_sw (ol_cmp rfl hr (fun _ _ => rfl) W.nf_Ratio (cmp_ok (op := .LtE) rfl W.m_Ratio_uleu) (h_Ratio_uleu.all rfl rfl rfl rfl rfl rfl (hr.mono (by decide : 11 ≤ 13)) rfl rfl bd_Ratio_uleu) tk) ol_le) (le_var 0) (le_var 1)) (le_not (le_callC (h__law_less.all rfl rfl rfl rfl rfl rfl (hr.mono (by decide : 2 ≤ 13)) rfl rfl bd__law_less) W.g__law_less h__law_less.kp tk (lc_p (lh_val (le_var 3) (lh_val (le_var 2) lh_nil)))))))))
abbrev s__law_zero : Stmt := (top 26)
def d__law_zero : DefD := ⟨("_law_zero", none), "_law_zero", "_law_zero", defArgs s__law_zero, defBody s__law_zero, defScope s__law_zero, [], []⟩
abbrev N__law_zero : List Str := ["_law_amount", "_law_nought", "_law_caught"]
abbrev ps__law_zero : List Str := ["_law_amount", "_law_nought"]
theorem sc__law_zero : FnScope N__law_zero ps__law_zero d__law_zero.scope := ⟨rfl, rfl, rfl, by decide +kernel, rfl, by decide +kernel, by decide +kernel⟩
theorem bd__law_zero : ∀ (kV doc pm : Value) (an : Option Addr) (cdv ct : Value) (us : List Value), us.length = ps__law_zero.length → bindArgs (fnOf d__law_zero.name d__law_zero.qual d__law_zero.params d__law_zero.body d__law_zero.scope .none kV doc pm an cdv ct) ⟨us, []⟩ = pure (ps__law_zero.zip us) := fun _ _ _ _ _ _ us hl => match us, hl with | [_, _], _ => rfl
def c__law_zero : Ct := fun args Q _ => ∃ (p : Rat) (d : D), args = [.val (.rat p), .val d] ∧ plain d = true ∧ numQ d = some 0 ∧ Sz 4000 p ∧ Q (.bl true) args
def r__law_zero : QS := (qSeq (qSet 2 (qC (.int 0)))
    (qSeq (qTry exm_ByZero (qDrop (qMeth c_Ratio_over (qrVal .ratio (qVar 0)) (qhVal (qVar 1) qhNil))) (qSet 2 (qBin oAdd (qVar 2) (qC (.int 1)))))
    (qSeq (qTry exm_ByZero (qDrop (qCall (mkC .ratio c_Ratio_uinitu) (qhVal (qUn oTop (qVar 0)) (qhVal (qC (.int 0)) qhNil)))) (qSet 2 (qBin oAdd (qVar 2) (qC (.int 1)))))
    (qRet (qBin oEq (qVar 2) (qC (.int 2)))))))
theorem len__law_zero : ∀ args Q E, c__law_zero args Q E → args.length = ps__law_zero.length := by
  rintro args Q E ⟨_, _, rfl, _⟩
  rfl
theorem pure__law_zero : ∀ args Q E, c__law_zero args Q E → r__law_zero (startE N__law_zero.length args) (endsC args Q) (exnC args E) := by
  rintro args Q E ⟨p, d, rfl, hp, hd, hs, hq⟩
  refine ⟨p, d, rfl, hp, fun x hx => ⟨hs, ?_, fun h0 => ?_, fun h0 => ?_⟩, fun hn => by rw [hd] at hn; cases hn⟩
  · rw [hd] at hx
    cases hx
    exact ⟨bd_of (by decide), bd_of (by decide)⟩
  · refine ⟨_, _, rfl, (bd_of (n := 10) (by decide)).mono (by decide), fun _ => ?_, fun h1 => absurd rfl h1⟩
    exact ⟨rfl, rfl, hq⟩
  · rw [hd] at hx
    cases hx
    exact absurd rfl h0
theorem ok__law_zero {P : Program} {w : World} {K : Frag} {mg : Str → Option Value} {base : Heap} (W : Wd K mg) (Fn : ∃ fd, FunD K d__law_zero.name d__law_zero.qual d__law_zero.params d__law_zero.body d__law_zero.scope (d__law_zero.dvs K) (d__law_zero.kws K) (fAd K d__law_zero.at_) fd) (h_Ratio_over : FnB P w K mg base d_Ratio_over 11 ps_Ratio_over c_Ratio_over) (h_Ratio_uinitu : FnB P w K mg base d_Ratio_uinitu 5 ps_Ratio_uinitu c_Ratio_uinitu) : FnB P w K mg base d__law_zero 14 ps__law_zero c__law_zero := by
  refine FnB.of (N := N__law_zero) (r := r__law_zero) Fn sc__law_zero len__law_zero pure__law_zero ?_
  intro f cdv A outer s H E0 hr G0 H0 B pin xa xd xc E tk hp
  have sc := sc__law_zero
  exact (lss_cons (ls_set 2 sc.nd le_int)
    (lss_cons (ls_try (exm_ok' W.x_ByZero) rfl rfl rfl (names_own W.g_ByZero) tk (fun G pn xe E' tk hp => (lss_one (ls_expr (le_methC (h_Ratio_over.all rfl rfl rfl rfl rfl rfl (hr.mono (by decide : 11 ≤ 13)) rfl rfl bd_Ratio_over) rfl W.kl_ratio (pMeth_ok W.m_Ratio_over) tk (lr_val (le_var 0)) (lc_p (lh_val (le_var 1) lh_nil)))))) (fun a oe pn => (lss_one (ls_set 2 sc.nd (le_bin ol_add (le_var 2) le_int)))))
    (lss_cons (ls_try (exm_ok' W.x_ByZero) rfl rfl rfl (names_own W.g_ByZero) tk (fun G pn xe E' tk hp => (lss_one (ls_expr (le_callC (code_make (pMk_ok W.mk_Ratio) fun us kw => (h_Ratio_uinitu.full rfl rfl rfl rfl rfl rfl ((hr.mono (by decide : 5 + 1 ≤ 13)).make _ us kw) (List.cons_ne_nil _ _) rfl bdf_Ratio_uinitu)) W.g_Ratio W.mk_Ratio.2.2.2 tk (lc_p (lh_val (le_top W.kl_ratio rfl (le_var 0)) (lh_val le_int lh_nil))))))) (fun a oe pn => (lss_one (ls_set 2 sc.nd (le_bin ol_add (le_var 2) le_int)))))
    (lss_one (ls_ret (le_cmp (ol_eq rfl hr) (le_var 2) le_int))))))
end K02

set_option Elab.async false
set_option linter.all false
set_option maxRecDepth 100000
set_option maxHeartbeats 4000000
namespace K02
open PySem L2 PySem.Spec PyProof.Rows He PySem.W Q
abbrev s__law_signs : Stmt := (top 28)
def d__law_signs : DefD := ⟨("_law_signs", none), "_law_signs", "_law_signs", defArgs s__law_signs, defBody s__law_signs, defScope s__law_signs, [], []⟩
abbrev N__law_signs : List Str := ["_law_one", "_law_other", "_law_x", "_law_n", "_law_due"]
abbrev ps__law_signs : List Str := ["_law_one", "_law_other", "_law_x", "_law_n"]
theorem sc__law_signs : FnScope N__law_signs ps__law_signs d__law_signs.scope := ⟨rfl, rfl, rfl, by decide +kernel, rfl, by decide +kernel, by decide +kernel⟩
theorem bd__law_signs : ∀ (kV doc pm : Value) (an : Option Addr) (cdv ct : Value) (us : List Value), us.length = ps__law_signs.length → bindArgs (fnOf d__law_signs.name d__law_signs.qual d__law_signs.params d__law_signs.body d__law_signs.scope .none kV doc pm an cdv ct) ⟨us, []⟩ = pure (ps__law_signs.zip us) := fun _ _ _ _ _ _ us hl => match us, hl with | [_, _, _, _], _ => rfl
def gk_sign_number {α : Type} (us ws : List α) : List α := ws
def fk_sign_number (ds : List D) : List D := ds
theorem kb_sign_number : ∀ (kV doc pm : Value) (an : Option Addr) (cdv ct : Value) (us ws : List Value), us.length = 0 → ws.length = [("number" : Str)].length → bindArgs (fnOf d_sign.name d_sign.qual d_sign.params d_sign.body d_sign.scope .none kV doc pm an cdv ct) ⟨us, [("number" : Str)].zip ws⟩ = pure (ps_sign.zip (gk_sign_number us ws)) := fun _ _ _ _ _ _ us ws h1 h2 => match us, ws, h1, h2 with | [], [_], _, _ => rfl
theorem kr_sign_number {vs zs : List V} {us ws : List Value} (r1 : Vals vs us) (r2 : Vals zs ws) : Vals (gk_sign_number vs zs) (gk_sign_number us ws) := r2
theorem kl_sign_number (ds : List D) (h : (fk_sign_number ds).length = ps_sign.length) : ds.length = 0 + [("number" : Str)].length := h
theorem kf_sign_number {K : Frag} (ds : List D) (vs zs : List V) (G : Hp) (h1 : vs.length = 0) (h2 : zs.length = [("number" : Str)].length) (r : Reps (cf K) G ds (vs ++ zs)) : Reps (cf K) G (fk_sign_number ds) (gk_sign_number vs zs) := match vs, h1, r with | [], _, r => r
def gk_as_ratio_given {α : Type} (us ws : List α) : List α := ws
def fk_as_ratio_given (ds : List D) : List D := ds
theorem kb_as_ratio_given : ∀ (kV doc pm : Value) (an : Option Addr) (cdv ct : Value) (us ws : List Value), us.length = 0 → ws.length = [("given" : Str)].length → bindArgs (fnOf d_as_ratio.name d_as_ratio.qual d_as_ratio.params d_as_ratio.body d_as_ratio.scope .none kV doc pm an cdv ct) ⟨us, [("given" : Str)].zip ws⟩ = pure (ps_as_ratio.zip (gk_as_ratio_given us ws)) := fun _ _ _ _ _ _ us ws h1 h2 => match us, ws, h1, h2 with | [], [_], _, _ => rfl
theorem kr_as_ratio_given {vs zs : List V} {us ws : List Value} (r1 : Vals vs us) (r2 : Vals zs ws) : Vals (gk_as_ratio_given vs zs) (gk_as_ratio_given us ws) := r2
theorem kl_as_ratio_given (ds : List D) (h : (fk_as_ratio_given ds).length = ps_as_ratio.length) : ds.length = 0 + [("given" : Str)].length := h
theorem kf_as_ratio_given {K : Frag} (ds : List D) (vs zs : List V) (G : Hp) (h1 : vs.length = 0) (h2 : zs.length = [("given" : Str)].length) (r : Reps (cf K) G ds (vs ++ zs)) : Reps (cf K) G (fk_as_ratio_given ds) (gk_as_ratio_given vs zs) := match vs, h1, r with | [], _, r => r
def gk_Ratio_over_number {α : Type} (us ws : List α) : List α := us ++ ws
def fk_Ratio_over_number (ds : List D) : List D := ds
theorem kb_Ratio_over_number : ∀ (kV doc pm : Value) (an : Option Addr) (cdv ct : Value) (us ws : List Value), us.length = 1 → ws.length = [("number" : Str)].length → bindArgs (fnOf d_Ratio_over.name d_Ratio_over.qual d_Ratio_over.params d_Ratio_over.body d_Ratio_over.scope .none kV doc pm an cdv ct) ⟨us, [("number" : Str)].zip ws⟩ = pure (ps_Ratio_over.zip (gk_Ratio_over_number us ws)) := fun _ _ _ _ _ _ us ws h1 h2 => match us, ws, h1, h2 with | [_], [_], _, _ => rfl
theorem kr_Ratio_over_number {vs zs : List V} {us ws : List Value} (r1 : Vals vs us) (r2 : Vals zs ws) : Vals (gk_Ratio_over_number vs zs) (gk_Ratio_over_number us ws) := r1.append r2
theorem kl_Ratio_over_number (ds : List D) (h : (fk_Ratio_over_number ds).length = ps_Ratio_over.length) : ds.length = 1 + [("number" : Str)].length := h
theorem kf_Ratio_over_number {K : Frag} (ds : List D) (vs zs : List V) (G : Hp) (h1 : vs.length = 1) (h2 : zs.length = [("number" : Str)].length) (r : Reps (cf K) G ds (vs ++ zs)) : Reps (cf K) G (fk_Ratio_over_number ds) (gk_Ratio_over_number vs zs) := r
def gk_Ratio_uinitu_bottom_top {α : Type} (us its ws : List α) : List α := us ++ ws.reverse
def gw_Ratio_uinitu_bottom_top (vs zs : List V) : List V := vs ++ zs.reverse
def fk_Ratio_uinitu_bottom_top (ds : List D) : List D := ds.reverse
abbrev kbt : List Str := ["bottom", "top"]
theorem kb_Ratio_uinitu_bottom_top {K : Frag} : ∀ (T : Addr) (kV doc pm : Value) (an : Option Addr) (cdv ct : Value) (us its ws : List Value), us.length = 0 + 1 → its.length = (d_Ratio_uinitu.dvs K).length → ws.length = kbt.length → ∃ k, bindArgs (fnOf d_Ratio_uinitu.name d_Ratio_uinitu.qual d_Ratio_uinitu.params d_Ratio_uinitu.body d_Ratio_uinitu.scope (.ref T) kV doc pm an cdv ct) ⟨us, kbt.zip ws⟩ = seqItems? (.ref T) >>= k ∧ k (some its.toArray) = pure (ps_Ratio_uinitu.zip (gk_Ratio_uinitu_bottom_top us its ws)) := fun _ _ _ _ _ _ _ us its ws h1 h2 h3 => match us, its, ws, h1, h2, h3 with | [_], [_], [_, _], _, _, _ => ⟨_, rfl, rfl⟩
theorem vals_rev : ∀ {vs : List V} {us : List Value}, Vals vs us → Vals vs.reverse us.reverse
  | _, _, .nil => .nil
  | _, _, .cons a r => by
    rw [List.reverse_cons, List.reverse_cons]
    exact (vals_rev r).append (.cons a .nil)
theorem kr_Ratio_uinitu_bottom_top {vs ds zs : List V} {us its ws : List Value} (r1 : Vals vs us) (r2 : Vals ds its) (r3 : Vals zs ws) : Vals (gk_Ratio_uinitu_bottom_top vs ds zs) (gk_Ratio_uinitu_bottom_top us its ws) := r1.append (vals_rev r3)
theorem kg_Ratio_uinitu_bottom_top {K : Frag} (v : V) (vs zs : List V) (h1 : vs.length = 0) (h2 : zs.length = kbt.length) : gk_Ratio_uinitu_bottom_top (v :: vs) (d_Ratio_uinitu.dvs K) zs = v :: gw_Ratio_uinitu_bottom_top vs zs := rfl
theorem kl_Ratio_uinitu_bottom_top (ds : List D) (h : (fk_Ratio_uinitu_bottom_top ds).length + 1 = ps_Ratio_uinitu.length) : ds.length = 0 + kbt.length := by
  unfold fk_Ratio_uinitu_bottom_top at h
  rw [List.length_reverse] at h
  have e : ps_Ratio_uinitu.length = 3 := rfl
  have e2 : kbt.length = 2 := rfl
  omega
theorem reps_rev {F : Cf} {G : Hp} : ∀ {ds : List D} {vs : List V}, Reps F G ds vs → Reps F G ds.reverse vs.reverse
  | [], _, h => by cases (show _ = [] from h); exact rfl
  | d :: ds, _, h => by
    obtain ⟨v, r, rfl, a, b⟩ := h
    rw [List.reverse_cons, List.reverse_cons]
    exact (reps_rev b).append (Reps.one a)
theorem kf_Ratio_uinitu_bottom_top {K : Frag} (ds : List D) (vs zs : List V) (G : Hp) (h1 : vs.length = 0) (h2 : zs.length = kbt.length) (r : Reps (cf K) G ds (vs ++ zs)) : Reps (cf K) G (fk_Ratio_uinitu_bottom_top ds) (gw_Ratio_uinitu_bottom_top vs zs) := match vs, h1, r with | [], _, r => reps_rev r
def c__law_signs : Ct := fun args Q _ => ∃ (p q : Rat) (n : Int), args = [.val (.rat p), .val (.rat q), .val (tupR p), .val (.int n)] ∧ Sz 1000 p ∧ Sz 1000 q ∧ Bd 1000 n ∧ Q (.bl true) args
theorem sgn_sign (n : Int) : sgn n = n.sign := by
  unfold sgn
  rcases Int.lt_trichotomy n 0 with h | h | h
  · rw [Int.sign_eq_neg_one_of_neg h]
    simp [h, show ¬ (0 < n) by omega]
  · subst h
    rfl
  · rw [Int.sign_eq_one_of_pos h]
    simp [h, show ¬ (n < 0) by omega]
theorem sgn_mul (p q : Rat) : sgn (p * q).num = sgn q.num * sgn p.num := by
  rw [sgn_sign, sgn_sign, sgn_sign, ← mul_divInt, Rat.num_divInt, Int.sign_eq_one_of_pos (Int.mul_pos (den_pos p) (den_pos q)), Int.one_mul, Int.mul_comm q.num.sign, ← Int.sign_mul]
  have hg : 0 < (((p.den : Int) * (q.den : Int)).gcd (p.num * q.num) : Int) := by
    have := gcd_ne (a := p.num * q.num) (b := (p.den : Int) * (q.den : Int)) (Int.mul_ne_zero (den_ne p) (den_ne q))
    rw [Int.gcd_comm] at this
    omega
  have hd : (((p.den : Int) * (q.den : Int)).gcd (p.num * q.num) : Int) ∣ p.num * q.num := Int.gcd_dvd_right _ _
  have key : ∀ t g : Int, 0 < g → g ∣ t → (t / g).sign = t.sign := fun t g h1 ⟨m, hm⟩ => by
    rw [hm, Int.mul_ediv_cancel_left _ (by omega), Int.sign_mul, Int.sign_eq_one_of_pos h1, Int.one_mul]
  exact key _ _ hg hd
theorem sgn_bd (n : Int) : Bd 10 (sgn n) := by
  unfold Bd sgn
  split <;> split <;> decide
theorem eqv_two (a b : Int) : PyData.eqv (.list [.int a, .int b]) (.list [.int a, .int b]) = true := by
  have e : PyData.eqv (.list [.int a, .int b]) (.list [.int a, .int b]) = (a == a && (b == b && true)) := rfl
  rw [e, beq_self_eq_true, beq_self_eq_true]
  rfl
theorem divInt_one (n : Int) : Rat.divInt n 1 = (n : Rat) := by
  have := Rat.num_divInt_den (n : Rat)
  exact this
def r__law_signs : QS := (qSeq (qSet 4 (qLst (qCons (qBin (oSw .ratio (oOwnR .ratio c_Ratio_usubu) oSub) (qB oInt (qCons (qBin oGt (qBin oIx (qVar 2) (qC (.int 0))) (qC (.int 0))) qNil)) (qB oInt (qCons (qBin (oSw .ratio (oOwnC .ratio cmt c_Ratio_ultu) oLt) (qBin oIx (qVar 2) (qC (.int 0))) (qC (.int 0))) qNil))) (qCons (qBin (oSw .ratio (oOwnR .ratio c_Ratio_usubu) oSub) (qB oInt (qCons (qBin oGt (qVar 3) (qC (.int 0))) qNil)) (qB oInt (qCons (qBin (oSw .ratio (oOwnC .ratio cmt c_Ratio_ultu) oLt) (qVar 3) (qC (.int 0))) qNil))) qNil))))
    (qSeq (qIfS (qOr (qTest (qBin (oSw .ratio (oOwnN .ratio cmt c_Ratio_uequ) oNe) (qCall (mkC .ratio (dflt c_Ratio_uinitu dd_Ratio_uinitu)) (qhVal (qVar 3) qhNil)) (qVar 3))) (qTest (qBin (oSw .ratio (oOwnN .ratio cmt c_Ratio_uequ) oNe) (qLst (qCons (qCall c_sign (qhVal (qVar 0) qhNil)) (qCons (qCall c_sign (qhVal (qVar 3) qhNil)) qNil))) (qVar 4)))) (qRet (qC (.bl false))) qNx)
    (qRet (qBin (oSw .ratio (oOwnC .ratio cmt c_Ratio_uequ) oEq) (qBin (oSw .ratio (oOwnR .ratio c_Ratio_umulu) oMul) (qCall (kwC c_sign fk_sign_number) (qHK qhNil (qCons (qVar 1) qNil))) (qCall c_sign (qhVal (qVar 0) qhNil))) (qCall c_sign (qhVal (qBin (oSw .ratio (oOwnR .ratio c_Ratio_umulu) oMul) (qVar 0) (qVar 1)) qhNil))))))
theorem len__law_signs : ∀ args Q E, c__law_signs args Q E → args.length = ps__law_signs.length := by
  rintro args Q E ⟨_, _, _, rfl, _⟩
  rfl
theorem pure__law_signs : ∀ args Q E, c__law_signs args Q E → r__law_signs (startE N__law_signs.length args) (endsC args Q) (exnC args E) := by
  rintro args Q E ⟨p, q, n, rfl, hp, hx, hn, hq⟩
  refine ⟨_, rfl, _, rfl, Nat.le_of_ble_eq_true rfl, n, 1, rfl, (bd_of (n := 10) (by decide)).mono (by decide), (fun h => by cases h), fun _ => ⟨_, rfl, _, _, rfl, rfl, ?_⟩⟩
  have e1 : eqD (Rat.divInt n 1) (.int n) = true := by
    rw [divInt_one]
    exact decide_eq_true rfl
  show (match !eqD (Rat.divInt n 1) (.int n) with | true => _ | false => _)
  rw [e1]
  refine ⟨_, rfl, rfl, fun x hx1 => ⟨_, rfl, rfl, fun y hy => ⟨Nat.le_of_ble_eq_true rfl, rfl, rfl, ?_⟩, fun h => by cases h⟩, fun h => by cases h⟩
  cases hx1
  cases hy
  show (match !PyData.eqv (.list [.int (sgn p.num), .int (sgn n)]) (.list [.int (sgn p.num), .int (sgn n)]) with | true => _ | false => _)
  rw [eqv_two]
  refine ⟨_, rfl, rfl, fun x hx1 => ⟨_, rfl, rfl, fun y hy => ⟨mul_ok (sgn_bd _) (sgn_bd _) (by decide), _, _, rfl, rfl, fun z hz => ⟨⟨hp.num.mono (by decide), hp.den.mono (by decide)⟩, ?_, ?_⟩, fun h => by cases h⟩, fun h => by cases h⟩, fun h => by cases h⟩
  · cases hz
    exact ⟨hx.num.mono (by decide), hx.den.mono (by decide)⟩
  cases hz
  cases hx1
  cases hy
  refine ⟨_, rfl, rfl, fun v hv => ⟨rfl, rfl, ?_⟩, fun h => by cases h⟩
  cases hv
  show Q (.bl (PyData.eqv (.int (sgn q.num * sgn p.num)) (.int (sgn (p * q).num)))) _
  rw [sgn_mul, eqv_int, beq_self_eq_true]
  exact hq
theorem ok__law_signs {P : Program} {w : World} {K : Frag} {mg : Str → Option Value} {base : Heap} (W : Wd K mg) (Fn : ∃ fd, FunD K d__law_signs.name d__law_signs.qual d__law_signs.params d__law_signs.body d__law_signs.scope (d__law_signs.dvs K) (d__law_signs.kws K) (fAd K d__law_signs.at_) fd) (h_Ratio_usubu : FnB P w K mg base d_Ratio_usubu 11 ps_Ratio_usubu c_Ratio_usubu) (h_Ratio_ultu : FnB P w K mg base d_Ratio_ultu 11 ps_Ratio_ultu c_Ratio_ultu) (h_Ratio_uequ : FnB P w K mg base d_Ratio_uequ 8 ps_Ratio_uequ c_Ratio_uequ) (h_Ratio_uinitu : FnB P w K mg base d_Ratio_uinitu 5 ps_Ratio_uinitu c_Ratio_uinitu) (h_sign : FnB P w K mg base d_sign 11 ps_sign c_sign) (h_Ratio_umulu : FnB P w K mg base d_Ratio_umulu 11 ps_Ratio_umulu c_Ratio_umulu) : FnB P w K mg base d__law_signs 14 ps__law_signs c__law_signs := by
  refine FnB.of (N := N__law_signs) (r := r__law_signs) Fn sc__law_signs len__law_signs pure__law_signs ?_
  intro f cdv A outer s H E0 hr G0 H0 B pin xa xd xc E tk hp
  have sc := sc__law_signs
  have hu := roomU hr
  exact (lss_cons (ls_set 4 sc.nd (le_lst (la_cons (le_bin (ol_sw (ol_own rfl (op_ok (op := .Sub) rfl W.first_Ratio W.m_Ratio_usubu) (pOpT_ok W.opt_Ratio_usubu) (h_Ratio_usubu.all rfl rfl rfl rfl rfl rfl (hr.mono (by decide : 11 ≤ 13)) rfl rfl bd_Ratio_usubu) tk) ol_sub) (le_bty bl_int (la_cons (le_cmp ol_gt (le_ix (il_ix rfl) (le_var 2) le_int) le_int) la_nil) W.f_int) (le_bty bl_int (la_cons (le_cmp (ol_sw (ol_cmp rfl hr (fun _ _ => rfl) W.nf_Ratio (cmp_ok (op := .Lt) rfl W.m_Ratio_ultu) (h_Ratio_ultu.all rfl rfl rfl rfl rfl rfl (hr.mono (by decide : 11 ≤ 13)) rfl rfl bd_Ratio_ultu) tk) ol_lt) (le_ix (il_ix rfl) (le_var 2) le_int) le_int) la_nil) W.f_int)) (la_cons (le_bin (ol_sw (ol_own rfl (op_ok (op := .Sub) rfl W.first_Ratio W.m_Ratio_usubu) (pOpT_ok W.opt_Ratio_usubu) (h_Ratio_usubu.all rfl rfl rfl rfl rfl rfl (hr.mono (by decide : 11 ≤ 13)) rfl rfl bd_Ratio_usubu) tk) ol_sub) (le_bty bl_int (la_cons (le_cmp ol_gt (le_var 3) le_int) la_nil) W.f_int) (le_bty bl_int (la_cons (le_cmp (ol_sw (ol_cmp rfl hr (fun _ _ => rfl) W.nf_Ratio (cmp_ok (op := .Lt) rfl W.m_Ratio_ultu) (h_Ratio_ultu.all rfl rfl rfl rfl rfl rfl (hr.mono (by decide : 11 ≤ 13)) rfl rfl bd_Ratio_ultu) tk) ol_lt) (le_var 3) le_int) la_nil) W.f_int)) la_nil))))
    (lss_cons (ls_if (lw_or (lt_cmp (ol_sw (ol_cmpN rfl hr W.nf_Ratio (ne_ok W.c_Ratio W.ne_Ratio W.m_Ratio_uequ) (h_Ratio_uequ.all (A := Around.in1 _) rfl rfl rfl rfl rfl rfl (hr.mono (by decide : 8 + 1 ≤ 13)).in1 rfl rfl bd_Ratio_uequ) tk) (ol_ne rfl hr)) (le_callC (code_make (pMk_ok W.mk_Ratio) fun us kw => (h_Ratio_uinitu.dfl rfl rfl rfl rfl rfl rfl ((hr.mono (by decide : 5 + 1 ≤ 13)).make _ us kw) (List.cons_ne_nil _ _) dr_Ratio_uinitu rfl bdd_Ratio_uinitu)) W.g_Ratio W.mk_Ratio.2.2.2 tk (lc_p (lh_val (le_var 3) lh_nil))) (le_var 3)) (lw_or1 (lt_cmp (ol_sw (ol_cmpN rfl hr W.nf_Ratio (ne_ok W.c_Ratio W.ne_Ratio W.m_Ratio_uequ) (h_Ratio_uequ.all (A := Around.in1 _) rfl rfl rfl rfl rfl rfl (hr.mono (by decide : 8 + 1 ≤ 13)).in1 rfl rfl bd_Ratio_uequ) tk) (ol_ne rfl hr)) (le_lst (la_cons (le_callC (h_sign.all rfl rfl rfl rfl rfl rfl (hr.mono (by decide : 11 ≤ 13)) rfl rfl bd_sign) W.g_sign h_sign.kp tk (lc_p (lh_val (le_var 0) lh_nil))) (la_cons (le_callC (h_sign.all rfl rfl rfl rfl rfl rfl (hr.mono (by decide : 11 ≤ 13)) rfl rfl bd_sign) W.g_sign h_sign.kp tk (lc_p (lh_val (le_var 3) lh_nil))) la_nil))) (le_var 4)))).lt (lss_one (ls_ret le_bl)) lss_nil)
    (lss_one (ls_ret (le_cmp (ol_sw (ol_cmp rfl hr (fun _ _ => rfl) W.nf_Ratio (cmp_ok (op := .Eq) rfl W.m_Ratio_uequ) (h_Ratio_uequ.all rfl rfl rfl rfl rfl rfl (hr.mono (by decide : 8 ≤ 13)) rfl rfl bd_Ratio_uequ) tk) (ol_eq rfl hr)) (le_bin (ol_sw (ol_own rfl (op_ok (op := .Mult) rfl W.first_Ratio W.m_Ratio_umulu) (pOpT_ok W.opt_Ratio_umulu) (h_Ratio_umulu.all rfl rfl rfl rfl rfl rfl (hr.mono (by decide : 11 ≤ 13)) rfl rfl bd_Ratio_umulu) tk) ol_mul) (le_callC (h_sign.kw (g := @gk_sign_number) (fD := fk_sign_number) rfl rfl rfl rfl rfl rfl (hr.mono (by decide : 11 ≤ 13)) rfl kb_sign_number kr_sign_number kl_sign_number kf_sign_number) W.g_sign h_sign.kp tk (lc_k (lk_cons (le_var 1) lk_nil) (hn := hn1))) (le_callC (h_sign.all rfl rfl rfl rfl rfl rfl (hr.mono (by decide : 11 ≤ 13)) rfl rfl bd_sign) W.g_sign h_sign.kp tk (lc_p (lh_val (le_var 0) lh_nil)))) (le_callC (h_sign.all rfl rfl rfl rfl rfl rfl (hr.mono (by decide : 11 ≤ 13)) rfl rfl bd_sign) W.g_sign h_sign.kp tk (lc_p (lh_val (le_bin (ol_sw (ol_own rfl (op_ok (op := .Mult) rfl W.first_Ratio W.m_Ratio_umulu) (pOpT_ok W.opt_Ratio_umulu) (h_Ratio_umulu.all rfl rfl rfl rfl rfl rfl (hr.mono (by decide : 11 ≤ 13)) rfl rfl bd_Ratio_umulu) tk) ol_mul) (le_var 0) (le_var 1)) lh_nil))))))))
abbrev s__law_refused : Stmt := (top 25)
def d__law_refused : DefD := ⟨("_law_refused", none), "_law_refused", "_law_refused", defArgs s__law_refused, defBody s__law_refused, defScope s__law_refused, [], []⟩
abbrev N__law_refused : List Str := ["_law_strange", "e"]
abbrev ps__law_refused : List Str := ["_law_strange"]
theorem sc__law_refused : FnScope N__law_refused ps__law_refused d__law_refused.scope := ⟨rfl, rfl, rfl, by decide +kernel, rfl, by decide +kernel, by decide +kernel⟩
theorem bd__law_refused : ∀ (kV doc pm : Value) (an : Option Addr) (cdv ct : Value) (us : List Value), us.length = ps__law_refused.length → bindArgs (fnOf d__law_refused.name d__law_refused.qual d__law_refused.params d__law_refused.body d__law_refused.scope .none kV doc pm an cdv ct) ⟨us, []⟩ = pure (ps__law_refused.zip us) := fun _ _ _ _ _ _ us hl => match us, hl with | [_], _ => rfl
def odds : List D := [.bl true, .bl false, .non, .str "1", .lst [.int 1], .tup [.int 2, .int 1], .dic []]
def c__law_refused : Ct := fun args Q _ => ∃ d, args = [.val d] ∧ d ∈ odds ∧ Q (.bl true) args
theorem eqv_str (x : Str) : PyData.eqv (.str x) (.str x) = true := by
  have e : PyData.eqv (.str x) (.str x) = (x == x) := rfl
  rw [e, beq_self_eq_true]
def r__law_refused : QS := (qSeq (qTryAs 1 exm_BadNumber (qDrop (qCall c_as_ratio (qhVal (qVar 0) qhNil))) (qRet (qBin oEq (qB oRepr (qCons (qXf 1 .badNumber 0) qNil)) (qB oRepr (qCons (qVar 0) qNil)))))
    (qRet (qC (.bl false))))
theorem len__law_refused : ∀ args Q E, c__law_refused args Q E → args.length = ps__law_refused.length := by
  rintro args Q E ⟨_, rfl, _⟩
  rfl
theorem pure__law_refused : ∀ args Q E, c__law_refused args Q E → r__law_refused (startE N__law_refused.length args) (endsC args Q) (exnC args E) := by
  rintro args Q E ⟨d, rfl, hd, hq⟩
  have key : ∀ x : Str, Q (.bl true) [.val d] → Q (.bl (PyData.eqv (.str x) (.str x))) [.val d] := fun x h => by
    rw [eqv_str]
    exact h
  have h : d = .bl true ∨ d = .bl false ∨ d = .non ∨ d = .str "1" ∨ d = .lst [.int 1] ∨ d = .tup [.int 2, .int 1] ∨ d = .dic [] := by simpa [odds] using hd
  rcases h with rfl | rfl | rfl | rfl | rfl | rfl | rfl
  · exact ⟨_, rfl, rfl, fun x hx => (by cases hx), fun _ => ⟨by decide +kernel, by decide +kernel, key _ hq⟩⟩
  · exact ⟨_, rfl, rfl, fun x hx => (by cases hx), fun _ => ⟨by decide +kernel, by decide +kernel, key _ hq⟩⟩
  · exact ⟨_, rfl, rfl, fun x hx => (by cases hx), fun _ => ⟨by decide +kernel, by decide +kernel, key _ hq⟩⟩
  · exact ⟨_, rfl, rfl, fun x hx => (by cases hx), fun _ => ⟨by decide +kernel, by decide +kernel, by decide +kernel, by decide +kernel, key _ hq⟩⟩
  · exact ⟨_, rfl, rfl, fun x hx => (by cases hx), fun _ => ⟨⟨rfl, by decide +kernel, by decide +kernel, by decide +kernel, by decide +kernel⟩, ⟨rfl, by decide +kernel, by decide +kernel, by decide +kernel, by decide +kernel⟩, by decide +kernel, by decide +kernel, key _ hq⟩⟩
  · exact ⟨_, rfl, rfl, fun x hx => (by cases hx), fun _ => ⟨⟨rfl, by decide +kernel, by decide +kernel, by decide +kernel, by decide +kernel⟩, ⟨rfl, by decide +kernel, by decide +kernel, by decide +kernel, by decide +kernel⟩, by decide +kernel, by decide +kernel, key _ hq⟩⟩
  · exact ⟨_, rfl, rfl, fun x hx => (by cases hx), fun _ => ⟨by decide +kernel, by decide +kernel, key _ hq⟩⟩
theorem ok__law_refused {P : Program} {w : World} {K : Frag} {mg : Str → Option Value} {base : Heap} (W : Wd K mg) (Fn : ∃ fd, FunD K d__law_refused.name d__law_refused.qual d__law_refused.params d__law_refused.body d__law_refused.scope (d__law_refused.dvs K) (d__law_refused.kws K) (fAd K d__law_refused.at_) fd) (h_as_ratio : FnB P w K mg base d_as_ratio 11 ps_as_ratio c_as_ratio) : FnBG P w K mg base d__law_refused 14 ps__law_refused c__law_refused := by
  refine FnBG.of (N := N__law_refused) (r := r__law_refused) Fn sc__law_refused len__law_refused pure__law_refused ?_
  intro f cdv A outer s H E0 hr hgd G0 H0 B pin xa xd xc E tk hp
  have sc := sc__law_refused
  have hu := roomU hr
  exact (lss_cons (ls_tryAs 1 (k0 := 0) (exm_ok' W.x_BadNumber) rfl rfl rfl sc.nd (names_own W.g_BadNumber) tk (fun G pn xe E' tk hp => (lss_one (ls_expr (le_callC (h_as_ratio.all rfl rfl rfl rfl rfl rfl (hr.mono (by decide : 11 ≤ 13)) rfl rfl bd_as_ratio) W.g_as_ratio h_as_ratio.kp tk (lc_p (lh_val (le_var 0) lh_nil)))))) (fun a oe cls d pn c hz hv ec => (lss_one (ls_ret (le_cmp (ol_eqU rfl hu) (le_b (bl_repr rfl hu hgd) (la_cons (le_xf 1 .badNumber 0 hz hv ec rfl (pErr_x W.e_BadNumber) W.no_BadNumber_given) la_nil) W.f_repr) (le_b (bl_repr rfl hu hgd) (la_cons (le_var 0) la_nil) W.f_repr))))))
    (lss_one (ls_ret le_bl)))
end K02

set_option Elab.async false
set_option linter.all false
set_option maxRecDepth 100000
set_option maxHeartbeats 4000000
namespace K02
open PySem L2 PySem.Spec PyProof.Rows He PySem.W Q
abbrev s_law : Stmt := (top 29)
def d_law : DefD := ⟨("law", none), "law", "law", defArgs s_law, defBody s_law, defScope s_law, [], []⟩
abbrev N_law : List Str := ["_law_script", "_law_k", "_law_box_here", "_law_first", "_law_second", "_law_x", "_law_y", "_law_one", "_law_other", "_law_sums", "_law_n", "_law_odd"]
abbrev ps_law : List Str := ["_law_script"]
theorem sc_law : FnScope N_law ps_law d_law.scope := ⟨rfl, rfl, rfl, by decide +kernel, rfl, by decide +kernel, by decide +kernel⟩
theorem bd_law : ∀ (kV doc pm : Value) (an : Option Addr) (cdv ct : Value) (us : List Value), us.length = ps_law.length → bindArgs (fnOf d_law.name d_law.qual d_law.params d_law.body d_law.scope .none kV doc pm an cdv ct) ⟨us, []⟩ = pure (ps_law.zip us) := fun _ _ _ _ _ _ us hl => match us, hl with | [_], _ => rfl
def c_law : Ct := lawC 63
def r_law_c : QS := (qSeq (qSet 11 (qBin oIx (qLst (qCons (qC (.bl true)) (qCons (qC (.bl false)) (qCons (qC .non) (qCons (qC (.str "1")) (qCons (qLst (qCons (qC (.int 1)) qNil)) (qCons (qTup (qCons (qC (.int 2)) (qCons (qC (.int 1)) qNil))) (qCons (qC (.dic [])) qNil)))))))) (qCall c__law_take (qhSlot 2 (qhVal (qC (.int 7)) qhNil)))))
    (qIfS (qOr (qTest (qBin (oSw .ratio (oOwnC .ratio cmt c_Ratio_uequ) oEq) (qCall (mkC .ratio (dflt c_Ratio_uinitu dd_Ratio_uinitu)) (qhVal (qC (.int 1)) qhNil)) (qVar 11))) (qOr (qTest (qBin (oSw .ratio (oOwnC .ratio cmt c_Ratio_uequ) oEq) (qCall (mkC .ratio (dflt c_Ratio_uinitu dd_Ratio_uinitu)) (qhVal (qC (.int 0)) qhNil)) (qVar 11))) (qOr (qNot (qTest (qCall c__law_refused (qhVal (qVar 11) qhNil)))) (qNot (qTest (qCall c__law_zero (qhVal (qVar 7) (qhVal (qBin oIx (qLst (qCons (qC (.int 0)) (qCons (qCall (mkC .ratio (dflt c_Ratio_uinitu dd_Ratio_uinitu)) (qhVal (qC (.int 0)) qhNil)) qNil))) (qBin oMod (qVar 1) (qC (.int 2)))) qhNil)))))))) (qRet (qC (.bl false))) qNx))
def r_law_b : QS := (qSeq (qSet 9 (qLst (qCons (qCall c__law_is (qhVal (qBin (oSw .ratio (oOwnR .ratio c_Ratio_uaddu) oAdd) (qVar 7) (qVar 10)) (qhVal (qCall c__law_plus (qhVal (qVar 5) (qhVal (qTup (qCons (qVar 10) (qCons (qC (.int 1)) qNil))) qhNil))) qhNil))) (qCons (qCall c__law_is (qhVal (qBin (oSw .ratio (oOwnR .ratio c_Ratio_usubu) oSub) (qVar 7) (qVar 10)) (qhVal (qCall c__law_minus (qhVal (qVar 5) (qhVal (qTup (qCons (qVar 10) (qCons (qC (.int 1)) qNil))) qhNil))) qhNil))) qNil))))
    (qSeq (qIfS (qOr (qTest (qBin (oSw .ratio (oOwnN .ratio cmt c_Ratio_uequ) oNe) (qVar 9) (qLst (qCons (qC (.bl true)) (qCons (qC (.bl true)) qNil))))) (qOr (qNot (qTest (qCall c__law_is (qhVal (qBin (oSw .ratio (oOwnR .ratio c_Ratio_umulu) oMul) (qVar 7) (qVar 10)) (qhVal (qCall c__law_times (qhVal (qVar 5) (qhVal (qTup (qCons (qVar 10) (qCons (qC (.int 1)) qNil))) qhNil))) qhNil))))) (qNot (qTest (qCall c__law_compared (qhVal (qVar 7) (qhVal (qVar 10) (qhVal (qVar 5) (qhVal (qTup (qCons (qVar 10) (qCons (qC (.int 1)) qNil))) qhNil))))))))) (qRet (qC (.bl false))) qNx)
    (qSeq (qIfS (qAnd (qTest (qBin (oSw .ratio (oOwnN .ratio cmt c_Ratio_uequ) oNe) (qVar 10) (qC (.int 0)))) (qNot (qTest (qCall c__law_is (qhVal (qMeth (kwC c_Ratio_over fk_Ratio_over_number) (qrVal .ratio (qVar 7)) (qHK qhNil (qCons (qVar 10) qNil))) (qhVal (qCall c__law_times (qhVal (qVar 5) (qhVal (qCall c__law_frac (qhVal (qC (.int 1)) (qhVal (qVar 10) qhNil))) qhNil))) qhNil)))))) (qRet (qC (.bl false))) qNx)
    (qSeq (qIfS (qOr (qNot (qTest (qCall c__law_is (qhVal (qCall c_as_ratio (qhVal (qVar 7) qhNil)) (qhVal (qVar 5) qhNil))))) (qOr (qNot (qTest (qCall c__law_is (qhVal (qCall (kwC c_as_ratio fk_as_ratio_given) (qHK qhNil (qCons (qVar 10) qNil))) (qhVal (qTup (qCons (qVar 10) (qCons (qC (.int 1)) qNil))) qhNil))))) (qNot (qTest (qCall c__law_signs (qhVal (qVar 7) (qhVal (qVar 8) (qhVal (qVar 5) (qhVal (qVar 10) qhNil))))))))) (qRet (qC (.bl false))) qNx)
    r_law_c))))
def r_law_n : QS := (qSeq (qSet 10 (qIf (qTest (qBin (oSw .ratio (oOwnC .ratio cmt c_Ratio_uequ) oEq) (qCall c__law_take (qhSlot 2 (qhVal (qC (.int 4)) qhNil))) (qC (.int 0)))) (qBin oIx (qVar 3) (qC (.int 0))) (qBin (oSw .ratio (oOwnR .ratio c_Ratio_usubu) oSub) (qCall c__law_take (qhSlot 2 (qhVal (qC (.int 2001)) qhNil))) (qC (.int 1000)))))
    r_law_b)
def r_law_m : QS := (qSeq (qIfS (qOr (qNot (qTest (qCall c__law_is (qhVal (qVar 7) (qhVal (qVar 5) qhNil))))) (qOr (qNot (qTest (qCall c__law_is (qhVal (qVar 8) (qhVal (qVar 6) qhNil))))) (qNot (qTest (qCall c__law_is (qhVal (qUn (oSw1 .ratio (oOwn1 .ratio c_Ratio_unegu) oNeg) (qVar 7)) (qhVal (qCall c__law_frac (qhVal (qBin (oSw .ratio (oOwnR .ratio c_Ratio_usubu) oSub) (qC (.int 0)) (qBin oIx (qVar 5) (qC (.int 0)))) (qhVal (qBin oIx (qVar 5) (qC (.int 1))) qhNil))) qhNil))))))) (qRet (qC (.bl false))) qNx)
    (qSeq (qSet 9 (qLst (qCons (qCall c__law_is (qhVal (qBin (oSw .ratio (oOwnR .ratio c_Ratio_uaddu) oAdd) (qVar 7) (qVar 8)) (qhVal (qCall c__law_plus (qhVal (qVar 5) (qhVal (qVar 6) qhNil))) qhNil))) (qCons (qCall c__law_is (qhVal (qBin (oSw .ratio (oOwnR .ratio c_Ratio_usubu) oSub) (qVar 7) (qVar 8)) (qhVal (qCall c__law_minus (qhVal (qVar 5) (qhVal (qVar 6) qhNil))) qhNil))) qNil))))
    (qSeq (qIfS (qOr (qTest (qBin (oSw .ratio (oOwnN .ratio cmt c_Ratio_uequ) oNe) (qVar 9) (qLst (qCons (qC (.bl true)) (qCons (qC (.bl true)) qNil))))) (qOr (qNot (qTest (qCall c__law_is (qhVal (qBin (oSw .ratio (oOwnR .ratio c_Ratio_umulu) oMul) (qVar 7) (qVar 8)) (qhVal (qCall c__law_times (qhVal (qVar 5) (qhVal (qVar 6) qhNil))) qhNil))))) (qNot (qTest (qCall c__law_compared (qhVal (qVar 7) (qhVal (qVar 8) (qhVal (qVar 5) (qhVal (qVar 6) qhNil))))))))) (qRet (qC (.bl false))) qNx)
    (qSeq (qIfS (qAnd (qTest (qBin (oSw .ratio (oOwnN .ratio cmt c_Ratio_uequ) oNe) (qBin oIx (qVar 6) (qC (.int 0))) (qC (.int 0)))) (qNot (qTest (qCall c__law_is (qhVal (qMeth c_Ratio_over (qrVal .ratio (qVar 7)) (qhVal (qVar 8) qhNil)) (qhVal (qCall c__law_times (qhVal (qVar 5) (qhVal (qCall c__law_frac (qhVal (qBin oIx (qVar 6) (qC (.int 1))) (qhVal (qBin oIx (qVar 6) (qC (.int 0))) qhNil))) qhNil))) qhNil)))))) (qRet (qC (.bl false))) qNx)
    r_law_n))))
def r_law_a : QS := (qSeq (qSet 5 (qCall c__law_frac (qhVal (qBin oIx (qVar 3) (qC (.int 0))) (qhVal (qBin oIx (qVar 3) (qC (.int 1))) qhNil))))
    (qSeq (qSet 6 (qCall c__law_frac (qhVal (qBin oIx (qVar 4) (qC (.int 0))) (qhVal (qBin oIx (qVar 4) (qC (.int 1))) qhNil))))
    (qSeq (qSet 7 (qCall (mkC .ratio c_Ratio_uinitu) (qhVal (qBin oIx (qVar 3) (qC (.int 0))) (qhVal (qBin oIx (qVar 3) (qC (.int 1))) qhNil))))
    (qSeq (qSet 8 (qCall (mkC .ratio (kwS c_Ratio_uinitu fk_Ratio_uinitu_bottom_top)) (qHK qhNil (qCons (qBin oIx (qVar 4) (qC (.int 1))) (qCons (qBin oIx (qVar 4) (qC (.int 0))) qNil)))))
    r_law_m))))
def r_law_it : QS := (qSeq (qSetN 2 (qnCall c__law_box (qhVal (qVar 0) (qhVal (qVar 1) qhNil))))
    (qSeq (qSet 3 (qCall c__law_pick (qhSlot 2 qhNil)))
    (qSeq (qSet 4 (qIf (qTest (qBin (oSw .ratio (oOwnC .ratio cmt c_Ratio_uequ) oEq) (qCall c__law_take (qhSlot 2 (qhVal (qC (.int 5)) qhNil))) (qC (.int 0)))) (qLst (qCons (qBin (oSw .ratio (oOwnR .ratio c_Ratio_umulu) oMul) (qBin oIx (qVar 3) (qC (.int 0))) (qC (.int 3))) (qCons (qBin (oSw .ratio (oOwnR .ratio c_Ratio_umulu) oMul) (qBin oIx (qVar 3) (qC (.int 1))) (qC (.int 3))) qNil))) (qCall c__law_pick (qhSlot 2 qhNil))))
    r_law_a)))
def r_law_fin : QS := (qRet (qAndV (qBin (oSw .ratio (oOwnC .ratio cmt c_Ratio_uequ) oEq) (qUn oBot (qCall (mkC .ratio (dflt c_Ratio_uinitu dd_Ratio_uinitu)) (qhVal (qC (.int 7)) qhNil))) (qC (.int 1))) (qBin (oSw .ratio (oOwnC .ratio cmt c_Ratio_uequ) oEq) (qUn oBot (qCall (mkC .ratio c_Ratio_uinitu) (qhVal (qC (.int 0)) (qhVal (qUn oNeg (qC (.int 5))) qhNil)))) (qC (.int 1)))))
def r_law : QS := (qSeq (qFor (qRng1 (qB oMax (qCons (qC (.int 1)) (qCons (qB oMin (qCons (qC (.int 2)) (qCons (qB oLen (qCons (qVar 0) qNil)) qNil))) qNil)))) (gV 1) r_law_it)
    r_law_fin)
theorem _root_.Q.Sz.mono {n m : Nat} {q : Rat} (h : Sz n q) (l : n ≤ m) : Sz m q := ⟨h.num.mono l, h.den.mono l⟩
theorem sz_int {n : Int} (h : Bd 113 n) : Sz 113 (n : Rat) := ⟨h, show Bd 113 1 from bd_of (by decide)⟩
theorem neg0 (p : Rat) : -p = Rat.divInt (0 - p.num) (p.den : Int) := by
  rw [Int.zero_sub, neg_divInt]
theorem div0 (p q : Rat) : p / q = p * Rat.divInt (q.den : Int) q.num := by
  rw [Rat.div_def, Rat.inv_def]
def sl (f : Bool) (d : D) : Slot := match f with
  | true => .val d
  | false => .no
def bx (f : Bool) (o : MO) : Slot := match f with
  | true => .own o
  | false => .no
theorem bd1 : Bd 8999 1 := (bd_of (n := 10) (by decide)).mono (by decide)
/-- the last statements of a turn -/
theorem part_c (ns : List Int) (k a b c : Int) (p q : Rat) (n : Int) (d3 d4 d9 d11 : D) (f : Bool) (P : PEnds) (E : XP) (hk : 0 ≤ k) (hk1 : k ≤ 1) (hb : BoxOk a b c) (hp : Sz 113 p)
    (hnx : ∀ (o : MO) (d : D), P.nx [.val (.scr ns), .val (.int k), .own o, .val d3, .val d4, .val (tupR p), .val (tupR q), .val (.rat p), .val (.rat q), .val d9, .val (.int n), .val d]) :
    r_law_c [.val (.scr ns), .val (.int k), .own (.lst [.int a, .int b, .int c]), .val d3, .val d4, .val (tupR p), .val (tupR q), .val (.rat p), .val (.rat q), .val d9, .val (.int n), sl f d11] P E := by
  cases f <;>
  · refine ⟨Nat.le_of_ble_eq_true rfl, Nat.le_of_ble_eq_true rfl, Nat.le_of_ble_eq_true rfl, a, b, c, 7, rfl, hb, by decide, (bd_of (n := 10) (by decide)).mono (by decide), fun r a1 b1 h1 h2 h3 h4 h5 => ?_⟩
    have hr7 : r = 0 ∨ r = 1 ∨ r = 2 ∨ r = 3 ∨ r = 4 ∨ r = 5 ∨ r = 6 := by omega
    have hk2 : k = 0 ∨ k = 1 := by omega
    have z1 : Rat.divInt 0 1 = 0 := by decide
    rcases hr7 with rfl | rfl | rfl | rfl | rfl | rfl | rfl <;>
    · refine ⟨_, rfl, 1, 1, rfl, bd1, (fun h => by cases h), fun _ => ⟨_, rfl, _, _, rfl, rfl, 0, 1, rfl, bd1, (fun h => by cases h), fun _ => ⟨_, rfl, _, _, rfl, rfl, _, rfl, by simp [odds], 0, 1, rfl, bd1, (fun h => by cases h), fun _ => ⟨_, rfl, ?_⟩⟩⟩⟩
      rcases hk2 with rfl | rfl
      · exact ⟨Nat.le_of_ble_eq_true rfl, by decide, _, rfl, p, .int 0, rfl, rfl, rfl, hp.mono (by decide), hnx _ _⟩
      · exact ⟨Nat.le_of_ble_eq_true rfl, by decide, _, rfl, p, .rat (Rat.divInt 0 1), rfl, rfl, congrArg some z1, hp.mono (by decide), hnx _ _⟩
/-- the sums with a whole number -/
theorem part_b (ns : List Int) (k a b c : Int) (p q : Rat) (n : Int) (d3 d4 d9 d11 : D) (f : Bool) (P : PEnds) (E : XP) (hk : 0 ≤ k) (hk1 : k ≤ 1) (hb : BoxOk a b c) (hp : Sz 113 p) (hq : Sz 113 q) (hn : Bd 113 n)
    (hnx : ∀ (o : MO) (d9 d : D), P.nx [.val (.scr ns), .val (.int k), .own o, .val d3, .val d4, .val (tupR p), .val (tupR q), .val (.rat p), .val (.rat q), .val d9, .val (.int n), .val d]) :
    r_law_b [.val (.scr ns), .val (.int k), .own (.lst [.int a, .int b, .int c]), .val d3, .val d4, .val (tupR p), .val (tupR q), .val (.rat p), .val (.rat q), .val d9, .val (.int n), sl f d11] P E := by
  have p4 : Sz 4000 p := hp.mono (by decide)
  have n1 : Sz 4000 (n : Rat) := (sz_int hn).mono (by decide)
  cases f <;>
  · refine ⟨p, _, rfl, rfl, fun y hy => ?_, fun h => by cases h⟩
    cases hy
    refine ⟨p4, n1, Nat.le_of_ble_eq_true rfl, p, (n : Rat), rfl, p4, n1, _, _, rfl, ?_⟩
    rw [decide_eq_true rfl]
    refine ⟨p, _, rfl, rfl, fun y hy => ?_, fun h => by cases h⟩
    cases hy
    refine ⟨p4, n1, Nat.le_of_ble_eq_true rfl, p, (n : Rat), rfl, p4, n1, _, _, rfl, ?_⟩
    rw [decide_eq_true rfl]
    refine ⟨Nat.le_of_ble_eq_true rfl, Nat.le_of_ble_eq_true rfl, rfl, rfl, ?_⟩
    refine ⟨p, _, rfl, rfl, fun y hy => ?_, fun h => by cases h⟩
    cases hy
    refine ⟨p4, n1, Nat.le_of_ble_eq_true rfl, p, (n : Rat), rfl, p4, n1, _, _, rfl, ?_⟩
    rw [decide_eq_true rfl]
    refine ⟨Nat.le_of_ble_eq_true rfl, p, (n : Rat), .int n, rfl, rfl, rfl, p4, n1, rfl, rfl, ?_⟩
    have rest : ∀ f, (qSeq (qIfS (qOr (qNot (qTest (qCall c__law_is (qhVal (qCall c_as_ratio (qhVal (qVar 7) qhNil)) (qhVal (qVar 5) qhNil))))) (qOr (qNot (qTest (qCall c__law_is (qhVal (qCall (kwC c_as_ratio fk_as_ratio_given) (qHK qhNil (qCons (qVar 10) qNil))) (qhVal (qTup (qCons (qVar 10) (qCons (qC (.int 1)) qNil))) qhNil))))) (qNot (qTest (qCall c__law_signs (qhVal (qVar 7) (qhVal (qVar 8) (qhVal (qVar 5) (qhVal (qVar 10) qhNil))))))))) (qRet (qC (.bl false))) qNx) r_law_c) [.val (.scr ns), .val (.int k), .own (.lst [.int a, .int b, .int c]), .val d3, .val d4, .val (tupR p), .val (tupR q), .val (.rat p), .val (.rat q), .val (.lst [.bl true, .bl true]), .val (.int n), sl f d11] P E := by
      intro f
      refine ⟨_, rfl, rfl, fun y hy => ?_, fun h => by cases h⟩
      cases hy
      refine ⟨hp.mono (by decide), p, p, rfl, ?_⟩
      rw [decide_eq_true rfl]
      refine ⟨_, rfl, rfl, fun y hy => ?_, fun h => by cases h⟩
      cases hy
      refine ⟨(sz_int hn).mono (by decide), Nat.le_of_ble_eq_true rfl, (n : Rat), (n : Rat), rfl, ?_⟩
      rw [decide_eq_true rfl]
      refine ⟨p, q, n, rfl, hp.mono (by decide), hq.mono (by decide), hn.mono (by decide), ?_⟩
      exact part_c ns k a b c p q n d3 d4 _ d11 f P E hk hk1 hb hp (fun o d => hnx o _ d)
    show (match !PyData.eqv (.int n) (.int 0) with | true => _ | false => _)
    rw [eqv_int]
    by_cases h0 : n = 0
    · have e : (!(n == 0)) = false := by simp [h0]
      rw [e]
      exact rest _
    · have e : (!(n == 0)) = true := by simp [h0]
      rw [e]
      refine ⟨p, _, rfl, rfl, fun y hy => ?_, fun h => by cases h⟩
      cases hy
      have hz : (n : Rat) ≠ 0 := fun e => h0 (congrArg Rat.num e)
      have s2 : Sz 4000 (Rat.divInt 1 n) := (divInt_sz (n := 113) (bd_of (by decide)) hn h0).mono (by decide)
      refine ⟨p4, n1, (fun h => absurd h hz), fun _ => ?_⟩
      refine ⟨1, n, rfl, h0, hn.mono (by decide), p, _, rfl, p4, s2, _, _, rfl, ?_⟩
      rw [decide_eq_true (show p / (n : Rat) = p * Rat.divInt 1 n from div0 p (n : Rat))]
      exact rest _
theorem part_n (ns : List Int) (k a b c u v : Int) (p q : Rat) (d4 d9 d10 d11 : D) (f : Bool) (P : PEnds) (E : XP) (hk : 0 ≤ k) (hk1 : k ≤ 1) (hb : BoxOk a b c) (hb9 : b < 900000) (hp : Sz 113 p) (hq : Sz 113 q) (hu : Bd 110 u)
    (hnx : ∀ (o : MO) (d3 d4 d9 d10 d : D), P.nx [.val (.scr ns), .val (.int k), .own o, .val d3, .val d4, .val (tupR p), .val (tupR q), .val (.rat p), .val (.rat q), .val d9, .val d10, .val d]) :
    r_law_n [.val (.scr ns), .val (.int k), .own (.lst [.int a, .int b, .int c]), .val (.lst [.int u, .int v]), .val d4, .val (tupR p), .val (tupR q), .val (.rat p), .val (.rat q), .val d9, sl f d10, sl f d11] P E := by
  have hc0 := hb.hc
  have hc1 := hb.hc2
  cases f <;>
  · refine ⟨a, b, c, 4, rfl, hb, by decide, (bd_of (n := 10) (by decide)).mono (by decide), fun r a1 b1 h1 h2 h3 h4 h5 => ⟨rfl, rfl, ?_⟩⟩
    show (match PyData.eqv (.int r) (.int 0) with | true => _ | false => _)
    rw [eqv_int]
    cases (r == 0) with
    | true => exact ⟨_, rfl, part_b ns k a1 b1 c p q u _ d4 d9 d11 _ P E hk hk1 ⟨h3, h4, by omega, hc0, hc1⟩ hp hq (hu.mono (by decide)) (fun o d9 d => hnx o _ _ _ _ d)⟩
    | false =>
      refine ⟨a1, b1, c, 2001, rfl, ⟨h3, h4, by omega, hc0, hc1⟩, by decide, (bd_of (n := 20) (by decide)).mono (by decide), fun r2 a2 b2 g1 g2 g3 g4 g5 => ?_⟩
      exact part_b ns k a2 b2 c p q (r2 - 1000) _ d4 d9 d11 _ P E hk hk1 ⟨g3, g4, by omega, hc0, hc1⟩ hp hq ((bd110 (by omega) (by omega)).mono (by decide)) (fun o d9 d => hnx o _ _ _ _ d)
theorem part_m (ns : List Int) (k a b c u v : Int) (p q : Rat) (d4 d9 d10 d11 : D) (f : Bool) (P : PEnds) (E : XP) (hk : 0 ≤ k) (hk1 : k ≤ 1) (hb : BoxOk a b c) (hb9 : b < 900000) (hp : Sz 113 p) (hq : Sz 113 q) (hu : Bd 110 u)
    (hnx : ∀ (o : MO) (d3 d4 d9 d10 d : D), P.nx [.val (.scr ns), .val (.int k), .own o, .val d3, .val d4, .val (tupR p), .val (tupR q), .val (.rat p), .val (.rat q), .val d9, .val d10, .val d]) :
    r_law_m [.val (.scr ns), .val (.int k), .own (.lst [.int a, .int b, .int c]), .val (.lst [.int u, .int v]), .val d4, .val (tupR p), .val (tupR q), .val (.rat p), .val (.rat q), sl f d9, sl f d10, sl f d11] P E := by
  have p4 : Sz 4000 p := hp.mono (by decide)
  have q4 : Sz 4000 q := hq.mono (by decide)
  cases f <;>
  · refine ⟨p, p, rfl, ?_⟩
    rw [decide_eq_true rfl]
    refine ⟨q, q, rfl, ?_⟩
    rw [decide_eq_true rfl]
    refine ⟨p, rfl, hp.mono (by decide), _, rfl, _, rfl, _, _, rfl, den_ne p, hp.den.mono (by decide), _, _, rfl, ?_⟩
    rw [decide_eq_true (neg0 p)]
    refine ⟨p, _, rfl, rfl, fun y hy => ?_, fun h => by cases h⟩
    cases hy
    refine ⟨p4, q4, p, q, rfl, p4, q4, _, _, rfl, ?_⟩
    rw [decide_eq_true rfl]
    refine ⟨p, _, rfl, rfl, fun y hy => ?_, fun h => by cases h⟩
    cases hy
    refine ⟨p4, q4, p, q, rfl, p4, q4, _, _, rfl, ?_⟩
    rw [decide_eq_true rfl]
    refine ⟨Nat.le_of_ble_eq_true rfl, Nat.le_of_ble_eq_true rfl, rfl, rfl, ?_⟩
    refine ⟨p, _, rfl, rfl, fun y hy => ?_, fun h => by cases h⟩
    cases hy
    refine ⟨p4, q4, p, q, rfl, p4, q4, _, _, rfl, ?_⟩
    rw [decide_eq_true rfl]
    refine ⟨p, q, .rat q, rfl, rfl, rfl, p4, q4, _, rfl, rfl, rfl, ?_⟩
    show (match !PyData.eqv (.int q.num) (.int 0) with | true => _ | false => _)
    rw [eqv_int]
    by_cases h0 : q.num = 0
    · have e : (!(q.num == 0)) = false := by simp [h0]
      rw [e]
      exact part_n ns k a b c u v p q d4 _ d10 d11 _ P E hk hk1 hb hb9 hp hq hu hnx
    · have e : (!(q.num == 0)) = true := by simp [h0]
      rw [e]
      refine ⟨p, _, rfl, rfl, fun y hy => ?_, fun h => by cases h⟩
      cases hy
      have hz : q ≠ 0 := fun e => h0 (by rw [e]; rfl)
      have s2 : Sz 4000 (Rat.divInt (q.den : Int) q.num) := (divInt_sz hq.den hq.num h0).mono (by decide)
      refine ⟨p4, q4, (fun h => absurd h hz), fun _ => ?_⟩
      refine ⟨_, rfl, _, rfl, _, _, rfl, h0, hq.num.mono (by decide), p, _, rfl, p4, s2, _, _, rfl, ?_⟩
      rw [decide_eq_true (div0 p q)]
      exact part_n ns k a b c u v p q d4 _ d10 d11 _ P E hk hk1 hb hb9 hp hq hu hnx
theorem part_a (ns : List Int) (k a b c u v u2 v2 : Int) (d5 d6 d7 d8 d9 d10 d11 : D) (f : Bool) (P : PEnds) (E : XP) (hk : 0 ≤ k) (hk1 : k ≤ 1) (hb : BoxOk a b c) (hb9 : b < 900000) (hv : v ≠ 0) (hu : Bd 110 u) (hv1 : Bd 110 v) (hv2 : v2 ≠ 0) (hu3 : Bd 113 u2) (hv3 : Bd 113 v2)
    (hnx : ∀ (o : MO) (d3 d4 d5 d6 d7 d8 d9 d10 d : D), P.nx [.val (.scr ns), .val (.int k), .own o, .val d3, .val d4, .val d5, .val d6, .val d7, .val d8, .val d9, .val d10, .val d]) :
    r_law_a [.val (.scr ns), .val (.int k), .own (.lst [.int a, .int b, .int c]), .val (.lst [.int u, .int v]), .val (.lst [.int u2, .int v2]), sl f d5, sl f d6, sl f d7, sl f d8, sl f d9, sl f d10, sl f d11] P E := by
  have s1 : Sz 113 (Rat.divInt u v) := divInt_sz (hu.mono (by decide)) (hv1.mono (by decide)) hv
  have s2 : Sz 113 (Rat.divInt u2 v2) := divInt_sz hu3 hv3 hv2
  cases f <;>
  · refine ⟨_, rfl, _, rfl, u, v, rfl, hv, hv1.mono (by decide), _, rfl, _, rfl, u2, v2, rfl, hv2, hv3.mono (by decide), _, rfl, _, rfl, u, v, rfl, hv1.mono (by decide), (fun h => absurd h hv), fun _ => ⟨_, rfl, _, rfl, _, rfl, u2, v2, rfl, hv3.mono (by decide), (fun h => absurd h hv2), fun _ => ⟨_, rfl, ?_⟩⟩⟩
    exact part_m ns k a b c u v _ _ _ d9 d10 d11 _ P E hk hk1 hb hb9 s1 s2 hu (fun o d3 d4 d9 d10 d => hnx o d3 d4 _ _ _ _ d9 d10 d)
theorem part_it (ns : List Int) (k : Int) (o : MO) (d3 d4 d5 d6 d7 d8 d9 d10 d11 : D) (f : Bool) (P : PEnds) (E : XP) (hk : 0 ≤ k) (hk1 : k ≤ 1)
    (hnx : ∀ (o : MO) (d3 d4 d5 d6 d7 d8 d9 d10 d : D), P.nx [.val (.scr ns), .val (.int k), .own o, .val d3, .val d4, .val d5, .val d6, .val d7, .val d8, .val d9, .val d10, .val d]) :
    r_law_it [.val (.scr ns), .val (.int k), bx f o, sl f d3, sl f d4, sl f d5, sl f d6, sl f d7, sl f d8, sl f d9, sl f d10, sl f d11] P E := by
  have bk : Bd 100 k := by
    have : k = 0 ∨ k = 1 := by omega
    rcases this with rfl | rfl <;> exact bd_of (by decide)
  have b3 : Bd 2 3 := bd_of (by decide)
  cases f <;>
  · refine ⟨ns, k, rfl, hk, bk, fun a ha => ?_⟩
    refine ⟨a, 0, 40503 * k + 911, rfl, ⟨ha, by decide, by decide, by omega, by omega⟩, by decide, fun u v a1 b1 hv hu1 hv1 h3 h4 h5 => ?_⟩
    refine ⟨a1, b1, 40503 * k + 911, 5, rfl, ⟨h3, h4, by omega, by omega, by omega⟩, by decide, (bd_of (n := 10) (by decide)).mono (by decide), fun r a2 b2 g1 g2 g3 g4 g5 => ⟨rfl, rfl, ?_⟩⟩
    show (match PyData.eqv (.int r) (.int 0) with | true => _ | false => _)
    rw [eqv_int]
    cases (r == 0) with
    | true =>
      refine ⟨_, rfl, mul_ok hu1 b3 (by decide), _, rfl, mul_ok hv1 b3 (by decide), Nat.le_of_ble_eq_true rfl, ?_⟩
      exact part_a ns k a2 b2 _ u v (u * 3) (v * 3) d5 d6 d7 d8 d9 d10 d11 _ P E hk hk1 ⟨g3, g4, by omega, by omega, by omega⟩ (by omega) hv hu1 hv1 (by omega) ((hu1.mul b3).mono (by decide)) ((hv1.mul b3).mono (by decide)) hnx
    | false =>
      refine ⟨a2, b2, 40503 * k + 911, rfl, ⟨g3, g4, by omega, by omega, by omega⟩, by omega, fun u2 v2 a3 b3 hv2 hu2 hv3 i3 i4 i5 => ?_⟩
      exact part_a ns k a3 b3 _ u v u2 v2 d5 d6 d7 d8 d9 d10 d11 _ P E hk hk1 ⟨i3, i4, by omega, by omega, by omega⟩ (by omega) hv hu1 hv1 hv2 (hu2.mono (by decide)) (hv3.mono (by decide)) hnx
theorem len_law : ∀ args Q E, c_law args Q E → args.length = ps_law.length := by
  rintro args Q E ⟨_, rfl, _⟩
  rfl
theorem pure_law : ∀ args Q E, c_law args Q E → r_law (startE N_law.length args) (endsC args Q) (exnC args E) := by
  rintro args Q E ⟨ns, rfl, hl, hq⟩
  have e7 : (Rat.divInt 7 1).den = 1 := by decide
  have e0 : (Rat.divInt 0 (-5)).den = 1 := by decide
  have fin : ∀ (k : Int) (o : MO) (d3 d4 d5 d6 d7 d8 d9 d10 d : D), r_law_fin [.val (.scr ns), .val (.int k), .own o, .val d3, .val d4, .val d5, .val d6, .val d7, .val d8, .val d9, .val d10, .val d] (endsC [.val (.scr ns)] Q) (exnC [.val (.scr ns)] E) := by
    intro k o d3 d4 d5 d6 d7 d8 d9 d10 d
    refine ⟨7, 1, rfl, bd1, (fun h => by cases h), fun _ => ⟨_, rfl, rfl, rfl, ?_⟩⟩
    rw [e7]
    refine ⟨0, -5, rfl, (bd_of (n := 10) (by decide)).mono (by decide), (fun h => by cases h), fun _ => ⟨_, rfl, rfl, rfl, ?_⟩⟩
    show Q (.bl (PyData.eqv (.int ((Rat.divInt 0 (-5)).den : Int)) (.int 1))) _
    rw [e0]
    exact hq
  have hm : (if (if (ns.length : Int) < 2 then (ns.length : Int) else 2) > 1 then (if (ns.length : Int) < 2 then (ns.length : Int) else 2) else 1) = 1 ∨ (if (if (ns.length : Int) < 2 then (ns.length : Int) else 2) > 1 then (if (ns.length : Int) < 2 then (ns.length : Int) else 2) else 1) = 2 := by
    by_cases h1 : (ns.length : Int) < 2
    · rw [if_pos h1]
      by_cases h2 : (ns.length : Int) > 1
      · omega
      · rw [if_neg h2]
        exact .inl rfl
    · rw [if_neg h1]
      exact .inr rfl
  have go : ∀ m : Int, m = 1 ∨ m = 2 → m ≤ 100000 ∧ -100000 ≤ m ∧ qLoop none (gV 1) r_law_it ((List.range m.toNat).map fun i : Nat => D.int (i : Int)) (startE N_law.length [.val (.scr ns)]) { endsC [.val (.scr ns)] Q with nx := fun Γ1 => r_law_fin Γ1 (endsC [.val (.scr ns)] Q) (exnC [.val (.scr ns)] E) } (exnC [.val (.scr ns)] E) := by
    intro m h
    rcases h with rfl | rfl
    · refine ⟨by decide, by decide, ?_⟩
      exact part_it ns 0 (.lst []) .non .non .non .non .non .non .non .non .non false _ _ (by decide) (by decide) (fun o d3 d4 d5 d6 d7 d8 d9 d10 d => fin 0 o d3 d4 d5 d6 d7 d8 d9 d10 d)
    · refine ⟨by decide, by decide, ?_⟩
      exact part_it ns 0 (.lst []) .non .non .non .non .non .non .non .non .non false _ _ (by decide) (by decide) (fun o d3 d4 d5 d6 d7 d8 d9 d10 d =>
      part_it ns 1 o d3 d4 d5 d6 d7 d8 d9 d10 d true _ _ (by decide) (by decide) (fun o d3 d4 d5 d6 d7 d8 d9 d10 d => fin 1 o d3 d4 d5 d6 d7 d8 d9 d10 d))
  exact go _ hm
theorem ok_law {P : Program} {w : World} {K : Frag} {mg : Str → Option Value} {base : Heap} (W : Wd K mg) (Fn : ∃ fd, FunD K d_law.name d_law.qual d_law.params d_law.body d_law.scope (d_law.dvs K) (d_law.kws K) (fAd K d_law.at_) fd) (h__law_box : FnB P w K mg base d__law_box 5 ps__law_box c__law_box) (h__law_pick : FnB P w K mg base d__law_pick 5 ps__law_pick c__law_pick) (h_Ratio_uequ : FnB P w K mg base d_Ratio_uequ 8 ps_Ratio_uequ c_Ratio_uequ) (h__law_take : FnB P w K mg base d__law_take 2 ps__law_take c__law_take) (h_Ratio_umulu : FnB P w K mg base d_Ratio_umulu 11 ps_Ratio_umulu c_Ratio_umulu) (h__law_frac : FnB P w K mg base d__law_frac 2 ps__law_frac c__law_frac) (h_Ratio_uinitu : FnB P w K mg base d_Ratio_uinitu 5 ps_Ratio_uinitu c_Ratio_uinitu) (h__law_is : FnB P w K mg base d__law_is 2 ps__law_is c__law_is) (h_Ratio_usubu : FnB P w K mg base d_Ratio_usubu 11 ps_Ratio_usubu c_Ratio_usubu) (h_Ratio_unegu : FnB P w K mg base d_Ratio_unegu 8 ps_Ratio_unegu c_Ratio_unegu) (h__law_plus : FnB P w K mg base d__law_plus 5 ps__law_plus c__law_plus) (h_Ratio_uaddu : FnB P w K mg base d_Ratio_uaddu 11 ps_Ratio_uaddu c_Ratio_uaddu) (h__law_minus : FnB P w K mg base d__law_minus 5 ps__law_minus c__law_minus) (h__law_times : FnB P w K mg base d__law_times 5 ps__law_times c__law_times) (h__law_compared : FnB P w K mg base d__law_compared 14 ps__law_compared c__law_compared) (h_Ratio_over : FnB P w K mg base d_Ratio_over 11 ps_Ratio_over c_Ratio_over) (h_as_ratio : FnB P w K mg base d_as_ratio 11 ps_as_ratio c_as_ratio) (h__law_signs : FnB P w K mg base d__law_signs 14 ps__law_signs c__law_signs) (h__law_refused : FnBG P w K mg base d__law_refused 14 ps__law_refused c__law_refused) (h__law_zero : FnB P w K mg base d__law_zero 14 ps__law_zero c__law_zero) : FnBG P w K mg base d_law 17 ps_law c_law := by
  refine FnBG.of (N := N_law) (r := r_law) Fn sc_law len_law pure_law ?_
  intro f cdv A outer s H E0 hr hgd G0 H0 B pin xa xd xc E tk hp
  have sc := sc_law
  have hu := roomU hr
  exact (lss_cons (ls_for hp rfl (li_rng1 W.f_range (le_b (bl_max rfl) (la_cons le_int (la_cons (le_b (bl_min rfl) (la_cons le_int (la_cons (le_b (bl_len rfl) (la_cons (le_var 0) la_nil) W.f_len) la_nil)) W.f_min) la_nil)) W.f_max)) (lg_name 1 sc.nd) (lss_cons (ls_setN 2 sc.nd (ln_call (h__law_box.all rfl rfl rfl rfl rfl rfl (hr.mono (by decide : 5 ≤ 16)) rfl rfl bd__law_box) W.g__law_box h__law_box.kp tk (lc_p (lh_val (le_var 0) (lh_val (le_var 1) lh_nil)))))
    (lss_cons (ls_set 3 sc.nd (le_callC (h__law_pick.all rfl rfl rfl rfl rfl rfl (hr.mono (by decide : 5 ≤ 16)) rfl rfl bd__law_pick) W.g__law_pick h__law_pick.kp tk (lc_p (lh_slot 2 lh_nil))))
    (lss_cons (ls_set 4 sc.nd (le_if (lt_cmp (ol_sw (ol_cmp rfl hr (fun _ _ => rfl) W.nf_Ratio (cmp_ok (op := .Eq) rfl W.m_Ratio_uequ) (h_Ratio_uequ.all rfl rfl rfl rfl rfl rfl (hr.mono (by decide : 8 ≤ 16)) rfl rfl bd_Ratio_uequ) tk) (ol_eq rfl hr)) (le_callC (h__law_take.all rfl rfl rfl rfl rfl rfl (hr.mono (by decide : 2 ≤ 16)) rfl rfl bd__law_take) W.g__law_take h__law_take.kp tk (lc_p (lh_slot 2 (lh_val le_int lh_nil)))) le_int) (le_lst (la_cons (le_bin (ol_sw (ol_own rfl (op_ok (op := .Mult) rfl W.first_Ratio W.m_Ratio_umulu) (pOpT_ok W.opt_Ratio_umulu) (h_Ratio_umulu.all rfl rfl rfl rfl rfl rfl (hr.mono (by decide : 11 ≤ 16)) rfl rfl bd_Ratio_umulu) tk) ol_mul) (le_ix (il_ix rfl) (le_var 3) le_int) le_int) (la_cons (le_bin (ol_sw (ol_own rfl (op_ok (op := .Mult) rfl W.first_Ratio W.m_Ratio_umulu) (pOpT_ok W.opt_Ratio_umulu) (h_Ratio_umulu.all rfl rfl rfl rfl rfl rfl (hr.mono (by decide : 11 ≤ 16)) rfl rfl bd_Ratio_umulu) tk) ol_mul) (le_ix (il_ix rfl) (le_var 3) le_int) le_int) la_nil))) (le_callC (h__law_pick.all rfl rfl rfl rfl rfl rfl (hr.mono (by decide : 5 ≤ 16)) rfl rfl bd__law_pick) W.g__law_pick h__law_pick.kp tk (lc_p (lh_slot 2 lh_nil)))))
    (lss_cons (ls_set 5 sc.nd (le_callC (h__law_frac.all rfl rfl rfl rfl rfl rfl (hr.mono (by decide : 2 ≤ 16)) rfl rfl bd__law_frac) W.g__law_frac h__law_frac.kp tk (lc_p (lh_val (le_ix (il_ix rfl) (le_var 3) le_int) (lh_val (le_ix (il_ix rfl) (le_var 3) le_int) lh_nil)))))
    (lss_cons (ls_set 6 sc.nd (le_callC (h__law_frac.all rfl rfl rfl rfl rfl rfl (hr.mono (by decide : 2 ≤ 16)) rfl rfl bd__law_frac) W.g__law_frac h__law_frac.kp tk (lc_p (lh_val (le_ix (il_ix rfl) (le_var 4) le_int) (lh_val (le_ix (il_ix rfl) (le_var 4) le_int) lh_nil)))))
    (lss_cons (ls_set 7 sc.nd (le_callC (code_make (pMk_ok W.mk_Ratio) fun us kw => (h_Ratio_uinitu.full rfl rfl rfl rfl rfl rfl ((hr.mono (by decide : 5 + 1 ≤ 16)).make _ us kw) (List.cons_ne_nil _ _) rfl bdf_Ratio_uinitu)) W.g_Ratio W.mk_Ratio.2.2.2 tk (lc_p (lh_val (le_ix (il_ix rfl) (le_var 3) le_int) (lh_val (le_ix (il_ix rfl) (le_var 3) le_int) lh_nil)))))
    (lss_cons (ls_set 8 sc.nd (le_callC (code_make (pMk_ok W.mk_Ratio) fun us kw => (h_Ratio_uinitu.kwSD (g := @gk_Ratio_uinitu_bottom_top) (gW := gw_Ratio_uinitu_bottom_top) (fD := fk_Ratio_uinitu_bottom_top) rfl rfl rfl rfl rfl rfl ((hr.mono (by decide : 5 + 1 ≤ 16)).make _ us kw) (List.cons_ne_nil _ _) kb_Ratio_uinitu_bottom_top kr_Ratio_uinitu_bottom_top kg_Ratio_uinitu_bottom_top kl_Ratio_uinitu_bottom_top kf_Ratio_uinitu_bottom_top)) W.g_Ratio W.mk_Ratio.2.2.2 tk (lc_k (lk_cons (le_ix (il_ix rfl) (le_var 4) le_int) (lk_cons (le_ix (il_ix rfl) (le_var 4) le_int) lk_nil)) (hn := hn2))))
    (lss_cons (ls_if (lw_or (lt_not (lt_val (le_callC (h__law_is.all rfl rfl rfl rfl rfl rfl (hr.mono (by decide : 2 ≤ 16)) rfl rfl bd__law_is) W.g__law_is h__law_is.kp tk (lc_p (lh_val (le_var 7) (lh_val (le_var 5) lh_nil)))))) (lw_or (lt_not (lt_val (le_callC (h__law_is.all rfl rfl rfl rfl rfl rfl (hr.mono (by decide : 2 ≤ 16)) rfl rfl bd__law_is) W.g__law_is h__law_is.kp tk (lc_p (lh_val (le_var 8) (lh_val (le_var 6) lh_nil)))))) (lw_or1 (lt_not (lt_val (le_callC (h__law_is.all rfl rfl rfl rfl rfl rfl (hr.mono (by decide : 2 ≤ 16)) rfl rfl bd__law_is) W.g__law_is h__law_is.kp tk (lc_p (lh_val (le_un (ul_sw (ul_own rfl (neg_ok W.m_Ratio_unegu) (h_Ratio_unegu.all rfl rfl rfl rfl rfl rfl (hr.mono (by decide : 8 ≤ 16)) rfl rfl bd_Ratio_unegu) tk) ul_neg) (le_var 7)) (lh_val (le_callC (h__law_frac.all rfl rfl rfl rfl rfl rfl (hr.mono (by decide : 2 ≤ 16)) rfl rfl bd__law_frac) W.g__law_frac h__law_frac.kp tk (lc_p (lh_val (le_bin (ol_sw (ol_own rfl (op_ok (op := .Sub) rfl W.first_Ratio W.m_Ratio_usubu) (pOpT_ok W.opt_Ratio_usubu) (h_Ratio_usubu.all rfl rfl rfl rfl rfl rfl (hr.mono (by decide : 11 ≤ 16)) rfl rfl bd_Ratio_usubu) tk) ol_sub) le_int (le_ix (il_ix rfl) (le_var 5) le_int)) (lh_val (le_ix (il_ix rfl) (le_var 5) le_int) lh_nil)))) lh_nil))))))))).lt (lss_one (ls_ret le_bl)) lss_nil)
    (lss_cons (ls_set 9 sc.nd (le_lst (la_cons (le_callC (h__law_is.all rfl rfl rfl rfl rfl rfl (hr.mono (by decide : 2 ≤ 16)) rfl rfl bd__law_is) W.g__law_is h__law_is.kp tk (lc_p (lh_val (le_bin (ol_sw (ol_own rfl (op_ok (op := .Add) rfl W.first_Ratio W.m_Ratio_uaddu) (pOpT_ok W.opt_Ratio_uaddu) (h_Ratio_uaddu.all rfl rfl rfl rfl rfl rfl (hr.mono (by decide : 11 ≤ 16)) rfl rfl bd_Ratio_uaddu) tk) ol_add) (le_var 7) (le_var 8)) (lh_val (le_callC (h__law_plus.all rfl rfl rfl rfl rfl rfl (hr.mono (by decide : 5 ≤ 16)) rfl rfl bd__law_plus) W.g__law_plus h__law_plus.kp tk (lc_p (lh_val (le_var 5) (lh_val (le_var 6) lh_nil)))) lh_nil)))) (la_cons (le_callC (h__law_is.all rfl rfl rfl rfl rfl rfl (hr.mono (by decide : 2 ≤ 16)) rfl rfl bd__law_is) W.g__law_is h__law_is.kp tk (lc_p (lh_val (le_bin (ol_sw (ol_own rfl (op_ok (op := .Sub) rfl W.first_Ratio W.m_Ratio_usubu) (pOpT_ok W.opt_Ratio_usubu) (h_Ratio_usubu.all rfl rfl rfl rfl rfl rfl (hr.mono (by decide : 11 ≤ 16)) rfl rfl bd_Ratio_usubu) tk) ol_sub) (le_var 7) (le_var 8)) (lh_val (le_callC (h__law_minus.all rfl rfl rfl rfl rfl rfl (hr.mono (by decide : 5 ≤ 16)) rfl rfl bd__law_minus) W.g__law_minus h__law_minus.kp tk (lc_p (lh_val (le_var 5) (lh_val (le_var 6) lh_nil)))) lh_nil)))) la_nil))))
    (lss_cons (ls_if (lw_or (lt_cmp (ol_sw (ol_cmpN rfl hr W.nf_Ratio (ne_ok W.c_Ratio W.ne_Ratio W.m_Ratio_uequ) (h_Ratio_uequ.all (A := Around.in1 _) rfl rfl rfl rfl rfl rfl (hr.mono (by decide : 8 + 1 ≤ 16)).in1 rfl rfl bd_Ratio_uequ) tk) (ol_ne rfl hr)) (le_var 9) (le_lst (la_cons le_bl (la_cons le_bl la_nil)))) (lw_or (lt_not (lt_val (le_callC (h__law_is.all rfl rfl rfl rfl rfl rfl (hr.mono (by decide : 2 ≤ 16)) rfl rfl bd__law_is) W.g__law_is h__law_is.kp tk (lc_p (lh_val (le_bin (ol_sw (ol_own rfl (op_ok (op := .Mult) rfl W.first_Ratio W.m_Ratio_umulu) (pOpT_ok W.opt_Ratio_umulu) (h_Ratio_umulu.all rfl rfl rfl rfl rfl rfl (hr.mono (by decide : 11 ≤ 16)) rfl rfl bd_Ratio_umulu) tk) ol_mul) (le_var 7) (le_var 8)) (lh_val (le_callC (h__law_times.all rfl rfl rfl rfl rfl rfl (hr.mono (by decide : 5 ≤ 16)) rfl rfl bd__law_times) W.g__law_times h__law_times.kp tk (lc_p (lh_val (le_var 5) (lh_val (le_var 6) lh_nil)))) lh_nil)))))) (lw_or1 (lt_not (lt_val (le_callC (h__law_compared.all rfl rfl rfl rfl rfl rfl (hr.mono (by decide : 14 ≤ 16)) rfl rfl bd__law_compared) W.g__law_compared h__law_compared.kp tk (lc_p (lh_val (le_var 7) (lh_val (le_var 8) (lh_val (le_var 5) (lh_val (le_var 6) lh_nil))))))))))).lt (lss_one (ls_ret le_bl)) lss_nil)
    (lss_cons (ls_if (lw_and (lt_cmp (ol_sw (ol_cmpN rfl hr W.nf_Ratio (ne_ok W.c_Ratio W.ne_Ratio W.m_Ratio_uequ) (h_Ratio_uequ.all (A := Around.in1 _) rfl rfl rfl rfl rfl rfl (hr.mono (by decide : 8 + 1 ≤ 16)).in1 rfl rfl bd_Ratio_uequ) tk) (ol_ne rfl hr)) (le_ix (il_ix rfl) (le_var 6) le_int) le_int) (lw_and1 (lt_not (lt_val (le_callC (h__law_is.all rfl rfl rfl rfl rfl rfl (hr.mono (by decide : 2 ≤ 16)) rfl rfl bd__law_is) W.g__law_is h__law_is.kp tk (lc_p (lh_val (le_methC (h_Ratio_over.all rfl rfl rfl rfl rfl rfl (hr.mono (by decide : 11 ≤ 16)) rfl rfl bd_Ratio_over) rfl W.kl_ratio (pMeth_ok W.m_Ratio_over) tk (lr_val (le_var 7)) (lc_p (lh_val (le_var 8) lh_nil))) (lh_val (le_callC (h__law_times.all rfl rfl rfl rfl rfl rfl (hr.mono (by decide : 5 ≤ 16)) rfl rfl bd__law_times) W.g__law_times h__law_times.kp tk (lc_p (lh_val (le_var 5) (lh_val (le_callC (h__law_frac.all rfl rfl rfl rfl rfl rfl (hr.mono (by decide : 2 ≤ 16)) rfl rfl bd__law_frac) W.g__law_frac h__law_frac.kp tk (lc_p (lh_val (le_ix (il_ix rfl) (le_var 6) le_int) (lh_val (le_ix (il_ix rfl) (le_var 6) le_int) lh_nil)))) lh_nil)))) lh_nil)))))))).lt (lss_one (ls_ret le_bl)) lss_nil)
    (lss_cons (ls_set 10 sc.nd (le_if (lt_cmp (ol_sw (ol_cmp rfl hr (fun _ _ => rfl) W.nf_Ratio (cmp_ok (op := .Eq) rfl W.m_Ratio_uequ) (h_Ratio_uequ.all rfl rfl rfl rfl rfl rfl (hr.mono (by decide : 8 ≤ 16)) rfl rfl bd_Ratio_uequ) tk) (ol_eq rfl hr)) (le_callC (h__law_take.all rfl rfl rfl rfl rfl rfl (hr.mono (by decide : 2 ≤ 16)) rfl rfl bd__law_take) W.g__law_take h__law_take.kp tk (lc_p (lh_slot 2 (lh_val le_int lh_nil)))) le_int) (le_ix (il_ix rfl) (le_var 3) le_int) (le_bin (ol_sw (ol_own rfl (op_ok (op := .Sub) rfl W.first_Ratio W.m_Ratio_usubu) (pOpT_ok W.opt_Ratio_usubu) (h_Ratio_usubu.all rfl rfl rfl rfl rfl rfl (hr.mono (by decide : 11 ≤ 16)) rfl rfl bd_Ratio_usubu) tk) ol_sub) (le_callC (h__law_take.all rfl rfl rfl rfl rfl rfl (hr.mono (by decide : 2 ≤ 16)) rfl rfl bd__law_take) W.g__law_take h__law_take.kp tk (lc_p (lh_slot 2 (lh_val le_int lh_nil)))) le_int)))
    (lss_cons (ls_set 9 sc.nd (le_lst (la_cons (le_callC (h__law_is.all rfl rfl rfl rfl rfl rfl (hr.mono (by decide : 2 ≤ 16)) rfl rfl bd__law_is) W.g__law_is h__law_is.kp tk (lc_p (lh_val (le_bin (ol_sw (ol_own rfl (op_ok (op := .Add) rfl W.first_Ratio W.m_Ratio_uaddu) (pOpT_ok W.opt_Ratio_uaddu) (h_Ratio_uaddu.all rfl rfl rfl rfl rfl rfl (hr.mono (by decide : 11 ≤ 16)) rfl rfl bd_Ratio_uaddu) tk) ol_add) (le_var 7) (le_var 10)) (lh_val (le_callC (h__law_plus.all rfl rfl rfl rfl rfl rfl (hr.mono (by decide : 5 ≤ 16)) rfl rfl bd__law_plus) W.g__law_plus h__law_plus.kp tk (lc_p (lh_val (le_var 5) (lh_val (le_tup (la_cons (le_var 10) (la_cons le_int la_nil))) lh_nil)))) lh_nil)))) (la_cons (le_callC (h__law_is.all rfl rfl rfl rfl rfl rfl (hr.mono (by decide : 2 ≤ 16)) rfl rfl bd__law_is) W.g__law_is h__law_is.kp tk (lc_p (lh_val (le_bin (ol_sw (ol_own rfl (op_ok (op := .Sub) rfl W.first_Ratio W.m_Ratio_usubu) (pOpT_ok W.opt_Ratio_usubu) (h_Ratio_usubu.all rfl rfl rfl rfl rfl rfl (hr.mono (by decide : 11 ≤ 16)) rfl rfl bd_Ratio_usubu) tk) ol_sub) (le_var 7) (le_var 10)) (lh_val (le_callC (h__law_minus.all rfl rfl rfl rfl rfl rfl (hr.mono (by decide : 5 ≤ 16)) rfl rfl bd__law_minus) W.g__law_minus h__law_minus.kp tk (lc_p (lh_val (le_var 5) (lh_val (le_tup (la_cons (le_var 10) (la_cons le_int la_nil))) lh_nil)))) lh_nil)))) la_nil))))
    (lss_cons (ls_if (lw_or (lt_cmp (ol_sw (ol_cmpN rfl hr W.nf_Ratio (ne_ok W.c_Ratio W.ne_Ratio W.m_Ratio_uequ) (h_Ratio_uequ.all (A := Around.in1 _) rfl rfl rfl rfl rfl rfl (hr.mono (by decide : 8 + 1 ≤ 16)).in1 rfl rfl bd_Ratio_uequ) tk) (ol_ne rfl hr)) (le_var 9) (le_lst (la_cons le_bl (la_cons le_bl la_nil)))) (lw_or (lt_not (lt_val (le_callC (h__law_is.all rfl rfl rfl rfl rfl rfl (hr.mono (by decide : 2 ≤ 16)) rfl rfl bd__law_is) W.g__law_is h__law_is.kp tk (lc_p (lh_val (le_bin (ol_sw (ol_own rfl (op_ok (op := .Mult) rfl W.first_Ratio W.m_Ratio_umulu) (pOpT_ok W.opt_Ratio_umulu) (h_Ratio_umulu.all rfl rfl rfl rfl rfl rfl (hr.mono (by decide : 11 ≤ 16)) rfl rfl bd_Ratio_umulu) tk) ol_mul) (le_var 7) (le_var 10)) (lh_val (le_callC (h__law_times.all rfl rfl rfl rfl rfl rfl (hr.mono (by decide : 5 ≤ 16)) rfl rfl bd__law_times) W.g__law_times h__law_times.kp tk (lc_p (lh_val (le_var 5) (lh_val (le_tup (la_cons (le_var 10) (la_cons le_int la_nil))) lh_nil)))) lh_nil)))))) (lw_or1 (lt_not (lt_val (le_callC (h__law_compared.all rfl rfl rfl rfl rfl rfl (hr.mono (by decide : 14 ≤ 16)) rfl rfl bd__law_compared) W.g__law_compared h__law_compared.kp tk (lc_p (lh_val (le_var 7) (lh_val (le_var 10) (lh_val (le_var 5) (lh_val (le_tup (la_cons (le_var 10) (la_cons le_int la_nil))) lh_nil))))))))))).lt (lss_one (ls_ret le_bl)) lss_nil)
    (lss_cons (ls_if (lw_and (lt_cmp (ol_sw (ol_cmpN rfl hr W.nf_Ratio (ne_ok W.c_Ratio W.ne_Ratio W.m_Ratio_uequ) (h_Ratio_uequ.all (A := Around.in1 _) rfl rfl rfl rfl rfl rfl (hr.mono (by decide : 8 + 1 ≤ 16)).in1 rfl rfl bd_Ratio_uequ) tk) (ol_ne rfl hr)) (le_var 10) le_int) (lw_and1 (lt_not (lt_val (le_callC (h__law_is.all rfl rfl rfl rfl rfl rfl (hr.mono (by decide : 2 ≤ 16)) rfl rfl bd__law_is) W.g__law_is h__law_is.kp tk (lc_p (lh_val (le_methC (h_Ratio_over.kw (g := @gk_Ratio_over_number) (fD := fk_Ratio_over_number) rfl rfl rfl rfl rfl rfl (hr.mono (by decide : 11 ≤ 16)) rfl kb_Ratio_over_number kr_Ratio_over_number kl_Ratio_over_number kf_Ratio_over_number) rfl W.kl_ratio (pMeth_ok W.m_Ratio_over) tk (lr_val (le_var 7)) (lc_k (lk_cons (le_var 10) lk_nil) (hn := hn1))) (lh_val (le_callC (h__law_times.all rfl rfl rfl rfl rfl rfl (hr.mono (by decide : 5 ≤ 16)) rfl rfl bd__law_times) W.g__law_times h__law_times.kp tk (lc_p (lh_val (le_var 5) (lh_val (le_callC (h__law_frac.all rfl rfl rfl rfl rfl rfl (hr.mono (by decide : 2 ≤ 16)) rfl rfl bd__law_frac) W.g__law_frac h__law_frac.kp tk (lc_p (lh_val le_int (lh_val (le_var 10) lh_nil)))) lh_nil)))) lh_nil)))))))).lt (lss_one (ls_ret le_bl)) lss_nil)
    (lss_cons (ls_if (lw_or (lt_not (lt_val (le_callC (h__law_is.all rfl rfl rfl rfl rfl rfl (hr.mono (by decide : 2 ≤ 16)) rfl rfl bd__law_is) W.g__law_is h__law_is.kp tk (lc_p (lh_val (le_callC (h_as_ratio.all rfl rfl rfl rfl rfl rfl (hr.mono (by decide : 11 ≤ 16)) rfl rfl bd_as_ratio) W.g_as_ratio h_as_ratio.kp tk (lc_p (lh_val (le_var 7) lh_nil))) (lh_val (le_var 5) lh_nil)))))) (lw_or (lt_not (lt_val (le_callC (h__law_is.all rfl rfl rfl rfl rfl rfl (hr.mono (by decide : 2 ≤ 16)) rfl rfl bd__law_is) W.g__law_is h__law_is.kp tk (lc_p (lh_val (le_callC (h_as_ratio.kw (g := @gk_as_ratio_given) (fD := fk_as_ratio_given) rfl rfl rfl rfl rfl rfl (hr.mono (by decide : 11 ≤ 16)) rfl kb_as_ratio_given kr_as_ratio_given kl_as_ratio_given kf_as_ratio_given) W.g_as_ratio h_as_ratio.kp tk (lc_k (lk_cons (le_var 10) lk_nil) (hn := hn1))) (lh_val (le_tup (la_cons (le_var 10) (la_cons le_int la_nil))) lh_nil)))))) (lw_or1 (lt_not (lt_val (le_callC (h__law_signs.all rfl rfl rfl rfl rfl rfl (hr.mono (by decide : 14 ≤ 16)) rfl rfl bd__law_signs) W.g__law_signs h__law_signs.kp tk (lc_p (lh_val (le_var 7) (lh_val (le_var 8) (lh_val (le_var 5) (lh_val (le_var 10) lh_nil))))))))))).lt (lss_one (ls_ret le_bl)) lss_nil)
    (lss_cons (ls_set 11 sc.nd (le_ix (il_ix rfl) (le_lst (la_cons le_bl (la_cons le_bl (la_cons le_non (la_cons le_str (la_cons (le_lst (la_cons le_int la_nil)) (la_cons (le_tup (la_cons le_int (la_cons le_int la_nil))) (la_cons le_dic0 la_nil)))))))) (le_callC (h__law_take.all rfl rfl rfl rfl rfl rfl (hr.mono (by decide : 2 ≤ 16)) rfl rfl bd__law_take) W.g__law_take h__law_take.kp tk (lc_p (lh_slot 2 (lh_val le_int lh_nil))))))
    (lss_one (ls_if (lw_or (lt_cmp (ol_sw (ol_cmp rfl hr (fun _ _ => rfl) W.nf_Ratio (cmp_ok (op := .Eq) rfl W.m_Ratio_uequ) (h_Ratio_uequ.all rfl rfl rfl rfl rfl rfl (hr.mono (by decide : 8 ≤ 16)) rfl rfl bd_Ratio_uequ) tk) (ol_eq rfl hr)) (le_callC (code_make (pMk_ok W.mk_Ratio) fun us kw => (h_Ratio_uinitu.dfl rfl rfl rfl rfl rfl rfl ((hr.mono (by decide : 5 + 1 ≤ 16)).make _ us kw) (List.cons_ne_nil _ _) dr_Ratio_uinitu rfl bdd_Ratio_uinitu)) W.g_Ratio W.mk_Ratio.2.2.2 tk (lc_p (lh_val le_int lh_nil))) (le_var 11)) (lw_or (lt_cmp (ol_sw (ol_cmp rfl hr (fun _ _ => rfl) W.nf_Ratio (cmp_ok (op := .Eq) rfl W.m_Ratio_uequ) (h_Ratio_uequ.all rfl rfl rfl rfl rfl rfl (hr.mono (by decide : 8 ≤ 16)) rfl rfl bd_Ratio_uequ) tk) (ol_eq rfl hr)) (le_callC (code_make (pMk_ok W.mk_Ratio) fun us kw => (h_Ratio_uinitu.dfl rfl rfl rfl rfl rfl rfl ((hr.mono (by decide : 5 + 1 ≤ 16)).make _ us kw) (List.cons_ne_nil _ _) dr_Ratio_uinitu rfl bdd_Ratio_uinitu)) W.g_Ratio W.mk_Ratio.2.2.2 tk (lc_p (lh_val le_int lh_nil))) (le_var 11)) (lw_or (lt_not (lt_val (le_callC (h__law_refused.all hgd rfl rfl rfl rfl rfl rfl (hr.mono (by decide : 14 ≤ 16)) rfl rfl bd__law_refused) W.g__law_refused h__law_refused.kp tk (lc_p (lh_val (le_var 11) lh_nil))))) (lw_or1 (lt_not (lt_val (le_callC (h__law_zero.all rfl rfl rfl rfl rfl rfl (hr.mono (by decide : 14 ≤ 16)) rfl rfl bd__law_zero) W.g__law_zero h__law_zero.kp tk (lc_p (lh_val (le_var 7) (lh_val (le_ix (il_ix rfl) (le_lst (la_cons le_int (la_cons (le_callC (code_make (pMk_ok W.mk_Ratio) fun us kw => (h_Ratio_uinitu.dfl rfl rfl rfl rfl rfl rfl ((hr.mono (by decide : 5 + 1 ≤ 16)).make _ us kw) (List.cons_ne_nil _ _) dr_Ratio_uinitu rfl bdd_Ratio_uinitu)) W.g_Ratio W.mk_Ratio.2.2.2 tk (lc_p (lh_val le_int lh_nil))) la_nil))) (le_bin ol_mod (le_var 1) le_int)) lh_nil)))))))))).lt (lss_one (ls_ret le_bl)) lss_nil))))))))))))))))))))
    (lss_one (ls_ret (le_and (le_cmp (ol_sw (ol_cmp rfl hr (fun _ _ => rfl) W.nf_Ratio (cmp_ok (op := .Eq) rfl W.m_Ratio_uequ) (h_Ratio_uequ.all rfl rfl rfl rfl rfl rfl (hr.mono (by decide : 8 ≤ 16)) rfl rfl bd_Ratio_uequ) tk) (ol_eq rfl hr)) (le_bot W.kl_ratio rfl (le_callC (code_make (pMk_ok W.mk_Ratio) fun us kw => (h_Ratio_uinitu.dfl rfl rfl rfl rfl rfl rfl ((hr.mono (by decide : 5 + 1 ≤ 16)).make _ us kw) (List.cons_ne_nil _ _) dr_Ratio_uinitu rfl bdd_Ratio_uinitu)) W.g_Ratio W.mk_Ratio.2.2.2 tk (lc_p (lh_val le_int lh_nil)))) le_int) (le_one (le_cmp (ol_sw (ol_cmp rfl hr (fun _ _ => rfl) W.nf_Ratio (cmp_ok (op := .Eq) rfl W.m_Ratio_uequ) (h_Ratio_uequ.all rfl rfl rfl rfl rfl rfl (hr.mono (by decide : 8 ≤ 16)) rfl rfl bd_Ratio_uequ) tk) (ol_eq rfl hr)) (le_bot W.kl_ratio rfl (le_callC (code_make (pMk_ok W.mk_Ratio) fun us kw => (h_Ratio_uinitu.full rfl rfl rfl rfl rfl rfl ((hr.mono (by decide : 5 + 1 ≤ 16)).make _ us kw) (List.cons_ne_nil _ _) rfl bdf_Ratio_uinitu)) W.g_Ratio W.mk_Ratio.2.2.2 tk (lc_p (lh_val le_int (lh_val (le_un ul_neg le_int) lh_nil))))) le_int))))))
end K02

set_option Elab.async false
set_option linter.all false
set_option maxRecDepth 100000
set_option maxHeartbeats 0
namespace K02
open PySem L2 PySem.Spec PyProof.Rows He PySem.W Q
def fn : List DefD := [d_is_integer, d_greatest, d_parts, d_checked, d_Ratio_uinitu, d_Ratio_uaddu, d_Ratio_usubu, d_Ratio_umulu, d_Ratio_unegu, d_Ratio_uequ, d_Ratio_ultu, d_Ratio_uleu, d_Ratio_over, d_as_ratio, d_sign, d__law_cell, d__law_box, d__law_take, d__law_frac, d__law_plus, d__law_times, d__law_minus, d__law_less, d__law_pick, d__law_is, d__law_compared, d__law_zero, d__law_signs, d__law_refused, d_law, d_ByZero_uinitu, d_BadNumber_uinitu]
def fa : List DP := [dp (pFree "isinstance"),
  dp (pFree "int"),
  dp (pFree "bool"),
  dp (pFree "abs"),
  dp (pFree "max"),
  dp (pFree "min"),
  dp (pFree "len"),
  dp (pFree "range"),
  dp (pFree "repr"),
  dp (pGlo "is_integer"),
  dp (pGlo "greatest"),
  dp (pGlo "parts"),
  dp (pGlo "checked"),
  dp (pGlo "as_ratio"),
  dp (pGlo "sign"),
  dp (pGlo "_law_cell"),
  dp (pGlo "_law_box"),
  dp (pGlo "_law_take"),
  dp (pGlo "_law_frac"),
  dp (pGlo "_law_plus"),
  dp (pGlo "_law_times"),
  dp (pGlo "_law_minus"),
  dp (pGlo "_law_less"),
  dp (pGlo "_law_pick"),
  dp (pGlo "_law_is"),
  dp (pGlo "_law_refused"),
  dp (pGlo "_law_zero"),
  dp (pGlo "_law_compared"),
  dp (pGlo "_law_signs"),
  dp (pGlo "law"),
  dp (pGlo "FilterError"),
  dp (pGlo "ByZero"),
  dp (pGlo "BadNumber"),
  dp (pGlo "Ratio"),
  dp (pCls .ratio),
  dp (pNo .ratio "top"),
  dp (pNo .ratio "bottom"),
  dp (pMk .ratio),
  dp (pFirst .ratio),
  dp (pMeth .ratio "__add__"),
  dp (pMeth .ratio "__sub__"),
  dp (pMeth .ratio "__mul__"),
  dp (pMeth .ratio "__neg__"),
  dp (pMeth .ratio "__eq__"),
  dp (pMeth .ratio "__lt__"),
  dp (pMeth .ratio "__le__"),
  dp (pMeth .ratio "over"),
  dp (pOpT .ratio .Add "int"),
  dp (pOpT .ratio .Sub "int"),
  dp (pOpT .ratio .Mult "int"),
  dp (pNe .ratio),
  dp (pNF .ratio [.ratio]),
  dp (pIsa [.ty "int"] isa_int),
  dp (pIsa [.ty "bool"] isa_bool),
  dp (pIsa [.own .ratio] isa_Ratio),
  dp (pErrB),
  dp (pErr .byZero),
  dp (pExm .byZero exm_ByZero),
  dp (pErr .badNumber),
  dp (pExm .badNumber exm_BadNumber),
  dp (pNo .badNumber "given")]
abbrev R : PySem.W.OpenRow := PySem.W.OpenLaw.row PySem.Challenge.rw_filterorders_k02_ratios
abbrev hk : PySem.W.Hook := hookQ 5 fa fn
def ob (s : PySem.W.SharedT) : AlD := obsQG 5 fa fn (HandSHeadRun.getT s)
theorem ob_eq (s : PySem.W.SharedT) : ob s = hk.obs s.abs := obsQG_eq (HandSHeadRun.getT_eq s)
def loose : List Str := ["FilterError", "ByZero", "BadNumber", "BadText", "is_integer", "greatest", "parts", "checked", "Ratio", "read_integer", "as_ratio", "sign", "_law_cell", "_law_box", "_law_take", "_law_frac", "_law_plus", "_law_times", "_law_minus", "_law_less", "_law_pick", "_law_is", "_law_refused", "_law_zero", "_law_compared", "_law_signs"]
theorem run (w : World) : HandSHeadRun.RunEq R (PySem.W.view R.prog [29]) hk ob 6000 loose w := by
  intro os
  kernel_rfl
theorem wd {K : Frag} {h : Heap} {mg : Str → Option Value} (X : K.In h) (G : h.Ns mainGlobals mg) (c : SaysQ fa fn K) : Wd K mg where
  f_isinstance := mk_free X G (c.fact 0)
  f_int := mk_free X G (c.fact 1)
  f_bool := mk_free X G (c.fact 2)
  f_abs := mk_free X G (c.fact 3)
  f_max := mk_free X G (c.fact 4)
  f_min := mk_free X G (c.fact 5)
  f_len := mk_free X G (c.fact 6)
  f_range := mk_free X G (c.fact 7)
  f_repr := mk_free X G (c.fact 8)
  g_is_integer := mk_glo X G (c.fact 9)
  g_greatest := mk_glo X G (c.fact 10)
  g_parts := mk_glo X G (c.fact 11)
  g_checked := mk_glo X G (c.fact 12)
  g_as_ratio := mk_glo X G (c.fact 13)
  g_sign := mk_glo X G (c.fact 14)
  g__law_cell := mk_glo X G (c.fact 15)
  g__law_box := mk_glo X G (c.fact 16)
  g__law_take := mk_glo X G (c.fact 17)
  g__law_frac := mk_glo X G (c.fact 18)
  g__law_plus := mk_glo X G (c.fact 19)
  g__law_times := mk_glo X G (c.fact 20)
  g__law_minus := mk_glo X G (c.fact 21)
  g__law_less := mk_glo X G (c.fact 22)
  g__law_pick := mk_glo X G (c.fact 23)
  g__law_is := mk_glo X G (c.fact 24)
  g__law_refused := mk_glo X G (c.fact 25)
  g__law_zero := mk_glo X G (c.fact 26)
  g__law_compared := mk_glo X G (c.fact 27)
  g__law_signs := mk_glo X G (c.fact 28)
  g_law := mk_glo X G (c.fact 29)
  g_FilterError := mk_glo X G (c.fact 30)
  g_ByZero := mk_glo X G (c.fact 31)
  g_BadNumber := mk_glo X G (c.fact 32)
  g_Ratio := mk_glo X G (c.fact 33)
  c_Ratio := c.fact 34
  no_top := c.fact 35
  no_bottom := c.fact 36
  mk_Ratio := c.fact 37
  first_Ratio := c.fact 38
  m_Ratio_uaddu := c.fact 39
  m_Ratio_usubu := c.fact 40
  m_Ratio_umulu := c.fact 41
  m_Ratio_unegu := c.fact 42
  m_Ratio_uequ := c.fact 43
  m_Ratio_ultu := c.fact 44
  m_Ratio_uleu := c.fact 45
  m_Ratio_over := c.fact 46
  opt_Ratio_uaddu := c.fact 47
  opt_Ratio_usubu := c.fact 48
  opt_Ratio_umulu := c.fact 49
  ne_Ratio := c.fact 50
  nf0_Ratio := c.fact 51
  i_int := c.fact 52
  i_bool := c.fact 53
  i_Ratio := c.fact 54
  errB := c.fact 55
  e_ByZero := c.fact 56
  x_ByZero := c.fact 57
  e_BadNumber := c.fact 58
  x_BadNumber := c.fact 59
  no_BadNumber_given := c.fact 60
theorem er_ByZero {P : Program} {w : World} {K : Frag} {mg : Str → Option Value} {base : Heap} (W : Wd K mg) (Fn : ∃ fd, FunD K d_ByZero_uinitu.name d_ByZero_uinitu.qual d_ByZero_uinitu.params d_ByZero_uinitu.body d_ByZero_uinitu.scope (d_ByZero_uinitu.dvs K) (d_ByZero_uinitu.kws K) (fAd K d_ByZero_uinitu.at_) fd) : ∃ fd, Er0 P w (cf K) mg base .byZero (fAd K d_ByZero_uinitu.at_) fd ["self"] := by
  obtain ⟨fd, F⟩ := Fn
  refine ⟨fd, pErr_o W.e_ByZero, W.e_ByZero.2.2.2.2.2.1, W.e_ByZero.2.2.2.2.2.2.1, FunD.bindsN (ps := ["self"]) F fun _ _ _ _ _ _ us hl => match us, hl with | [_], _ => rfl, ?_⟩
  exact err_fn0 F (fun _ => ⟨_, rfl⟩) ⟨rfl, rfl, rfl, by decide +kernel, rfl, by decide +kernel, by decide +kernel⟩ (pErrB_ok W.errB) (pErr_o W.e_ByZero) W.g_FilterError rfl rfl
theorem er_BadNumber {P : Program} {w : World} {K : Frag} {mg : Str → Option Value} {base : Heap} (W : Wd K mg) (Fn : ∃ fd, FunD K d_BadNumber_uinitu.name d_BadNumber_uinitu.qual d_BadNumber_uinitu.params d_BadNumber_uinitu.body d_BadNumber_uinitu.scope (d_BadNumber_uinitu.dvs K) (d_BadNumber_uinitu.kws K) (fAd K d_BadNumber_uinitu.at_) fd) : ∃ fd, Er1 P w (cf K) mg base .badNumber "given" (fAd K d_BadNumber_uinitu.at_) fd ["self", "given"] := by
  obtain ⟨fd, F⟩ := Fn
  refine ⟨fd, pErr_o W.e_BadNumber, W.e_BadNumber.2.2.2.2.2.1, W.e_BadNumber.2.2.2.2.2.2.1, FunD.bindsN (ps := ["self", "given"]) F fun _ _ _ _ _ _ us hl => match us, hl with | [_, _], _ => rfl, rfl, ?_⟩
  exact err_fn1 F (fun _ => ⟨_, rfl⟩) ⟨rfl, rfl, rfl, by decide +kernel, rfl, by decide +kernel, by decide +kernel⟩ (pErrB_ok W.errB) (pErr_o W.e_BadNumber) W.g_FilterError rfl rfl rfl (by decide) (by decide) W.no_BadNumber_given
theorem all_ok {P : Program} {w : World} {K : Frag} {mg : Str → Option Value} {base : Heap} (W : Wd K mg) (c : SaysQ fa fn K) : FnBG P w K mg base d_law 17 ps_law c_law := by
  have e_ByZero := er_ByZero (P := P) (w := w) (base := base) W (c.def_ 30 (d := d_ByZero_uinitu) rfl)
  have e_BadNumber := er_BadNumber (P := P) (w := w) (base := base) W (c.def_ 31 (d := d_BadNumber_uinitu) rfl)
  have h_is_integer := ok_is_integer (P := P) (w := w) (base := base) W (c.def_ 0 (d := d_is_integer) rfl)
  have h_greatest := ok_greatest (P := P) (w := w) (base := base) W (c.def_ 1 (d := d_greatest) rfl)
  have h_parts := ok_parts (P := P) (w := w) (base := base) W (c.def_ 2 (d := d_parts) rfl) h_is_integer
  have h_checked := ok_checked (P := P) (w := w) (base := base) W (c.def_ 3 (d := d_checked) rfl) h_parts e_BadNumber
  have h_Ratio_uinitu := ok_Ratio_uinitu (P := P) (w := w) (base := base) W (c.def_ 4 (d := d_Ratio_uinitu) rfl) h_greatest e_ByZero
  have h_Ratio_uaddu := ok_Ratio_uaddu (P := P) (w := w) (base := base) W (c.def_ 5 (d := d_Ratio_uaddu) rfl) h_checked h_Ratio_uinitu
  have h_Ratio_usubu := ok_Ratio_usubu (P := P) (w := w) (base := base) W (c.def_ 6 (d := d_Ratio_usubu) rfl) h_checked h_Ratio_uinitu
  have h_Ratio_umulu := ok_Ratio_umulu (P := P) (w := w) (base := base) W (c.def_ 7 (d := d_Ratio_umulu) rfl) h_checked h_Ratio_uinitu
  have h_Ratio_unegu := ok_Ratio_unegu (P := P) (w := w) (base := base) W (c.def_ 8 (d := d_Ratio_unegu) rfl) h_Ratio_uinitu
  have h_Ratio_uequ := ok_Ratio_uequ (P := P) (w := w) (base := base) W (c.def_ 9 (d := d_Ratio_uequ) rfl) h_parts
  have h_Ratio_ultu := ok_Ratio_ultu (P := P) (w := w) (base := base) W (c.def_ 10 (d := d_Ratio_ultu) rfl) h_checked
  have h_Ratio_uleu := ok_Ratio_uleu (P := P) (w := w) (base := base) W (c.def_ 11 (d := d_Ratio_uleu) rfl) h_checked
  have h_Ratio_over := ok_Ratio_over (P := P) (w := w) (base := base) W (c.def_ 12 (d := d_Ratio_over) rfl) h_checked h_Ratio_uinitu
  have h_as_ratio := ok_as_ratio (P := P) (w := w) (base := base) W (c.def_ 13 (d := d_as_ratio) rfl) h_checked h_Ratio_uinitu
  have h_sign := ok_sign (P := P) (w := w) (base := base) W (c.def_ 14 (d := d_sign) rfl) h_checked
  have h__law_cell := ok__law_cell (P := P) (w := w) (base := base) W (c.def_ 15 (d := d__law_cell) rfl)
  have h__law_box := ok__law_box (P := P) (w := w) (base := base) W (c.def_ 16 (d := d__law_box) rfl) h__law_cell
  have h__law_take := ok__law_take (P := P) (w := w) (base := base) W (c.def_ 17 (d := d__law_take) rfl)
  have h__law_frac := ok__law_frac (P := P) (w := w) (base := base) W (c.def_ 18 (d := d__law_frac) rfl)
  have h__law_plus := ok__law_plus (P := P) (w := w) (base := base) W (c.def_ 19 (d := d__law_plus) rfl) h__law_frac
  have h__law_times := ok__law_times (P := P) (w := w) (base := base) W (c.def_ 20 (d := d__law_times) rfl) h__law_frac
  have h__law_minus := ok__law_minus (P := P) (w := w) (base := base) W (c.def_ 21 (d := d__law_minus) rfl) h__law_frac
  have h__law_less := ok__law_less (P := P) (w := w) (base := base) W (c.def_ 22 (d := d__law_less) rfl)
  have h__law_pick := ok__law_pick (P := P) (w := w) (base := base) W (c.def_ 23 (d := d__law_pick) rfl) h__law_take
  have h__law_is := ok__law_is (P := P) (w := w) (base := base) W (c.def_ 24 (d := d__law_is) rfl)
  have h__law_compared := ok__law_compared (P := P) (w := w) (base := base) W (c.def_ 25 (d := d__law_compared) rfl) h_Ratio_uequ h_Ratio_ultu h__law_less h_Ratio_uleu
  have h__law_zero := ok__law_zero (P := P) (w := w) (base := base) W (c.def_ 26 (d := d__law_zero) rfl) h_Ratio_over h_Ratio_uinitu
  have h__law_signs := ok__law_signs (P := P) (w := w) (base := base) W (c.def_ 27 (d := d__law_signs) rfl) h_Ratio_usubu h_Ratio_ultu h_Ratio_uequ h_Ratio_uinitu h_sign h_Ratio_umulu
  have h__law_refused := ok__law_refused (P := P) (w := w) (base := base) W (c.def_ 28 (d := d__law_refused) rfl) h_as_ratio
  have h_law := ok_law (P := P) (w := w) (base := base) W (c.def_ 29 (d := d_law) rfl) h__law_box h__law_pick h_Ratio_uequ h__law_take h_Ratio_umulu h__law_frac h_Ratio_uinitu h__law_is h_Ratio_usubu h_Ratio_unegu h__law_plus h_Ratio_uaddu h__law_minus h__law_times h__law_compared h_Ratio_over h_as_ratio h__law_signs h__law_refused h__law_zero
  exact h_law
end K02
open PySem PySem.W PySem.Calls PyProof.Rows
theorem PySem.Challenge.cw_filterorders_k02_ratios_holds : PySem.Challenge.rw_filterorders_k02_ratios.Holds := by
  w_on; o_law
  refine HandSHeadRun.head_any (r := OpenLaw.row PySem.Challenge.rw_filterorders_k02_ratios) (q := view (OpenLaw.row PySem.Challenge.rw_filterorders_k02_ratios).prog [29]) (H := K02.hk) (ob := K02.ob) (M := 6000) (loose := K02.loose) (d := HandSHeadRun.topDef (OpenLaw.row PySem.Challenge.rw_filterorders_k02_ratios).prog 29) (kwd := []) K02.ob_eq
    (by kernel_rfl) (fun s => by kernel_rfl) K02.run (by kernel_rfl) (by kernel_rfl) (by kernel_rfl) (by rfl) (by first | assumption | decide +kernel) (by decide +kernel) ⟨rfl, rfl, rfl, rfl, rfl, by decide +kernel⟩ ?hw ?hc
  case hw => w_witness2
  case hc =>
    refine Q.endG (l := PySem.Challenge.rw_filterorders_k02_ratios) (n := 63) (k := 17) (x := "_law_script") rfl (by decide) (by kernel_rfl) ⟨rfl, by decide, by decide⟩ ?F
    intro w mg fa h Y G hmg0
    obtain ⟨K, KX, c⟩ := Y
    have W := K02.wd KX G c
    have en : (HandSHeadRun.topDef (OpenLaw.row PySem.Challenge.rw_filterorders_k02_ratios).prog 29).name = ("law" : PySem.Str) := by kernel_rfl
    rw [en] at hmg0
    have ea := hmg0.symm.trans W.g_law
    cases ea
    obtain ⟨fd, F⟩ := c.def_ 29 (d := K02.d_law) rfl
    have hb := L2.FunD.bindsA (ps := K02.ps_law) F K02.bd_law
    refine ⟨K, fd, KX, fun s u => hb s [u] rfl, fun base _ _ => ?_⟩
    obtain ⟨fd2, F2, G2⟩ := (K02.all_ok (P := PySem.Challenge.rw_filterorders_k02_ratios.prog) (w := w) (base := base) W c).ex
    exact Q.same_fd F F2 ▸ G2
