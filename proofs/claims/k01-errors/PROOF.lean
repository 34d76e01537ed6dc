import PyProof.Rows.All
import Wide.All
import OpenK.AllK
import Wide.FinOn
import HandS.ForMost
import HandS.ForExc
import HandS.CallSlots
import HandS.ExcInit
import HandS.Wide
import HandS.WideBits
import HandS.SlotsOwn
import HandS.Defaults
import HandS.MakeKw
import HandS.MakeKwOnly
import KE.KOpsOwn
import HandS.IsInst
import PyProof.InstNe
import HandS.ExcField
import HandS.TryOnly
import HandS.Words
import HandS.Head2
import HandS.HeadEnd
import HandS.HeadHook2
import HandS.HeadNt
import PyProof.ReprRoads
import HandS.Comp
import HandS.Iter
import HandS.Walk
import KE.GoesEnum
import KE.GoesMore
import KE.GoesZip
import HandS.TupAny
import HandS.Style
import PyProof.MeetsIn
import HandS.Text
import HandS.FStr
import HandS.Deep
import HandS.ExcIs
import PySem.Challenge.RW_filterorders_k01_errors
set_option Elab.async false
set_option linter.all false
set_option maxRecDepth 100000
set_option maxHeartbeats 4000000
namespace Q
abbrev St := L2.St
open PySem L2
/-! ## 1. Data, and how the abstract heap bears them -/
/-- the classes of the program, the errors among them -/
inductive Cn where
  | ratio | poly | root | formula | table | facts | desk | trial
  | filterError | byZero | badNumber | badText | zeroPolynomial | badRoot | badStretch | badRow | badTable | noLine | unlikeTables | badBeam | notFilter | notMirror
  | badCounts | badAnswer | badShare | never | badLine | clash | nothingToUndo | nothingToRedo
  deriving DecidableEq
/-- their fields, in the order in which they are stored -/
def Cn.fields : Cn → List Str
  | .ratio => ["top", "bottom"]
  | .poly => ["kept"]
  | .root => ["low", "high", "polynomial"]
  | .formula => ["form"]
  | .table => ["kept"]
  | .facts => ["nothing", "never_negative", "not_nothing", "somewhere_negative"]
  | .desk => ["tables", "beams", "made", "spot"]
  | .trial => ["held_desk", "made", "beams", "spot"]
  | .badNumber => ["given"]
  | .badShare => ["given"]
  | .badRow => ["row"]
  | .noLine => ["name"]
  | .badAnswer => ["answer"]
  | .never => ["answer"]
  | .badLine => ["line"]
  | _ => []
inductive D where
  | non | bl (b : Bool) | int (i : Int) | str (x : Str) | rat (q : Rat) | cls (c : Cn) | scr (ns : List Int)
  | lst (xs : List D) | tup (xs : List D) | dic (kvs : List (Key × D)) | ins (c : Cn) (fs : List D) | err (c : Cn) (fs : List D) | fr (d : D)
structure Cf where
  K : PySem.W.Frag
  cl : Cn → Addr
mutual
def Rep (F : Cf) (G : Hp) : D → V → Prop
  | .non, v => v = .non
  | .bl b, v => v = .bl b
  | .int i, v => v = .int i
  | .str x, v => v = .str x
  | .rat q, v => ∃ a dx, v = .ref a ∧ G a = some (.ins (F.cl .ratio) dx [("top", .int q.num), ("bottom", .int (q.den : Int))])
  | .cls c, v => v = .ref (F.cl c)
  | .scr ns, v => ∃ a, v = .ref a ∧ SqL F.K G a (ns.map V.int)
  | .lst ds, v => ∃ a vs, v = .ref a ∧ G a = some (.lst vs) ∧ Reps F G ds vs
  | .tup ds, v => ∃ a vs, v = .ref a ∧ SqT F.K G a vs ∧ Reps F G ds vs
  | .dic kvs, v => ∃ a ws, v = .ref a ∧ G a = some (.dK ws) ∧ RepK F G kvs ws
  | .ins c ds, v => ∃ a dx vs, v = .ref a ∧ G a = some (.ins (F.cl c) dx (c.fields.zip vs)) ∧ Reps F G ds vs
  | .err c ds, v => ∃ a, v = .ref a ∧ ((ds = [] ∧ G a = some (exo a (F.cl c) none)) ∨ ∃ dx vs, G a = some (exo a (F.cl c) (some dx)) ∧ G dx = some (exd dx (c.fields.zip vs)) ∧ Reps F G ds vs)
  | .fr _, _ => False
def Reps (F : Cf) (G : Hp) : List D → List V → Prop
  | [], vs => vs = []
  | d :: ds, vs => ∃ v r, vs = v :: r ∧ Rep F G d v ∧ Reps F G ds r
def RepK (F : Cf) (G : Hp) : List (Key × D) → List (Key × V) → Prop
  | [], vs => vs = []
  | (k, d) :: ds, vs => ∃ v r, vs = (k, v) :: r ∧ Rep F G d v ∧ RepK F G ds r
end
/-- G is part of G' -/
def Inc (G G' : Hp) : Prop := ∀ a o, G a = some o → G' a = some o
theorem Inc.refl (G : Hp) : Inc G G := fun _ _ h => h
theorem Inc.trans {G G1 G2 : Hp} (a : Inc G G1) (b : Inc G1 G2) : Inc G G2 := fun x o h => b x o (a x o h)
theorem Inc.new {G : Hp} {p : Addr} {o : HO} (h : G p = none) : Inc G (upd G p o) := fun a u e => by
  rw [upd_ne (ne_of_none e h)]
  exact e
theorem Inc.back {G G' : Hp} (i : Inc G G') {p : Addr} (h : G' p = none) : G p = none := by
  cases e : G p with
  | none => rfl
  | some o =>
    rw [i p o e] at h
    cases h
theorem rd_inc {G G' : Hp} {a : Addr} {u : HO} (i : Inc G G') (h : Rd G a u) : Rd G' a u := by
  rcases h with h | ⟨o, h⟩
  · exact .inl (i _ _ h)
  · exact .inr ⟨o, i _ _ h⟩
theorem sqL_inc {K : PySem.W.Frag} {G G' : Hp} {a : Addr} {vs : List V} (i : Inc G G') (h : SqL K G a vs) : SqL K G' a vs := by
  rcases h with h | h
  · exact .inl (rd_inc i h)
  · exact .inr h
theorem sqT_inc {K : PySem.W.Frag} {G G' : Hp} {a : Addr} {vs : List V} (i : Inc G G') (h : SqT K G a vs) : SqT K G' a vs := by
  rcases h with h | h
  · exact .inl (rd_inc i h)
  · exact .inr h
mutual
theorem Rep.inc {F : Cf} {G G' : Hp} (i : Inc G G') : ∀ {d : D} {v : V}, Rep F G d v → Rep F G' d v
  | .non, _, h => h
  | .bl _, _, h => h
  | .int _, _, h => h
  | .str _, _, h => h
  | .rat _, _, h => let ⟨a, dx, e, s⟩ := h; ⟨a, dx, e, i _ _ s⟩
  | .cls _, _, h => h
  | .scr _, _, h => let ⟨a, e, s⟩ := h; ⟨a, e, sqL_inc i s⟩
  | .lst _, _, h => let ⟨a, vs, e, s, r⟩ := h; ⟨a, vs, e, i _ _ s, Reps.inc i r⟩
  | .tup _, _, h => let ⟨a, vs, e, s, r⟩ := h; ⟨a, vs, e, sqT_inc i s, Reps.inc i r⟩
  | .dic _, _, h => let ⟨a, ws, e, s, r⟩ := h; ⟨a, ws, e, i _ _ s, RepK.inc i r⟩
  | .ins _ _, _, h => let ⟨a, dx, ws, e, s, r⟩ := h; ⟨a, dx, ws, e, i _ _ s, Reps.inc i r⟩
  | .err _ _, _, h => by
    obtain ⟨a, e, q⟩ := h
    refine ⟨a, e, ?_⟩
    rcases q with ⟨q, s⟩ | ⟨dx, vs, s, t, r⟩
    · exact .inl ⟨q, i _ _ s⟩
    · exact .inr ⟨dx, vs, i _ _ s, i _ _ t, Reps.inc i r⟩
  | .fr _, _, h => h
theorem Reps.inc {F : Cf} {G G' : Hp} (i : Inc G G') : ∀ {ds : List D} {vs : List V}, Reps F G ds vs → Reps F G' ds vs
  | [], _, h => h
  | _ :: _, _, h => let ⟨v, r, e, a, b⟩ := h; ⟨v, r, e, Rep.inc i a, Reps.inc i b⟩
theorem RepK.inc {F : Cf} {G G' : Hp} (i : Inc G G') : ∀ {ds : List (Key × D)} {vs : List (Key × V)}, RepK F G ds vs → RepK F G' ds vs
  | [], _, h => h
  | (_, _) :: _, _, h => let ⟨v, r, e, a, b⟩ := h; ⟨v, r, e, Rep.inc i a, RepK.inc i b⟩
end
theorem Reps.len {F : Cf} {G : Hp} : ∀ {ds : List D} {vs : List V}, Reps F G ds vs → vs.length = ds.length
  | [], _, h => by cases (show _ = [] from h); rfl
  | _ :: ds, _, h => by
    obtain ⟨v, r, rfl, _, b⟩ := h
    rw [List.length_cons, List.length_cons, Reps.len b]
theorem Reps.get {F : Cf} {G : Hp} : ∀ {ds : List D} {vs : List V} {i : Nat} {d : D}, Reps F G ds vs → ds[i]? = some d → ∃ v, vs[i]? = some v ∧ Rep F G d v
  | [], _, _, _, _, e => by simp at e
  | d :: ds, _, 0, x, h, e => by
    obtain ⟨v, r, rfl, a, _⟩ := h
    simp at e
    subst e
    exact ⟨v, rfl, a⟩
  | _ :: ds, _, i + 1, x, h, e => by
    obtain ⟨v, r, rfl, _, b⟩ := h
    obtain ⟨u, e1, r1⟩ := Reps.get (i := i) b (by simpa using e)
    exact ⟨u, by simpa using e1, r1⟩
theorem Reps.get' {F : Cf} {G : Hp} : ∀ {ds : List D} {vs : List V} {i : Nat} {v : V}, Reps F G ds vs → vs[i]? = some v → ∃ d, ds[i]? = some d ∧ Rep F G d v
  | [], _, _, _, h, e => by cases (show _ = [] from h); simp at e
  | d :: ds, _, 0, x, h, e => by
    obtain ⟨v, r, rfl, a, _⟩ := h
    simp at e
    subst e
    exact ⟨d, rfl, a⟩
  | _ :: ds, _, i + 1, x, h, e => by
    obtain ⟨v, r, rfl, _, b⟩ := h
    obtain ⟨u, e1, r1⟩ := Reps.get' (i := i) b (by simpa using e)
    exact ⟨u, by simpa using e1, r1⟩
theorem Reps.append {F : Cf} {G : Hp} : ∀ {ds es : List D} {vs ws : List V}, Reps F G ds vs → Reps F G es ws → Reps F G (ds ++ es) (vs ++ ws)
  | [], _, _, _, h, k => by cases (show _ = [] from h); exact k
  | _ :: ds, _, _, _, h, k => by
    obtain ⟨v, r, rfl, a, b⟩ := h
    exact ⟨v, _, rfl, a, Reps.append b k⟩
theorem Reps.one {F : Cf} {G : Hp} {d : D} {v : V} (h : Rep F G d v) : Reps F G [d] [v] := ⟨v, [], rfl, h, rfl⟩
theorem Reps.set {F : Cf} {G : Hp} {x : D} {u : V} (hx : Rep F G x u) : ∀ {ds : List D} {vs : List V} (i : Nat), Reps F G ds vs → Reps F G (ds.set i x) (vs.set i u)
  | [], _, _, h => by cases (show _ = [] from h); exact rfl
  | _ :: _, _, 0, h => by
    obtain ⟨v, r, rfl, a, b⟩ := h
    exact ⟨u, r, rfl, hx, b⟩
  | _ :: _, _, i + 1, h => by
    obtain ⟨v, r, rfl, a, b⟩ := h
    exact ⟨v, _, rfl, a, Reps.set hx i b⟩
theorem Reps.take {F : Cf} {G : Hp} : ∀ {ds : List D} {vs : List V} (n : Nat), Reps F G ds vs → Reps F G (ds.take n) (vs.take n)
  | _, _, 0, _ => by simp [Reps]
  | [], _, _ + 1, h => by cases (show _ = [] from h); exact rfl
  | _ :: _, _, n + 1, h => by
    obtain ⟨v, r, rfl, a, b⟩ := h
    exact ⟨v, _, rfl, a, Reps.take n b⟩
theorem Reps.drop {F : Cf} {G : Hp} : ∀ {ds : List D} {vs : List V} (n : Nat), Reps F G ds vs → Reps F G (ds.drop n) (vs.drop n)
  | _, _, 0, h => h
  | [], _, _ + 1, h => by cases (show _ = [] from h); exact rfl
  | _ :: _, _, n + 1, h => by
    obtain ⟨v, r, rfl, a, b⟩ := h
    exact Reps.drop n b
/-- what may be locked -/
def canF : HO → Bool
  | .dK _ => true
  | _ => false
/-- what G says may be read in H -/
def Sub (G H : Hp) : Prop := ∀ a o, G a = some o → H a = some o ∨ (canF o = true ∧ ∃ ob, H a = some (.frz ob o))
theorem Sub.rd {G H : Hp} (s : Sub G H) {a : Addr} {u : HO} (h : Rd G a u) : Rd H a u := by
  rcases h with h | ⟨o, h⟩
  · rcases s _ _ h with e | ⟨_, ob, e⟩
    · exact .inl e
    · exact .inr ⟨ob, e⟩
  · rcases s _ _ h with e | ⟨z, _⟩
    · exact .inr ⟨o, e⟩
    · cases z
theorem Sub.l {K : PySem.W.Frag} {G H : Hp} (s : Sub G H) {a : Addr} {vs : List V} (h : SqL K G a vs) : SqL K H a vs := by
  rcases h with h | h
  · exact .inl (s.rd h)
  · exact .inr h
theorem Sub.t {K : PySem.W.Frag} {G H : Hp} (s : Sub G H) {a : Addr} {vs : List V} (h : SqT K G a vs) : SqT K H a vs := by
  rcases h with h | h
  · exact .inl (s.rd h)
  · exact .inr h
theorem Sub.i {G H : Hp} (s : Sub G H) {a C dx : Addr} {fs : List (Str × V)} (h : G a = some (.ins C dx fs)) : H a = some (.ins C dx fs) := by
  rcases s _ _ h with e | ⟨z, _⟩
  · exact e
  · cases z
theorem Sub.ex {G H : Hp} (s : Sub G H) {a : Addr} {o : HO} (h : G a = some o) : ∃ u, H a = some u := by
  rcases s _ _ h with e | ⟨_, ob, e⟩
  · exact ⟨_, e⟩
  · exact ⟨_, e⟩
theorem Sub.no {G H : Hp} (s : Sub G H) {a : Addr} (h : H a = none) : G a = none := by
  cases e : G a with
  | none => rfl
  | some o =>
    obtain ⟨u, q⟩ := s.ex e
    rw [q] at h
    cases h
theorem Sub.m {G H : Hp} (s : Sub G H) {a : Addr} {vs : List V} (h : G a = some (.lst vs)) : H a = some (.lst vs) := by
  rcases s _ _ h with e | ⟨z, _⟩
  · exact e
  · cases z
/-- a new thing, told -/
theorem Sub.new {G H : Hp} (s : Sub G H) {p : Addr} (hp : H p = none) (o : HO) : Sub (upd G p o) (upd H p o) := fun a u e => by
  by_cases h : a = p
  · subst h
    rw [upd_same] at e ⊢
    exact .inl e
  · rw [upd_ne h] at e ⊢
    exact s a u e
/-- something that G does not tell of is changed -/
theorem Sub.off {G H : Hp} (s : Sub G H) {p : Addr} (hp : G p = none) (o : HO) : Sub G (upd H p o) := fun a u e => by
  rw [upd_ne (ne_of_none e hp)]
  exact s a u e
/-! ## 2. Slots -/
/-- a thing that may change: a list, a dict, an instance -/
inductive MO where
  | lst (xs : List D) | dic (kvs : List (Key × D)) | ins (c : Cn) (fs : List D)
/-- a slot: not told; a datum; a changing thing of one's own; a changing thing that was handed in; the exception that is handled -/
inductive Slot where
  | no | val (d : D) | own (o : MO) | bor (o : MO) | exc (c : Cn) (fs : List D)
abbrev Env := List Slot
def Slot.mo : Slot → Option MO
  | .own o => some o
  | .bor o => some o
  | _ => none
def MRep (F : Cf) (G H : Hp) : MO → Addr → Prop
  | .lst ds, a => ∃ vs, H a = some (.lst vs) ∧ Reps F G ds vs
  | .dic kvs, a => ∃ ws, H a = some (.dK ws) ∧ RepK F G kvs ws
  | .ins c ds, a => ∃ dx vs, H a = some (.ins (F.cl c) dx (c.fields.zip vs)) ∧ Reps F G ds vs
theorem MRep.ex {F : Cf} {G H : Hp} {o : MO} {a : Addr} (h : MRep F G H o a) : ∃ u, H a = some u := by
  cases o with
  | lst ds => obtain ⟨vs, e, _⟩ := h; exact ⟨_, e⟩
  | dic ds => obtain ⟨vs, e, _⟩ := h; exact ⟨_, e⟩
  | ins c ds => obtain ⟨dx, vs, e, _⟩ := h; exact ⟨_, e⟩
theorem MRep.inc {F : Cf} {G G' H H' : Hp} {o : MO} {a : Addr} (i : Inc G G') (e : H' a = H a) (h : MRep F G H o a) : MRep F G' H' o a := by
  cases o with
  | lst ds => obtain ⟨vs, q, r⟩ := h; exact ⟨vs, e.trans q, r.inc i⟩
  | dic ds => obtain ⟨vs, q, r⟩ := h; exact ⟨vs, e.trans q, r.inc i⟩
  | ins c ds => obtain ⟨dx, vs, q, r⟩ := h; exact ⟨dx, vs, e.trans q, r.inc i⟩
/-- a thing that may change, as a datum -/
def moD : D → Option MO
  | .lst xs => some (.lst xs)
  | .dic xs => some (.dic xs)
  | .ins c xs => some (.ins c xs)
  | _ => none
/-- the datum of a result: a new thing that nobody knows is that thing -/
def unfr : D → D
  | .fr d => d
  | d => d
/-- a result: a datum, or a new thing that nobody knows yet -/
def RepR (F : Cf) (H0 G H : Hp) : D → V → Prop
  | .fr d, v => ∃ o a, moD d = some o ∧ v = .ref a ∧ G a = none ∧ MRep F G H o a ∧ H0 a = none
  | d, v => Rep F G d v
theorem RepR.of {F : Cf} {H0 G H : Hp} {d : D} {v : V} (h : Rep F G d v) : RepR F H0 G H d v := by
  cases d <;> first | exact h | exact h.elim
/-- the frame of a body: what stood at its entry, what of it may change; the exception that is handled, its own dict -/
structure Fx extends Cf where
  G0 : Hp
  H0 : Hp
  B : List Addr
  pin : List (Option Addr)
  xa : Addr := 0
  xd : Option Addr := none
  xc : Cn := .byZero
def SlotOk (F : Fx) (G H : Hp) : Option V → Slot → Prop
  | _, .no => True
  | some v, .val d => Rep F.toCf G d v
  | some v, .own o => ∃ a, v = .ref a ∧ G a = none ∧ MRep F.toCf G H o a ∧ F.H0 a = none
  | some v, .bor o => ∃ a, v = .ref a ∧ G a = none ∧ MRep F.toCf G H o a ∧ a ∈ F.B
  | some v, .exc c fs => v = .ref F.xa ∧ c = F.xc ∧ (fs = [] ∨ ∃ dd vs, F.xd = some dd ∧ H dd = some (.xd (c.fields.zip vs)) ∧ Reps F.toCf G fs vs)
  | none, _ => False
def Slots (F : Fx) (G H : Hp) : St → Env → Prop
  | [], [] => True
  | v :: σ, s :: Γ => SlotOk F G H v s ∧ Slots F G H σ Γ
  | _, _ => False
/-- the addresses of the slots that may change -/
def mutA : St → Env → List Addr
  | some (.ref a) :: σ, .own _ :: Γ => a :: mutA σ Γ
  | some (.ref a) :: σ, .bor _ :: Γ => a :: mutA σ Γ
  | _ :: σ, _ :: Γ => mutA σ Γ
  | _, _ => []
structure Ok (F : Fx) (G H : Hp) (σ : St) (Γ : Env) : Prop where
  sub : Sub G H
  g0 : Inc F.G0 G
  fresh : ∀ a o, G a = some o → F.G0 a = some o ∨ F.H0 a = none
  frame : ∀ a o, F.H0 a = some o → a ∉ F.B → H a = some o
  bor : ∀ a, a ∈ F.B → ∃ o, H a = some o
  slots : Slots F G H σ Γ
  nd : (mutA σ Γ).Nodup
  pin : ∀ (i : Nat) (a : Addr), F.pin[i]? = some (some a) → σ[i]? = some (some (V.ref a)) ∧ ∃ o, Γ[i]? = some (Slot.bor o)
  pl : F.pin.length ≤ Γ.length
section
variable {F : Fx} {G G' H H' : Hp} {σ : St} {Γ : Env}
theorem Slots.get : ∀ {σ : St} {Γ : Env} {i : Nat} {s : Slot}, Slots F G H σ Γ → Γ[i]? = some s → ∃ v, σ[i]? = some v ∧ SlotOk F G H v s
  | [], [], _, _, _, e => by simp at e
  | v :: σ, t :: Γ, 0, s, h, e => by
    simp at e
    subst e
    exact ⟨v, rfl, h.1⟩
  | v :: σ, t :: Γ, i + 1, s, h, e => by
    obtain ⟨u, e1, r⟩ := Slots.get (i := i) h.2 (by simpa using e)
    exact ⟨u, by simpa using e1, r⟩
  | [], _ :: _, _, _, h, _ => h.elim
  | _ :: _, [], _, _, h, _ => h.elim
theorem Slots.len : ∀ {σ : St} {Γ : Env}, Slots F G H σ Γ → σ.length = Γ.length
  | [], [], _ => rfl
  | _ :: _, _ :: _, h => by rw [List.length_cons, List.length_cons, Slots.len h.2]
  | [], _ :: _, h => h.elim
  | _ :: _, [], h => h.elim
theorem Slots.set {v : Option V} {s : Slot} (hv : SlotOk F G H v s) : ∀ {σ : St} {Γ : Env} (i : Nat), Slots F G H σ Γ → Slots F G H (σ.set i v) (Γ.set i s)
  | [], [], _, h => h
  | _ :: _, _ :: _, 0, h => ⟨hv, h.2⟩
  | _ :: _, _ :: _, i + 1, h => ⟨h.1, Slots.set hv i h.2⟩
  | [], _ :: _, _, h => h.elim
  | _ :: _, [], _, h => h.elim
/-- the new state agrees at all the changing things -/
theorem SlotOk.step {v : Option V} {s : Slot} (i : Inc G G') (hm : ∀ a, v = some (.ref a) → s.mo.isSome = true → H' a = H a ∧ G' a = none) (hd : ∀ dd ws, F.xd = some dd → H dd = some (.xd ws) → H' dd = some (.xd ws)) (h : SlotOk F G H v s) : SlotOk F G' H' v s := by
  cases s with
  | no => trivial
  | val d =>
    cases v with
    | none => exact h.elim
    | some v => exact Rep.inc i h
  | own o =>
    cases v with
    | none => exact h.elim
    | some v =>
      obtain ⟨a, rfl, g, m, z⟩ := h
      obtain ⟨e1, e2⟩ := hm a rfl rfl
      exact ⟨a, rfl, e2, m.inc i e1, z⟩
  | bor o =>
    cases v with
    | none => exact h.elim
    | some v =>
      obtain ⟨a, rfl, g, m, z⟩ := h
      obtain ⟨e1, e2⟩ := hm a rfl rfl
      exact ⟨a, rfl, e2, m.inc i e1, z⟩
  | exc c fs =>
    cases v with
    | none => exact h.elim
    | some v =>
      obtain ⟨a, b, r⟩ := h
      refine ⟨a, b, ?_⟩
      rcases r with r | ⟨dd, ws, e, q, r⟩
      · exact .inl r
      · exact .inr ⟨dd, ws, e, hd dd _ e q, r.inc i⟩
theorem mem_mutA : ∀ {σ : St} {Γ : Env} {i : Nat} {a : Addr} {s : Slot}, σ[i]? = some (some (.ref a)) → Γ[i]? = some s → s.mo.isSome = true → a ∈ mutA σ Γ
  | [], _, _, _, _, e, _, _ => by simp at e
  | _ :: _, [], _, _, _, _, e, _ => by simp at e
  | v :: σ, t :: Γ, 0, a, s, e1, e2, z => by
    simp at e1 e2
    subst e1; subst e2
    cases t with
    | own o => simp [mutA]
    | bor o => simp [mutA]
    | no => cases z
    | val d => cases z
    | exc c fs => cases z
  | v :: σ, t :: Γ, i + 1, a, s, e1, e2, z => by
    have ih := mem_mutA (σ := σ) (Γ := Γ) (i := i) (a := a) (s := s) (by simpa using e1) (by simpa using e2) z
    unfold mutA
    split
    · exact List.mem_cons_of_mem _ (by rename_i h1 h2; cases h1; cases h2; exact ih)
    · exact List.mem_cons_of_mem _ (by rename_i h1 h2; cases h1; cases h2; exact ih)
    · rename_i h1 h2; cases h1; cases h2; exact ih
    · rename_i hh
      exact absurd rfl (hh v σ t Γ rfl)
theorem Slots.step : ∀ {σ : St} {Γ : Env}, Inc G G' → (∀ a, a ∈ mutA σ Γ → H' a = H a ∧ G' a = none) → (∀ dd ws, F.xd = some dd → H dd = some (.xd ws) → H' dd = some (.xd ws)) → Slots F G H σ Γ → Slots F G' H' σ Γ := by
  intro σ Γ i hm hd h
  have key : ∀ (n : Nat) (σ1 : St) (Γ1 : Env), Slots F G H σ1 Γ1 → (∀ a, a ∈ mutA σ1 Γ1 → H' a = H a ∧ G' a = none) → Slots F G' H' σ1 Γ1 := by
    intro n σ1
    induction σ1 with
    | nil => intro Γ1 h1 _; cases Γ1 with
      | nil => trivial
      | cons _ _ => exact h1.elim
    | cons v σ1 ih =>
      intro Γ1 h1 h2
      cases Γ1 with
      | nil => exact h1.elim
      | cons s Γ1 =>
        refine ⟨SlotOk.step i (fun a e z => h2 a ?_) hd h1.1, ih Γ1 h1.2 fun a ha => h2 a ?_⟩
        · exact mem_mutA (i := 0) (s := s) (by simp [e]) (by simp) z
        · unfold mutA
          split
          · exact List.mem_cons_of_mem _ (by rename_i q1 q2; cases q1; cases q2; exact ha)
          · exact List.mem_cons_of_mem _ (by rename_i q1 q2; cases q1; cases q2; exact ha)
          · rename_i q1 q2; cases q1; cases q2; exact ha
          · rename_i hh
            exact absurd rfl (hh v σ1 s Γ1 rfl)
  exact key 0 σ Γ h hm
theorem mutA_there : ∀ {σ : St} {Γ : Env}, Slots F G H σ Γ → ∀ a, a ∈ mutA σ Γ → (∃ o, H a = some o) ∧ G a = none ∧ (F.H0 a = none ∨ a ∈ F.B)
  | [], [], _, a, ha => by simp [mutA] at ha
  | v :: σ, s :: Γ, h, a, ha => by
    unfold mutA at ha
    split at ha
    · rename_i q1 q2
      cases q1; cases q2
      rcases List.mem_cons.mp ha with e | e
      · obtain ⟨b, eb, g, m, z⟩ := h.1
        cases eb
        subst e
        exact ⟨m.ex, g, .inl z⟩
      · exact mutA_there h.2 a e
    · rename_i q1 q2
      cases q1; cases q2
      rcases List.mem_cons.mp ha with e | e
      · obtain ⟨b, eb, g, m, z⟩ := h.1
        cases eb
        subst e
        exact ⟨m.ex, g, .inr z⟩
      · exact mutA_there h.2 a e
    · rename_i q1 q2
      cases q1; cases q2
      exact mutA_there h.2 a ha
    · simp at ha
  | [], _ :: _, h, _, _ => h.elim
  | _ :: _, [], h, _, _ => h.elim
theorem Ok.h0 (k : Ok F G H σ Γ) {p : Addr} (hp : H p = none) : F.H0 p = none := by
  cases e : F.H0 p with
  | none => rfl
  | some o =>
    by_cases hb : p ∈ F.B
    · obtain ⟨u, q⟩ := k.bor p hb
      rw [q] at hp
      cases hp
    · rw [k.frame p o e hb] at hp
      cases hp
/-- a new thing, told -/
theorem Ok.new (k : Ok F G H σ Γ) {p : Addr} (hp : H p = none) (o : HO) : Ok F (upd G p o) (upd H p o) σ Γ where
  sub := k.sub.new hp o
  g0 := k.g0.trans (Inc.new (k.sub.no hp))
  fresh := fun a u e => by
    by_cases h : a = p
    · subst h
      exact .inr (k.h0 hp)
    · rw [upd_ne h] at e
      exact k.fresh a u e
  frame := fun a u e hb => by rw [upd_ne (ne_of_none (k.frame a u e hb) hp)]; exact k.frame a u e hb
  bor := fun a ha => by
    obtain ⟨u, q⟩ := k.bor a ha
    exact ⟨u, by rw [upd_ne (ne_of_none q hp)]; exact q⟩
  slots := k.slots.step (Inc.new (k.sub.no hp)) (fun a ha => by
    obtain ⟨⟨u, q⟩, g, _⟩ := mutA_there k.slots a ha
    rw [upd_ne (ne_of_none q hp), upd_ne (ne_of_none q hp)]
    exact ⟨rfl, g⟩) (fun dd ws _ q => by rw [upd_ne (ne_of_none q hp)]; exact q)
  nd := k.nd
  pin := k.pin
  pl := k.pl
/-- a new thing, not told -/
theorem Ok.new0 (k : Ok F G H σ Γ) {p : Addr} (hp : H p = none) (o : HO) : Ok F G (upd H p o) σ Γ where
  sub := k.sub.off (k.sub.no hp) o
  g0 := k.g0
  fresh := k.fresh
  frame := fun a u e hb => by rw [upd_ne (ne_of_none (k.frame a u e hb) hp)]; exact k.frame a u e hb
  bor := fun a ha => by
    obtain ⟨u, q⟩ := k.bor a ha
    exact ⟨u, by rw [upd_ne (ne_of_none q hp)]; exact q⟩
  slots := k.slots.step (Inc.refl G) (fun a ha => by
    obtain ⟨⟨u, q⟩, g, _⟩ := mutA_there k.slots a ha
    rw [upd_ne (ne_of_none q hp)]
    exact ⟨rfl, g⟩) (fun dd ws _ q => by rw [upd_ne (ne_of_none q hp)]; exact q)
  nd := k.nd
  pin := k.pin
  pl := k.pl
/-- something that nobody knows is changed -/
theorem Ok.off (k : Ok F G H σ Γ) {p : Addr} (gp : G p = none) (hp : F.H0 p = none) (hb : p ∉ F.B) (hm : p ∉ mutA σ Γ) (hd : ∀ ws, H p ≠ some (.xd ws)) (o : HO) : Ok F G (upd H p o) σ Γ where
  sub := k.sub.off gp o
  g0 := k.g0
  fresh := k.fresh
  frame := fun a u e hb => by rw [upd_ne (ne_of_none e hp)]; exact k.frame a u e hb
  bor := fun a ha => by
    obtain ⟨u, q⟩ := k.bor a ha
    exact ⟨u, by rw [upd_ne (show a ≠ p from fun z => hb (z ▸ ha))]; exact q⟩
  slots := k.slots.step (Inc.refl G) (fun a ha => by
    obtain ⟨⟨u, q⟩, g, _⟩ := mutA_there k.slots a ha
    rw [upd_ne (show a ≠ p from fun z => hm (z ▸ ha))]
    exact ⟨rfl, g⟩) (fun dd ws e q => by rw [upd_ne (show dd ≠ p from fun z => hd ws (z ▸ q))]; exact q)
  nd := k.nd
  pin := k.pin
  pl := k.pl
/-- something new is told from now on -/
theorem Ok.tell (k : Ok F G H σ Γ) {a : Addr} {o : HO} (ha : H a = some o) (ga : G a = none) (h0 : F.H0 a = none) (hm : a ∉ mutA σ Γ) : Ok F (upd G a o) H σ Γ where
  sub := fun b u e => by
    by_cases h : b = a
    · subst h
      rw [upd_same] at e
      cases e
      exact .inl ha
    · rw [upd_ne h] at e
      exact k.sub b u e
  g0 := k.g0.trans (Inc.new ga)
  fresh := fun b u e => by
    by_cases h : b = a
    · subst h
      exact .inr h0
    · rw [upd_ne h] at e
      exact k.fresh b u e
  frame := k.frame
  bor := k.bor
  slots := k.slots.step (Inc.new ga) (fun b hb => by
    obtain ⟨_, g, _⟩ := mutA_there k.slots b hb
    rw [upd_ne (show b ≠ a from fun z => hm (z ▸ hb))]
    exact ⟨rfl, g⟩) (fun dd ws _ q => q)
  nd := k.nd
  pin := k.pin
  pl := k.pl
/-- .. and is a datum -/
theorem mrep_tell {F : Cf} {G H : Hp} {d : D} {o : MO} {a : Addr} (hd : moD d = some o) (ga : G a = none) (m : MRep F G H o a) : ∃ u, H a = some u ∧ Rep F (upd G a u) d (.ref a) := by
  cases d with
  | lst xs => cases hd; obtain ⟨vs, e, r⟩ := m; exact ⟨_, e, a, vs, rfl, upd_same, r.inc (Inc.new ga)⟩
  | dic xs => cases hd; obtain ⟨vs, e, r⟩ := m; exact ⟨_, e, a, vs, rfl, upd_same, r.inc (Inc.new ga)⟩
  | ins c xs => cases hd; obtain ⟨dx, vs, e, r⟩ := m; exact ⟨_, e, a, dx, vs, rfl, upd_same, r.inc (Inc.new ga)⟩
  | _ => cases hd
theorem Ok.rep (k : Ok F G H σ Γ) {i : Nat} {d : D} (h : Γ[i]? = some (.val d)) : ∃ v, σ[i]? = some (some v) ∧ Rep F.toCf G d v := by
  obtain ⟨v, e, r⟩ := k.slots.get h
  cases v with
  | none => exact r.elim
  | some v => exact ⟨v, e, r⟩
/-- the slot's thing that may change -/
theorem Ok.mut (k : Ok F G H σ Γ) {i : Nat} {s : Slot} {o : MO} (h : Γ[i]? = some s) (hs : s.mo = some o) : ∃ a, σ[i]? = some (some (.ref a)) ∧ G a = none ∧ MRep F.toCf G H o a ∧ (F.H0 a = none ∨ a ∈ F.B) := by
  obtain ⟨v, e, r⟩ := k.slots.get h
  cases s with
  | own o' =>
    cases hs
    cases v with
    | none => exact r.elim
    | some v =>
      obtain ⟨a, rfl, g, m, z⟩ := r
      exact ⟨a, e, g, m, .inl z⟩
  | bor o' =>
    cases hs
    cases v with
    | none => exact r.elim
    | some v =>
      obtain ⟨a, rfl, g, m, z⟩ := r
      exact ⟨a, e, g, m, .inr z⟩
  | no => cases hs
  | val d => cases hs
  | exc c fs => cases hs
/-- not a thing that may change -/
def nomut (Γ : Env) (i : Nat) : Prop := ∀ s, Γ[i]? = some s → s.mo = none
theorem mutA_set : ∀ {σ : St} {Γ : Env} {i : Nat} {v : Option V} {s : Slot}, nomut Γ i → s.mo = none → mutA (σ.set i v) (Γ.set i s) = mutA σ Γ
  | [], [], _, _, _, _, _ => rfl
  | [], _ :: _, _, _, _, _, _ => by simp [mutA]
  | _ :: _, [], _, _, _, _, _ => by simp [mutA]
  | u :: σ, t :: Γ, 0, v, s, n, z => by
    have ht : t.mo = none := n t rfl
    show mutA (v :: σ) (s :: Γ) = mutA (u :: σ) (t :: Γ)
    have one : ∀ (u : Option V) (t : Slot), t.mo = none → mutA (u :: σ) (t :: Γ) = mutA σ Γ := by
      intro u t ht
      cases t with
      | own o => cases ht
      | bor o => cases ht
      | no => simp [mutA]
      | val d => simp [mutA]
      | exc c fs => simp [mutA]
    rw [one v s z, one u t ht]
  | u :: σ, t :: Γ, i + 1, v, s, n, z => by
    have ih := mutA_set (σ := σ) (Γ := Γ) (i := i) (v := v) (s := s) (fun s hs => n s (by simpa using hs)) z
    show mutA (u :: σ.set i v) (t :: Γ.set i s) = mutA (u :: σ) (t :: Γ)
    cases t with
    | own o =>
      cases u with
      | none => simp [mutA, ih]
      | some w => cases w <;> simp [mutA, ih]
    | bor o =>
      cases u with
      | none => simp [mutA, ih]
      | some w => cases w <;> simp [mutA, ih]
    | no => simp [mutA, ih]
    | val d => simp [mutA, ih]
    | exc c fs => simp [mutA, ih]
theorem Ok.setS (k : Ok F G H σ Γ) {i : Nat} {v : Option V} {s : Slot} (n : nomut Γ i) (z : s.mo = none) (h : SlotOk F G H v s) : Ok F G H (σ.set i v) (Γ.set i s) :=
  by
  refine ⟨k.sub, k.g0, k.fresh, k.frame, k.bor, k.slots.set h i, by rw [mutA_set n z]; exact k.nd, fun j a e => ?_, by rw [List.length_set]; exact k.pl⟩
  obtain ⟨e1, o, e2⟩ := k.pin j a e
  have hj : i ≠ j := fun q => by
    subst q
    cases n _ e2
  rw [List.getElem?_set_ne hj, List.getElem?_set_ne hj]
  exact ⟨e1, o, e2⟩
/-- x = a datum -/
theorem Ok.set (k : Ok F G H σ Γ) {i : Nat} {v : V} {d : D} (n : nomut Γ i) (h : Rep F.toCf G d v) : Ok F G H (σ.set i (some v)) (Γ.set i (.val d)) := k.setS n rfl h
theorem Ok.unset (k : Ok F G H σ Γ) {i : Nat} {v : Option V} (n : nomut Γ i) : Ok F G H (σ.set i v) (Γ.set i .no) := k.setS n rfl (by cases v <;> trivial)
end
end Q

set_option Elab.async false
set_option linter.all false
set_option maxRecDepth 100000
set_option maxHeartbeats 4000000
namespace Q
open PySem L2 PySem.Spec PyProof.Rows
/-! ## 3. Wishes and judgements over data -/
structure Exn where
  c : Cn
  fs : List D
def XRep (F : Cf) (G H : Hp) (x : Exn) (cls : Value) (dd : Option Addr) : Prop :=
  cls = .ref (F.cl x.c) ∧ (x.fs = [] ∨ ∃ a vs, dd = some a ∧ H a = some (.xd (x.c.fields.zip vs)) ∧ Reps F G x.fs vs)
abbrev XP := Exn → Env → Prop
abbrev QE := Env → (D → Env → Prop) → XP → Prop
abbrev QT := Env → (Bool → Env → Prop) → XP → Prop
abbrev QA := Env → (List D → Env → Prop) → XP → Prop
structure PEnds where
  nx : Env → Prop
  rt : D → Env → Prop
  bk : Env → Prop := fun _ => False
  ct : Env → Prop := fun _ => False
abbrev QS := Env → PEnds → XP → Prop
/-- what is wished of an exception, by the frame -/
def wOf (F : Fx) (E : XP) : WX := fun cls d σ H => ∃ G Γ x, Ok F G H σ Γ ∧ XRep F.toCf G H x cls d ∧ E x Γ
def Fin (F : Fx) (G : Hp) (σ : St) (Q : D → Env → Prop) : VK := fun w H' => ∃ d Γ' G', Q d Γ' ∧ Inc G G' ∧ Ok F G' H' σ Γ' ∧ Rep F.toCf G' d w
def FinT (F : Fx) (G : Hp) (σ : St) (Q : Bool → Env → Prop) : Bool → Hp → Prop := fun b H' => ∃ Γ' G', Q b Γ' ∧ Inc G G' ∧ Ok F G' H' σ Γ'
def FinA (F : Fx) (G : Hp) (σ : St) (Q : List D → Env → Prop) : List V → Hp → Prop := fun ws H' => ∃ ds Γ' G', Q ds Γ' ∧ Inc G G' ∧ Ok F G' H' σ Γ' ∧ Reps F.toCf G' ds ws
def endsOf (F : Fx) (G : Hp) (P : PEnds) : Ends where
  nx := fun σ' H' => ∃ Γ' G', P.nx Γ' ∧ Inc G G' ∧ Ok F G' H' σ' Γ'
  rt := fun v H' => ∃ d Γ' G' σ', P.rt d Γ' ∧ Inc G G' ∧ Ok F G' H' σ' Γ' ∧ RepR F.toCf F.H0 G' H' d v
  bk := fun σ' H' => ∃ Γ' G', P.bk Γ' ∧ Inc G G' ∧ Ok F G' H' σ' Γ'
  ct := fun σ' H' => ∃ Γ' G', P.ct Γ' ∧ Inc G G' ∧ Ok F G' H' σ' Γ'
structure LE (X : Cx) (F : Fx) (E : XP) (e : Expr) (p : QE) : Prop where
  run : ∀ (pins : List (Addr × Obj)) (s : Shared) (σ : St) (H G : Hp) (Γ : Env) (Q : D → Env → Prop), Inv X pins σ H s → Ok F G H σ Γ → p Γ Q E →
    wpAny (model X.prog X.w) X.A (eval e X.env) (EP X pins σ (Fin F G σ Q)) X.xe s
structure LT (X : Cx) (F : Fx) (E : XP) (e : Expr) (p : QT) : Prop where
  run : ∀ (pins : List (Addr × Obj)) (s : Shared) (σ : St) (H G : Hp) (Γ : Env) (Q : Bool → Env → Prop), Inv X pins σ H s → Ok F G H σ Γ → p Γ Q E →
    wpAny (model X.prog X.w) X.A (isTrue e X.env (eval e X.env)) (TP X pins σ (FinT F G σ Q)) X.xe s
/-- a test whatever its whole is -/
structure LW (X : Cx) (F : Fx) (E : XP) (e : Expr) (p : QT) : Prop where
  run : ∀ (whole : Sem Value) (pins : List (Addr × Obj)) (s : Shared) (σ : St) (H G : Hp) (Γ : Env) (Q : Bool → Env → Prop), Inv X pins σ H s → Ok F G H σ Γ → p Γ Q E →
    wpAny (model X.prog X.w) X.A (isTrue e X.env whole) (TP X pins σ (FinT F G σ Q)) X.xe s
structure LA (X : Cx) (F : Fx) (E : XP) (es : List Expr) (p : QA) : Prop where
  run : ∀ (pos : Pos) (pins : List (Addr × Obj)) (s : Shared) (σ : St) (H G : Hp) (Γ : Env) (Q : List D → Env → Prop), Inv X pins σ H s → Ok F G H σ Γ → p Γ Q E →
    wpAny (model X.prog X.w) X.A (spliced (backTo pos (starEach es X.env))) (AP X pins σ (FinA F G σ Q)) X.xe s
structure LS (X : Cx) (F : Fx) (E : XP) (st : Stmt) (p : QS) : Prop where
  run : ∀ (pins : List (Addr × Obj)) (s : Shared) (σ : St) (H G : Hp) (Γ : Env) (P : PEnds), Inv X pins σ H s → Ok F G H σ Γ → p Γ P E →
    wpAny (model X.prog X.w) X.A (exec st X.env) (SP X pins (endsOf F G P)) X.xe s
structure LSs (X : Cx) (F : Fx) (E : XP) (st : List Stmt) (p : QS) : Prop where
  run : ∀ (pins : List (Addr × Obj)) (s : Shared) (σ : St) (H G : Hp) (Γ : Env) (P : PEnds), Inv X pins σ H s → Ok F G H σ Γ → p Γ P E →
    wpAny (model X.prog X.w) X.A (execs st X.env) (SP X pins (endsOf F G P)) X.xe s
theorem LW.lt {X : Cx} {F : Fx} {E : XP} {e : Expr} {p : QT} (h : LW X F E e p) : LT X F E e p := ⟨h.run _⟩
/-! ### to and from the layer's own judgements -/
def tE (F : Fx) (E : XP) (p : QE) : TE := fun σ H K => ∃ G Γ Q, Ok F G H σ Γ ∧ p Γ Q E ∧ ∀ w H', Fin F G σ Q w H' → K w H'
def tT (F : Fx) (E : XP) (p : QT) : TT := fun σ H K => ∃ G Γ Q, Ok F G H σ Γ ∧ p Γ Q E ∧ ∀ b H', FinT F G σ Q b H' → K b H'
def tA (F : Fx) (E : XP) (p : QA) : TA := fun σ H K => ∃ G Γ Q, Ok F G H σ Γ ∧ p Γ Q E ∧ ∀ ws H', FinA F G σ Q ws H' → K ws H'
def tS (F : Fx) (E : XP) (p : QS) : TS := fun D σ H => ∃ G Γ P, Ok F G H σ Γ ∧ p Γ P E ∧ (∀ σ' H', (endsOf F G P).nx σ' H' → D.nx σ' H') ∧ (∀ v H', (endsOf F G P).rt v H' → D.rt v H') ∧
  (∀ σ' H', (endsOf F G P).bk σ' H' → D.bk σ' H') ∧ (∀ σ' H', (endsOf F G P).ct σ' H' → D.ct σ' H')
section
variable {X : Cx} {F : Fx} {E : XP}
theorem sp_imp {pins : List (Addr × Obj)} {D D' : Ends} {f : Flow} {s : Shared} (h : SP X pins D f s) (h1 : ∀ σ H, D.nx σ H → D'.nx σ H) (h2 : ∀ v H, D.rt v H → D'.rt v H) (h3 : ∀ σ H, D.bk σ H → D'.bk σ H) (h4 : ∀ σ H, D.ct σ H → D'.ct σ H) : SP X pins D' f s := by
  cases f with
  | next => obtain ⟨σ, H, I, q⟩ := h; exact ⟨σ, H, I, h1 _ _ q⟩
  | brk => obtain ⟨σ, H, I, q⟩ := h; exact ⟨σ, H, I, h3 _ _ q⟩
  | cont => obtain ⟨σ, H, I, q⟩ := h; exact ⟨σ, H, I, h4 _ _ q⟩
  | ret u => obtain ⟨v, σ, H, I, r, q⟩ := h; exact ⟨v, σ, H, I, r, h2 _ _ q⟩
theorem LE.pe {e : Expr} {p : QE} (h : LE X F E e p) : PE X e (tE F E p) := ⟨fun pins s σ H K I ⟨G, Γ, Q, k, q, i⟩ =>
  thn (h.run pins s σ H G Γ Q I k q) fun u s' ⟨v, H', I', r, z⟩ => ⟨v, H', I', r, i v H' z⟩⟩
theorem LE.of {e : Expr} {p : QE} {t : TE} (h : PE X e t) (i : ∀ σ H G Γ Q, Ok F G H σ Γ → p Γ Q E → t σ H (Fin F G σ Q)) : LE X F E e p := ⟨fun pins s σ H G Γ Q I k q => h.run pins s σ H _ I (i σ H G Γ Q k q)⟩
theorem LT.pt {e : Expr} {p : QT} (h : LT X F E e p) : PT X e (tT F E p) := ⟨fun pins s σ H K I ⟨G, Γ, Q, k, q, i⟩ =>
  thn (h.run pins s σ H G Γ Q I k q) fun u s' ⟨H', I', z⟩ => ⟨H', I', i u H' z⟩⟩
theorem LT.of {e : Expr} {p : QT} {t : TT} (h : PT X e t) (i : ∀ σ H G Γ Q, Ok F G H σ Γ → p Γ Q E → t σ H (FinT F G σ Q)) : LT X F E e p := ⟨fun pins s σ H G Γ Q I k q => h.run pins s σ H _ I (i σ H G Γ Q k q)⟩
theorem LA.pa {es : List Expr} {p : QA} (h : LA X F E es p) : PA X es (tA F E p) := ⟨fun pos pins s σ H K I ⟨G, Γ, Q, k, q, i⟩ =>
  thn (h.run pos pins s σ H G Γ Q I k q) fun u s' ⟨v, H', I', r, z⟩ => ⟨v, H', I', r, i v H' z⟩⟩
theorem LS.ps {st : Stmt} {p : QS} (h : LS X F E st p) : PS X st (tS F E p) := ⟨fun pins s σ H D I ⟨G, Γ, P, k, q, i1, i2, i3, i4⟩ =>
  thn (h.run pins s σ H G Γ P I k q) fun f s' z => sp_imp z i1 i2 i3 i4⟩
theorem LSs.ps {st : List Stmt} {p : QS} (h : LSs X F E st p) : PSs X st (tS F E p) := ⟨fun pins s σ H D I ⟨G, Γ, P, k, q, i1, i2, i3, i4⟩ =>
  thn (h.run pins s σ H G Γ P I k q) fun f s' z => sp_imp z i1 i2 i3 i4⟩
theorem LS.of {st : Stmt} {p : QS} {t : TS} (h : PS X st t) (i : ∀ σ H G Γ P, Ok F G H σ Γ → p Γ P E → t (endsOf F G P) σ H) : LS X F E st p := ⟨fun pins s σ H G Γ P I k q => h.run pins s σ H _ I (i σ H G Γ P k q)⟩
/-- the ends seen from a larger ground -/
theorem ends_inc {G G' : Hp} {P : PEnds} (i : Inc G G') {pins : List (Addr × Obj)} {f : Flow} {s : Shared} (h : SP X pins (endsOf F G' P) f s) : SP X pins (endsOf F G P) f s :=
  sp_imp h (fun σ H ⟨Γ, G2, a, b, c⟩ => ⟨Γ, G2, a, i.trans b, c⟩) (fun v H ⟨d, Γ, G2, σ, a, b, c⟩ => ⟨d, Γ, G2, σ, a, i.trans b, c⟩) (fun σ H ⟨Γ, G2, a, b, c⟩ => ⟨Γ, G2, a, i.trans b, c⟩) (fun σ H ⟨Γ, G2, a, b, c⟩ => ⟨Γ, G2, a, i.trans b, c⟩)
/-! ### names and constants -/
def qVar (i : Nat) : QE := fun Γ Q _ => match Γ[i]? with
  | some (.val d) => Q d Γ
  | _ => False
def qC (d : D) : QE := fun Γ Q _ => Q d Γ
theorem qVar_get {i : Nat} {Γ : Env} {Q : D → Env → Prop} {E : XP} (h : qVar i Γ Q E) : ∃ d, Γ[i]? = some (.val d) ∧ Q d Γ := by
  unfold qVar at h
  split at h
  · rename_i d e; exact ⟨d, e, h⟩
  · exact h.elim
theorem le_var (i : Nat) {x : Str} {pos : Pos} (hN : X.N[i]? = some x := by rfl) (hv : Vis X.env.scope x := by first | exact Or.inl rfl | exact Or.inr (Or.inl rfl) | exact Or.inr (Or.inr rfl)) (hd : (x == ("__debug__" : Str)) = false := by decide)
    (hcd : (x == ("__classdict__" : Str)) = false := by decide) : LE X F E (.Name x pos) (qVar i) :=
  LE.of (pe_var hN hv hd hcd) fun σ H G Γ Q k q => by
    obtain ⟨d, e, q⟩ := qVar_get q
    obtain ⟨v, ev, r⟩ := k.rep e
    exact ⟨v, ev, d, Γ, G, q, Inc.refl G, k, r⟩
theorem le_int {i j pos} : LE X F E (.Constant (.int i) j pos) (qC (.int i)) := LE.of pe_int fun σ H G Γ Q k q => ⟨_, Γ, G, q, Inc.refl G, k, rfl⟩
theorem le_bl {i j pos} : LE X F E (.Constant (.bool i) j pos) (qC (.bl i)) := LE.of pe_bl fun σ H G Γ Q k q => ⟨_, Γ, G, q, Inc.refl G, k, rfl⟩
theorem le_non {j pos} : LE X F E (.Constant .none j pos) (qC .non) := LE.of pe_non fun σ H G Γ Q k q => ⟨_, Γ, G, q, Inc.refl G, k, rfl⟩
theorem le_str {i j pos} : LE X F E (.Constant (.str i) j pos) (qC (.str i)) := LE.of pe_str fun σ H G Γ Q k q => ⟨_, Γ, G, q, Inc.refl G, k, rfl⟩
/-! ### operations on two data -/
abbrev O2 := D → D → Env → (D → Env → Prop) → XP → Prop
abbrev O1 := D → Env → (D → Env → Prop) → XP → Prop
def OpL (X : Cx) (F : Fx) (E : XP) (f : Value → Value → Sem Value) (o : O2) : Prop :=
  ∀ (pins : List (Addr × Obj)) (s : Shared) (σ : St) (H G : Hp) (Γ : Env) (x y : V) (v u : Value) (d e : D) (Q : D → Env → Prop), Inv X pins σ H s → Ok F G H σ Γ → RelV x v → RelV y u → Rep F.toCf G d x → Rep F.toCf G e y → o d e Γ Q E →
    wpAny (model X.prog X.w) X.A (f v u) (EP X pins σ (Fin F G σ Q)) X.xe s
def UnL (X : Cx) (F : Fx) (E : XP) (f : Value → Sem Value) (o : O1) : Prop :=
  ∀ (pins : List (Addr × Obj)) (s : Shared) (σ : St) (H G : Hp) (Γ : Env) (x : V) (v : Value) (d : D) (Q : D → Env → Prop), Inv X pins σ H s → Ok F G H σ Γ → RelV x v → Rep F.toCf G d x → o d Γ Q E →
    wpAny (model X.prog X.w) X.A (f v) (EP X pins σ (Fin F G σ Q)) X.xe s
theorem OpL.of {f : Value → Value → Sem Value} {o : O2} {r : R2} (h : OpR X f r) (i : ∀ σ H G Γ x y d e Q, Ok F G H σ Γ → Rep F.toCf G d x → Rep F.toCf G e y → o d e Γ Q E → r x y H (Fin F G σ Q)) : OpL X F E f o :=
  fun pins s σ H G Γ x y v u d e Q I k rv ru rx ry q => h pins s σ H x y v u _ I rv ru (i σ H G Γ x y d e Q k rx ry q)
theorem UnL.of {f : Value → Sem Value} {o : O1} {r : V → Hp → VK → Prop} (h : UnR X f r) (i : ∀ σ H G Γ x d Q, Ok F G H σ Γ → Rep F.toCf G d x → o d Γ Q E → r x H (Fin F G σ Q)) : UnL X F E f o :=
  fun pins s σ H G Γ x v d Q I k rv rx q => h pins s σ H x v _ I rv (i σ H G Γ x d Q k rx q)
variable {a b c : Expr} {pa pb pc : QE} {pos : Pos}
def qBin (o : O2) (pa pb : QE) : QE := fun Γ Q E => pa Γ (fun d Γ1 => pb Γ1 (fun e Γ2 => o d e Γ2 Q E) E) E
def qUn (o : O1) (pa : QE) : QE := fun Γ Q E => pa Γ (fun d Γ1 => o d Γ1 Q E) E
theorem lift2 (ha : LE X F E a pa) (hb : LE X F E b pb) {f : Value → Value → Sem Value} {o : O2} (ho : OpL X F E f o) {pins : List (Addr × Obj)} {s : Shared} {σ : St} {H G : Hp} {Γ : Env} {Q : D → Env → Prop} (I : Inv X pins σ H s) (k : Ok F G H σ Γ) (q : qBin o pa pb Γ Q E) :
    wpAny (model X.prog X.w) X.A (eval a X.env) (fun v s₁ => wpAny (model X.prog X.w) X.A (eval b X.env) (fun u s₂ => wpAny (model X.prog X.w) X.A (f v u) (EP X pins σ (Fin F G σ Q)) X.xe s₂) X.xe s₁) X.xe s := by
  refine thn (ha.run pins s σ H G Γ _ I k q) fun v s1 ⟨x, H1, I1, r1, d, Γ1, G1, q1, i1, k1, rp1⟩ => ?_
  refine thn (hb.run pins s1 σ H1 G1 Γ1 _ I1 k1 q1) fun u s2 ⟨y, H2, I2, r2, e, Γ2, G2, q2, i2, k2, rp2⟩ => ?_
  exact thn (ho pins s2 σ H2 G2 Γ2 x y v u d e Q I2 k2 r1 r2 (rp1.inc i2) rp2 q2) fun w s3 ⟨z, H3, I3, r3, c, Γ3, G3, q3, i3, k3, rp3⟩ => ⟨z, H3, I3, r3, c, Γ3, G3, q3, (i1.trans i2).trans i3, k3, rp3⟩
theorem le_bin {op : Operator} {o : O2} (ho : OpL X F E (binaryOp op) o) (ha : LE X F E a pa) (hb : LE X F E b pb) : LE X F E (.BinOp a op b pos) (qBin o pa pb) :=
  ⟨fun pins s σ H G Γ Q I k h => wpAny_BinOp (lift2 ha hb ho I k h)⟩
theorem le_un {op : UnaryOp} {o : O1} (ho : UnL X F E (unaryOp op) o) (ha : LE X F E a pa) : LE X F E (.UnaryOp op a pos) (qUn o pa) :=
  ⟨fun pins s σ H G Γ Q I k h => UnaryOp_ (thn (ha.run pins s σ H G Γ _ I k h) fun v s1 ⟨x, H1, I1, r1, d, Γ1, G1, q1, i1, k1, rp1⟩ =>
    thn (ho pins s1 σ H1 G1 Γ1 x v d Q I1 k1 r1 rp1 q1) fun w s3 ⟨z, H3, I3, r3, c, Γ3, G3, q3, i3, k3, rp3⟩ => ⟨z, H3, I3, r3, c, Γ3, G3, q3, i1.trans i3, k3, rp3⟩)⟩
theorem le_cmp {op : CmpOp} {o : O2} (ho : OpL X F E (compareOp op) o) (ha : LE X F E a pa) (hb : LE X F E b pb) (hm : behindInMarks op b = false := by first | exact nomark _ | with_unfolding_all rfl) : LE X F E (.Compare a [op] [b] pos) (qBin o pa pb) :=
  ⟨fun pins s σ H G Γ Q I k h => wpAny_Compare1 (lift2 ha hb ho I k h) hm⟩
/-- a value as a test: a truth value -/
def qTest (p : QE) : QT := fun Γ Q E => p Γ (fun d Γ1 => match d with
  | .bl b => Q b Γ1
  | _ => False) E
theorem qTest_get {d : D} {Q : Bool → Env → Prop} {Γ : Env} (h : (match d with | .bl b => Q b Γ | _ => False)) : ∃ b, d = .bl b ∧ Q b Γ := by
  cases d with
  | bl b => exact ⟨b, rfl, h⟩
  | _ => exact h.elim
theorem lt_cmp {op : CmpOp} {o : O2} (ho : OpL X F E (compareOp op) o) (ha : LE X F E a pa) (hb : LE X F E b pb) (hm : behindInMarks op b = false := by first | exact nomark _ | with_unfolding_all rfl) : LT X F E (.Compare a [op] [b] pos) (qTest (qBin o pa pb)) := by
  refine ⟨fun pins s σ H G Γ Q I k h => ?_⟩
  refine wpAny_isTrue_Compare1 (thn (lift2 ha hb ho I k h) fun v s1 h1 => thn h1 fun u s2 h2 => thn h2 fun c s3 ⟨x, H1, I1, r1, d, Γ1, G1, q1, i1, k1, rp1⟩ => ?_) hm
  obtain ⟨b, rfl, q⟩ := qTest_get q1
  cases (show x = .bl b from rp1)
  cases r1
  exact wpAny_truthy_bool ⟨H1, I1, Γ1, G1, q, i1, k1⟩
theorem lt_val (h : LE X F E a pa) (he : ∀ whole, isTrue a X.env whole = (do let v ← whole; standAt a.pos; holding [v] (truthy v)) := by intro _; rfl) : LT X F E a (qTest pa) := by
  refine ⟨fun pins s σ H G Γ Q I k hw => ?_⟩
  refine isTrue_plain (thn (h.run pins s σ H G Γ _ I k hw) fun v s1 ⟨x, H1, I1, r1, d, Γ1, G1, q1, i1, k1, rp1⟩ => ?_) (he _)
  obtain ⟨b, rfl, q⟩ := qTest_get q1
  cases (show x = .bl b from rp1)
  cases r1
  exact wpAny_truthy_bool ⟨H1, I1, Γ1, G1, q, i1, k1⟩
/-! ### and, or, not, if -/
variable {ta tb : QT} {rest : List Expr}
def qAnd (t u : QT) : QT := fun Γ Q E => t Γ (fun c Γ1 => match c with
  | true => u Γ1 Q E
  | false => Q false Γ1) E
def qOr (t u : QT) : QT := fun Γ Q E => t Γ (fun c Γ1 => match c with
  | true => Q true Γ1
  | false => u Γ1 Q E) E
def qNot (t : QT) : QT := fun Γ Q E => t Γ (fun c Γ1 => Q (!c) Γ1) E
theorem lw_and1 (ha : LT X F E a ta) : LW X F E (.BoolOp .And [a] pos) ta := by
  refine ⟨fun wh pins s σ H G Γ Q I k h => ?_⟩
  refine isTrue_and (thn (ha.run pins s σ H G Γ Q I k h) fun c s1 e => ?_)
  cases c with
  | true => exact isTrue_and_nil e
  | false => exact e
theorem lw_or1 (ha : LT X F E a ta) : LW X F E (.BoolOp .Or [a] pos) ta := by
  refine ⟨fun wh pins s σ H G Γ Q I k h => ?_⟩
  refine isTrue_or (thn (ha.run pins s σ H G Γ Q I k h) fun c s1 e => ?_)
  cases c with
  | false => exact isTrue_or_nil e
  | true => exact e
theorem finT_inc {G G' : Hp} {σ : St} {Q : Bool → Env → Prop} {b : Bool} {H : Hp} (i : Inc G G') (h : FinT F G' σ Q b H) : FinT F G σ Q b H := let ⟨Γ, G2, a, c, d⟩ := h; ⟨Γ, G2, a, i.trans c, d⟩
theorem fin_inc {G G' : Hp} {σ : St} {Q : D → Env → Prop} {b : V} {H : Hp} (i : Inc G G') (h : Fin F G' σ Q b H) : Fin F G σ Q b H := let ⟨d, Γ, G2, a, c, e⟩ := h; ⟨d, Γ, G2, a, i.trans c, e⟩
theorem tp_inc {G G' : Hp} {σ : St} {Q : Bool → Env → Prop} {pins : List (Addr × Obj)} {b : Bool} {s : Shared} (i : Inc G G') (h : TP X pins σ (FinT F G' σ Q) b s) : TP X pins σ (FinT F G σ Q) b s := let ⟨H, I, q⟩ := h; ⟨H, I, finT_inc i q⟩
theorem ep_inc {G G' : Hp} {σ : St} {Q : D → Env → Prop} {pins : List (Addr × Obj)} {u : Value} {s : Shared} (i : Inc G G') (h : EP X pins σ (Fin F G' σ Q) u s) : EP X pins σ (Fin F G σ Q) u s := let ⟨v, H, I, r, q⟩ := h; ⟨v, H, I, r, fin_inc i q⟩
theorem lw_and (ha : LT X F E a ta) (hb : LW X F E (.BoolOp .And (b :: rest) pos) tb) : LW X F E (.BoolOp .And (a :: b :: rest) pos) (qAnd ta tb) := by
  refine ⟨fun wh pins s σ H G Γ Q I k h => ?_⟩
  refine isTrue_and (thn (ha.run pins s σ H G Γ _ I k h) fun c s1 ⟨H1, I1, Γ1, G1, q1, i1, k1⟩ => ?_)
  cases c with
  | true => exact thn (hb.run wh pins s1 σ H1 G1 Γ1 Q I1 k1 q1) fun c s2 z => tp_inc i1 z
  | false => exact ⟨H1, I1, Γ1, G1, q1, i1, k1⟩
theorem lw_or (ha : LT X F E a ta) (hb : LW X F E (.BoolOp .Or (b :: rest) pos) tb) : LW X F E (.BoolOp .Or (a :: b :: rest) pos) (qOr ta tb) := by
  refine ⟨fun wh pins s σ H G Γ Q I k h => ?_⟩
  refine isTrue_or (thn (ha.run pins s σ H G Γ _ I k h) fun c s1 ⟨H1, I1, Γ1, G1, q1, i1, k1⟩ => ?_)
  cases c with
  | true => exact ⟨H1, I1, Γ1, G1, q1, i1, k1⟩
  | false => exact thn (hb.run wh pins s1 σ H1 G1 Γ1 Q I1 k1 q1) fun c s2 z => tp_inc i1 z
theorem lt_not (ha : LT X F E a ta) : LT X F E (.UnaryOp .Not a pos) (qNot ta) :=
  ⟨fun pins s σ H G Γ Q I k h => isTrue_not (thn (ha.run pins s σ H G Γ _ I k h) fun c s1 ⟨H1, I1, Γ1, G1, q1, i1, k1⟩ => ⟨H1, I1, Γ1, G1, q1, i1, k1⟩)⟩
/-- .. as values -/
def qAndV (pa pb : QE) : QE := fun Γ Q E => pa Γ (fun d Γ1 => match d with
  | .bl true => pb Γ1 Q E
  | .bl false => Q (.bl false) Γ1
  | _ => False) E
def qOrV (pa pb : QE) : QE := fun Γ Q E => pa Γ (fun d Γ1 => match d with
  | .bl true => Q (.bl true) Γ1
  | .bl false => pb Γ1 Q E
  | _ => False) E
def qNotV (pa : QE) : QE := fun Γ Q E => pa Γ (fun d Γ1 => match d with
  | .bl b => Q (.bl (!b)) Γ1
  | _ => False) E
theorem le_one {op} (h : LE X F E a pa) : LE X F E (.BoolOp op [a] pos) pa := ⟨fun pins s σ H G Γ Q I k hw => BoolOp_one (h.run pins s σ H G Γ Q I k hw)⟩
theorem le_and (ha : LE X F E a pa) (hb : LE X F E (.BoolOp .And (b :: rest) pos) pb) : LE X F E (.BoolOp .And (a :: b :: rest) pos) (qAndV pa pb) := by
  refine ⟨fun pins s σ H G Γ Q I k h => ?_⟩
  refine BoolOp_and (thn (ha.run pins s σ H G Γ _ I k h) fun v s1 ⟨x, H1, I1, r1, d, Γ1, G1, q1, i1, k1, rp1⟩ => ?_)
  cases d with
  | bl c =>
    cases (show x = .bl c from rp1)
    cases r1
    refine wpAny_truthy_bool ?_
    cases c with
    | true => exact thn (hb.run pins s1 σ H1 G1 Γ1 Q I1 k1 q1) fun c s2 z => ep_inc i1 z
    | false => exact ⟨.bl false, H1, I1, rfl, _, Γ1, G1, q1, i1, k1, rfl⟩
  | _ => exact q1.elim
theorem le_or (ha : LE X F E a pa) (hb : LE X F E (.BoolOp .Or (b :: rest) pos) pb) : LE X F E (.BoolOp .Or (a :: b :: rest) pos) (qOrV pa pb) := by
  refine ⟨fun pins s σ H G Γ Q I k h => ?_⟩
  refine BoolOp_or (thn (ha.run pins s σ H G Γ _ I k h) fun v s1 ⟨x, H1, I1, r1, d, Γ1, G1, q1, i1, k1, rp1⟩ => ?_)
  cases d with
  | bl c =>
    cases (show x = .bl c from rp1)
    cases r1
    refine wpAny_truthy_bool ?_
    cases c with
    | false => exact thn (hb.run pins s1 σ H1 G1 Γ1 Q I1 k1 q1) fun c s2 z => ep_inc i1 z
    | true => exact ⟨.bl true, H1, I1, rfl, _, Γ1, G1, q1, i1, k1, rfl⟩
  | _ => exact q1.elim
theorem le_not (ha : LE X F E a pa) : LE X F E (.UnaryOp .Not a pos) (qNotV pa) := by
  refine ⟨fun pins s σ H G Γ Q I k h => ?_⟩
  refine UnaryOp_ (thn (ha.run pins s σ H G Γ _ I k h) fun v s1 ⟨x, H1, I1, r1, d, Γ1, G1, q1, i1, k1, rp1⟩ => ?_)
  cases d with
  | bl c =>
    cases (show x = .bl c from rp1)
    cases r1
    exact not_of (wpAny_truthy_bool ⟨.bl (!c), H1, I1, rfl, _, Γ1, G1, q1, i1, k1, rfl⟩)
  | _ => exact q1.elim
/-- not over a test that is no plain value -/
def qVal (t : QT) : QE := fun Γ Q E => t Γ (fun b Γ1 => Q (.bl b) Γ1) E
def qIf (t : QT) (pa pb : QE) : QE := fun Γ Q E => t Γ (fun c Γ1 => match c with
  | true => pa Γ1 Q E
  | false => pb Γ1 Q E) E
theorem le_if {c : Expr} (hc : LT X F E c ta) (ha : LE X F E a pa) (hb : LE X F E b pb) : LE X F E (.IfExp c a b pos) (qIf ta pa pb) := by
  refine ⟨fun pins s σ H G Γ Q I k h => ?_⟩
  refine wpAny_IfExp (thn (hc.run pins s σ H G Γ _ I k h) fun d s1 ⟨H1, I1, Γ1, G1, q1, i1, k1⟩ => ?_)
  cases d with
  | true => exact thn (ha.run pins s1 σ H1 G1 Γ1 Q I1 k1 q1) fun c s2 z => ep_inc i1 z
  | false => exact thn (hb.run pins s1 σ H1 G1 Γ1 Q I1 k1 q1) fun c s2 z => ep_inc i1 z
/-! ### argument lists, displays -/
def qNil : QA := fun Γ Q _ => Q [] Γ
def qCons (pa : QE) (pr : QA) : QA := fun Γ Q E => pa Γ (fun d Γ1 => pr Γ1 (fun ds Γ2 => Q (d :: ds) Γ2) E) E
theorem la_nil : LA X F E [] qNil := ⟨fun _ _ _ _ H G Γ Q I k h => Calls.spliced_nil ⟨[], H, I, .nil, [], Γ, G, h, Inc.refl G, k, rfl⟩⟩
theorem la_cons {es : List Expr} {pr : QA} (ha : LE X F E a pa) (hr : LA X F E es pr) (hs : starEach (a :: es) X.env = (false, eval a X.env) :: starEach es X.env := by rfl) : LA X F E (a :: es) (qCons pa pr) := by
  refine ⟨fun pos pins s σ H G Γ Q I k h => ?_⟩
  rw [hs]
  show wpAny _ _ (spliced ((false, eval a X.env) :: backTo pos (starEach es X.env))) _ _ s
  refine Calls.spliced_cons (thn (ha.run pins s σ H G Γ _ I k h) fun u s1 ⟨x, H1, I1, r1, d, Γ1, G1, q1, i1, k1, rp1⟩ => ?_)
  exact thn (hr.run pos pins s1 σ H1 G1 Γ1 _ I1 k1 q1) fun us s2 ⟨xs, H2, I2, r2, ds, Γ2, G2, q2, i2, k2, rp2⟩ => ⟨x :: xs, H2, I2, .cons r1 r2, d :: ds, Γ2, G2, q2, i1.trans i2, k2, x, xs, rfl, rp1.inc i2, rp2⟩
def qTup (p : QA) : QE := fun Γ Q E => p Γ (fun ds Γ1 => ds.length ≤ 100000 ∧ Q (.tup ds) Γ1) E
def qLst (p : QA) : QE := fun Γ Q E => p Γ (fun ds Γ1 => ds.length ≤ 100000 ∧ Q (.lst ds) Γ1) E
theorem szl {n : Nat} (h : n ≤ 100000) : n ≤ sizeLine := Nat.le_trans h (by decide)
theorem szlt {n : Nat} (h : n < 100000) : n < sizeLine := Nat.lt_of_lt_of_le h (by decide)
theorem le_tup {es : List Expr} {p : QA} {x1} (h : LA X F E es p) : LE X F E (.Tuple es x1 pos) (qTup p) :=
  LE.of (pe_tup h.pa) fun σ H G Γ Q k q => ⟨G, Γ, _, k, q, fun ws H' ⟨ds, Γ', G', ⟨hl, q'⟩, i, k', r⟩ => ⟨by rw [r.len]; exact szl hl, fun p hp =>
    ⟨_, Γ', upd G' p (.tup ws), q', i.trans (Inc.new (k'.sub.no hp)), k'.new hp _, p, ws, rfl, SqT.of upd_same, r.inc (Inc.new (k'.sub.no hp))⟩⟩⟩
theorem le_lst {es : List Expr} {p : QA} (h : LA X F E es p) : LE X F E (.List es pos) (qLst p) :=
  LE.of (pe_lst h.pa) fun σ H G Γ Q k q => ⟨G, Γ, _, k, q, fun ws H' ⟨ds, Γ', G', ⟨hl, q'⟩, i, k', r⟩ => ⟨by rw [r.len]; exact szl hl, fun p hp =>
    ⟨_, Γ', upd G' p (.lst ws), q', i.trans (Inc.new (k'.sub.no hp)), k'.new hp _, p, ws, rfl, upd_same, r.inc (Inc.new (k'.sub.no hp))⟩⟩⟩
end
end Q

set_option Elab.async false
set_option linter.all false
set_option maxRecDepth 100000
set_option maxHeartbeats 4000000
namespace Q
open PySem L2 PySem.Spec PyProof.Rows
/-! ## 4. Operations of built-in data -/
/-! plain data of Python, to be compared -/
mutual
def toPy : D → PyData
  | .non => .none
  | .bl b => .bool b
  | .int i => .int i
  | .str x => .str x
  | .lst xs => .list (toPys xs)
  | .tup xs => .tuple (toPys xs)
  | .rat _ => .none
  | .cls _ => .none
  | .scr _ => .none
  | .dic _ => .none
  | .ins _ _ => .none
  | .err _ _ => .none
  | .fr _ => .none
def toPys : List D → List PyData
  | [] => []
  | x :: xs => toPy x :: toPys xs
end
mutual
def isPy : D → Bool
  | .non => true
  | .bl _ => true
  | .int _ => true
  | .str _ => true
  | .lst xs => isPys xs
  | .tup xs => isPys xs
  | .rat _ => false
  | .cls _ => false
  | .scr _ => false
  | .dic _ => false
  | .ins _ _ => false
  | .err _ _ => false
  | .fr _ => false
def isPys : List D → Bool
  | [] => true
  | x :: xs => isPy x && isPys xs
end
def plainD (d : D) : Bool := isPy d && SeqAt.shaped (toPy d)
mutual
theorem dp_of {F : Cf} {G H : Hp} (s : Sub G H) : ∀ {d : D} {v : V}, isPy d = true → Rep F G d v → Dp F.K H v (toPy d)
  | .non, _, _, r => by cases (show _ = V.non from r); exact .non
  | .bl b, _, _, r => by cases (show _ = V.bl b from r); exact .bl b
  | .int b, _, _, r => by cases (show _ = V.int b from r); exact .int b
  | .str b, _, _, r => by cases (show _ = V.str b from r); exact .str b
  | .lst ds, _, h, r => by
    obtain ⟨a, vs, rfl, q, r⟩ := r
    exact .lst (SqL.of (s.m q)) (dps_of s h r)
  | .tup ds, _, h, r => by
    obtain ⟨a, vs, rfl, q, r⟩ := r
    exact .tup (s.t q) (dps_of s h r)
  | .rat _, _, h, _ => by cases h
  | .cls _, _, h, _ => by cases h
  | .scr _, _, h, _ => by cases h
  | .dic _, _, h, _ => by cases h
  | .ins _ _, _, h, _ => by cases h
  | .err _ _, _, h, _ => by cases h
  | .fr _, _, h, _ => by cases h
theorem dps_of {F : Cf} {G H : Hp} (s : Sub G H) : ∀ {ds : List D} {vs : List V}, isPys ds = true → Reps F G ds vs → DpAll F.K H vs (toPys ds)
  | [], _, _, r => by cases (show _ = [] from r); exact .nil
  | d :: ds, _, h, r => by
    obtain ⟨v, vs, rfl, a, b⟩ := r
    have h' := Bool.and_eq_true_iff.mp (show (isPy d && isPys ds) = true from h)
    exact .cons (dp_of s h'.1 a) (dps_of s h'.2 b)
end
def oEq : O2 := fun d e Γ Q _ => plainD d = true ∧ plainD e = true ∧ Q (.bl (PyData.eqv (toPy d) (toPy e))) Γ
def oNe : O2 := fun d e Γ Q _ => plainD d = true ∧ plainD e = true ∧ Q (.bl (!PyData.eqv (toPy d) (toPy e))) Γ
/-- what * asks of two ints -/
def MulOk (i j : Int) : Prop := CMulX i j
def DivOk (i j : Int) : Prop := j ≠ 0 ∧ Builtin.divisionGoesByPylong i j = false
def PowOk (i j : Int) : Prop := 0 ≤ j ∧ (Builtin.Int.intBits i : Int) * j ≤ 2 ^ 27
def oAdd : O2 := fun d e Γ Q _ => match d, e with
  | .int i, .int j => Q (.int (i + j)) Γ
  | .str i, .str j => i.length + j.length ≤ 100000 ∧ Q (.str (i ++ j)) Γ
  | .lst i, .lst j => i.length + j.length ≤ 100000 ∧ Q (.lst (i ++ j)) Γ
  | _, _ => False
def oSub : O2 := fun d e Γ Q _ => match d, e with
  | .int i, .int j => Q (.int (i - j)) Γ
  | _, _ => False
def oMul : O2 := fun d e Γ Q _ => match d, e with
  | .int i, .int j => MulOk i j ∧ Q (.int (i * j)) Γ
  | .lst xs, .int n => xs.length * n.toNat ≤ 100000 ∧ -100000 ≤ n ∧ n ≤ 100000 ∧ Q (.lst (List.flatten (List.replicate n.toNat xs))) Γ
  | _, _ => False
def oDiv : O2 := fun d e Γ Q _ => match d, e with
  | .int i, .int j => DivOk i j ∧ Q (.int (i.fdiv j)) Γ
  | _, _ => False
def oMod : O2 := fun d e Γ Q _ => match d, e with
  | .int i, .int j => j ≠ 0 ∧ Q (.int (i.fmod j)) Γ
  | _, _ => False
def oPow : O2 := fun d e Γ Q _ => match d, e with
  | .int i, .int j => PowOk i j ∧ Q (.int (i ^ j.toNat)) Γ
  | _, _ => False
def oCmp (f : Int → Int → Bool) : O2 := fun d e Γ Q _ => match d, e with
  | .int i, .int j => Q (.bl (f i j)) Γ
  | _, _ => False
abbrev oLt : O2 := oCmp fun i j => decide (i < j)
abbrev oLe : O2 := oCmp fun i j => decide (i ≤ j)
abbrev oGt : O2 := oCmp fun i j => decide (j < i)
abbrev oGe : O2 := oCmp fun i j => decide (j ≤ i)
def oNeg : O1 := fun d Γ Q _ => match d with
  | .int i => Q (.int (-i)) Γ
  | _ => False
/-- is None -/
def isNon : D → Bool
  | .non => true
  | _ => false
section
variable {X : Cx} {F : Fx} {E : XP}
theorem fin0 {G H : Hp} {σ : St} {Γ : Env} {Q : D → Env → Prop} {d : D} {v : V} (k : Ok F G H σ Γ) (q : Q d Γ) (r : Rep F.toCf G d v) : Fin F G σ Q v H := ⟨d, Γ, G, q, Inc.refl G, k, r⟩
/-- a new list -/
theorem fin_lst {G H : Hp} {σ : St} {Γ : Env} {Q : D → Env → Prop} {ds : List D} {vs : List V} {p : Addr} (k : Ok F G H σ Γ) (hp : H p = none) (q : Q (.lst ds) Γ) (r : Reps F.toCf G ds vs) : Fin F G σ Q (.ref p) (upd H p (.lst vs)) :=
  ⟨_, Γ, upd G p (.lst vs), q, Inc.new (k.sub.no hp), k.new hp _, p, vs, rfl, upd_same, r.inc (Inc.new (k.sub.no hp))⟩
theorem fin_tup {G H : Hp} {σ : St} {Γ : Env} {Q : D → Env → Prop} {ds : List D} {vs : List V} {p : Addr} (k : Ok F G H σ Γ) (hp : H p = none) (q : Q (.tup ds) Γ) (r : Reps F.toCf G ds vs) : Fin F G σ Q (.ref p) (upd H p (.tup vs)) :=
  ⟨_, Γ, upd G p (.tup vs), q, Inc.new (k.sub.no hp), k.new hp _, p, vs, rfl, SqT.of upd_same, r.inc (Inc.new (k.sub.no hp))⟩
theorem OpL.int {f : Value → Value → Sem Value} {o : O2} {C : Int → Int → Prop} {g : Int → Int → D} {gv : Int → Int → V} (h : OpR X f (rI C gv)) (hg : ∀ i j G, Rep F.toCf G (g i j) (gv i j))
    (ho : ∀ d e Γ (Q : D → Env → Prop), o d e Γ Q E → ∃ i j, d = .int i ∧ e = .int j ∧ C i j ∧ Q (g i j) Γ) : OpL X F E f o := OpL.of h fun σ H G Γ x y d e Q k rx ry q => by
  obtain ⟨i, j, rfl, rfl, c, q⟩ := ho _ _ _ _ q
  exact ⟨i, j, rx, ry, c, fin0 (d := g i j) k q (hg i j G)⟩
theorem OpL.int0 {f : Value → Value → Sem Value} {o : O2} {g : Int → Int → D} {gv : Int → Int → V} (h : OpR X f (rI0 gv)) (hg : ∀ i j G, Rep F.toCf G (g i j) (gv i j))
    (ho : ∀ d e Γ (Q : D → Env → Prop), o d e Γ Q E → ∃ i j, d = .int i ∧ e = .int j ∧ Q (g i j) Γ) : OpL X F E f o := OpL.of h fun σ H G Γ x y d e Q k rx ry q => by
  obtain ⟨i, j, rfl, rfl, q2⟩ := ho _ _ _ _ q
  exact ⟨i, j, rx, ry, fin0 (d := g i j) k q2 (hg i j G)⟩
theorem op_fdivA : OpR X (binaryOp .FloorDiv) (rI DivOk fun i j => .int (i.fdiv j)) := opI fun _ _ _ _ _ _ _ hc q => floordiv_int hc.1 q (.inl hc.2)
theorem op_powA : OpR X (binaryOp .Pow) (rI PowOk fun i j => .int (i ^ j.toNat)) := opI fun _ _ _ _ _ _ _ hc q => pow_int hc.1 hc.2 q
theorem ol_sub : OpL X F E (binaryOp .Sub) oSub := OpL.int0 (g := fun i j => .int (i - j)) op_sub (fun _ _ _ => rfl) fun d e Γ Q q => by
  cases d <;> cases e <;> first | exact ⟨_, _, rfl, rfl, q⟩ | exact q.elim
theorem ol_div : OpL X F E (binaryOp .FloorDiv) oDiv := OpL.int (g := fun i j => .int (i.fdiv j)) op_fdivA (fun _ _ _ => rfl) fun d e Γ Q q => by
  cases d <;> cases e <;> first | exact ⟨_, _, rfl, rfl, q⟩ | exact q.elim
theorem ol_mod : OpL X F E (binaryOp .Mod) oMod := OpL.int (g := fun i j => .int (i.fmod j)) op_modN (fun _ _ _ => rfl) fun d e Γ Q q => by
  cases d <;> cases e <;> first | exact ⟨_, _, rfl, rfl, q⟩ | exact q.elim
theorem ol_pow : OpL X F E (binaryOp .Pow) oPow := OpL.int (g := fun i j => .int (i ^ j.toNat)) op_powA (fun _ _ _ => rfl) fun d e Γ Q q => by
  cases d <;> cases e <;> first | exact ⟨_, _, rfl, rfl, q⟩ | exact q.elim
theorem ol_add : OpL X F E (binaryOp .Add) oAdd := by
  intro pins s σ H G Γ x y v u d e Q I k rv ru rx ry q
  cases d with
  | int i =>
    cases e with
    | int j => exact op_add pins s σ H x y v u _ I rv ru ⟨i, j, rx, ry, fin0 k q rfl⟩
    | _ => exact q.elim
  | str i =>
    cases e with
    | str j => exact op_add_str pins s σ H x y v u _ I rv ru ⟨i, j, rx, ry, szl q.1, fin0 k q.2 rfl⟩
    | _ => exact q.elim
  | lst i =>
    cases e with
    | lst j =>
      obtain ⟨a, vs, rfl, sa, ra⟩ := rx
      obtain ⟨b, ws, rfl, sb, rb⟩ := ry
      refine op_cat pins s σ H _ _ v u _ I rv ru ⟨a, b, vs, ws, rfl, rfl, k.sub.m sa, k.sub.m sb, ?_, fun p hp => fin_lst k hp q.2 (ra.append rb)⟩
      rw [ra.len, rb.len]
      exact szl q.1
    | _ => exact q.elim
  | _ => exact q.elim
theorem reps_rep {G : Hp} {ds : List D} {vs : List V} (r : Reps F.toCf G ds vs) : ∀ n : Nat, Reps F.toCf G (List.flatten (List.replicate n ds)) (List.flatten (List.replicate n vs))
  | 0 => rfl
  | n + 1 => by
    rw [List.replicate_succ, List.replicate_succ, List.flatten_cons, List.flatten_cons]
    exact r.append (reps_rep r n)
theorem ol_mul : OpL X F E (binaryOp .Mult) oMul := by
  intro pins s σ H G Γ x y v u d e Q I k rv ru rx ry q
  cases d with
  | int i =>
    cases e with
    | int j => exact op_mulX pins s σ H x y v u _ I rv ru ⟨i, j, rx, ry, q.1, fin0 k q.2 rfl⟩
    | _ => exact q.elim
  | lst i =>
    cases e with
    | int n =>
      obtain ⟨a, vs, rfl, sa, ra⟩ := rx
      obtain ⟨h1, h2, h3, q⟩ := q
      refine op_rep pins s σ H _ _ v u _ I rv ru ⟨a, n, vs, rfl, ry, k.sub.m sa, by omega, by omega, ?_, fun p hp => fin_lst k hp q (reps_rep ra _)⟩
      rw [ra.len]
      exact szl h1
    | _ => exact q.elim
  | _ => exact q.elim
theorem ol_lt : OpL X F E (compareOp .Lt) oLt := OpL.int0 (g := fun i j => .bl (decide (i < j))) (opB0 fun _ _ _ _ _ _ _ h => PyProof.Rows.lt_int h) (fun _ _ _ => rfl) fun d e Γ Q q => by
  cases d <;> cases e <;> first | exact ⟨_, _, rfl, rfl, q⟩ | exact q.elim
theorem ol_le : OpL X F E (compareOp .LtE) oLe := OpL.int0 (g := fun i j => .bl (decide (i ≤ j))) (opB0 fun _ _ _ _ _ _ _ h => PyProof.Rows.le_int h) (fun _ _ _ => rfl) fun d e Γ Q q => by
  cases d <;> cases e <;> first | exact ⟨_, _, rfl, rfl, q⟩ | exact q.elim
theorem ol_gt : OpL X F E (compareOp .Gt) oGt := OpL.int0 (g := fun i j => .bl (decide (j < i))) (opB0 fun _ _ _ _ _ _ _ h => PyProof.Rows.gt_int h) (fun _ _ _ => rfl) fun d e Γ Q q => by
  cases d <;> cases e <;> first | exact ⟨_, _, rfl, rfl, q⟩ | exact q.elim
theorem ol_ge : OpL X F E (compareOp .GtE) oGe := OpL.int0 (g := fun i j => .bl (decide (j ≤ i))) (opB0 fun _ _ _ _ _ _ _ h => PyProof.Rows.ge_int h) (fun _ _ _ => rfl) fun d e Γ Q q => by
  cases d <;> cases e <;> first | exact ⟨_, _, rfl, rfl, q⟩ | exact q.elim
theorem plain_py {d : D} (h : plainD d = true) : isPy d = true ∧ SeqAt.shaped (toPy d) = true := Bool.and_eq_true_iff.mp h
theorem ol_eq {kk : Nat} (hK : F.K = X.K) (hr : Room kk X.A) : OpL X F E (compareOp .Eq) oEq := OpL.of (op_eqD hr.units) fun σ H G Γ x y d e Q k rx ry q => by
  obtain ⟨a, b, q⟩ := q
  exact ⟨toPy d, toPy e, hK ▸ dp_of k.sub (plain_py a).1 rx, hK ▸ dp_of k.sub (plain_py b).1 ry, (plain_py a).2, (plain_py b).2, fin0 k q rfl⟩
theorem ol_ne {kk : Nat} (hK : F.K = X.K) (hr : Room kk X.A) : OpL X F E (compareOp .NotEq) oNe := OpL.of (op_neD hr.units) fun σ H G Γ x y d e Q k rx ry q => by
  obtain ⟨a, b, q⟩ := q
  exact ⟨toPy d, toPy e, hK ▸ dp_of k.sub (plain_py a).1 rx, hK ▸ dp_of k.sub (plain_py b).1 ry, (plain_py a).2, (plain_py b).2, fin0 k q rfl⟩
theorem ul_neg : UnL X F E (unaryOp .USub) oNeg := UnL.of un_neg fun σ H G Γ x d Q k rx q => by
  cases d with
  | int i => exact ⟨i, rx, fin0 k q rfl⟩
  | _ => exact q.elim
theorem isNon_v {G : Hp} {d : D} {v : V} (r : Rep F.toCf G d v) : decide (v = .non) = isNon d := by
  cases d with
  | non => cases (show v = .non from r); rfl
  | bl b => cases (show v = .bl b from r); rfl
  | int b => cases (show v = .int b from r); rfl
  | str b => cases (show v = .str b from r); rfl
  | cls b => cases (show v = .ref _ from r); rfl
  | scr b => obtain ⟨a, rfl, _⟩ := r; rfl
  | rat q => obtain ⟨a, dx, rfl, _⟩ := r; rfl
  | lst q => obtain ⟨a, dx, rfl, _⟩ := r; rfl
  | tup q => obtain ⟨a, dx, rfl, _⟩ := r; rfl
  | dic q => obtain ⟨a, dx, rfl, _⟩ := r; rfl
  | ins c q => obtain ⟨a, dx, _, rfl, _⟩ := r; rfl
  | err c q => obtain ⟨a, rfl, _⟩ := r; rfl
  | fr q => exact r.elim
variable {a b c : Expr} {pa pb pc : QE} {pos : Pos}
def qIsN (pa : QE) : QE := fun Γ Q E => pa Γ (fun d Γ1 => Q (.bl (isNon d)) Γ1) E
def qNotN (pa : QE) : QE := fun Γ Q E => pa Γ (fun d Γ1 => Q (.bl (!isNon d)) Γ1) E
theorem le_isN {j pos'} (ha : LE X F E a pa) : LE X F E (.Compare a [.Is] [.Constant .none j pos'] pos) (qIsN pa) :=
  LE.of (pe_cmp (pc_isN ha.pe)) fun σ H G Γ Q k q => ⟨G, Γ, _, k, q, fun w H' ⟨d, Γ', G', q', i, k', r⟩ => fin_inc i (by rw [isNon_v r]; exact fin0 k' q' rfl)⟩
theorem le_notN {j pos'} (ha : LE X F E a pa) : LE X F E (.Compare a [.IsNot] [.Constant .none j pos'] pos) (qNotN pa) :=
  LE.of (pe_cmp (pc_notN ha.pe)) fun σ H G Γ Q k q => ⟨G, Γ, _, k, q, fun w H' ⟨d, Γ', G', q', i, k', r⟩ => fin_inc i (by rw [isNon_v r]; exact fin0 k' q' rfl)⟩
theorem lt_isN {j pos'} (ha : LE X F E a pa) : LT X F E (.Compare a [.Is] [.Constant .none j pos'] pos) (qTest (qIsN pa)) :=
  LT.of (pt_cmp (pc_isN ha.pe)) fun σ H G Γ Q k q => ⟨G, Γ, _, k, q, fun w H' ⟨d, Γ', G', q', i, k', r⟩ => ⟨_, rfl, by rw [isNon_v r]; exact ⟨Γ', G', q', i, k'⟩⟩⟩
theorem lt_notN {j pos'} (ha : LE X F E a pa) : LT X F E (.Compare a [.IsNot] [.Constant .none j pos'] pos) (qTest (qNotN pa)) :=
  LT.of (pt_cmp (pc_notN ha.pe)) fun σ H G Γ Q k q => ⟨G, Γ, _, k, q, fun w H' ⟨d, Γ', G', q', i, k', r⟩ => ⟨_, rfl, by rw [isNon_v r]; exact ⟨Γ', G', q', i, k'⟩⟩⟩
/-! ### subscripts of lists and tuples -/
def atD (xs : List D) (i : Int) : Option D := if 0 ≤ i then xs[i.toNat]? else if -(xs.length : Int) ≤ i then xs[(i + (xs.length : Int)).toNat]? else none
def oIx : O2 := fun d e Γ Q _ => match d, e with
  | .lst xs, .int i => ∃ z, atD xs i = some z ∧ Q z Γ
  | .tup xs, .int i => ∃ z, atD xs i = some z ∧ Q z Γ
  | _, _ => False
theorem atD_v {G : Hp} {ds : List D} {vs : List V} {i : Int} {z : D} (r : Reps F.toCf G ds vs) (h : atD ds i = some z) : ∃ v, atI vs i = some v ∧ Rep F.toCf G z v := by
  unfold atD at h
  unfold atI ixN
  rw [r.len]
  by_cases h0 : 0 ≤ i
  · rw [if_pos h0] at h
    obtain ⟨v, e, rv⟩ := r.get h
    have hl : i.toNat < ds.length := (List.getElem?_eq_some_iff.mp h).1
    rw [if_pos h0, if_pos (by omega)]
    exact ⟨v, e, rv⟩
  · rw [if_neg h0] at h
    by_cases h1 : -(ds.length : Int) ≤ i
    · rw [if_pos h1] at h
      obtain ⟨v, e, rv⟩ := r.get h
      rw [if_neg h0, if_pos h1]
      exact ⟨v, e, rv⟩
    · rw [if_neg h1] at h
      cases h
def IxL (X : Cx) (F : Fx) (E : XP) (o : O2) : Prop :=
  ∀ (value slice : Expr) (pins : List (Addr × Obj)) (s : Shared) (σ : St) (H G : Hp) (Γ : Env) (x y : V) (v u : Value) (d e : D) (Q : D → Env → Prop), Inv X pins σ H s → Ok F G H σ Γ → RelV x v → RelV y u → Rep F.toCf G d x → Rep F.toCf G e y → o d e Γ Q E →
    subscripted slice false v u = operate [v, u] (getItem v u) → wpAny (model X.prog X.w) X.A (subscriptTail value slice v u) (EP X pins σ (Fin F G σ Q)) X.xe s
theorem il_ix (hK : F.K = X.K) : IxL X F E oIx := by
  intro value slice pins s σ H G Γ x y v u d e Q I k rv ru rx ry q hs
  cases d with
  | lst xs =>
    cases e with
    | int i =>
      obtain ⟨z, hz, q⟩ := q
      obtain ⟨a, vs, rfl, sa, ra⟩ := rx
      obtain ⟨w, hw, rw'⟩ := atD_v ra hz
      exact ix_list value slice pins s σ H _ _ v u _ I rv ru ⟨a, vs, i, w, rfl, ry, SqL.of (k.sub.m sa), hw, fin0 k q rw'⟩ hs
    | _ => exact q.elim
  | tup xs =>
    cases e with
    | int i =>
      obtain ⟨z, hz, q⟩ := q
      obtain ⟨a, vs, rfl, sa, ra⟩ := rx
      obtain ⟨w, hw, rw'⟩ := atD_v ra hz
      exact ix_tup value slice pins s σ H _ _ v u _ I rv ru ⟨a, vs, i, w, rfl, ry, hK ▸ k.sub.t sa, hw, fin0 k q rw'⟩ hs
    | _ => exact q.elim
  | _ => exact q.elim
theorem le_ix {o : O2} (ho : IxL X F E o) (ha : LE X F E a pa) (hb : LE X F E b pb) (hs : PlainIx b := by exact fun _ _ => rfl) : LE X F E (.Subscript a b pos) (qBin o pa pb) := by
  refine ⟨fun pins s σ H G Γ Q I k h => ?_⟩
  refine Subscript_ (thn (ha.run pins s σ H G Γ _ I k h) fun v s1 ⟨x, H1, I1, r1, d, Γ1, G1, q1, i1, k1, rp1⟩ => ?_)
  refine thn (hb.run pins s1 σ H1 G1 Γ1 _ I1 k1 q1) fun u s2 ⟨y, H2, I2, r2, e, Γ2, G2, q2, i2, k2, rp2⟩ => ?_
  exact thn (ho a b pins s2 σ H2 G2 Γ2 x y v u d e Q I2 k2 r1 r2 (rp1.inc i2) rp2 q2 (hs _ _)) fun w s3 z => ep_inc (i1.trans i2) z
/-- the items of a slot that holds a list that may change, or the script -/
def seqAt (Γ : Env) (j : Nat) : Option (List D) := match Γ[j]? with
  | some (.own (.lst xs)) => some xs
  | some (.bor (.lst xs)) => some xs
  | some (.val (.scr ns)) => some (ns.map D.int)
  | _ => none
def qIxM (j : Nat) (pb : QE) : QE := fun Γ Q E => match seqAt Γ j with
  | some _ => pb Γ (fun e Γ1 => match seqAt Γ1 j, e with
    | some xs, .int i => ∃ z, atD xs i = some z ∧ Q z Γ1
    | _, _ => False) E
  | none => False
theorem reps_ints {G : Hp} : ∀ ns : List Int, Reps F.toCf G (ns.map D.int) (ns.map V.int)
  | [] => rfl
  | n :: ns => ⟨_, _, rfl, rfl, reps_ints ns⟩
theorem seqAt_ok {G H : Hp} {σ : St} {Γ : Env} {j : Nat} {xs : List D} (k : Ok F G H σ Γ) (h : seqAt Γ j = some xs) : ∃ a vs, σ[j]? = some (some (.ref a)) ∧ SqL F.K H a vs ∧ Reps F.toCf G xs vs := by
  unfold seqAt at h
  split at h
  · rename_i ys e
    cases h
    obtain ⟨a, ea, g, ⟨vs, q, r⟩, _⟩ := k.mut e rfl
    exact ⟨a, vs, ea, SqL.of q, r⟩
  · rename_i ys e
    cases h
    obtain ⟨a, ea, g, ⟨vs, q, r⟩, _⟩ := k.mut e rfl
    exact ⟨a, vs, ea, SqL.of q, r⟩
  · rename_i ns e
    cases h
    obtain ⟨v, ea, a, rfl, q⟩ := k.rep e
    exact ⟨a, _, ea, k.sub.l q, reps_ints ns⟩
  · cases h
theorem le_ixM (j : Nat) {x : Str} {px : Pos} (hK : F.K = X.K) (hb : LE X F E b pb) (hs : PlainIx b := by exact fun _ _ => rfl) (hN : X.N[j]? = some x := by rfl) (hv : Vis X.env.scope x := by first | exact Or.inl rfl | exact Or.inr (Or.inl rfl) | exact Or.inr (Or.inr rfl)) (hd : (x == ("__debug__" : Str)) = false := by decide)
    (hcd : (x == ("__classdict__" : Str)) = false := by decide) : LE X F E (.Subscript (.Name x px) b pos) (qIxM j pb) := by
  refine LE.of (pe_ix ix_list (pe_var hN hv hd hcd) hb.pe hs) fun σ H G Γ Q k q => ?_
  unfold qIxM at q
  split at q
  · rename_i xs e
    obtain ⟨a, vs, ea, _, _⟩ := seqAt_ok k e
    refine ⟨.ref a, ea, G, Γ, _, k, q, fun w H' ⟨d, Γ', G', q', i, k', r⟩ => ?_⟩
    dsimp only at q'
    split at q'
    · rename_i ys z e1
      obtain ⟨y, hz, q'⟩ := q'
      obtain ⟨a', vs', ea', sq, rp⟩ := seqAt_ok k' e1
      rw [ea] at ea'
      cases ea'
      obtain ⟨w', hw, rw'⟩ := atD_v rp hz
      exact ⟨a, vs', z, w', rfl, r, hK ▸ sq, hw, fin_inc i (fin0 k' q' rw')⟩
    · exact q'.elim
  · exact q.elim
end
end Q

set_option Elab.async false
set_option linter.all false
set_option maxRecDepth 100000
set_option maxHeartbeats 4000000
namespace Q
open PySem L2 PySem.Spec PyProof.Rows
/-! ## 5. Contracts and calls -/
abbrev Ct := List Slot → (D → List Slot → Prop) → (Exn → List Slot → Prop) → Prop
def ArgOk (F : Cf) (G H : Hp) : Slot → V → Prop
  | .val d, v => Rep F G d v
  | .bor o, v => ∃ a, v = .ref a ∧ G a = none ∧ MRep F G H o a
  | _, _ => False
def ArgsOk (F : Cf) (G H : Hp) : List Slot → List V → Prop
  | [], vs => vs = []
  | s :: ss, vs => ∃ v r, vs = v :: r ∧ ArgOk F G H s v ∧ ArgsOk F G H ss r
def argA : List Slot → List V → List Addr
  | .bor _ :: ss, .ref a :: vs => a :: argA ss vs
  | _ :: ss, _ :: vs => argA ss vs
  | _, _ => []
/-- the same things may change -/
def shape : List Slot → List Slot → Prop
  | [], [] => True
  | .bor _ :: ss, t :: ts => (∃ o, t = .bor o) ∧ shape ss ts
  | s :: ss, t :: ts => t = s ∧ shape ss ts
  | _, _ => False
structure Post (G H : Hp) (B : List Addr) (G' H' : Hp) : Prop where
  sub : Sub G' H'
  inc : Inc G G'
  fresh : ∀ a o, G' a = some o → G a = some o ∨ H a = none
  frame : ∀ a o, H a = some o → a ∉ B → H' a = some o
def spC (F : Cf) (c : Ct) : Sp := fun vs H Q E => ∃ (G : Hp) (args : List Slot), Sub G H ∧ ArgsOk F G H args vs ∧ (argA args vs).Nodup ∧
  ∃ Qc Ec, c args Qc Ec ∧ (∀ d outs v H' G', Qc d outs → Post G H (argA args vs) G' H' → ArgsOk F G' H' outs vs → shape args outs → RepR F H G' H' d v → Q v H') ∧
    (∀ x outs cls dd H' G', Ec x outs → Post G H (argA args vs) G' H' → ArgsOk F G' H' outs vs → shape args outs → XRep F G' H' x cls dd → E cls dd H')
theorem ArgsOk.len {F : Cf} {G H : Hp} : ∀ {as : List Slot} {vs : List V}, ArgsOk F G H as vs → vs.length = as.length
  | [], _, h => by cases (show _ = [] from h); rfl
  | _ :: _, _, h => by
    obtain ⟨v, r, rfl, _, b⟩ := h
    rw [List.length_cons, List.length_cons, b.len]
/-! ### handles: what is handed to a call -/
inductive Hd where
  | val (d : D) | slot (j : Nat)
def Hd.arg (Γ : Env) : Hd → Slot
  | .val d => .val d
  | .slot j => match Γ[j]? with
    | some (.own o) => .bor o
    | some (.bor o) => .bor o
    | _ => .no
def argsOf (Γ : Env) : List Hd → List Slot
  | [] => []
  | h :: hs => h.arg Γ :: argsOf Γ hs
def putM (Γ : Env) (j : Nat) (o : MO) : Env := match Γ[j]? with
  | some (.own _) => Γ.set j (.own o)
  | some (.bor _) => Γ.set j (.bor o)
  | _ => Γ
def updS : Env → List Hd → List Slot → Env
  | Γ, .slot j :: hs, .bor o :: outs => updS (putM Γ j o) hs outs
  | Γ, .val _ :: hs, _ :: outs => updS Γ hs outs
  | Γ, _, _ => Γ
def ixs : List Hd → List Nat
  | [] => []
  | .slot j :: hs => j :: ixs hs
  | .val _ :: hs => ixs hs
def noJ (j : Nat) : List Nat → Bool
  | [] => true
  | i :: is => !(Nat.beq i j) && noJ j is
def ndb : List Nat → Bool
  | [] => true
  | i :: is => noJ i is && ndb is
def HdOk (F : Fx) (G : Hp) (σ : St) : Hd → V → Prop
  | .val d, v => Rep F.toCf G d v
  | .slot j, v => σ[j]? = some (some v)
def HdsOk (F : Fx) (G : Hp) (σ : St) : List Hd → List V → Prop
  | [], vs => vs = []
  | h :: hs, vs => ∃ v r, vs = v :: r ∧ HdOk F G σ h v ∧ HdsOk F G σ hs r
abbrev QH := Env → (List Hd → Env → Prop) → XP → Prop
def FinH (F : Fx) (G : Hp) (σ : St) (Q : List Hd → Env → Prop) : List V → Hp → Prop := fun ws H' => ∃ hs Γ' G', Q hs Γ' ∧ Inc G G' ∧ Ok F G' H' σ Γ' ∧ HdsOk F G' σ hs ws
structure LH (X : Cx) (F : Fx) (E : XP) (es : List Expr) (p : QH) : Prop where
  run : ∀ (pos : Pos) (pins : List (Addr × Obj)) (s : Shared) (σ : St) (H G : Hp) (Γ : Env) (Q : List Hd → Env → Prop), Inv X pins σ H s → Ok F G H σ Γ → p Γ Q E →
    wpAny (model X.prog X.w) X.A (spliced (backTo pos (starEach es X.env))) (AP X pins σ (FinH F G σ Q)) X.xe s
def qhNil : QH := fun Γ Q _ => Q [] Γ
def qhVal (pa : QE) (pr : QH) : QH := fun Γ Q E => pa Γ (fun d Γ1 => pr Γ1 (fun hs Γ2 => Q (.val d :: hs) Γ2) E) E
def qhSlot (j : Nat) (pr : QH) : QH := fun Γ Q E => match Γ[j]? with
  | some (.own _) => pr Γ (fun hs Γ2 => Q (.slot j :: hs) Γ2) E
  | some (.bor _) => pr Γ (fun hs Γ2 => Q (.slot j :: hs) Γ2) E
  | _ => False
section
variable {X : Cx} {F : Fx} {E : XP}
theorem HdOk.inc {G G' : Hp} {σ : St} (i : Inc G G') : ∀ {h : Hd} {v : V}, HdOk F G σ h v → HdOk F G' σ h v
  | .val _, _, r => Rep.inc i r
  | .slot _, _, r => r
variable {a : Expr} {es : List Expr} {pa : QE} {pr : QH} {pos : Pos}
theorem lh_nil : LH X F E [] qhNil := ⟨fun _ _ _ _ H G Γ Q I k h => Calls.spliced_nil ⟨[], H, I, .nil, [], Γ, G, h, Inc.refl G, k, rfl⟩⟩
theorem lh_val (ha : LE X F E a pa) (hr : LH X F E es pr) (hs : starEach (a :: es) X.env = (false, eval a X.env) :: starEach es X.env := by rfl) : LH X F E (a :: es) (qhVal pa pr) := by
  refine ⟨fun pos pins s σ H G Γ Q I k h => ?_⟩
  rw [hs]
  show wpAny _ _ (spliced ((false, eval a X.env) :: backTo pos (starEach es X.env))) _ _ s
  refine Calls.spliced_cons (thn (ha.run pins s σ H G Γ _ I k h) fun u s1 ⟨x, H1, I1, r1, d, Γ1, G1, q1, i1, k1, rp1⟩ => ?_)
  exact thn (hr.run pos pins s1 σ H1 G1 Γ1 _ I1 k1 q1) fun us s2 ⟨xs, H2, I2, r2, ds, Γ2, G2, q2, i2, k2, rp2⟩ => ⟨x :: xs, H2, I2, .cons r1 r2, _, Γ2, G2, q2, i1.trans i2, k2, x, xs, rfl, rp1.inc i2, rp2⟩
theorem mo_slot {G H : Hp} {σ : St} {Γ : Env} {j : Nat} (k : Ok F G H σ Γ) {Z : Prop} (h : match Γ[j]? with | some (.own _) => Z | some (.bor _) => Z | _ => False) : Z ∧ ∃ a, σ[j]? = some (some (.ref a)) := by
  split at h
  · rename_i o e
    obtain ⟨a, ea, _⟩ := k.mut e rfl
    exact ⟨h, a, ea⟩
  · rename_i o e
    obtain ⟨a, ea, _⟩ := k.mut e rfl
    exact ⟨h, a, ea⟩
  · exact h.elim
theorem lh_slot (j : Nat) {x : Str} {px : Pos} (hr : LH X F E es pr) (hN : X.N[j]? = some x := by rfl) (hv : Vis X.env.scope x := by first | exact Or.inl rfl | exact Or.inr (Or.inl rfl) | exact Or.inr (Or.inr rfl)) (hd : (x == ("__debug__" : Str)) = false := by decide)
    (hcd : (x == ("__classdict__" : Str)) = false := by decide) (hs : starEach (.Name x px :: es) X.env = (false, eval (.Name x px) X.env) :: starEach es X.env := by rfl) : LH X F E (.Name x px :: es) (qhSlot j pr) := by
  refine ⟨fun pos pins s σ H G Γ Q I k h => ?_⟩
  obtain ⟨h, b, eb⟩ := mo_slot k h
  rw [hs]
  show wpAny _ _ (spliced ((false, eval (.Name x px) X.env) :: backTo pos (starEach es X.env))) _ _ s
  refine Calls.spliced_cons (thn ((pe_var (X := X) (i := j) hN hv hd hcd).run pins s σ H (fun v H' => v = .ref b ∧ H' = H) I ⟨.ref b, eb, rfl, rfl⟩) fun u s1 ⟨x, H1, I1, r1, e1, e2⟩ => ?_)
  subst e1
  have I1' : Inv X pins σ H s1 := e2 ▸ I1
  exact thn (hr.run pos pins s1 σ H G Γ _ I1' k h) fun us s2 ⟨xs, H2, I2, r2, ds, Γ2, G2, q2, i2, k2, rp2⟩ => ⟨_, H2, I2, .cons r1 r2, _, Γ2, G2, q2, i2, k2, _, xs, rfl, eb, rp2⟩
/-! ### what a call leaves -/
theorem Slots.mk : ∀ {σ : St} {Γ : Env} {G H : Hp}, σ.length = Γ.length → (∀ (i : Nat) v s, σ[i]? = some v → Γ[i]? = some s → SlotOk F G H v s) → Slots F G H σ Γ
  | [], [], _, _, _, _ => trivial
  | v :: σ, s :: Γ, _, _, h, k => ⟨k 0 v s rfl rfl, Slots.mk (by simpa using h) fun i v s e1 e2 => k (i + 1) v s (by simpa using e1) (by simpa using e2)⟩
  | [], _ :: _, _, _, h, _ => by simp at h
  | _ :: _, [], _, _, h, _ => by simp at h
theorem mutA_cons {v : Option V} {s : Slot} {σ : St} {Γ : Env} : mutA (v :: σ) (s :: Γ) = match v, s with
    | some (.ref a), .own _ => a :: mutA σ Γ
    | some (.ref a), .bor _ => a :: mutA σ Γ
    | _, _ => mutA σ Γ := by
  cases s <;> (try cases v) <;> (try rename_i w; cases w) <;> rfl
theorem mutA_tail {v : Option V} {s : Slot} {σ : St} {Γ : Env} {a : Addr} (h : a ∈ mutA σ Γ) : a ∈ mutA (v :: σ) (s :: Γ) := by
  rw [mutA_cons]
  split
  · exact List.mem_cons_of_mem _ h
  · exact List.mem_cons_of_mem _ h
  · exact h
theorem nd_tail {v : Option V} {s : Slot} {σ : St} {Γ : Env} (h : (mutA (v :: σ) (s :: Γ)).Nodup) : (mutA σ Γ).Nodup := by
  rw [mutA_cons] at h
  split at h
  · exact (List.nodup_cons.mp h).2
  · exact (List.nodup_cons.mp h).2
  · exact h
theorem mutA_inj : ∀ {σ : St} {Γ : Env} {i j : Nat} {a : Addr} {s t : Slot}, (mutA σ Γ).Nodup → σ[i]? = some (some (.ref a)) → σ[j]? = some (some (.ref a)) → Γ[i]? = some s → Γ[j]? = some t → s.mo.isSome = true → t.mo.isSome = true → i = j
  | [], _, _, _, _, _, _, _, e, _, _, _, _, _ => by simp at e
  | _ :: _, [], _, _, _, _, _, _, _, _, e, _, _, _ => by simp at e
  | v :: σ, u :: Γ, 0, 0, _, _, _, _, _, _, _, _, _, _ => rfl
  | v :: σ, u :: Γ, 0, j + 1, a, s, t, nd, e1, e2, f1, f2, z1, z2 => by
    exfalso
    have m := mem_mutA (σ := σ) (Γ := Γ) (i := j) (a := a) (s := t) (by simpa using e2) (by simpa using f2) z2
    simp at e1 f1
    subst e1; subst f1
    rw [mutA_cons] at nd
    cases u with
    | own o => exact (List.nodup_cons.mp nd).1 m
    | bor o => exact (List.nodup_cons.mp nd).1 m
    | no => cases z1
    | val d => cases z1
    | exc c fs => cases z1
  | v :: σ, u :: Γ, i + 1, 0, a, s, t, nd, e1, e2, f1, f2, z1, z2 => by
    exfalso
    have m := mem_mutA (σ := σ) (Γ := Γ) (i := i) (a := a) (s := s) (by simpa using e1) (by simpa using f1) z1
    simp at e2 f2
    subst e2; subst f2
    rw [mutA_cons] at nd
    cases u with
    | own o => exact (List.nodup_cons.mp nd).1 m
    | bor o => exact (List.nodup_cons.mp nd).1 m
    | no => cases z2
    | val d => cases z2
    | exc c fs => cases z2
  | v :: σ, u :: Γ, i + 1, j + 1, a, s, t, nd, e1, e2, f1, f2, z1, z2 => by
    rw [mutA_inj (i := i) (j := j) (nd_tail nd) (by simpa using e1) (by simpa using e2) (by simpa using f1) (by simpa using f2) z1 z2]
/-- the same kinds of slots -/
def kin : Slot → Slot → Prop
  | .own _, .own _ => True
  | .bor _, .bor _ => True
  | s, t => s = t
theorem kin_refl (s : Slot) : kin s s := by cases s <;> simp [kin]
theorem kin_mo {s t : Slot} (h : kin s t) : s.mo.isSome = t.mo.isSome := by
  cases s <;> cases t <;> first | rfl | (simp [kin] at h; done) | (simp [kin] at h; subst h; rfl) | (simp [kin] at h; obtain ⟨rfl, rfl⟩ := h; rfl)
theorem mutA_kin : ∀ {σ : St} {Γ Γ' : Env}, Γ'.length = Γ.length → (∀ (i : Nat) s t, Γ[i]? = some s → Γ'[i]? = some t → kin s t) → mutA σ Γ' = mutA σ Γ
  | [], _, _, _, _ => by simp [mutA]
  | _ :: _, [], [], _, _ => rfl
  | v :: σ, s :: Γ, t :: Γ', h, k => by
    have ih := mutA_kin (σ := σ) (Γ := Γ) (Γ' := Γ') (by simpa using h) fun i s t e1 e2 => k (i + 1) s t (by simpa using e1) (by simpa using e2)
    have q := k 0 s t rfl rfl
    rw [mutA_cons, mutA_cons, ih]
    cases s <;> cases t <;> first | rfl | (simp [kin] at q; done) | (cases v <;> first | rfl | (rename_i w; cases w <;> rfl))
  | _ :: _, [], _ :: _, h, _ => by simp at h
  | _ :: _, _ :: _, [], h, _ => by simp at h
theorem putM_len {Γ : Env} {j : Nat} {o : MO} : (putM Γ j o).length = Γ.length := by
  unfold putM
  split <;> simp
theorem putM_get {Γ : Env} {j : Nat} {o : MO} {i : Nat} (h : i ≠ j) : (putM Γ j o)[i]? = Γ[i]? := by
  unfold putM
  split
  · exact List.getElem?_set_ne (Ne.symm h)
  · exact List.getElem?_set_ne (Ne.symm h)
  · rfl
theorem putM_kin {Γ : Env} {j : Nat} {o : MO} {i : Nat} {s t : Slot} (h1 : Γ[i]? = some s) (h2 : (putM Γ j o)[i]? = some t) : kin s t := by
  by_cases h : i = j
  · subst h
    have hl : i < Γ.length := (List.getElem?_eq_some_iff.mp h1).1
    unfold putM at h2
    rw [h1] at h2
    cases s with
    | own o' =>
      dsimp only at h2
      rw [List.getElem?_set_self hl] at h2
      cases h2
      trivial
    | bor o' =>
      dsimp only at h2
      rw [List.getElem?_set_self hl] at h2
      cases h2
      trivial
    | _ =>
      dsimp only at h2
      rw [h1] at h2
      cases h2
      exact kin_refl _
  · rw [putM_get h, h1] at h2
    cases h2
    exact kin_refl _
theorem kin_trans {s t u : Slot} (a : kin s t) (b : kin t u) : kin s u := by
  cases s <;> cases t <;> first | (simp [kin] at a; done) | (cases u <;> first | (simp [kin] at b; done) | (simp [kin] at a b ⊢; done) | (simp [kin] at a b ⊢; simp_all))
theorem updS_len : ∀ {hs : List Hd} {Γ : Env} {outs : List Slot}, (updS Γ hs outs).length = Γ.length
  | [], Γ, outs => by cases outs <;> rfl
  | .slot j :: hs, Γ, .bor o :: outs => by
    show (updS (putM Γ j o) hs outs).length = _
    rw [updS_len, putM_len]
  | .val _ :: hs, Γ, _ :: outs => by
    show (updS Γ hs outs).length = _
    rw [updS_len]
  | .slot _ :: _, _, [] => rfl
  | .val _ :: _, _, [] => rfl
  | .slot _ :: _, _, .no :: _ => rfl
  | .slot _ :: _, _, .val _ :: _ => rfl
  | .slot _ :: _, _, .own _ :: _ => rfl
  | .slot _ :: _, _, .exc _ _ :: _ => rfl
theorem arg_slot (Γ : Env) (j : Nat) : Hd.arg Γ (.slot j) = match Γ[j]? with
    | some (.own o) => Slot.bor o
    | some (.bor o) => Slot.bor o
    | _ => Slot.no := rfl
theorem upd_same_kin {Γ : Env} {i : Nat} {s t : Slot} (h1 : Γ[i]? = some s) (h2 : Γ[i]? = some t) : kin s t := by
  rw [h1] at h2
  cases h2
  exact kin_refl _
theorem updS_kin : ∀ {hs : List Hd} {Γ : Env} {outs : List Slot} {i : Nat} {s t : Slot}, Γ[i]? = some s → (updS Γ hs outs)[i]? = some t → kin s t
  | [], Γ, outs, i, s, t, h1, h2 => by
    have e : updS Γ [] outs = Γ := by cases outs <;> rfl
    rw [e, h1] at h2
    cases h2
    exact kin_refl _
  | .slot j :: hs, Γ, .bor o :: outs, i, s, t, h1, h2 => by
    have hl : i < (putM Γ j o).length := by rw [putM_len]; exact (List.getElem?_eq_some_iff.mp h1).1
    exact kin_trans (putM_kin h1 (List.getElem?_eq_getElem hl)) (updS_kin (hs := hs) (outs := outs) (List.getElem?_eq_getElem hl) h2)
  | .val _ :: hs, Γ, _ :: outs, i, s, t, h1, h2 => updS_kin (hs := hs) (outs := outs) h1 h2
  | .slot _ :: _, _, [], i, s, t, h1, h2 => upd_same_kin h1 h2
  | .val _ :: _, _, [], i, s, t, h1, h2 => upd_same_kin h1 h2
  | .slot _ :: _, _, .no :: _, i, s, t, h1, h2 => upd_same_kin h1 h2
  | .slot _ :: _, _, .val _ :: _, i, s, t, h1, h2 => upd_same_kin h1 h2
  | .slot _ :: _, _, .own _ :: _, i, s, t, h1, h2 => upd_same_kin h1 h2
  | .slot _ :: _, _, .exc _ _ :: _, i, s, t, h1, h2 => upd_same_kin h1 h2
theorem noJ_mem : ∀ {l : List Nat} {j : Nat}, noJ j l = true → j ∉ l
  | [], _, _ => by simp
  | i :: l, j, h => by
    have h' := Bool.and_eq_true_iff.mp (show (!(Nat.beq i j) && noJ j l) = true from h)
    intro m
    rcases List.mem_cons.mp m with e | e
    · subst e
      have z := h'.1
      simp [Nat.beq_refl] at z
    · exact noJ_mem h'.2 e
theorem updS_other : ∀ {hs : List Hd} {Γ : Env} {outs : List Slot} {i : Nat}, i ∉ ixs hs → (updS Γ hs outs)[i]? = Γ[i]?
  | [], Γ, outs, i, _ => by cases outs <;> rfl
  | .slot j :: hs, Γ, .bor o :: outs, i, h => by
    have h1 : i ≠ j := fun e => h (by rw [e]; exact List.mem_cons_self)
    have h2 : i ∉ ixs hs := fun m => h (List.mem_cons_of_mem _ m)
    show (updS (putM Γ j o) hs outs)[i]? = _
    rw [updS_other h2, putM_get h1]
  | .val _ :: hs, Γ, _ :: outs, i, h => updS_other (hs := hs) (outs := outs) h
  | .slot _ :: _, _, [], _, _ => rfl
  | .val _ :: _, _, [], _, _ => rfl
  | .slot _ :: _, _, .no :: _, _, _ => rfl
  | .slot _ :: _, _, .val _ :: _, _, _ => rfl
  | .slot _ :: _, _, .own _ :: _, _, _ => rfl
  | .slot _ :: _, _, .exc _ _ :: _, _, _ => rfl
/-- the slot handed in at place k holds behind the call what the call says -/
theorem updS_at : ∀ {hs : List Hd} {Γ : Env} {outs : List Slot} {vs : List V} {σ : St} {G H : Hp} {i : Nat} {s : Slot}, ndb (ixs hs) = true → HdsOk F G σ hs vs → ArgsOk F.toCf G H outs vs → shape (argsOf Γ hs) outs → i ∈ ixs hs → Γ[i]? = some s → s.mo.isSome = true →
    ∃ a o, σ[i]? = some (some (.ref a)) ∧ G a = none ∧ MRep F.toCf G H o a ∧ (updS Γ hs outs)[i]? = some (match s with | .own _ => .own o | _ => .bor o)
  | [], _, _, _, _, _, _, _, _, _, _, _, _, m, _, _ => by simp [ixs] at m
  | .val d :: hs, Γ, outs, vs, σ, G, H, i, s, nd, hh, ha, sh, m, hs1, z => by
    obtain ⟨v, r, rfl, h1, h2⟩ := hh
    cases outs with
    | nil => exact sh.elim
    | cons t outs =>
      obtain ⟨v', r', e, a1, a2⟩ := ha
      cases e
      exact updS_at (hs := hs) (outs := outs) nd h2 a2 sh.2 m hs1 z
  | .slot j :: hs, Γ, outs, vs, σ, G, H, i, s, nd, hh, ha, sh, m, hs1, z => by
    obtain ⟨v, r, rfl, h1, h2⟩ := hh
    have nd' := Bool.and_eq_true_iff.mp (show (noJ j (ixs hs) && ndb (ixs hs)) = true from nd)
    cases outs with
    | nil =>
      exfalso
      revert sh
      show shape (Hd.arg Γ (.slot j) :: argsOf Γ hs) [] → False
      cases Hd.arg Γ (.slot j) <;> exact fun q => q
    | cons t outs =>
      obtain ⟨v', r', e, a1, a2⟩ := ha
      cases e
      by_cases hij : i = j
      · subst hij
        have ea : Hd.arg Γ (.slot i) = .bor (s.mo.get z) := by
          show (match Γ[i]? with | some (.own o) => Slot.bor o | some (.bor o) => Slot.bor o | _ => Slot.no) = _
          rw [hs1]
          cases s with
          | own o => rfl
          | bor o => rfl
          | no => cases z
          | val d => cases z
          | exc c fs => cases z
        have sh' : shape (.bor (s.mo.get z) :: argsOf Γ hs) (t :: outs) := by rw [← ea]; exact sh
        obtain ⟨⟨o, rfl⟩, _⟩ := sh'
        obtain ⟨a, ev, g, mr⟩ := a1
        subst ev
        refine ⟨a, o, h1, g, mr, ?_⟩
        show (updS (putM Γ i o) hs outs)[i]? = _
        rw [updS_other (noJ_mem nd'.1)]
        have hl : i < Γ.length := (List.getElem?_eq_some_iff.mp hs1).1
        unfold putM
        rw [hs1]
        cases s with
        | own o' => exact List.getElem?_set_self hl
        | bor o' => exact List.getElem?_set_self hl
        | no => cases z
        | val d => cases z
        | exc c fs => cases z
      · have m' : i ∈ ixs hs := by
          rcases List.mem_cons.mp (show i ∈ j :: ixs hs from m) with e | e
          · exact absurd e hij
          · exact e
        cases t with
        | bor o =>
          have sh2 : shape (argsOf (putM Γ j o) hs) outs := by
            have q : shape (Hd.arg Γ (.slot j) :: argsOf Γ hs) (.bor o :: outs) := sh
            have q2 : shape (argsOf Γ hs) outs := by
              revert q
              cases Hd.arg Γ (.slot j) <;> exact fun q => q.2
            have same : ∀ l : List Hd, j ∉ ixs l → argsOf (putM Γ j o) l = argsOf Γ l := by
              intro l
              induction l with
              | nil => intro _; rfl
              | cons h l ih =>
                intro hn
                cases h with
                | val d => show Slot.val d :: argsOf _ l = Slot.val d :: argsOf Γ l; rw [ih hn]
                | slot j2 =>
                  have n1 : j2 ≠ j := fun e => hn (by rw [← e]; exact List.mem_cons_self)
                  have n2 : j ∉ ixs l := fun mm => hn (List.mem_cons_of_mem _ mm)
                  show Hd.arg (putM Γ j o) (.slot j2) :: argsOf _ l = Hd.arg Γ (.slot j2) :: argsOf Γ l
                  rw [ih n2]
                  rw [arg_slot, arg_slot, putM_get n1]
            rw [same hs (noJ_mem nd'.1)]
            exact q2
          exact updS_at (hs := hs) (Γ := putM Γ j o) (outs := outs) nd'.2 h2 a2 sh2 m' (by rw [putM_get hij]; exact hs1) z
        | no => exact a1.elim
        | own o => exact a1.elim
        | exc c fs => exact a1.elim
        | val d =>
          exfalso
          have q : shape (Hd.arg Γ (.slot j) :: argsOf Γ hs) (.val d :: outs) := sh
          revert q
          rw [arg_slot]
          split
          · intro q; obtain ⟨⟨o, e⟩, _⟩ := q; cases e
          · intro q; obtain ⟨⟨o, e⟩, _⟩ := q; cases e
          · intro q
            have e : Slot.val d = Slot.no := q.1
            cases e
theorem args_ok : ∀ {hs : List Hd} {Γ : Env} {vs : List V} {σ : St} {G H : Hp}, Ok F G H σ Γ → HdsOk F G σ hs vs → (∀ j ∈ ixs hs, ∃ s, Γ[j]? = some s ∧ s.mo.isSome = true) → ArgsOk F.toCf G H (argsOf Γ hs) vs
  | [], _, _, _, _, _, _, h, _ => h
  | .val d :: hs, Γ, _, σ, G, H, k, h, m => by
    obtain ⟨v, r, rfl, h1, h2⟩ := h
    exact ⟨v, r, rfl, h1, args_ok k h2 m⟩
  | .slot j :: hs, Γ, _, σ, G, H, k, h, m => by
    obtain ⟨v, r, rfl, h1, h2⟩ := h
    refine ⟨v, r, rfl, ?_, args_ok k h2 fun i hi => m i (List.mem_cons_of_mem _ hi)⟩
    obtain ⟨s, e, z⟩ := m j List.mem_cons_self
    show ArgOk F.toCf G H (match Γ[j]? with | some (.own o) => Slot.bor o | some (.bor o) => Slot.bor o | _ => Slot.no) v
    rw [e]
    cases s with
    | own o =>
      obtain ⟨a, ea, g, mr, _⟩ := k.mut e rfl
      rw [h1] at ea
      cases ea
      exact ⟨a, rfl, g, mr⟩
    | bor o =>
      obtain ⟨a, ea, g, mr, _⟩ := k.mut e rfl
      rw [h1] at ea
      cases ea
      exact ⟨a, rfl, g, mr⟩
    | no => cases z
    | val d => cases z
    | exc c fs => cases z
/-- the addresses handed in -/
theorem argA_mem : ∀ {hs : List Hd} {Γ : Env} {vs : List V} {σ : St} {G H : Hp} {b : Addr}, Ok F G H σ Γ → HdsOk F G σ hs vs → b ∈ argA (argsOf Γ hs) vs → ∃ j s, j ∈ ixs hs ∧ σ[j]? = some (some (.ref b)) ∧ Γ[j]? = some s ∧ s.mo.isSome = true
  | [], _, vs, _, _, _, _, _, _, m => by cases vs <;> simp [argsOf, argA] at m
  | .val d :: hs, Γ, _, σ, G, H, b, k, h, m => by
    obtain ⟨v, r, rfl, h1, h2⟩ := h
    have m' : b ∈ argA (argsOf Γ hs) r := by
      have q : argA (Slot.val d :: argsOf Γ hs) (v :: r) = argA (argsOf Γ hs) r := by cases v <;> rfl
      rw [← q]; exact m
    obtain ⟨j, s, q⟩ := argA_mem k h2 m'
    exact ⟨j, s, q⟩
  | .slot j :: hs, Γ, _, σ, G, H, b, k, h, m => by
    obtain ⟨v, r, rfl, h1, h2⟩ := h
    have key : ∀ {P : Prop}, (b ∈ argA (argsOf Γ hs) r → P) → ((∃ s, v = .ref b ∧ Γ[j]? = some s ∧ s.mo.isSome = true) → P) → P := by
      intro P f1 f2
      have m0 : b ∈ argA (Hd.arg Γ (.slot j) :: argsOf Γ hs) (v :: r) := m
      have gen : ∀ t : Slot, (∀ o, t = .bor o → ∃ s, Γ[j]? = some s ∧ s.mo.isSome = true) → b ∈ argA (t :: argsOf Γ hs) (v :: r) → P := by
        intro t ht mm
        cases t with
        | bor o =>
          cases v with
          | ref a =>
            rcases List.mem_cons.mp (show b ∈ a :: argA (argsOf Γ hs) r from mm) with e | e
            · subst e
              obtain ⟨s, q1, q2⟩ := ht o rfl
              exact f2 ⟨s, rfl, q1, q2⟩
            · exact f1 e
          | _ => exact f1 mm
        | _ => exact f1 (by cases v <;> exact mm)
      refine gen _ (fun o e => ?_) m0
      rw [arg_slot] at e
      split at e
      · rename_i o' q; exact ⟨_, q, rfl⟩
      · rename_i o' q; exact ⟨_, q, rfl⟩
      · cases e
    refine key (fun m' => ?_) (fun ⟨s, ev, q1, q2⟩ => ?_)
    · obtain ⟨j', s, a, q⟩ := argA_mem k h2 m'
      exact ⟨j', s, List.mem_cons_of_mem _ a, q⟩
    · subst ev
      exact ⟨j, s, List.mem_cons_self, h1, q1, q2⟩
theorem argA_nd : ∀ {hs : List Hd} {Γ : Env} {vs : List V} {σ : St} {G H : Hp}, Ok F G H σ Γ → HdsOk F G σ hs vs → ndb (ixs hs) = true → (argA (argsOf Γ hs) vs).Nodup
  | [], _, vs, _, _, _, _, _, _ => by cases vs <;> simp [argsOf, argA]
  | .val d :: hs, Γ, _, σ, G, H, k, h, nd => by
    obtain ⟨v, r, rfl, h1, h2⟩ := h
    have q : argA (Slot.val d :: argsOf Γ hs) (v :: r) = argA (argsOf Γ hs) r := by cases v <;> rfl
    show (argA (Slot.val d :: argsOf Γ hs) (v :: r)).Nodup
    rw [q]
    exact argA_nd k h2 nd
  | .slot j :: hs, Γ, _, σ, G, H, k, h, nd => by
    obtain ⟨v, r, rfl, h1, h2⟩ := h
    have nd' := Bool.and_eq_true_iff.mp (show (noJ j (ixs hs) && ndb (ixs hs)) = true from nd)
    have ih := argA_nd k h2 nd'.2
    show (argA (Hd.arg Γ (.slot j) :: argsOf Γ hs) (v :: r)).Nodup
    have gen : ∀ t : Slot, (∀ o, t = .bor o → ∃ s, Γ[j]? = some s ∧ s.mo.isSome = true) → (argA (t :: argsOf Γ hs) (v :: r)).Nodup := by
      intro t ht
      cases t with
      | bor o =>
        cases v with
        | ref a =>
          refine List.nodup_cons.mpr ⟨fun m => ?_, ih⟩
          obtain ⟨j2, s2, m2, e2, g2, z2⟩ := argA_mem k h2 m
          obtain ⟨s, q1, q2⟩ := ht o rfl
          have e : j = j2 := mutA_inj k.nd h1 e2 q1 g2 q2 z2
          exact noJ_mem nd'.1 (e ▸ m2)
        | _ => exact ih
      | _ => cases v <;> exact ih
    refine gen _ fun o e => ?_
    rw [arg_slot] at e
    split at e
    · rename_i o' q; exact ⟨_, q, rfl⟩
    · rename_i o' q; exact ⟨_, q, rfl⟩
    · cases e
theorem HdsOk.inc {G G' : Hp} {σ : St} (i : Inc G G') : ∀ {hs : List Hd} {vs : List V}, HdsOk F G σ hs vs → HdsOk F G' σ hs vs
  | [], _, h => h
  | _ :: _, _, h => let ⟨v, r, e, a, b⟩ := h; ⟨v, r, e, a.inc i, b.inc i⟩
theorem argA_of : ∀ {hs : List Hd} {Γ : Env} {vs : List V} {σ : St} {G : Hp} {j : Nat} {s : Slot} {a : Addr}, HdsOk F G σ hs vs → j ∈ ixs hs → σ[j]? = some (some (.ref a)) → Γ[j]? = some s → s.mo.isSome = true → a ∈ argA (argsOf Γ hs) vs
  | [], _, _, _, _, _, _, _, _, m, _, _, _ => by simp [ixs] at m
  | .val d :: hs, Γ, _, σ, G, j, s, a, h, m, e, g, z => by
    obtain ⟨v, r, rfl, h1, h2⟩ := h
    have q : argA (Slot.val d :: argsOf Γ hs) (v :: r) = argA (argsOf Γ hs) r := by cases v <;> rfl
    show a ∈ argA (Slot.val d :: argsOf Γ hs) (v :: r)
    rw [q]
    exact argA_of h2 m e g z
  | .slot i :: hs, Γ, _, σ, G, j, s, a, h, m, e, g, z => by
    obtain ⟨v, r, rfl, h1, h2⟩ := h
    show a ∈ argA (Hd.arg Γ (.slot i) :: argsOf Γ hs) (v :: r)
    rcases List.mem_cons.mp (show j ∈ i :: ixs hs from m) with q | q
    · subst q
      have ev : v = .ref a := by
        have h1' : σ[j]? = some (some v) := h1
        rw [h1'] at e
        cases e
        rfl
      subst ev
      rw [arg_slot, g]
      cases s with
      | own o => exact List.mem_cons_self
      | bor o => exact List.mem_cons_self
      | no => cases z
      | val d => cases z
      | exc c fs => cases z
    · have ih := argA_of (Γ := Γ) h2 q e g z
      cases Hd.arg Γ (.slot i) with
      | bor o =>
        cases v with
        | ref b => exact List.mem_cons_of_mem _ ih
        | _ => exact ih
      | _ => cases v <;> exact ih
theorem Ok.called {hs : List Hd} {Γ : Env} {vs : List V} {σ : St} {G H G' H' : Hp} {outs : List Slot} (k : Ok F G H σ Γ) (hh : HdsOk F G σ hs vs) (hm : ∀ j ∈ ixs hs, ∃ s, Γ[j]? = some s ∧ s.mo.isSome = true) (nd : ndb (ixs hs) = true)
    (p : Post G H (argA (argsOf Γ hs) vs) G' H') (ha : ArgsOk F.toCf G' H' outs vs) (sh : shape (argsOf Γ hs) outs) : Ok F G' H' σ (updS Γ hs outs) := by
  have hh' : HdsOk F G' σ hs vs := hh.inc p.inc
  have inB : ∀ b, b ∈ argA (argsOf Γ hs) vs → F.H0 b = none ∨ b ∈ F.B := fun b hb => by
    obtain ⟨j, s, _, e, g, z⟩ := argA_mem k hh hb
    obtain ⟨o, ho⟩ := Option.isSome_iff_exists.mp z
    obtain ⟨a, ea, _, _, r⟩ := k.mut g ho
    rw [e] at ea
    cases ea
    exact r
  have live : ∀ b, (∃ o, H b = some o) → ∃ o, H' b = some o := fun b ⟨o, e⟩ => by
    by_cases hb : b ∈ argA (argsOf Γ hs) vs
    · obtain ⟨j, s, m, e1, g, z⟩ := argA_mem k hh hb
      obtain ⟨a, o', ea, _, mr, _⟩ := updS_at nd hh' ha sh m g z
      rw [e1] at ea
      cases ea
      exact mr.ex
    · exact ⟨o, p.frame b o e hb⟩
  refine ⟨p.sub, k.g0.trans p.inc, fun a o e => ?_, fun a o e hb => ?_, fun a hb => live a (k.bor a hb), ?_, ?_, fun i a e => ?_, by rw [updS_len]; exact k.pl⟩
  · rcases p.fresh a o e with q | q
    · exact k.fresh a o q
    · exact .inr (k.h0 q)
  · have e1 := k.frame a o e hb
    refine p.frame a o e1 fun m => ?_
    rcases inB a m with q | q
    · rw [e] at q; cases q
    · exact hb q
  · refine Slots.mk (by rw [updS_len]; exact k.slots.len) fun i v s e1 e2 => ?_
    have hl : i < Γ.length := by rw [← updS_len (hs := hs) (outs := outs)]; exact (List.getElem?_eq_some_iff.mp e2).1
    have g1 : Γ[i]? = some Γ[i] := List.getElem?_eq_getElem hl
    obtain ⟨v', ev, ok⟩ := k.slots.get g1
    rw [e1] at ev
    cases ev
    by_cases m : i ∈ ixs hs
    · obtain ⟨s0, g0, z⟩ := hm i m
      obtain ⟨a, o', ea, g, mr, eu⟩ := updS_at nd hh' ha sh m g0 z
      rw [e2] at eu
      rw [e1] at ea
      cases ea
      rw [g0] at g1
      have g1' := Option.some.inj g1
      rw [← g1'] at ok
      cases s0 with
      | own o =>
        cases eu
        obtain ⟨b, eb, _, _, z0⟩ := ok
        cases eb
        exact ⟨a, rfl, g, mr, z0⟩
      | bor o =>
        cases eu
        obtain ⟨b, eb, _, _, z0⟩ := ok
        cases eb
        exact ⟨a, rfl, g, mr, z0⟩
      | no => cases z
      | val d => cases z
      | exc c fs => cases z
    · rw [updS_other m, g1] at e2
      cases e2
      refine SlotOk.step p.inc (fun a ea z => ?_) (fun dd ws _ q => ?_) ok
      · obtain ⟨o, ho⟩ := Option.isSome_iff_exists.mp z
        subst ea
        obtain ⟨b, eb, g, mr, _⟩ := k.mut g1 ho
        rw [e1] at eb
        cases eb
        obtain ⟨u, hu⟩ := mr.ex
        have nB : a ∉ argA (argsOf Γ hs) vs := fun mb => by
          obtain ⟨j, s2, mj, ej, gj, zj⟩ := argA_mem k hh mb
          exact m ((mutA_inj k.nd e1 ej g1 gj z zj) ▸ mj)
        refine ⟨(p.frame a u hu nB).trans hu.symm, ?_⟩
        cases q : G' a with
        | none => rfl
        | some w =>
          rcases p.fresh a w q with r | r
          · rw [g] at r; cases r
          · rw [hu] at r; cases r
      · refine p.frame dd _ q fun mb => ?_
        obtain ⟨j, s2, mj, ej, gj, zj⟩ := argA_mem k hh mb
        obtain ⟨o, ho⟩ := Option.isSome_iff_exists.mp zj
        obtain ⟨b, eb, _, mr, _⟩ := k.mut gj ho
        rw [ej] at eb
        cases eb
        cases o with
        | lst xs => obtain ⟨vs, e, _⟩ := mr; rw [q] at e; cases e
        | dic xs => obtain ⟨vs, e, _⟩ := mr; rw [q] at e; cases e
        | ins c xs => obtain ⟨dx, vs, e, _⟩ := mr; rw [q] at e; cases e
  · rw [mutA_kin updS_len fun i s t e1 e2 => updS_kin e1 e2]
    exact k.nd
  · obtain ⟨e1, o, e2⟩ := k.pin i a e
    refine ⟨e1, ?_⟩
    have hl : i < (updS Γ hs outs).length := by rw [updS_len]; exact (List.getElem?_eq_some_iff.mp e2).1
    have q := updS_kin (hs := hs) (outs := outs) e2 (List.getElem?_eq_getElem hl)
    rw [List.getElem?_eq_getElem hl]
    cases hq : (updS Γ hs outs)[i] with
    | bor o' => exact ⟨o', rfl⟩
    | _ => rw [hq] at q; simp [kin] at q
/-! ### the call of a def by its contract -/
/-- the handles name slots that may change -/
def hmut (Γ : Env) : List Hd → Bool
  | [] => true
  | .val _ :: hs => hmut Γ hs
  | .slot j :: hs => (match Γ[j]? with
    | some (.own _) => true
    | some (.bor _) => true
    | _ => false) && hmut Γ hs
theorem hmut_ok {Γ : Env} : ∀ {hs : List Hd}, hmut Γ hs = true → ∀ j ∈ ixs hs, ∃ s, Γ[j]? = some s ∧ s.mo.isSome = true
  | [], _, j, m => by simp [ixs] at m
  | .val _ :: hs, h, j, m => hmut_ok (hs := hs) h j m
  | .slot i :: hs, h, j, m => by
    have h' := Bool.and_eq_true_iff.mp h
    rcases List.mem_cons.mp (show j ∈ i :: ixs hs from m) with e | e
    · subst e
      have z := h'.1
      split at z
      · rename_i o q; exact ⟨_, q, rfl⟩
      · rename_i o q; exact ⟨_, q, rfl⟩
      · cases z
    · exact hmut_ok h'.2 j e
/-- .. and its result, told -/
theorem Ok.called_fin {hs : List Hd} {Γ : Env} {vs : List V} {σ : St} {G H G' H' : Hp} {outs : List Slot} {d : D} {v : V} {Q : D → Env → Prop} (k : Ok F G H σ Γ) (hh : HdsOk F G σ hs vs) (hm : ∀ j ∈ ixs hs, ∃ s, Γ[j]? = some s ∧ s.mo.isSome = true) (nd : ndb (ixs hs) = true)
    (p : Post G H (argA (argsOf Γ hs) vs) G' H') (ha : ArgsOk F.toCf G' H' outs vs) (sh : shape (argsOf Γ hs) outs) (r : RepR F.toCf H G' H' d v) (q : Q (unfr d) (updS Γ hs outs)) : Fin F G σ Q v H' := by
  have k' := k.called hh hm nd p ha sh
  cases d with
  | fr d =>
    obtain ⟨o, a, hd, rfl, ga, m, h0⟩ := r
    obtain ⟨u, hu, ru⟩ := mrep_tell hd ga m
    refine ⟨d, _, upd G' a u, q, p.inc.trans (Inc.new ga), k'.tell hu ga (k.h0 h0) (fun mm => ?_), ru⟩
    rw [mutA_kin updS_len fun i s t e1 e2 => updS_kin e1 e2] at mm
    obtain ⟨⟨o2, e2⟩, _⟩ := mutA_there k.slots a mm
    rw [h0] at e2
    cases e2
  | _ => exact ⟨_, _, G', q, p.inc, k', r⟩
def qCall (c : Ct) (p : QH) : QE := fun Γ Q E => p Γ (fun hs Γ1 => match ndb (ixs hs) && hmut Γ1 hs with
  | true => c (argsOf Γ1 hs) (fun d outs => Q (unfr d) (updS Γ1 hs outs)) (fun x outs => E x (updS Γ1 hs outs))
  | false => False) E
/-- what the contract says at the caller -/
theorem sp_call {c : Ct} {hs : List Hd} {Γ : Env} {vs : List V} {σ : St} {G H : Hp} {Q : D → Env → Prop} (k : Ok F G H σ Γ) (hh : HdsOk F G σ hs vs)
    (h : match ndb (ixs hs) && hmut Γ hs with
      | true => c (argsOf Γ hs) (fun d outs => Q (unfr d) (updS Γ hs outs)) (fun x outs => E x (updS Γ hs outs))
      | false => False) : spC F.toCf c vs H (Fin F G σ Q) (WE (wOf F E) σ) := by
  split at h
  · rename_i e
    obtain ⟨nd, hm⟩ := Bool.and_eq_true_iff.mp e
    have hm := hmut_ok hm
    refine ⟨G, argsOf Γ hs, k.sub, args_ok k hh hm, argA_nd k hh nd, _, _, h, fun d outs v H' G' q p ha sh r => ?_, fun x outs cls dd H' G' q p ha sh r => ?_⟩
    · exact k.called_fin hh hm nd p ha sh r q
    · exact ⟨G', _, x, k.called hh hm nd p ha sh, r, q⟩
  · exact h.elim
/-- a value that may be called, below the running body: its contract -/
def CallOk (X : Cx) (A : Around) (Fc : Cf) (f : Value) (c : Ct) : Prop := ∀ (pins : List (Addr × Obj)) (s : Shared) (σ : St) (H : Hp) (vs : List V) (us : List Value) (Q : VK) (W : WX), Takes X W → Inv X pins σ H s → Vals vs us → spC Fc c vs H Q (WE W σ) →
  wpAny (model X.prog X.w) A (call f us) (EP X pins σ Q) X.xe s
theorem env0_at {A : Around} {pins : List (Addr × Obj)} {σ : St} {H : Hp} {s : Shared} (hA : A.frames = X.A.frames) (I : Inv X pins σ H s) : Env0 X.prog X.w X.K X.mg X.base A X.stack s H :=
  let e := I.env0
  ⟨hA.trans e.frames, e.mod, e.bs, e.bsz, e.funs, e.frf, e.hok, e.bare⟩
theorem run_fnAt {A : Around} {CX : CXT} {k : Nat} {f : Addr} {fd : FuncData} {ps : List Str} {sp : Sp} {dvs : List V} {ds : List Value} {E0 : XK} {pins : List (Addr × Obj)} {σ : St} {H : Hp} {s : Shared} {Q : VK} {us : List Value} {vs : List V} (Fn : FnOk X.prog X.w X.K X.mg X.base CX k f fd ps sp) (hA : A.frames = X.A.frames) (hr : Room k A) (hb : Binds X.K fd ps ds) (hd : Vals dvs ds) (hx : PassesAt CX X σ E0)
    (I : Inv X pins σ H s) (r : Vals vs us) (h : sp (vs ++ dvs) H Q E0) : wpAny (model X.prog X.w) A (call (.ref f) us) (EP X pins σ Q) X.xe s := by
  have r2 : Vals (vs ++ dvs) (us ++ ds) := r.append hd
  have hl : (us ++ ds).length = ps.length := by rw [← r2.length]; exact Fn.len _ _ _ _ h
  refine wpAny_call (codeAny_mono (Fn.run A X.stack s H ⟨us, []⟩ (us ++ ds) (vs ++ dvs) Q E0 hr (env0_at hA I) (hb s us I.kIn hl) r2 h) fun r s' hq => ?_)
  cases r with
  | error e => exact hx pins H s e s' I hq
  | ok fl =>
    cases fl with
    | ret u => exact I.after hq
    | next => exact False.elim hq
    | brk => exact False.elim hq
    | cont => exact False.elim hq
theorem callOk_fn {A : Around} {Fc : Cf} {c : Ct} {k : Nat} {f : Addr} {fd : FuncData} {ps : List Str} (Fn : FnOk X.prog X.w X.K X.mg X.base (L2.CX X.prog X.w) k f fd ps (spC Fc c)) (hA : A.frames = X.A.frames) (hr : Room k A) (hb : Binds X.K fd ps []) : CallOk X A Fc (.ref f) c :=
  fun pins s σ H vs us Q W tk I r h => run_fnAt (dvs := []) Fn hA hr hb .nil (passAt tk σ) I r (by rw [List.append_nil]; exact h)
/-- the last parameters by their defaults -/
def dflt (c : Ct) (dd : List D) : Ct := fun args Q E => c (args ++ dd.map Slot.val) (fun d outs => Q d (outs.take args.length)) (fun x outs => E x (outs.take args.length))
theorem argA_app : ∀ {as : List Slot} {vs : List V} {dd : List D} {ws : List V}, vs.length = as.length → argA (as ++ dd.map Slot.val) (vs ++ ws) = argA as vs
  | [], [], dd, ws, _ => by
    show argA (dd.map Slot.val) ws = []
    induction dd generalizing ws with
    | nil => cases ws <;> rfl
    | cons d dd ih =>
      cases ws with
      | nil => rfl
      | cons w ws =>
        have q : argA (Slot.val d :: dd.map Slot.val) (w :: ws) = argA (dd.map Slot.val) ws := by cases w <;> rfl
        exact q.trans (ih _)
  | s :: as, v :: vs, dd, ws, h => by
    have ih := argA_app (as := as) (vs := vs) (dd := dd) (ws := ws) (by simpa using h)
    show argA (s :: (as ++ dd.map Slot.val)) (v :: (vs ++ ws)) = argA (s :: as) (v :: vs)
    cases s with
    | bor o =>
      cases v with
      | ref a => show a :: argA (as ++ dd.map Slot.val) (vs ++ ws) = a :: argA as vs; rw [ih]
      | _ => exact ih
    | _ => cases v <;> exact ih
  | [], _ :: _, _, _, h => by simp at h
  | _ :: _, [], _, _, h => by simp at h
theorem args_app {Fc : Cf} {G H : Hp} : ∀ {as : List Slot} {vs : List V} {dd : List D} {ws : List V}, ArgsOk Fc G H as vs → Reps Fc G dd ws → ArgsOk Fc G H (as ++ dd.map Slot.val) (vs ++ ws)
  | [], _, [], ws, h, r => by
    cases (show _ = [] from h)
    cases (show ws = [] from r)
    exact rfl
  | [], _, d :: dd, _, h, r => by
    cases (show _ = [] from h)
    obtain ⟨v, vs, rfl, r1, r2⟩ := r
    exact ⟨v, vs, rfl, r1, args_app (as := []) (vs := []) rfl r2⟩
  | s :: as, _, dd, ws, h, r => by
    obtain ⟨v, vs, rfl, r1, r2⟩ := h
    exact ⟨v, vs ++ ws, rfl, r1, args_app r2 r⟩
theorem args_take {Fc : Cf} {G H : Hp} : ∀ {n : Nat} {as : List Slot} {vs ws : List V}, ArgsOk Fc G H as (vs ++ ws) → vs.length = n → ArgsOk Fc G H (as.take n) vs
  | 0, as, [], ws, _, _ => by simp [ArgsOk]
  | n + 1, [], v :: vs, ws, h, _ => by cases (show _ = [] from h)
  | n + 1, s :: as, v :: vs, ws, h, e => by
    obtain ⟨v', r, q, r1, r2⟩ := h
    cases q
    exact ⟨v, vs, rfl, r1, args_take r2 (by simpa using e)⟩
  | n + 1, _, [], _, _, e => by simp at e
  | 0, _, _ :: _, _, _, e => by simp at e
theorem shape_take : ∀ {as bs : List Slot} {outs : List Slot}, shape (as ++ bs) outs → shape as (outs.take as.length)
  | [], _, _, _ => by simp [shape]
  | s :: as, bs, [], h => by
    exfalso
    revert h
    cases s <;> exact fun q => q
  | s :: as, bs, t :: outs, h => by
    cases s with
    | bor o => exact ⟨h.1, shape_take h.2⟩
    | no => exact ⟨h.1, shape_take h.2⟩
    | val d => exact ⟨h.1, shape_take h.2⟩
    | own o => exact ⟨h.1, shape_take h.2⟩
    | exc c fs => exact ⟨h.1, shape_take h.2⟩
theorem callOk_dflt {A : Around} {Fc : Cf} {c : Ct} {k : Nat} {f : Addr} {fd : FuncData} {ps : List Str} {dd : List D} {dvs : List V} {ds : List Value} (Fn : FnOk X.prog X.w X.K X.mg X.base (L2.CX X.prog X.w) k f fd ps (spC Fc c)) (hA : A.frames = X.A.frames) (hr : Room k A) (hb : Binds X.K fd ps ds) (hd : Vals dvs ds) (hR : ∀ G, Reps Fc G dd dvs) :
    CallOk X A Fc (.ref f) (dflt c dd) := fun pins s σ H vs us Q W tk I r h => by
  obtain ⟨G, args, sb, ha, nd, Qc, Ec, hc, hq, he⟩ := h
  have hl : vs.length = args.length := ha.len
  refine run_fnAt (E0 := WE W σ) Fn hA hr hb hd (passAt tk σ) I r ⟨G, args ++ dd.map Slot.val, sb, args_app ha (hR G), by rw [argA_app hl]; exact nd, _, _, hc, fun d outs v H' G' q p a sh rp => ?_, fun x outs cls d' H' G' q p a sh rp => ?_⟩
  · rw [argA_app hl] at p
    exact hq d _ v H' G' q p (args_take a hl) (shape_take sh) rp
  · rw [argA_app hl] at p
    exact he x _ cls d' H' G' q p (args_take a hl) (shape_take sh) rp
theorem le_call {c : Ct} {f : Value} {fa : Addr} {x : Str} {p0 : Pos} {p : QH} (C : CallOk X X.A F.toCf (.ref fa) c) (hm : X.mg x = some (.ref fa)) (hk : PySem.W.keepIn X.K (.ref fa) = true) (tk : Takes X (wOf F E)) (ha : LH X F E (a :: es) p) (hg : Gl X x := by rfl)
    (hdb : (x == ("__debug__" : Str)) = false := by decide) (he : starEach (a :: es) X.env = (false, eval a X.env) :: starEach es X.env := by rfl) (hpl : (backTo pos (starEach es X.env)).any (·.1) = false := by rfl) :
    LE X F E (.Call (.Name x p0) (a :: es) [] pos) (qCall c p) := by
  refine ⟨fun pins s σ H G Γ Q I k h => ?_⟩
  refine wpAny_Call_Name_kw (ld_glob I hg hm ?_ hdb)
  refine PySem.W.callWith_K (h₀ := X.base) I.ok.mod.kin hk (thn (ha.run pos pins s σ H G Γ _ I k h) fun us s1 ⟨vs, H1, I1, r, hs, Γ1, G1, q1, i1, k1, hh⟩ => ⟨I1.kIn, ?_⟩) he hpl
  exact thn (C pins s1 σ H1 vs us _ _ tk I1 r (sp_call k1 hh q1)) fun u s2 z => ep_inc i1 z
theorem le_call0 {c : Ct} {fa : Addr} {x : Str} {p0 : Pos} (C : CallOk X X.A F.toCf (.ref fa) c) (hm : X.mg x = some (.ref fa)) (hk : PySem.W.keepIn X.K (.ref fa) = true) (tk : Takes X (wOf F E)) (hg : Gl X x := by rfl)
    (hdb : (x == ("__debug__" : Str)) = false := by decide) : LE X F E (.Call (.Name x p0) [] [] pos) (qCall c qhNil) := by
  refine ⟨fun pins s σ H G Γ Q I k h => ?_⟩
  refine wpAny_Call_Name_kw (ld_glob I hg hm ?_ hdb)
  exact PySem.W.callWith_K0 I.kIn hk (C pins s σ H [] [] _ _ tk I .nil (sp_call (hs := []) k rfl h))
end
end Q

set_option Elab.async false
set_option linter.all false
set_option maxRecDepth 100000
set_option maxHeartbeats 4000000
namespace Q
open PySem L2 PySem.Spec PyProof.Rows
/-! ## 6. Instances, statements, defs -/
structure Kl (F : Cf) (c : Cn) : Prop where
  cls : Cls F.K (F.cl c)
  no : ∀ f ∈ c.fields, NoAttr F.K (F.cl c) f
theorem zip_look : ∀ {N : List Str} {vs : List V} {k : Nat} {f : Str}, N.Nodup → N[k]? = some f → (N.zip vs).lookup f = vs[k]?
  | [], _, _, _, _, h => by simp at h
  | n :: N, [], k, f, _, _ => by simp
  | n :: N, v :: vs, 0, f, _, h => by
    simp at h
    subst h
    simp [List.lookup]
  | n :: N, v :: vs, k + 1, f, nd, h => by
    have h' : N[k]? = some f := by simpa using h
    have ne : (f == n) = false := by
      rw [beq_eq_false_iff_ne]
      intro e
      subst e
      exact (List.nodup_cons.mp nd).1 (List.mem_of_getElem? h')
    rw [List.zip_cons_cons]
    simp only [List.lookup, ne, List.getElem?_cons_succ]
    exact zip_look (List.nodup_cons.mp nd).2 h'
theorem zip_put_new : ∀ {N : List Str} {vs : List V} {f : Str} {y : V}, N.Nodup → N[vs.length]? = some f → putF f y (N.zip vs) = N.zip (vs ++ [y])
  | [], _, _, _, _, h => by simp at h
  | n :: N, [], f, y, _, h => by
    simp at h
    subst h
    simp [putF]
  | n :: N, v :: vs, f, y, nd, h => by
    have h' : N[vs.length]? = some f := by simpa using h
    have ne : ¬ n = f := fun e => by
      subst e
      exact (List.nodup_cons.mp nd).1 (List.mem_of_getElem? h')
    show (if n = f then (n, y) :: N.zip vs else (n, v) :: putF f y (N.zip vs)) = (n, v) :: N.zip (vs ++ [y])
    rw [if_neg ne, zip_put_new (List.nodup_cons.mp nd).2 h']
theorem zip_put_old : ∀ {N : List Str} {vs : List V} {k : Nat} {f : Str} {y : V}, N.Nodup → N[k]? = some f → k < vs.length → putF f y (N.zip vs) = N.zip (vs.set k y)
  | [], _, _, _, _, _, h, _ => by simp at h
  | n :: N, [], _, f, y, _, h, hl => by simp at hl
  | n :: N, v :: vs, 0, f, y, nd, h, _ => by
    simp at h
    subst h
    show (if n = n then (n, y) :: N.zip vs else _) = (n, y) :: N.zip vs
    rw [if_pos rfl]
  | n :: N, v :: vs, k + 1, f, y, nd, h, hl => by
    have h' : N[k]? = some f := by simpa using h
    have ne : ¬ n = f := fun e => by
      subst e
      exact (List.nodup_cons.mp nd).1 (List.mem_of_getElem? h')
    show (if n = f then (n, y) :: N.zip vs else (n, v) :: putF f y (N.zip vs)) = (n, v) :: N.zip (vs.set k y)
    rw [if_neg ne, zip_put_old (List.nodup_cons.mp nd).2 h' (by simpa using hl)]
theorem fields_nd : ∀ c : Cn, c.fields.Nodup := by intro c; cases c <;> decide +kernel
theorem fields_len : ∀ c : Cn, c.fields.length ≤ 4 := by intro c; cases c <;> decide +kernel
def Cn.ix (c : Cn) : Nat := c.ctorIdx
theorem ix_inj {a b : Cn} (h : Nat.beq a.ix b.ix = true) : a = b := by
  have h' := Nat.eq_of_beq_eq_true h
  cases a <;> cases b <;> first | rfl | (exact absurd h' (by decide))
def oTop : O1 := fun d Γ Q _ => match d with
  | .rat q => Q (.int q.num) Γ
  | _ => False
def oBot : O1 := fun d Γ Q _ => match d with
  | .rat q => Q (.int (q.den : Int)) Γ
  | _ => False
def oFld (c : Cn) (k : Nat) : O1 := fun d Γ Q _ => match d with
  | .ins c' ds => match Nat.beq c'.ix c.ix, ds[k]? with
    | true, some z => Q z Γ
    | _, _ => False
  | _ => False
section
variable {X : Cx} {F : Fx} {E : XP} {a b : Expr} {pa pb : QE} {pos : Pos}
theorem look_top (x y : V) : List.lookup ("top" : Str) [(("top" : Str), x), ("bottom", y)] = some x := by simp [List.lookup]
theorem le_top (T : Kl F.toCf .ratio) (hK : F.K = X.K) (ha : LE X F E a pa) (hb : attributeBase a "top" X.env (eval a X.env) = eval a X.env := by rfl) : LE X F E (.Attribute a "top" pos) (qUn oTop pa) :=
  LE.of (pe_fld ha.pe hb) fun σ H G Γ Q k q => ⟨G, Γ, _, k, q, fun w H' ⟨d, Γ', G', q', i, k', r⟩ => by
    cases d with
    | rat x =>
      obtain ⟨p, dx, rfl, hp⟩ := r
      exact ⟨p, _, dx, _, _, rfl, k'.sub.i hp, hK ▸ T.cls, hK ▸ T.no "top" (by decide +kernel), look_top _ _, fin_inc i (fin0 (d := .int x.num) k' q' rfl)⟩
    | _ => exact q'.elim⟩
theorem look_bottom (x y : V) : List.lookup ("bottom" : Str) [(("top" : Str), x), ("bottom", y)] = some y := by
  have e : (("bottom" : Str) == "top") = false := by decide +kernel
  simp [List.lookup, e]
theorem le_bot (T : Kl F.toCf .ratio) (hK : F.K = X.K) (ha : LE X F E a pa) (hb : attributeBase a "bottom" X.env (eval a X.env) = eval a X.env := by rfl) : LE X F E (.Attribute a "bottom" pos) (qUn oBot pa) :=
  LE.of (pe_fld ha.pe hb) fun σ H G Γ Q k q => ⟨G, Γ, _, k, q, fun w H' ⟨d, Γ', G', q', i, k', r⟩ => by
    cases d with
    | rat x =>
      obtain ⟨p, dx, rfl, hp⟩ := r
      exact ⟨p, _, dx, _, _, rfl, k'.sub.i hp, hK ▸ T.cls, hK ▸ T.no "bottom" (by decide +kernel), look_bottom _ _, fin_inc i (fin0 (d := .int (x.den : Int)) k' q' rfl)⟩
    | _ => exact q'.elim⟩
theorem le_fld (c : Cn) (n : Nat) {f : Str} (T : Kl F.toCf c) (hK : F.K = X.K) (ha : LE X F E a pa) (hf : c.fields[n]? = some f := by rfl) (hb : attributeBase a f X.env (eval a X.env) = eval a X.env := by rfl) : LE X F E (.Attribute a f pos) (qUn (oFld c n) pa) :=
  LE.of (pe_fld ha.pe hb) fun σ H G Γ Q k q => ⟨G, Γ, _, k, q, fun w H' ⟨d, Γ', G', q', i, k', r⟩ => by
    cases d with
    | ins c' ds =>
      obtain ⟨p, dx, vs, rfl, hp, rs⟩ := r
      dsimp only [oFld] at q'
      split at q'
      · rename_i z e1 e2
        have ec := ix_inj e1
        subst ec
        obtain ⟨v, ev, rv⟩ := rs.get e2
        exact ⟨p, _, dx, _, v, rfl, k'.sub.i hp, hK ▸ T.cls, hK ▸ T.no f (List.mem_of_getElem? hf), by rw [zip_look (fields_nd _) hf]; exact ev, fin_inc i (fin0 k' q' rv)⟩
      · exact q'.elim
    | _ => exact q'.elim⟩
/-- a field of an instance that may change, in slot j -/
def insM (Γ : Env) (j : Nat) (c : Cn) : Option (List D) := match Γ[j]? with
  | some (.own (.ins c' ds)) => match Nat.beq c'.ix c.ix with
    | true => some ds
    | false => none
  | some (.bor (.ins c' ds)) => match Nat.beq c'.ix c.ix with
    | true => some ds
    | false => none
  | _ => none
def qFldM (j : Nat) (c : Cn) (n : Nat) : QE := fun Γ Q _ => match insM Γ j c with
  | some ds => match ds[n]? with
    | some z => Q z Γ
    | none => False
  | none => False
theorem insAt {G H : Hp} {σ : St} {Γ : Env} {j : Nat} {c : Cn} {ds : List D} (k : Ok F G H σ Γ) (q : insM Γ j c = some ds) : ∃ a dx vs s, σ[j]? = some (some (.ref a)) ∧ H a = some (.ins (F.cl c) dx (c.fields.zip vs)) ∧ Reps F.toCf G ds vs ∧ Γ[j]? = some s ∧ s.mo.isSome = true := by
  unfold insM at q
  split at q
  · rename_i c' ds' e
    split at q
    · rename_i ec
      have ec := ix_inj ec
      subst ec
      cases q
      obtain ⟨a, ea, g, ⟨dx, vs, h, r⟩, _⟩ := k.mut e rfl
      exact ⟨a, dx, vs, _, ea, h, r, e, rfl⟩
    · cases q
  · rename_i c' ds' e
    split at q
    · rename_i ec
      have ec := ix_inj ec
      subst ec
      cases q
      obtain ⟨a, ea, g, ⟨dx, vs, h, r⟩, _⟩ := k.mut e rfl
      exact ⟨a, dx, vs, _, ea, h, r, e, rfl⟩
    · cases q
  · cases q
/-- the thing in slot j is written -/
theorem Ok.put {G H : Hp} {σ : St} {Γ : Env} {j : Nat} {s : Slot} {a : Addr} {o' : MO} {u : HO} (k : Ok F G H σ Γ) (hs : Γ[j]? = some s) (z : s.mo.isSome = true) (ha : σ[j]? = some (some (.ref a))) (hx : ∀ ws, H a ≠ some (.xd ws)) (m : MRep F.toCf G (upd H a u) o' a) : Ok F G (upd H a u) σ (putM Γ j o') := by
  obtain ⟨o, ho⟩ := Option.isSome_iff_exists.mp z
  obtain ⟨a', ea, g, mr, hb⟩ := k.mut hs ho
  rw [ha] at ea
  cases ea
  refine ⟨k.sub.off g u, k.g0, k.fresh, fun b v e nb => ?_, fun b hb' => ?_, ?_, ?_, fun i b e => ?_, by rw [putM_len]; exact k.pl⟩
  · have nba : b ≠ a := fun q => by
      subst q
      rcases hb with q | q
      · rw [e] at q; cases q
      · exact nb q
    rw [upd_ne nba]
    exact k.frame b v e nb
  · by_cases q : b = a
    · subst q; exact ⟨u, upd_same⟩
    · rw [upd_ne q]; exact k.bor b hb'
  · refine Slots.mk (by rw [putM_len]; exact k.slots.len) fun i v t e1 e2 => ?_
    by_cases hij : i = j
    · subst hij
      rw [ha] at e1
      cases e1
      have hl : i < Γ.length := (List.getElem?_eq_some_iff.mp hs).1
      have ok := (k.slots.get hs)
      obtain ⟨v', ev, ok⟩ := ok
      rw [ha] at ev
      cases ev
      unfold putM at e2
      rw [hs] at e2
      cases s with
      | own o1 =>
        dsimp only at e2
        rw [List.getElem?_set_self hl] at e2
        cases e2
        obtain ⟨b, eb, _, _, z0⟩ := ok
        cases eb
        exact ⟨a, rfl, g, m, z0⟩
      | bor o1 =>
        dsimp only at e2
        rw [List.getElem?_set_self hl] at e2
        cases e2
        obtain ⟨b, eb, _, _, z0⟩ := ok
        cases eb
        exact ⟨a, rfl, g, m, z0⟩
      | no => cases z
      | val d => cases z
      | exc c fs => cases z
    · rw [putM_get hij] at e2
      obtain ⟨v', ev, ok⟩ := k.slots.get e2
      rw [e1] at ev
      cases ev
      refine SlotOk.step (Inc.refl G) (fun b eb zb => ?_) (fun dd ws _ q => ?_) ok
      · subst eb
        have nba : b ≠ a := fun q => by
          subst q
          exact hij (mutA_inj k.nd e1 ha e2 hs zb z)
        obtain ⟨o2, ho2⟩ := Option.isSome_iff_exists.mp zb
        obtain ⟨b', eb', g2, _⟩ := k.mut e2 ho2
        rw [e1] at eb'
        cases eb'
        exact ⟨upd_ne nba, g2⟩
      · rw [upd_ne (show dd ≠ a from fun e => hx ws (e ▸ q))]
        exact q
  · rw [mutA_kin putM_len fun i s t e1 e2 => putM_kin e1 e2]
    exact k.nd
  · obtain ⟨e1, o, e2⟩ := k.pin i b e
    refine ⟨e1, ?_⟩
    have hl : i < (putM Γ j o').length := by rw [putM_len]; exact (List.getElem?_eq_some_iff.mp e2).1
    have q := putM_kin (j := j) (o := o') e2 (List.getElem?_eq_getElem hl)
    rw [List.getElem?_eq_getElem hl]
    cases hq : (putM Γ j o')[i] with
    | bor o' => exact ⟨o', rfl⟩
    | _ => rw [hq] at q; simp [kin] at q
theorem le_fldM (j : Nat) (c : Cn) (n : Nat) {x f : Str} {px : Pos} (T : Kl F.toCf c) (hK : F.K = X.K) (hf : c.fields[n]? = some f := by rfl) (hb : attributeBase (.Name x px) f X.env (eval (.Name x px) X.env) = eval (.Name x px) X.env := by rfl)
    (hN : X.N[j]? = some x := by rfl) (hv : Vis X.env.scope x := by first | exact Or.inl rfl | exact Or.inr (Or.inl rfl) | exact Or.inr (Or.inr rfl)) (hd : (x == ("__debug__" : Str)) = false := by decide) (hcd : (x == ("__classdict__" : Str)) = false := by decide) :
    LE X F E (.Attribute (.Name x px) f pos) (qFldM j c n) :=
  LE.of (pe_fld (pe_var hN hv hd hcd) hb) fun σ H G Γ Q k q => by
    unfold qFldM at q
    split at q
    · rename_i ds e
      split at q
      · rename_i z ez
        obtain ⟨p, dx, vs, s, ea, hp, rs, _, _⟩ := insAt k e
        obtain ⟨v, ev, rv⟩ := rs.get ez
        exact ⟨.ref p, ea, p, _, dx, _, v, rfl, hp, hK ▸ T.cls, hK ▸ T.no f (List.mem_of_getElem? hf), by rw [zip_look (fields_nd _) hf]; exact ev, fin0 k q rv⟩
      · exact q.elim
    · exact q.elim
/-- self.f = e -/
def qFldS (j : Nat) (c : Cn) (n : Nat) (p : QE) : QS := fun Γ P E => p Γ (fun d Γ1 => match insM Γ1 j c with
  | some ds => match Nat.beq ds.length n, Nat.ble (n + 1) ds.length with
    | true, _ => P.nx (putM Γ1 j (.ins c (ds ++ [d])))
    | false, true => P.nx (putM Γ1 j (.ins c (ds.set n d)))
    | _, _ => False
  | none => False) E
theorem ls_fldS (j : Nat) (c : Cn) (n : Nat) {x f : Str} {e : Expr} {p : QE} {px pos' : Pos} (T : Kl F.toCf c) (hK : F.K = X.K) (he : LE X F E e p) (hf : c.fields[n]? = some f := by rfl) (hs : swapsWith e (some (.Attribute (.Name x px) f pos')) pos.line X.env = pure false := by rfl)
    (hN : X.N[j]? = some x := by rfl) (hv : Vis X.env.scope x := by first | exact Or.inl rfl | exact Or.inr (Or.inl rfl) | exact Or.inr (Or.inr rfl)) (hd : (x == ("__debug__" : Str)) = false := by decide) (hcd : (x == ("__classdict__" : Str)) = false := by decide) :
    LS X F E (.Assign [.Attribute (.Name x px) f pos'] e pos) (qFldS j c n p) :=
  LS.of (ps_fld (pe_var hN hv hd hcd) he.pe hs) fun σ H G Γ P k q => ⟨G, Γ, _, k, q, fun w H' ⟨d, Γ', G', q', i, k', r⟩ => by
    dsimp only at q'
    split at q'
    · rename_i ds e
      obtain ⟨p, dx, vs, s, ea, hp, rs, es, z⟩ := insAt k' e
      have hl : (c.fields.zip vs).length ≤ 4 := by
        rw [List.length_zip]
        have := fields_len c
        omega
      have hx : ∀ ws, H' p ≠ some (.xd ws) := fun ws q => by rw [hp] at q; cases q
      refine ⟨.ref p, ea, p, _, dx, _, rfl, hp, hK ▸ T.cls, hK ▸ T.no f (List.mem_of_getElem? hf), by omega, ?_⟩
      split at q'
      · rename_i e1
        have e1 := Nat.eq_of_beq_eq_true e1
        have e2 : c.fields[vs.length]? = some f := by rw [rs.len, e1]; exact hf
        refine ⟨_, G', q', i, k'.put es z ea hx ?_⟩
        exact ⟨dx, vs ++ [w], by rw [upd_same, zip_put_new (fields_nd c) e2], rs.append (Reps.one r)⟩
      · rename_i e1 e2
        have e2 := Nat.le_of_ble_eq_true e2
        refine ⟨_, G', q', i, k'.put es z ea hx ?_⟩
        exact ⟨dx, vs.set n w, by rw [upd_same, zip_put_old (fields_nd c) hf (by rw [rs.len]; omega)], Reps.set r n rs⟩
      · exact q'.elim
    · exact q'.elim⟩
/-! ### statements -/
def qNx : QS := fun Γ P _ => P.nx Γ
def qSeq (t u : QS) : QS := fun Γ P E => t Γ { P with nx := fun Γ1 => u Γ1 P E } E
theorem lss_nil : LSs X F E [] qNx := ⟨fun _ _ σ H G Γ _ I k h => wpAny_execs_nil ⟨σ, H, I, Γ, G, h, Inc.refl G, k⟩⟩
theorem lss_cons {st : Stmt} {rest : List Stmt} {t u : QS} (h1 : LS X F E st t) (h2 : LSs X F E rest u) : LSs X F E (st :: rest) (qSeq t u) := by
  refine ⟨fun pins s σ H G Γ P I k h => ?_⟩
  refine wpAny_execs_cons (thn (h1.run pins s σ H G Γ _ I k h) fun f s1 q => ?_)
  cases f with
  | next =>
    obtain ⟨σ', H', I', Γ', G', q, i, k'⟩ := q
    exact thn (h2.run pins s1 σ' H' G' Γ' P I' k' q) fun f s2 z => ends_inc i z
  | ret v => exact q
  | brk => exact q
  | cont => exact q
theorem lss_one {st : Stmt} {t : QS} (h1 : LS X F E st t) : LSs X F E [st] t := by
  refine ⟨fun pins s σ H G Γ P I k h => ?_⟩
  refine wpAny_execs_cons (thn (h1.run pins s σ H G Γ P I k h) fun f s1 q => ?_)
  cases f with
  | next => exact wpAny_execs_nil q
  | ret v => exact q
  | brk => exact q
  | cont => exact q
def qRet (p : QE) : QS := fun Γ P E => p Γ P.rt E
theorem ls_ret (he : LE X F E a pa) : LS X F E (.Return (some a) pos) (qRet pa) :=
  ⟨fun pins s σ H G Γ P I k h => wpAny_Return_some (thn (he.run pins s σ H G Γ _ I k h) fun v s1 ⟨x, H1, I1, r1, d, Γ1, G1, q1, i1, k1, rp⟩ => ⟨x, σ, H1, I1, r1, d, Γ1, G1, σ, q1, i1, k1, .of rp⟩)⟩
def qDrop (p : QE) : QS := fun Γ P E => p Γ (fun _ Γ1 => P.nx Γ1) E
theorem ls_expr (he : LE X F E a pa) (hs : swapsWith a none pos.line X.env = pure false := by rfl) : LS X F E (.Expr a pos) (qDrop pa) :=
  ⟨fun pins s σ H G Γ P I k h => wpAny_Expr_any (thn (he.run pins s σ H G Γ _ I k h) fun v s1 ⟨x, H1, I1, r1, d, Γ1, G1, q1, i1, k1, rp⟩ => ⟨σ, H1, I1, Γ1, G1, q1, i1, k1⟩) I.quiet hs⟩
theorem ls_pass : LS X F E (.Pass pos) qNx := ⟨fun _ _ σ H G Γ _ I k h => wpAny_Pass ⟨σ, H, I, Γ, G, h, Inc.refl G, k⟩⟩
def qCont : QS := fun Γ P _ => P.ct Γ
def qBrk : QS := fun Γ P _ => P.bk Γ
theorem ls_cont : LS X F E (.Continue pos) qCont := ⟨fun _ _ σ H G Γ _ I k h => wpAny_Continue ⟨σ, H, I, Γ, G, h, Inc.refl G, k⟩⟩
theorem ls_brk : LS X F E (.Break pos) qBrk := ⟨fun _ _ σ H G Γ _ I k h => wpAny_Break ⟨σ, H, I, Γ, G, h, Inc.refl G, k⟩⟩
def qIfS (t : QT) (u w : QS) : QS := fun Γ P E => t Γ (fun b Γ1 => match b with
  | true => u Γ1 P E
  | false => w Γ1 P E) E
theorem ls_if {c : Expr} {x y : List Stmt} {tc : QT} {t u : QS} (hc : LT X F E c tc) (ha : LSs X F E x t) (hb : LSs X F E y u) : LS X F E (.If c x y pos) (qIfS tc t u) := by
  refine ⟨fun pins s σ H G Γ P I k h => ?_⟩
  refine wpAny_If (thn (hc.run pins s σ H G Γ _ I k h) fun d s1 ⟨H1, I1, Γ1, G1, q1, i1, k1⟩ => ?_)
  cases d with
  | true => exact thn (ha.run pins s1 σ H1 G1 Γ1 P I1 k1 q1) fun f s2 z => ends_inc i1 z
  | false => exact thn (hb.run pins s1 σ H1 G1 Γ1 P I1 k1 q1) fun f s2 z => ends_inc i1 z
/-- a name is given a datum -/
def setV (Γ : Env) (i : Nat) (d : D) (Q : Env → Prop) : Prop := match Γ[i]? with
  | some (.own _) => False
  | some (.bor _) => False
  | none => False
  | some _ => Q (Γ.set i (.val d))
theorem setV_get {Γ : Env} {i : Nat} {d : D} {Q : Env → Prop} (h : setV Γ i d Q) : nomut Γ i ∧ Q (Γ.set i (.val d)) := by
  unfold setV at h
  split at h
  · exact h.elim
  · exact h.elim
  · exact h.elim
  · rename_i s n1 n2 e
    refine ⟨fun t et => ?_, h⟩
    rw [e] at et
    cases et
    cases s with
    | own o => exact (n1 o rfl).elim
    | bor o => exact (n2 o rfl).elim
    | _ => rfl
abbrev QG := D → Env → (Env → Prop) → Prop
structure LG (X : Cx) (F : Fx) (tg : Expr) (g : QG) : Prop where
  run : ∀ (pins : List (Addr × Obj)) (s : Shared) (σ : St) (H G : Hp) (Γ : Env) (v : V) (u : Value) (d : D) (Q : Env → Prop), Inv X pins σ H s → Ok F G H σ Γ → RelV v u → Rep F.toCf G d v → g d Γ Q →
    wpAny (model X.prog X.w) X.A (assign tg X.env u) (fun _ s' => ∃ σ' H', Inv X pins σ' H' s' ∧ ∃ Γ', Q Γ' ∧ Ok F G H' σ' Γ') X.xe s
def gV (i : Nat) : QG := fun d Γ Q => setV Γ i d Q
theorem lg_name (i : Nat) {x : Str} (hN : X.N.Nodup) (hi : X.N[i]? = some x := by rfl) (hx : Loc X.env.scope x := by first | exact Or.inl rfl | exact Or.inr rfl) (hf : X.fn x = true ∨ X.env.scope.names.lookup x = some .local := by first | exact .inl rfl | exact .inr rfl | assumption) : LG X F (.Name x pos) (gV i) :=
  ⟨fun pins s σ H G Γ v u d Q I k r rp h => by
    obtain ⟨n, q⟩ := setV_get h
    exact (pg_name (X := X) (i := i) hN hi hx hf).run pins s σ H v u (fun σ' H' => ∃ Γ', Q Γ' ∧ Ok F G H' σ' Γ') I r ⟨_, q, k.set n rp⟩⟩
structure LGs (X : Cx) (F : Fx) (ts : List Expr) (g : List D → Env → (Env → Prop) → Prop) : Prop where
  run : ∀ (pins : List (Addr × Obj)) (s : Shared) (σ : St) (H G : Hp) (Γ : Env) (vs : List V) (us : List Value) (ds : List D) (Q : Env → Prop), Inv X pins σ H s → Ok F G H σ Γ → Vals vs us → Reps F.toCf G ds vs → g ds Γ Q →
    wpAny (model X.prog X.w) X.A (assignInOrder ((assignEach ts X.env).map (·.2)) us) (fun _ s' => ∃ σ' H', Inv X pins σ' H' s' ∧ ∃ Γ', Q Γ' ∧ Ok F G H' σ' Γ') X.xe s
def gsNil : List D → Env → (Env → Prop) → Prop := fun ds Γ Q => match ds with
  | [] => Q Γ
  | _ => False
def gsCons (g : QG) (gr : List D → Env → (Env → Prop) → Prop) : List D → Env → (Env → Prop) → Prop := fun ds Γ Q => match ds with
  | [] => False
  | d :: ds => g d Γ fun Γ1 => gr ds Γ1 Q
theorem lgs_nil : LGs X F [] gsNil := ⟨fun pins s σ H G Γ vs us ds Q I k r rp h => by
  cases ds with
  | nil =>
    cases (show vs = [] from rp)
    cases r
    exact assignInOrder_nil ⟨σ, H, I, Γ, h, k⟩
  | cons _ _ => exact h.elim⟩
theorem lgs_cons {e : Expr} {es : List Expr} {g : QG} {gr : List D → Env → (Env → Prop) → Prop} (h1 : LG X F e g) (h2 : LGs X F es gr) (hs : (assignEach (e :: es) X.env).map (·.2) = assign e X.env :: (assignEach es X.env).map (·.2) := by rfl) : LGs X F (e :: es) (gsCons g gr) := ⟨fun pins s σ H G Γ vs us ds Q I k r rp h => by
  cases ds with
  | nil => exact h.elim
  | cons d ds =>
    obtain ⟨v, vr, rfl, r1, r2⟩ := rp
    cases r with
    | cons ra rb =>
      rw [hs]
      refine assignInOrder_cons (thn (h1.run pins s σ H G Γ _ _ d _ I k ra r1 h) fun _ s1 ⟨σ1, H1, I1, Γ1, q1, k1⟩ => ?_)
      exact h2.run pins s1 σ1 H1 G Γ1 _ _ ds Q I1 k1 rb r2 q1⟩
/-- a, b, .. = a tuple -/
def gT (n : Nat) (gr : List D → Env → (Env → Prop) → Prop) : QG := fun d Γ Q => match d with
  | .tup ds => ds.length = n ∧ gr ds Γ Q
  | _ => False
theorem lg_tup {es : List Expr} {k0 : Nat} {gr : List D → Env → (Env → Prop) → Prop} {n : Nat} (hK : F.K = X.K) (hc : X.calm = true) (h : LGs X F es gr) (hn : (assignEach es X.env).length = n := by rfl) (hst : (assignEach es X.env).findIdx? (·.1) = none := by rfl) : LG X F (.Tuple es k0 pos) (gT n gr) :=
  ⟨fun pins s σ H G Γ v u d Q I k r rp hw => by
    cases d with
    | tup ds =>
      obtain ⟨hl, hw⟩ := hw
      obtain ⟨a, vs, rfl, hq, rs⟩ := rp
      cases r
      obtain ⟨its, rv, ht, hz⟩ := I.tuple (hK ▸ k.sub.t hq)
      refine assign_Tuple_tuple (I.ok.hd hc) ht (by simp [hn, ← hl, ← rs.len, rv.length]) hst fun h' hx => ?_
      have I1 : Inv X pins σ H { s with heap := h' } := I.kept (t' := s.toks) fun b o e => hx b o (Nat.ne_of_lt (Heap.lt_size e)) e
      exact h.run pins _ σ H G Γ vs _ ds Q I1 k (by simpa using rv) rs hw
    | _ => exact hw.elim⟩
def qAsg (p : QE) (g : QG) : QS := fun Γ P E => p Γ (fun d Γ1 => g d Γ1 P.nx) E
theorem ls_asg {tg e : Expr} {p : QE} {g : QG} (he : LE X F E e p) (hg : LG X F tg g) (hs : swapsWithSole [tg] e pos.line X.env = pure false := by rfl) (hw : swappedStores [tg] e X.env = pure none := by rfl)
    (h1 : (assignEach [tg] X.env).map (·.2) = [assign tg X.env] := by rfl) : LS X F E (.Assign [tg] e pos) (qAsg p g) := by
  refine ⟨fun pins s σ H G Γ P I k h => ?_⟩
  refine wpAny_Assign_stores (thn (he.run pins s σ H G Γ _ I k h) fun v s1 ⟨x, H1, I1, r1, d, Γ1, G1, q1, i1, k1, rp⟩ => ?_) hs hw
  rw [h1]
  exact thn (hg.run pins s1 σ H1 G1 Γ1 x v d _ I1 k1 r1 rp q1) fun _ s2 ⟨σ', H', I', Γ', q, k'⟩ => ⟨σ', H', I', Γ', G1, q, i1, k'⟩
def qSet (i : Nat) (p : QE) : QS := fun Γ P E => p Γ (fun d Γ1 => setV Γ1 i d P.nx) E
theorem ls_set (i : Nat) {x : Str} {e : Expr} {p : QE} {pos' : Pos} (hN : X.N.Nodup) (he : LE X F E e p) (hi : X.N[i]? = some x := by rfl) (hx : Loc X.env.scope x := by first | exact Or.inl rfl | exact Or.inr rfl) (hs : swapsWith e (some (.Name x pos')) pos.line X.env = pure false := by rfl)
    (hf : X.fn x = true ∨ X.env.scope.names.lookup x = some .local := by first | exact .inl rfl | exact .inr rfl | assumption) : LS X F E (.Assign [.Name x pos'] e pos) (qSet i p) :=
  LS.of (ps_set (i := i) hN hi hx he.pe hs hf) fun σ H G Γ P k q => ⟨G, Γ, _, k, q, fun w H' ⟨d, Γ', G', q', i1, k', r⟩ => by
    obtain ⟨n, q2⟩ := setV_get q'
    exact ⟨_, G', q2, i1, k'.set n r⟩⟩
/-- a, b = x, y -/
def qPar (i j : Nat) (p : QA) : QS := fun Γ P E => p Γ (fun ds Γ1 => match ds with
  | [d, e] => setV Γ1 i d fun Γ2 => setV Γ2 j e P.nx
  | _ => False) E
theorem ls_par (i j : Nat) {x y : Str} {a b : Expr} {p : QA} {px py pt : Pos} {kt k2 pt2} (hc : X.calm = true) (hN : X.N.Nodup) (ha : LA X F E [a, b] p) (hi : X.N[i]? = some x := by rfl) (hj : X.N[j]? = some y := by rfl) (hij : i ≠ j := by decide)
    (hx : X.env.scope.names.lookup x = some .local := by rfl) (hy : X.env.scope.names.lookup y = some .local := by rfl)
    (hw : swappedStores [.Tuple [.Name x px, .Name y py] kt pt] (.Tuple [a, b] k2 pt2) X.env = pure (some [x, y]) := by rfl)
    (hs : swapsWithSole [.Tuple [.Name x px, .Name y py] kt pt] (.Tuple [a, b] k2 pt2) pos.line X.env = pure false := by rfl) :
    LS X F E (.Assign [.Tuple [.Name x px, .Name y py] kt pt] (.Tuple [a, b] k2 pt2) pos) (qPar i j p) :=
  LS.of (ps_par (i := i) (j := j) hc hN hi hj hij hx hy ha.pa hw hs) fun σ H G Γ P k q => ⟨G, Γ, _, k, q, fun ws H' ⟨ds, Γ', G', q', i1, k', r⟩ => by
    match ds, q' with
    | [d, e], q' =>
      obtain ⟨v, vr, rfl, r1, w, wr, rfl, r2, r3⟩ := r
      cases (show wr = [] from r3)
      obtain ⟨n, q2⟩ := setV_get q'
      obtain ⟨n2, q3⟩ := setV_get q2
      exact ⟨v, w, rfl, _, G', q3, i1, (k'.set n r1).set n2 r2⟩⟩
end
end Q

set_option Elab.async false
set_option linter.all false
set_option maxRecDepth 100000
set_option maxHeartbeats 4000000
namespace Q
open PySem L2 PySem.Spec PyProof.Rows
section
variable {X : Cx} {F : Fx} {E : XP} {a b : Expr} {pa pb : QE} {pos : Pos}
/-! ### x[i] = e, x a list that may change, in slot j -/
theorem bindmo {Γ : Env} {j : Nat} {o : MO} (h : (Γ[j]?).bind Slot.mo = some o) : ∃ s, Γ[j]? = some s ∧ s.mo = some o := by
  cases e : Γ[j]? with
  | none => rw [e] at h; cases h
  | some s => rw [e] at h; exact ⟨s, rfl, h⟩
/-- the slot holds a value -/
def isSet (Γ : Env) (j : Nat) : Bool := match Γ[j]? with
  | some (.own _) => true
  | some (.bor _) => true
  | _ => false
theorem isSet_ok {G H : Hp} {σ : St} {Γ : Env} {j : Nat} (k : Ok F G H σ Γ) (h : isSet Γ j = true) : ∃ a, σ[j]? = some (some (.ref a)) := by
  unfold isSet at h
  split at h
  · rename_i o e
    obtain ⟨a, ea, _⟩ := k.mut e rfl
    exact ⟨a, ea⟩
  · rename_i o e
    obtain ⟨a, ea, _⟩ := k.mut e rfl
    exact ⟨a, ea⟩
  · cases h
def qSetIx (j : Nat) (pe pi : QE) : QS := fun Γ P E => pe Γ (fun d Γ1 => match isSet Γ1 j with
  | true => pi Γ1 (fun i Γ2 => match (Γ2[j]?).bind Slot.mo, i with
    | some (.lst xs), .int n => match Nat.ble (n.toNat + 1) xs.length with
      | true => 0 ≤ n ∧ P.nx (putM Γ2 j (.lst (xs.set n.toNat d)))
      | false => False
    | _, _ => False) E
  | false => False) E
theorem ls_setIx (j : Nat) {x : Str} {e i : Expr} {pe pi : QE} {px pt : Pos} (he : LE X F E e pe) (hi : LE X F E i pi)
    (ha : ∀ v, assign (.Subscript (.Name x px) i pt) X.env v = (do
      let ov ← holding [v] (eval (.Name x px) X.env)
      let iv ← holding [v, ov] (eval i X.env)
      standAt pt
      holding [v, ov, iv] (setItem ov iv v)
      release [v, ov, iv] []) := by intro _; rfl)
    (hs : swapsWithSole [.Subscript (.Name x px) i pt] e pos.line X.env = pure false := by rfl) (hw : swappedStores [.Subscript (.Name x px) i pt] e X.env = pure none := by rfl)
    (h1 : (assignEach [.Subscript (.Name x px) i pt] X.env).map (·.2) = [assign (.Subscript (.Name x px) i pt) X.env] := by rfl)
    (hN : X.N[j]? = some x := by rfl) (hv : Vis X.env.scope x := by first | exact Or.inl rfl | exact Or.inr (Or.inl rfl) | exact Or.inr (Or.inr rfl)) (hd : (x == ("__debug__" : Str)) = false := by decide) (hcd : (x == ("__classdict__" : Str)) = false := by decide) :
    LS X F E (.Assign [.Subscript (.Name x px) i pt] e pos) (qSetIx j pe pi) :=
  LS.of (ps_asg he.pe (pg_sub (pe_var hN hv hd hcd) hi.pe set_list ha) hs hw h1) fun σ H G Γ P k q => by
    refine ⟨G, Γ, _, k, q, fun w H' ⟨d, Γ', G', q', i1, k', r⟩ => ?_⟩
    dsimp only at q'
    split at q'
    · rename_i es
      obtain ⟨p, ep⟩ := isSet_ok k' es
      refine ⟨.ref p, ep, G', Γ', _, k', q', fun w2 H2 ⟨d2, Γ2, G2, q2, i2, k2, r2⟩ => ?_⟩
      dsimp only at q2
      split at q2
      · rename_i xs n em
        split at q2
        · rename_i eb
          have hl := Nat.le_of_ble_eq_true eb
          obtain ⟨s, e1, e2⟩ := bindmo em
          obtain ⟨p2, ep2, g, ⟨vs, hp, rs⟩, _⟩ := k2.mut e1 e2
          rw [ep] at ep2
          cases ep2
          have hn : ixN vs.length n = some n.toNat := by
            unfold ixN
            rw [if_pos q2.1, rs.len, if_pos (by omega)]
          refine ⟨p, vs, n, n.toNat, rfl, r2, hp, hn, _, G2, q2.2, i1.trans i2, k2.put e1 (by rw [e2]; rfl) ep (fun ws z => by rw [hp] at z; cases z) ?_⟩
          exact ⟨_, upd_same, Reps.set (r.inc i2) _ rs⟩
        · exact q2.elim
      · exact q2.elim
    · exact q'.elim
/-! ### while -/
def qWhile (t : QT) (u : QS) : QS := fun Γ P E => ∃ W : Nat → Env → Prop, (∃ m, W m Γ) ∧ ∀ m Γ1, W m Γ1 → t Γ1 (fun b Γ2 => match b with
  | true => u Γ2 { nx := fun Γ3 => ∃ m', m' < m ∧ W m' Γ3, ct := fun Γ3 => ∃ m', m' < m ∧ W m' Γ3, bk := P.nx, rt := P.rt } E
  | false => P.nx Γ2) E
theorem ls_while {c : Expr} {body : List Stmt} {tc : QT} {tb : QS} (hp : PassesOwn (model X.prog X.w) X.A X.env X.xe) (hc : LT X F E c tc) (hb : LSs X F E body tb) : LS X F E (.While c body [] pos) (qWhile tc tb) :=
  LS.of (ps_while hp hc.pt hb.ps) fun σ H G Γ P k q => by
    obtain ⟨W, ⟨m0, w0⟩, turn⟩ := q
    refine ⟨fun m σ' H' => ∃ Γ' G', W m Γ' ∧ Inc G G' ∧ Ok F G' H' σ' Γ', ⟨m0, Γ, G, w0, Inc.refl G, k⟩, ?_⟩
    rintro m σ1 H1 ⟨Γ1, G1, w1, i1, k1⟩
    refine ⟨G1, Γ1, _, k1, turn m Γ1 w1, fun b H' ⟨Γ2, G2, q2, i2, k2⟩ => ?_⟩
    cases b with
    | true =>
      rw [if_pos rfl]
      refine ⟨fun σ' H' => ∃ m', m' < m ∧ ∃ Γ' G', W m' Γ' ∧ Inc G G' ∧ Ok F G' H' σ' Γ', fun σ' H' z => z, G2, Γ2, _, k2, q2, ?_, ?_, ?_, ?_⟩
      · rintro σ' H' ⟨Γ3, G3, ⟨m', lt, w3⟩, i3, k3⟩
        exact ⟨m', lt, Γ3, G3, w3, (i1.trans i2).trans i3, k3⟩
      · rintro v H' ⟨d, Γ3, G3, σ3, q3, i3, k3, r3⟩
        exact ⟨d, Γ3, G3, σ3, q3, (i1.trans i2).trans i3, k3, r3⟩
      · rintro σ' H' ⟨Γ3, G3, q3, i3, k3⟩
        exact ⟨Γ3, G3, q3, (i1.trans i2).trans i3, k3⟩
      · rintro σ' H' ⟨Γ3, G3, ⟨m', lt, w3⟩, i3, k3⟩
        exact ⟨m', lt, Γ3, G3, w3, (i1.trans i2).trans i3, k3⟩
    | false =>
      rw [if_neg Bool.false_ne_true]
      exact ⟨Γ2, G2, q2, i1.trans i2, k2⟩
/-! ### for -/
/-- the list that is walked may be a thing handed in: it stays as it is -/
abbrev Gd := Option (Nat × MO)
def gM (gd : Gd) (Γ : Env) : Prop := match gd with
  | none => True
  | some (j, o) => (Γ[j]?).bind Slot.mo = some o
/-- .. and it is the same thing -/
def gOk (gd : Gd) (σ0 σ : St) (Γ : Env) : Prop := match gd with
  | none => True
  | some (j, o) => (Γ[j]?).bind Slot.mo = some o ∧ σ[j]? = σ0[j]?
def withG (gd : Gd) (Γ : Env) (R : Prop) : Prop := match gd with
  | none => R
  | some (j, o) => (Γ[j]?).bind Slot.mo = some o ∧ R
theorem withG_get {gd : Gd} {Γ : Env} {R : Prop} (h : withG gd Γ R) : gM gd Γ ∧ R := by
  cases gd with
  | none => exact ⟨trivial, h⟩
  | some p => obtain ⟨j, o⟩ := p; exact h
def withH0 (F : Fx) (H0 : Hp) : Fx := { F with H0 := H0 }
structure FxD where
  G0 : Hp
  H0 : Hp
  B : List Addr
  pin : List (Option Addr)
abbrev fbk (F : Fx) (q : FxD) : Fx := { F with G0 := q.G0, H0 := q.H0, B := q.B, pin := q.pin }
structure SeqW (F : Fx) (G : Hp) (σ0 : St) (J : It) (items : List D) (gd : Gd) : Prop where
  goH : ∀ (q : FxD) i G' H' σ Γ, Inc G G' → Ok (fbk F q) G' H' σ Γ → gOk gd σ0 σ Γ → i < items.length → J.go i H'
  stopH : ∀ (q : FxD) G' H' σ Γ, Inc G G' → Ok (fbk F q) G' H' σ Γ → gOk gd σ0 σ Γ → J.stop items.length H'
  yldH : ∀ (q : FxD) i G' H' σ Γ x H'', Inc G G' → Ok (fbk F q) G' H' σ Γ → gOk gd σ0 σ Γ → i < items.length → J.yld i H' x H'' → ∃ d G'', items[i]? = some d ∧ Inc G' G'' ∧ Ok (fbk F q) G'' H'' σ Γ ∧ Rep F.toCf G'' d x
theorem SeqW.go {F : Fx} {G : Hp} {σ0 : St} {J : It} {items : List D} {gd : Gd} (h : SeqW F G σ0 J items gd) : ∀ i G' H' σ Γ, Inc G G' → Ok F G' H' σ Γ → gOk gd σ0 σ Γ → i < items.length → J.go i H' := h.goH ⟨F.G0, F.H0, F.B, F.pin⟩
theorem SeqW.stop {F : Fx} {G : Hp} {σ0 : St} {J : It} {items : List D} {gd : Gd} (h : SeqW F G σ0 J items gd) : ∀ G' H' σ Γ, Inc G G' → Ok F G' H' σ Γ → gOk gd σ0 σ Γ → J.stop items.length H' := h.stopH ⟨F.G0, F.H0, F.B, F.pin⟩
theorem SeqW.yld {F : Fx} {G : Hp} {σ0 : St} {J : It} {items : List D} {gd : Gd} (h : SeqW F G σ0 J items gd) : ∀ i G' H' σ Γ x H'', Inc G G' → Ok F G' H' σ Γ → gOk gd σ0 σ Γ → i < items.length → J.yld i H' x H'' → ∃ d G'', items[i]? = some d ∧ Inc G' G'' ∧ Ok F G'' H'' σ Γ ∧ Rep F.toCf G'' d x := h.yldH ⟨F.G0, F.H0, F.B, F.pin⟩
abbrev QI := Env → (List D → Gd → Env → Prop) → XP → Prop
def FinI (F : Fx) (G : Hp) (σ : St) (Q : List D → Gd → Env → Prop) : It → Hp → Prop := fun J H' => ∃ items gd Γ' G', Q items gd Γ' ∧ Inc G G' ∧ Ok F G' H' σ Γ' ∧ SeqW F G' σ J items gd
structure LI (X : Cx) (F : Fx) (E : XP) (tg iter : Expr) (p : QI) : Prop where
  run : ∀ (pins : List (Addr × Obj)) (s : Shared) (σ : St) (H G : Hp) (Γ : Env) (Q : List D → Gd → Env → Prop), Inv X pins σ H s → Ok F G H σ Γ → p Γ Q E →
    wpAny (model X.prog X.w) X.A (eval iter X.env) (fun v s1 => wpAny (model X.prog X.w) X.A (pyIter v) (PIE X pins σ tg (FinI F G σ Q)) X.xe s1) X.xe s
def wI (F : Fx) (E : XP) (p : QI) : TI := fun σ H R => ∃ G Γ Q, Ok F G H σ Γ ∧ p Γ Q E ∧ ∀ J H', FinI F G σ Q J H' → R J H'
theorem LI.pi {tg iter : Expr} {p : QI} (h : LI X F E tg iter p) : PI X tg iter (wI F E p) := ⟨fun pins s σ H R I ⟨G, Γ, Q, k, q, i⟩ =>
  thn (h.run pins s σ H G Γ Q I k q) fun v s1 h1 => thn h1 fun u s2 ⟨it, fp, tn, J, H', e, I', T, t0, f, z⟩ => ⟨it, fp, tn, J, H', e, I', T, t0, f, i J H' z⟩⟩
theorem LI.of {tg iter : Expr} {p : QI} {w : TI} (h : PI X tg iter w) (i : ∀ σ H G Γ Q, Ok F G H σ Γ → p Γ Q E → w σ H (FinI F G σ Q)) : LI X F E tg iter p := ⟨fun pins s σ H G Γ Q I k q => h.run pins s σ H _ I (i σ H G Γ Q k q)⟩
def tG (F : Fx) (g : QG) : TG := fun v σ H R => ∃ G Γ d Q, Ok F G H σ Γ ∧ Rep F.toCf G d v ∧ g d Γ Q ∧ ∀ σ' H' Γ', Q Γ' → Ok F G H' σ' Γ' → R σ' H'
theorem LG.pg {tg : Expr} {g : QG} (h : LG X F tg g) : PG X tg (tG F g) := ⟨fun pins s σ H v u R I r ⟨G, Γ, d, Q, k, rp, q, i⟩ =>
  thn (h.run pins s σ H G Γ v u d Q I k r rp q) fun _ s' ⟨σ', H', I', Γ', z, k'⟩ => ⟨σ', H', I', i σ' H' Γ' z k'⟩⟩
def qLoop (gd : Gd) (g : QG) (u : QS) : List D → QS
  | [] => fun Γ P _ => withG gd Γ (P.nx Γ)
  | d :: ds => fun Γ P E => withG gd Γ (g d Γ fun Γ1 => u Γ1 { nx := fun Γ2 => qLoop gd g u ds Γ2 P E, ct := fun Γ2 => qLoop gd g u ds Γ2 P E, bk := P.nx, rt := P.rt } E)
def qFor (p : QI) (g : QG) (u : QS) : QS := fun Γ P E => p Γ (fun items gd Γ1 => match gd with
  | none => qLoop none g u items Γ1 P E
  | some _ => False) E
theorem ls_for {tg iter : Expr} {body : List Stmt} {p : QI} {g : QG} {u : QS} (hp : PassesOwn (model X.prog X.w) X.A X.env X.xe) (hc : X.calm = true) (hi : LI X F E tg iter p) (hg : LG X F tg g) (hb : LSs X F E body u)
    (hs : ∀ x, foldedSetIterable iter X.env x = pure x := by intro _; rfl) : LS X F E (.For tg iter body [] pos) (qFor p g u) :=
  LS.of (ps_for hp hc hi.pi hg.pg hb.ps hs) fun σ H G Γ P k q => by
    refine ⟨G, Γ, _, k, q, fun J H1 ⟨items, gd, Γ1, G1, q1, i1, k1, sw⟩ => ?_⟩
    cases gd with
    | some _ => exact q1.elim
    | none =>
    refine ⟨fun i m σ' H' => m = items.length - i ∧ i ≤ items.length ∧ ∃ Γ' G', qLoop none g u (items.drop i) Γ' P E ∧ Inc G1 G' ∧ Ok F G' H' σ' Γ', ⟨_, rfl, Nat.zero_le _, Γ1, G1, by simpa using q1, Inc.refl G1, k1⟩, ?_⟩
    rintro i m σ2 H2 ⟨rfl, hi2, Γ2, G2, q2, i2, k2⟩
    by_cases hlt : i < items.length
    · refine .inr ⟨sw.go i G2 H2 σ2 Γ2 i2 k2 trivial hlt, fun σ' H' => ∃ Γ' G', qLoop none g u (items.drop (i + 1)) Γ' P E ∧ Inc G1 G' ∧ Ok F G' H' σ' Γ', fun σ' H' z => ⟨items.length - (i + 1), by omega, rfl, hlt, z⟩, fun x H3 y => ?_⟩
      obtain ⟨d, G3, ed, i3, k3, r3⟩ := sw.yld i G2 H2 σ2 Γ2 x H3 i2 k2 trivial hlt y
      have hd : items.drop i = d :: items.drop (i + 1) := by
        rw [List.drop_eq_getElem_cons hlt]
        congr 1
        rw [List.getElem?_eq_getElem hlt] at ed
        exact Option.some.inj ed
      rw [hd] at q2
      obtain ⟨_, q2⟩ := withG_get (gd := none) (Γ := Γ2) q2
      refine ⟨G3, Γ2, d, _, k3, r3, q2, fun σ4 H4 Γ4 q4 k4 => ⟨G3, Γ4, _, k4, q4, ?_, ?_, ?_, ?_⟩⟩
      · rintro σ5 H5 ⟨Γ5, G5, q5, i5, k5⟩
        exact ⟨Γ5, G5, q5, (i2.trans i3).trans i5, k5⟩
      · rintro v H5 ⟨d5, Γ5, G5, σ5, q5, i5, k5, r5⟩
        exact ⟨d5, Γ5, G5, σ5, q5, ((i1.trans i2).trans i3).trans i5, k5, r5⟩
      · rintro σ5 H5 ⟨Γ5, G5, q5, i5, k5⟩
        exact ⟨Γ5, G5, q5, ((i1.trans i2).trans i3).trans i5, k5⟩
      · rintro σ5 H5 ⟨Γ5, G5, q5, i5, k5⟩
        exact ⟨Γ5, G5, q5, (i2.trans i3).trans i5, k5⟩
    · have e : i = items.length := by omega
      subst e
      rw [List.drop_length] at q2
      obtain ⟨_, q2⟩ := withG_get (gd := none) (Γ := Γ2) q2
      exact .inl ⟨sw.stop G2 H2 σ2 Γ2 i2 k2 trivial, Γ2, G2, q2, i1.trans i2, k2⟩
/-- range(n) -/
def qRng1 (p : QE) : QI := fun Γ Q E => p Γ (fun d Γ1 => match d with
  | .int n => n ≤ 100000 ∧ -100000 ≤ n ∧ Q ((List.range n.toNat).map fun i : Nat => D.int (i : Int)) none Γ1
  | _ => False) E
theorem seqw_rng {G : Hp} {σ0 : St} {lo : Int} {n : Nat} : SeqW F G σ0 (Itr lo n) ((List.range n).map fun i : Nat => D.int (lo + (i : Int))) none where
  goH := fun _ i _ _ _ _ _ _ _ h => by
    show i < n
    simpa using h
  stopH := fun _ _ _ _ _ _ _ _ => by simp [Itr]
  yldH := fun _ i G' H' σ Γ x H'' _ k _ h y => by
    obtain ⟨e, ex⟩ := y
    subst e; subst ex
    have h' : i < n := by simpa using h
    exact ⟨.int (lo + i), G', by simp [h'], Inc.refl _, k, rfl⟩
theorem li_rng1 {tg : Expr} {p0 : Pos} (hm : X.mg "range" = none) (ha : LE X F E a pa) (hg : Gl X "range" := by rfl) (hs : starEach [a] X.env = [(false, eval a X.env)] := by rfl) (hs2 : starEach [] X.env = [] := by rfl) : LI X F E tg (.Call (.Name "range" p0) [a] [] pos) (qRng1 pa) :=
  LI.of (pi_range1 hg hm (pa_cons ha.pe pa_nil (by rw [hs, hs2])) hs) fun σ H G Γ Q k q => ⟨G, Γ, _, k, q, fun w H' ⟨d, Γ', G', q', i, k', r⟩ => by
    cases d with
    | int n =>
      obtain ⟨h1, h2, q'⟩ := q'
      cases (show w = .int n from r)
      refine ⟨n, rfl, by omega, by omega, _, none, Γ', G', q', i, k', ?_⟩
      have e : ((List.range n.toNat).map fun i : Nat => D.int (i : Int)) = (List.range n.toNat).map fun i : Nat => D.int ((0 : Int) + (i : Int)) := by
        congr 1
        funext i
        rw [Int.zero_add]
      rw [e]
      exact seqw_rng
    | _ => exact q'.elim⟩
end
end Q

set_option Elab.async false
set_option linter.all false
set_option maxRecDepth 100000
set_option maxHeartbeats 4000000
namespace Q
open PySem L2 PySem.Spec PyProof.Rows
/-! ## 7. A def keeps its contract -/
/-- what the parameters that may change hold at the end -/
def outsOf : List Slot → Env → List Slot
  | .bor _ :: as, s :: Γ => s :: outsOf as Γ
  | a :: as, _ :: Γ => a :: outsOf as Γ
  | as, [] => as
  | [], _ => []
/-- the environment at the entry -/
def startE (n : Nat) (args : List Slot) : Env := args ++ List.replicate (n - args.length) .no
def endsC (args : List Slot) (Q : D → List Slot → Prop) : PEnds where
  nx := fun Γ => Q .non (outsOf args Γ)
  rt := fun d Γ => Q d (outsOf args Γ)
def exnC (args : List Slot) (E : Exn → List Slot → Prop) : XP := fun x Γ => E x (outsOf args Γ)
def pinOf : List Slot → List V → List (Option Addr)
  | .bor _ :: as, .ref a :: vs => some a :: pinOf as vs
  | _ :: as, _ :: vs => none :: pinOf as vs
  | _, _ => []
section
variable {Fc : Cf}
def fxOf (Fc : Cf) (G H : Hp) (args : List Slot) (vs : List V) : Fx := { Fc with G0 := G, H0 := H, B := argA args vs, pin := pinOf args vs }
theorem argA_in {G H : Hp} : ∀ {args : List Slot} {vs : List V} {a : Addr}, ArgsOk Fc G H args vs → a ∈ argA args vs → ∃ o, H a = some o
  | [], vs, a, _, m => by cases vs <;> simp [argA] at m
  | s :: as, _, a, h, m => by
    obtain ⟨v, r, rfl, h1, h2⟩ := h
    cases s with
    | bor o =>
      obtain ⟨b, rfl, g, mr⟩ := h1
      rcases List.mem_cons.mp (show a ∈ b :: argA as r from m) with e | e
      · subst e; exact mr.ex
      · exact argA_in h2 e
    | val d =>
      have q : argA (Slot.val d :: as) (v :: r) = argA as r := by cases v <;> rfl
      rw [q] at m
      exact argA_in h2 m
    | no => exact h1.elim
    | own o => exact h1.elim
    | exc c fs => exact h1.elim
theorem slots_rep {F : Fx} {G H : Hp} : ∀ n : Nat, Slots F G H (List.replicate n none) (List.replicate n .no)
  | 0 => trivial
  | n + 1 => ⟨trivial, slots_rep n⟩
theorem mutA_rep : ∀ n : Nat, mutA (List.replicate n none) (List.replicate n .no) = []
  | 0 => rfl
  | n + 1 => by
    show mutA (none :: List.replicate n none) (.no :: List.replicate n .no) = []
    simp [mutA, mutA_rep n]
theorem slots_start {F : Fx} {G H : Hp} (hF : F.toCf = Fc) : ∀ {args : List Slot} {vs : List V} {σ : St} {Γ : Env}, ArgsOk Fc G H args vs → (∀ a, a ∈ argA args vs → a ∈ F.B) → Slots F G H σ Γ → Slots F G H (vs.map some ++ σ) (args ++ Γ)
  | [], _, _, _, h, _, k => by cases (show _ = [] from h); exact k
  | s :: as, _, σ, Γ, h, hb, k => by
    obtain ⟨v, r, rfl, h1, h2⟩ := h
    cases s with
    | bor o =>
      obtain ⟨b, rfl, g, mr⟩ := h1
      refine ⟨⟨b, rfl, g, hF ▸ mr, hb b List.mem_cons_self⟩, slots_start hF h2 (fun a ha => hb a (List.mem_cons_of_mem _ ha)) k⟩
    | val d =>
      refine ⟨?_, slots_start hF h2 (fun a ha => hb a ?_) k⟩
      · show Rep F.toCf G d v
        rw [hF]; exact h1
      · have q : argA (Slot.val d :: as) (v :: r) = argA as r := by cases v <;> rfl
        rw [q]; exact ha
    | no => exact h1.elim
    | own o => exact h1.elim
    | exc c fs => exact h1.elim
theorem mutA_start {G H : Hp} : ∀ {args : List Slot} {vs : List V} {σ : St} {Γ : Env}, ArgsOk Fc G H args vs → mutA σ Γ = [] → mutA (vs.map some ++ σ) (args ++ Γ) = argA args vs
  | [], _, _, _, h, k => by cases (show _ = [] from h); exact k
  | s :: as, _, σ, Γ, h, k => by
    obtain ⟨v, r, rfl, h1, h2⟩ := h
    have ih := mutA_start (σ := σ) (Γ := Γ) h2 k
    show mutA (some v :: (r.map some ++ σ)) (s :: (as ++ Γ)) = _
    rw [mutA_cons, ih]
    cases s with
    | bor o =>
      obtain ⟨b, rfl, g, mr⟩ := h1
      rfl
    | val d => cases v <;> rfl
    | no => exact h1.elim
    | own o => exact h1.elim
    | exc c fs => exact h1.elim
theorem pin_start {G H : Hp} : ∀ {args : List Slot} {vs : List V} {σ : St} {Γ : Env} {i : Nat} {a : Addr}, ArgsOk Fc G H args vs → (pinOf args vs)[i]? = some (some a) → (vs.map some ++ σ)[i]? = some (some (V.ref a)) ∧ ∃ o, (args ++ Γ)[i]? = some (Slot.bor o)
  | [], vs, _, _, i, a, _, e => by cases vs <;> simp [pinOf] at e
  | s :: as, _, σ, Γ, i, a, h, e => by
    obtain ⟨v, r, rfl, h1, h2⟩ := h
    cases s with
    | bor o =>
      obtain ⟨b, rfl, g, mr⟩ := h1
      cases i with
      | zero =>
        have e' : some (some b) = some (some a) := e
        cases e'
        exact ⟨rfl, o, rfl⟩
      | succ i =>
        obtain ⟨q1, o', q2⟩ := pin_start (σ := σ) (Γ := Γ) (i := i) h2 (show (pinOf as r)[i]? = some (some a) from e)
        exact ⟨by simpa using q1, o', by simpa using q2⟩
    | val d =>
      have q : pinOf (Slot.val d :: as) (v :: r) = none :: pinOf as r := by cases v <;> rfl
      rw [q] at e
      cases i with
      | zero => cases e
      | succ i =>
        obtain ⟨q1, o', q2⟩ := pin_start (σ := σ) (Γ := Γ) (i := i) h2 (show (pinOf as r)[i]? = some (some a) from e)
        exact ⟨by simpa using q1, o', by simpa using q2⟩
    | no => exact h1.elim
    | own o => exact h1.elim
    | exc c fs => exact h1.elim
theorem pinOf_len {G H : Hp} : ∀ {args : List Slot} {vs : List V}, ArgsOk Fc G H args vs → (pinOf args vs).length = args.length
  | [], vs, _ => by cases vs <;> rfl
  | s :: as, _, h => by
    obtain ⟨v, r, rfl, h1, h2⟩ := h
    have ih := pinOf_len h2
    cases s with
    | bor o =>
      obtain ⟨b, rfl, g, mr⟩ := h1
      show (some b :: pinOf as r).length = _
      rw [List.length_cons, List.length_cons, ih]
    | val d =>
      have q : pinOf (Slot.val d :: as) (v :: r) = none :: pinOf as r := by cases v <;> rfl
      rw [q, List.length_cons, List.length_cons, ih]
    | no => exact h1.elim
    | own o => exact h1.elim
    | exc c fs => exact h1.elim
theorem ok_start {G H : Hp} {args : List Slot} {vs : List V} {N : List Str} (sb : Sub G H) (ha : ArgsOk Fc G H args vs) (nd : (argA args vs).Nodup) : Ok (fxOf Fc G H args vs) G H (L2.start N vs) (startE N.length args) := by
  have hl := ha.len
  have e : L2.start N vs = vs.map some ++ List.replicate (N.length - args.length) none := by unfold L2.start; rw [hl]
  refine ⟨sb, Inc.refl G, fun a o e => .inl e, fun a o e _ => e, fun a m => argA_in ha m, ?_, ?_, fun i a q => ?_, ?_⟩
  · rw [e]; exact slots_start rfl ha (fun a h => h) (slots_rep _)
  · rw [e]; unfold startE; rw [mutA_start ha (mutA_rep _)]; exact nd
  · rw [e]; exact pin_start ha q
  · show (pinOf args vs).length ≤ (startE N.length args).length
    rw [pinOf_len ha]
    unfold startE
    rw [List.length_append]
    omega
theorem pin_of_bor {G H : Hp} : ∀ {args : List Slot} {vs : List V} {i : Nat} {o : MO}, ArgsOk Fc G H args vs → args[i]? = some (.bor o) → ∃ a, (pinOf args vs)[i]? = some (some a) ∧ vs[i]? = some (.ref a)
  | [], _, _, _, _, e => by simp at e
  | s :: as, _, i, o, h, e => by
    obtain ⟨v, r, rfl, h1, h2⟩ := h
    cases i with
    | zero =>
      simp at e
      subst e
      obtain ⟨b, rfl, g, mr⟩ := h1
      exact ⟨b, rfl, rfl⟩
    | succ i =>
      obtain ⟨a, q1, q2⟩ := pin_of_bor (i := i) h2 (by simpa using e)
      refine ⟨a, ?_, by simpa using q2⟩
      cases s with
      | bor o' =>
        obtain ⟨b, rfl, g, mr⟩ := h1
        exact q1
      | val d =>
        have q : pinOf (Slot.val d :: as) (v :: r) = none :: pinOf as r := by cases v <;> rfl
        rw [q]; exact q1
      | no => exact h1.elim
      | own o => exact h1.elim
      | exc c fs => exact h1.elim
/-- what the parameters hold at the end -/
theorem outs_ok {F : Fx} {G H G' H' : Hp} {σ' : St} {Γ' : Env} (hF : F.toCf = Fc) (k : Ok F G' H' σ' Γ') (i0 : Inc G G') : ∀ {args : List Slot} {vs : List V} (n : Nat), ArgsOk Fc G H args vs →
    (∀ (i : Nat) a, (pinOf args vs)[i]? = some (some a) → σ'[n + i]? = some (some (V.ref a)) ∧ ∃ o, Γ'[n + i]? = some (Slot.bor o)) → n + args.length ≤ Γ'.length → ArgsOk Fc G' H' (outsOf args (Γ'.drop n)) vs ∧ shape args (outsOf args (Γ'.drop n))
  | [], vs, n, h, _, _ => by
    have e : outsOf [] (Γ'.drop n) = [] := by cases (Γ'.drop n) <;> rfl
    rw [e]
    exact ⟨h, trivial⟩
  | s :: as, _, n, h, hp, hl => by
    obtain ⟨v, r, rfl, h1, h2⟩ := h
    have hn : n < Γ'.length := by simp at hl; omega
    have ed : Γ'.drop n = Γ'[n] :: Γ'.drop (n + 1) := List.drop_eq_getElem_cons hn
    rw [ed]
    cases s with
    | bor o =>
      obtain ⟨b, rfl, g, mr⟩ := h1
      obtain ⟨q1, o', q2⟩ := hp 0 b rfl
      have q2' : Γ'[n]? = some (.bor o') := by simpa using q2
      have ih := outs_ok hF k i0 (args := as) (vs := r) (n + 1) h2 (fun i a e => by
        have := hp (i + 1) a e
        rw [show n + (i + 1) = n + 1 + i by omega] at this
        exact this) (by simp at hl; omega)
      have eg : Γ'[n] = .bor o' := by
        rw [List.getElem?_eq_getElem hn] at q2'
        exact Option.some.inj q2'
      show ArgsOk Fc G' H' (Γ'[n] :: outsOf as (Γ'.drop (n + 1))) _ ∧ shape (.bor o :: as) (Γ'[n] :: outsOf as (Γ'.drop (n + 1)))
      rw [eg]
      obtain ⟨a', ea, g', mr', _⟩ := k.mut q2' rfl
      have q1' : σ'[n]? = some (some (.ref b)) := by simpa using q1
      rw [q1'] at ea
      cases ea
      exact ⟨⟨.ref b, r, rfl, ⟨b, rfl, g', hF ▸ mr'⟩, ih.1⟩, ⟨o', rfl⟩, ih.2⟩
    | val d =>
      have q : pinOf (Slot.val d :: as) (v :: r) = none :: pinOf as r := by cases v <;> rfl
      rw [q] at hp
      have ih := outs_ok hF k i0 (args := as) (vs := r) (n + 1) h2 (fun i a e => by
        have := hp (i + 1) a e
        rw [show n + (i + 1) = n + 1 + i by omega] at this
        exact this) (by simp at hl; omega)
      show ArgsOk Fc G' H' (Slot.val d :: outsOf as (Γ'.drop (n + 1))) _ ∧ shape (.val d :: as) (Slot.val d :: outsOf as (Γ'.drop (n + 1)))
      exact ⟨⟨v, r, rfl, Rep.inc i0 h1, ih.1⟩, rfl, ih.2⟩
    | no => exact h1.elim
    | own o => exact h1.elim
    | exc c fs => exact h1.elim
theorem post_end {G H G' H' : Hp} {args : List Slot} {vs : List V} {σ' : St} {Γ' : Env} (ha : ArgsOk Fc G H args vs) (k : Ok (fxOf Fc G H args vs) G' H' σ' Γ') :
    Post G H (argA args vs) G' H' ∧ ArgsOk Fc G' H' (outsOf args Γ') vs ∧ shape args (outsOf args Γ') := by
  have hl : args.length ≤ Γ'.length := by
    rw [← pinOf_len ha]
    exact k.pl
  have o := outs_ok (Fc := Fc) (F := fxOf Fc G H args vs) rfl k k.g0 0 ha (fun i a e => by rw [Nat.zero_add]; exact k.pin i a e) (by rw [Nat.zero_add]; exact hl)
  rw [List.drop_zero] at o
  exact ⟨⟨k.sub, k.g0, k.fresh, k.frame⟩, o.1, o.2⟩
end
section
variable {P : Program} {w : World} {mg : Str → Option Value} {base : Heap} {Fc : Cf}
/-- THE RULE for a def: its contract c, its reading r over data, the derivation of its body -/
theorem fnC {c : Ct} {r : QS} {x qual : Str} {params : Arguments} {body : List Stmt} {scope : Scope} {dvs : List V} {kws : List (Str × V)} {f : Addr} {fd : FuncData} {N ps : List Str} {k : Nat} (Fn : FunD Fc.K x qual params body scope dvs kws f fd) (S : FnScope N ps scope)
    (hlen : ∀ args Q E, c args Q E → args.length = ps.length) (hw : ∀ args Q E, c args Q E → r (startE N.length args) (endsC args Q) (exnC args E))
    (hd : ∀ (cdv : Value) (A : Around) (outer : List PySem.Env) (s : Shared) (H : Hp) (E0 : XK), Room k (A.deeper (envOfC qual scope s.heap.objs.size f cdv)) → ∀ (F : Fx) (E : XP), F.toCf = Fc →
      Takes (cxOf (L2.CX P w) P w Fc.K mg base N qual scope f cdv A outer s H E0) (wOf F E) → PassesOwn (model P w) (A.deeper (envOfC qual scope s.heap.objs.size f cdv)) (envOfC qual scope s.heap.objs.size f cdv) (cxOf (L2.CX P w) P w Fc.K mg base N qual scope f cdv A outer s H E0).xe →
      LSs (cxOf (L2.CX P w) P w Fc.K mg base N qual scope f cdv A outer s H E0) F E body r) :
    FnOk P w Fc.K mg base (L2.CX P w) (k + 1) f fd ps (spC Fc c) := by
  have pl : ps.length ≤ N.length := by have := congrArg List.length S.pre; rw [List.length_take] at this; omega
  refine Fn.ok S (fun vs H Q E h => ?_) (fun cdv A outer s H vs Q E hr h => ?_)
  · obtain ⟨G, args, sb, ha, nd, Qc, Ec, hc, _⟩ := h
    rw [ha.len]
    exact hlen _ _ _ hc
  · obtain ⟨G, args, sb, ha, nd, Qc, Ec, hc, hq, he⟩ := h
    have al : args.length = ps.length := hlen _ _ _ hc
    have tk0 : Takes (cxOf (L2.CX P w) P w Fc.K mg base N qual scope f cdv A outer s H E) (fun cls d _ H' => E cls d H') := takes_of rfl rfl rfl rfl
    have tk : Takes (cxOf (L2.CX P w) P w Fc.K mg base N qual scope f cdv A outer s H E) (wOf (fxOf Fc G H args vs) (exnC args Ec)) := fun u s' ⟨a, B, sI, pins, σ, H', cls, d, e, I, nb, up, sky, na, os, ag, G', Γ', xx, kk, xr, q⟩ => by
      obtain ⟨p, o1, o2⟩ := post_end ha kk
      exact tk0 u s' ⟨a, B, sI, pins, σ, H', cls, d, e, I, nb, up, sky, na, os, ag, he xx _ cls d H' G' q p o1 o2 xr⟩
    have D := hd cdv A outer s H E hr (fxOf Fc G H args vs) (exnC args Ec) rfl tk PassesOwn.leaving
    refine ⟨fun D' σ H1 => D' = { nx := fun _ H' => Q .non H', rt := Q } ∧ σ = L2.start N vs ∧ H1 = H, ⟨fun pins s1 σ H1 D' I ⟨e1, e2, e3⟩ => ?_⟩, rfl, rfl, rfl⟩
    subst e1; subst e2; subst e3
    refine thn (D.run pins s1 _ H1 G (startE N.length args) (endsC args Qc) I (ok_start sb ha nd) (hw args Qc Ec hc)) fun fl s2 z => ?_
    cases fl with
    | next =>
      obtain ⟨σ', H', I', Γ', G', q, i, kk⟩ := z
      obtain ⟨p, o1, o2⟩ := post_end ha kk
      exact ⟨σ', H', I', hq _ _ .non H' G' q p o1 o2 rfl⟩
    | ret u =>
      obtain ⟨v, σ', H', I', rv, d, Γ', G', σ2, q, i, kk, rp⟩ := z
      obtain ⟨p, o1, o2⟩ := post_end ha kk
      exact ⟨v, σ', H', I', rv, hq _ _ v H' G' q p o1 o2 rp⟩
    | brk =>
      obtain ⟨σ', H', I', Γ', G', q, i, kk⟩ := z
      exact q.elim
    | cont =>
      obtain ⟨σ', H', I', Γ', G', q, i, kk⟩ := z
      exact q.elim
end
end Q

set_option Elab.async false
set_option linter.all false
set_option maxRecDepth 100000
set_option maxHeartbeats 4000000
namespace Q
open PySem L2 PySem.Spec PyProof.Rows
/-! ## 8. Calls: defs, classes, methods, with keywords -/
def Back (X : Cx) (pins : List (Addr × Obj)) (σ : St) (Q : VK) : Result → Shared → Prop := fun r s' => match r with
  | .ok (.ret v) => EP X pins σ Q v s'
  | .ok _ => False
  | .error e => X.xe e s'
structure CodeOk (X : Cx) (A : Around) (Fc : Cf) (f : Addr) (n : Nat) (ks : List Str) (c : Ct) : Prop where
  len : ∀ args Q E, c args Q E → args.length = n + ks.length
  run : ∀ (pins : List (Addr × Obj)) (s : Shared) (σ : St) (H : Hp) (vs : List V) (us : List Value) (zs : List V) (ws : List Value) (Q : VK) (W : WX), Takes X W → Inv X pins σ H s → Vals vs us → Vals zs ws → vs.length = n → zs.length = ks.length → spC Fc c (vs ++ zs) H Q (WE W σ) →
    codeAny (model X.prog X.w) A (.call (.ref f) ⟨us, ks.zip ws⟩) (Back X pins σ Q) s
section
variable {X : Cx} {F : Fx} {E : XP} {A : Around} {Fc : Cf}
theorem code_fn {c0 c : Ct} {k n : Nat} {f : Addr} {fd : FuncData} {ps ks : List Str} {g : List Value → List Value → List Value} {gV : List V → List V → List V} (Fn : FnOk X.prog X.w X.K X.mg X.base (L2.CX X.prog X.w) k f fd ps (spC Fc c0)) (hA : A.frames = X.A.frames) (hr : Room k A) (hb : KBn X.K fd ps n ks g gV)
    (hl : ∀ args Q E, c args Q E → args.length = n + ks.length) (hsp : ∀ vs zs H Q E, vs.length = n → zs.length = ks.length → spC Fc c (vs ++ zs) H Q E → spC Fc c0 (gV vs zs) H Q E) : CodeOk X A Fc f n ks c := by
  refine ⟨hl, fun pins s σ H vs us zs ws Q W tk I r rz l1 l2 h => ?_⟩
  have r2 := hb.rel r rz
  refine codeAny_mono (Fn.run A X.stack s H ⟨us, ks.zip ws⟩ (g us ws) (gV vs zs) Q (WE W σ) hr (env0_at hA I) (hb.to s us ws I.kIn (r.length.symm.trans l1) (rz.length.symm.trans l2)) r2 (hsp vs zs H Q _ l1 l2 h)) fun r s' hq => ?_
  cases r with
  | error e => exact passAt tk σ pins H s e s' I hq
  | ok fl =>
    cases fl with
    | ret u => exact I.after hq
    | next => exact False.elim hq
    | brk => exact False.elim hq
    | cont => exact False.elim hq
theorem kbn_all {K : PySem.W.Frag} {fd : FuncData} {ps : List Str} {n : Nat} (hb : Binds K fd ps []) (hn : n = ps.length) : KBn K fd ps n [] (fun us _ => us) (fun vs _ => vs) :=
  ⟨fun s us ws X l1 l2 => by
    have := hb s us X (by rw [List.append_nil, l1, hn])
    rw [List.append_nil] at this
    exact this, fun r _ => r⟩
theorem kbn_dfl {K : PySem.W.Frag} {fd : FuncData} {ps : List Str} {n : Nat} {ds : List Value} {dvs : List V} (hb : Binds K fd ps ds) (hd : Vals dvs ds) (hn : n + dvs.length = ps.length) : KBn K fd ps n [] (fun us _ => us ++ ds) (fun vs _ => vs ++ dvs) :=
  ⟨fun s us ws X l1 l2 => hb s us X (by rw [List.length_append, l1, ← hd.length, hn]), fun r _ => r.append hd⟩
theorem sp_dflt {c : Ct} {dd : List D} {dvs : List V} (hR : ∀ G, Reps Fc G dd dvs) {vs : List V} {H : Hp} {Q : VK} {E : XK} (h : spC Fc (dflt c dd) vs H Q E) : spC Fc c (vs ++ dvs) H Q E := by
  obtain ⟨G, args, sb, ha, nd, Qc, Ec, hc, hq, he⟩ := h
  have hl : vs.length = args.length := ha.len
  refine ⟨G, args ++ dd.map Slot.val, sb, args_app ha (hR G), by rw [argA_app hl]; exact nd, _, _, hc, fun d outs v H' G' q p a sh rp => ?_, fun x outs cls d' H' G' q p a sh rp => ?_⟩
  · rw [argA_app hl] at p
    exact hq d _ v H' G' q p (args_take a hl) (shape_take sh) rp
  · rw [argA_app hl] at p
    exact he x _ cls d' H' G' q p (args_take a hl) (shape_take sh) rp
/-- a def called with all its arguments, by position -/
theorem code_all {c : Ct} {k n : Nat} {f : Addr} {fd : FuncData} {ps : List Str} (Fn : FnOk X.prog X.w X.K X.mg X.base (L2.CX X.prog X.w) k f fd ps (spC Fc c)) (hA : A.frames = X.A.frames) (hr : Room k A) (hb : Binds X.K fd ps []) (hn : n = ps.length) (hl : ∀ args Q E, c args Q E → args.length = n) : CodeOk X A Fc f n [] c :=
  code_fn Fn hA hr (kbn_all hb hn) hl fun vs zs H Q E l1 l2 h => by
    cases zs with
    | nil => rw [List.append_nil] at h; exact h
    | cons _ _ => cases l2
theorem code_dfl {c : Ct} {k n : Nat} {f : Addr} {fd : FuncData} {ps : List Str} {dd : List D} {dvs : List V} {ds : List Value} (Fn : FnOk X.prog X.w X.K X.mg X.base (L2.CX X.prog X.w) k f fd ps (spC Fc c)) (hA : A.frames = X.A.frames) (hr : Room k A) (hb : Binds X.K fd ps ds) (hd : Vals dvs ds) (hR : ∀ G, Reps Fc G dd dvs) (hn : n + dvs.length = ps.length)
    (hl : ∀ args Q E, c args Q E → args.length = n + dd.length) : CodeOk X A Fc f n [] (dflt c dd) :=
  code_fn Fn hA hr (kbn_dfl hb hd hn) (fun args Q E h => by
    have := hl _ _ _ h
    rw [List.length_append, List.length_map] at this
    show args.length = n + 0
    omega) fun vs zs H Q E l1 l2 h => by
    cases zs with
    | nil => rw [List.append_nil] at h; exact sp_dflt hR h
    | cons _ _ => cases l2
/-- the arguments of a call with keywords: data alone, put in the parameters' order -/
def valsOf : List Slot → Option (List D)
  | [] => some []
  | .val d :: as => match valsOf as with
    | some ds => some (d :: ds)
    | none => none
  | _ => none
def kwC (c : Ct) (f : List D → List D) : Ct := fun args Q E => match valsOf args with
  | some ds => c ((f ds).map Slot.val) (fun d _ => Q d args) (fun x _ => E x args)
  | none => False
theorem valsOf_eq : ∀ {as : List Slot} {ds : List D}, valsOf as = some ds → as = ds.map Slot.val
  | [], ds, h => by cases h; rfl
  | .val d :: as, ds, h => by
    unfold valsOf at h
    split at h
    · rename_i es e
      cases h
      rw [valsOf_eq e]; rfl
    · cases h
  | .no :: _, _, h => by cases h
  | .own _ :: _, _, h => by cases h
  | .bor _ :: _, _, h => by cases h
  | .exc _ _ :: _, _, h => by cases h
theorem args_vals {G H : Hp} : ∀ {ds : List D} {vs : List V}, ArgsOk Fc G H (ds.map Slot.val) vs ↔ Reps Fc G ds vs
  | [], vs => Iff.rfl
  | d :: ds, vs => by
    constructor
    · rintro ⟨v, r, rfl, a, b⟩
      exact ⟨v, r, rfl, a, args_vals.mp b⟩
    · rintro ⟨v, r, rfl, a, b⟩
      exact ⟨v, r, rfl, a, args_vals.mpr b⟩
theorem argA_vals : ∀ {ds : List D} {vs : List V}, argA (ds.map Slot.val) vs = []
  | [], vs => by cases vs <;> rfl
  | d :: ds, [] => rfl
  | d :: ds, v :: vs => by
    have q : argA (Slot.val d :: ds.map Slot.val) (v :: vs) = argA (ds.map Slot.val) vs := by cases v <;> rfl
    exact q.trans argA_vals
theorem shape_vals : ∀ {ds : List D}, shape (ds.map Slot.val) (ds.map Slot.val)
  | [] => trivial
  | d :: ds => ⟨rfl, shape_vals⟩
theorem code_kw {c : Ct} {k n : Nat} {f : Addr} {fd : FuncData} {ps ks : List Str} {g : List Value → List Value → List Value} {gV : List V → List V → List V} {fD : List D → List D} (Fn : FnOk X.prog X.w X.K X.mg X.base (L2.CX X.prog X.w) k f fd ps (spC Fc c)) (hA : A.frames = X.A.frames) (hr : Room k A) (hb : KBn X.K fd ps n ks g gV)
    (hl : ∀ (ds : List D) Q E, c ((fD ds).map Slot.val) Q E → ds.length = n + ks.length) (hf : ∀ (ds : List D) (vs zs : List V) G, vs.length = n → zs.length = ks.length → Reps Fc G ds (vs ++ zs) → Reps Fc G (fD ds) (gV vs zs)) : CodeOk X A Fc f n ks (kwC c fD) := by
  refine code_fn Fn hA hr hb (fun args Q E h => ?_) fun vs zs H Q E l1 l2 h => ?_
  · unfold kwC at h
    split at h
    · rename_i ds e
      rw [valsOf_eq e, List.length_map]
      exact hl ds _ _ h
    · exact h.elim
  · obtain ⟨G, args, sb, ha, nd, Qc, Ec, hc, hq, he⟩ := h
    unfold kwC at hc
    split at hc
    · rename_i ds e
      have ea := valsOf_eq e
      subst ea
      have rp := hf ds vs zs G l1 l2 (args_vals.mp ha)
      refine ⟨G, (fD ds).map Slot.val, sb, args_vals.mpr rp, by rw [argA_vals]; exact List.nodup_nil, _, _, hc, fun d outs v H' G' q p a sh r => ?_, fun x outs cls d' H' G' q p a sh r => ?_⟩
      · rw [argA_vals] at p
        refine hq d _ v H' G' q (by rw [argA_vals]; exact p) (args_vals.mpr ((args_vals.mp ha).inc p.inc)) shape_vals r
      · rw [argA_vals] at p
        refine he x _ cls d' H' G' q (by rw [argA_vals]; exact p) (args_vals.mpr ((args_vals.mp ha).inc p.inc)) shape_vals r
    · exact hc.elim
/-! ### making an instance -/
/-- what __init__ leaves is the instance -/
def made (c : Cn) (ds : List D) (Q : D → Prop) : Prop := match c with
  | .ratio => ∃ q : Rat, ds = [.int q.num, .int (q.den : Int)] ∧ Q (.rat q)
  | c => Q (.fr (.ins c ds))
def mkC (c : Cn) (ci : Ct) : Ct := fun args Q E => ci (.bor (.ins c []) :: args) (fun d outs => match d, outs with
  | .non, .bor (.ins c' ds) :: outs' => match Nat.beq c'.ix c.ix with
    | true => made c ds fun r => Q r outs'
    | false => False
  | _, _ => False) (fun x outs => E x outs.tail)
theorem ArgsOk.heap {G H H2 : Hp} (hh : ∀ a o, H a = some o → H2 a = some o) : ∀ {as : List Slot} {vs : List V}, ArgsOk Fc G H as vs → ArgsOk Fc G H2 as vs
  | [], _, h => h
  | s :: as, _, h => by
    obtain ⟨v, r, rfl, h1, h2⟩ := h
    refine ⟨v, r, rfl, ?_, ArgsOk.heap hh h2⟩
    cases s with
    | bor o =>
      obtain ⟨a, rfl, g, m⟩ := h1
      obtain ⟨u, e⟩ := m.ex
      exact ⟨a, rfl, g, m.inc (Inc.refl G) ((hh a u e).trans e.symm)⟩
    | _ => exact h1
theorem ArgsOk.inc {G G' H : Hp} (i : Inc G G') : ∀ {as : List Slot} {vs : List V}, (∀ a, a ∈ argA as vs → G' a = none) → ArgsOk Fc G H as vs → ArgsOk Fc G' H as vs
  | [], _, _, h => h
  | s :: as, _, hn, h => by
    obtain ⟨v, r, rfl, h1, h2⟩ := h
    cases s with
    | bor o =>
      obtain ⟨a, rfl, g, m⟩ := h1
      exact ⟨.ref a, r, rfl, ⟨a, rfl, hn a List.mem_cons_self, m.inc i rfl⟩, ArgsOk.inc i (fun b hb => hn b (List.mem_cons_of_mem _ hb)) h2⟩
    | val d =>
      refine ⟨v, r, rfl, Rep.inc i h1, ArgsOk.inc i (fun b hb => hn b ?_) h2⟩
      have q : argA (Slot.val d :: as) (v :: r) = argA as r := by cases v <;> rfl
      rw [q]; exact hb
    | no => exact h1.elim
    | own o => exact h1.elim
    | exc c fs => exact h1.elim
theorem argA_mem0 {G H : Hp} : ∀ {args : List Slot} {vs : List V} {a : Addr}, ArgsOk Fc G H args vs → a ∈ argA args vs → ∃ o, H a = some o ∧ G a = none
  | [], vs, a, _, m => by cases vs <;> simp [argA] at m
  | s :: as, _, a, h, m => by
    obtain ⟨v, r, rfl, h1, h2⟩ := h
    cases s with
    | bor o =>
      obtain ⟨b, rfl, g, mr⟩ := h1
      rcases List.mem_cons.mp (show a ∈ b :: argA as r from m) with e | e
      · subst e; obtain ⟨u, q⟩ := mr.ex; exact ⟨u, q, g⟩
      · exact argA_mem0 h2 e
    | val d =>
      have q : argA (Slot.val d :: as) (v :: r) = argA as r := by cases v <;> rfl
      rw [q] at m
      exact argA_mem0 h2 m
    | no => exact h1.elim
    | own o => exact h1.elim
    | exc c fs => exact h1.elim
theorem argA_shape : ∀ {as outs : List Slot} {vs : List V}, shape as outs → argA outs vs = argA as vs
  | [], [], _, _ => rfl
  | s :: as, t :: outs, [], h => by cases t <;> cases s <;> rfl
  | s :: as, t :: outs, v :: vs, h => by
    cases s with
    | bor o =>
      obtain ⟨⟨o', rfl⟩, h2⟩ := h
      have ih := argA_shape (vs := vs) h2
      cases v with
      | ref a => show a :: argA outs vs = a :: argA as vs; rw [ih]
      | _ => exact ih
    | no => obtain ⟨rfl, h2⟩ := h; have ih := argA_shape (vs := vs) h2; cases v <;> exact ih
    | val d => obtain ⟨rfl, h2⟩ := h; have ih := argA_shape (vs := vs) h2; cases v <;> exact ih
    | own o => obtain ⟨rfl, h2⟩ := h; have ih := argA_shape (vs := vs) h2; cases v <;> exact ih
    | exc c fs => obtain ⟨rfl, h2⟩ := h; have ih := argA_shape (vs := vs) h2; cases v <;> exact ih
  | [], _ :: _, _, h => by cases h
  | s :: _, [], _, h => by cases s <;> cases h
theorem sp_make {c : Cn} {ci : Ct} {vs : List V} {H : Hp} {Q : VK} {E : XK} (h : spC Fc (mkC c ci) vs H Q E) (x dx : Addr) (hx : H x = none) (hdx : H dx = none) (ne : dx ≠ x) :
    spC Fc ci (.ref x :: vs) (upd (upd H dx (.own x)) x (.ins (Fc.cl c) dx [])) (fun v H2 => v = .non ∧ Q (.ref x) H2) E := by
  obtain ⟨G, args, sb, ha, nd, Qc, Ec, hc, hq, he⟩ := h
  have up : ∀ a o, H a = some o → (upd (upd H dx (.own x)) x (.ins (Fc.cl c) dx [])) a = some o := fun a o e => by
    rw [upd_ne (ne_of_none e hx), upd_ne (ne_of_none e hdx)]; exact e
  have dn : ∀ a, (upd (upd H dx (.own x)) x (.ins (Fc.cl c) dx [])) a = none → H a = none := fun a e => by
    cases q : H a with
    | none => rfl
    | some o => rw [up a o q] at e; cases e
  have nx : x ∉ argA args vs := fun m => by
    obtain ⟨o, e⟩ := argA_in ha m
    rw [hx] at e; cases e
  have post : ∀ {G' H' : Hp}, Post G (upd (upd H dx (.own x)) x (.ins (Fc.cl c) dx [])) (x :: argA args vs) G' H' → Post G H (argA args vs) G' H' := fun p => ⟨p.sub, p.inc, fun a o e => (p.fresh a o e).imp id (dn a), fun a o e nb => p.frame a o (up a o e) (fun m => by
    rcases List.mem_cons.mp m with q | q
    · subst q; rw [hx] at e; cases e
    · exact nb q)⟩
  refine ⟨G, .bor (.ins c []) :: args, (sb.off (sb.no hdx) _).off (sb.no hx) _, ⟨.ref x, vs, rfl, ⟨x, rfl, sb.no hx, dx, [], by rw [upd_same, List.zip_nil_right], rfl⟩, ha.heap up⟩, List.nodup_cons.mpr ⟨nx, nd⟩, _, _, hc, fun d outs v H' G' q p a sh rp => ?_, fun y outs cls d' H' G' q p a sh rp => ?_⟩
  · split at q
    · rename_i c' ds outs'
      split at q
      · rename_i ec
        have ec := ix_inj ec
        subst ec
        cases (show v = .non from rp)
        refine ⟨rfl, ?_⟩
        obtain ⟨_, _, e0, ⟨x', ex, gx, dx', vs', hx', rs⟩, aa⟩ := a
        cases e0
        cases ex
        have p' := post p
        by_cases hr : c' = .ratio
        · subst hr
          obtain ⟨qq, eds, q⟩ := q
          subst eds
          obtain ⟨v1, r1, rfl, e1, v2, r2, rfl, e2, e3⟩ := rs
          cases (show v1 = _ from e1)
          cases (show v2 = _ from e2)
          cases (show r2 = [] from e3)
          refine hq _ _ _ H' (upd G' x _) q ⟨fun b u e => ?_, p'.inc.trans (Inc.new gx), fun b u e => ?_, p'.frame⟩ (aa.inc (Inc.new gx) fun b hb => ?_) sh.2 (show Rep _ _ _ _ from ⟨x, dx', rfl, upd_same⟩)
          · by_cases h : b = x
            · subst h
              rw [upd_same] at e
              cases e
              exact .inl hx'
            · rw [upd_ne h] at e
              exact p'.sub b u e
          · by_cases h : b = x
            · subst h
              exact .inr hx
            · rw [upd_ne h] at e
              exact p'.fresh b u e
          · have hb' : b ∈ argA args vs := by rw [← argA_shape sh.2]; exact hb
            have nb : b ≠ x := fun z => nx (z ▸ hb')
            rw [upd_ne nb]
            obtain ⟨_, _, z2⟩ := argA_mem0 aa hb
            exact z2
        · have q' : Qc (.fr (.ins c' ds)) outs' := by
            cases c' <;> first | exact absurd rfl hr | exact q
          exact hq _ _ _ H' G' q' p' aa sh.2 ⟨_, x, rfl, rfl, gx, ⟨dx', vs', hx', rs⟩, hx⟩
      · exact q.elim
    · exact q.elim
  · cases outs with
    | nil => cases sh
    | cons s outs =>
      obtain ⟨_, _, e0, _, aa⟩ := a
      cases e0
      exact he y outs cls d' H' G' q (post p) aa sh.2 rp
theorem code_make {c : Cn} {ci : Ct} {n : Nat} {ks : List Str} {f : Addr} (M : Mk X.K (Fc.cl c) f) (C : ∀ us kw, CodeOk X (A.under (.builtin "type.__call__" ⟨.ref (Fc.cl c) :: us, kw⟩)) Fc f (n + 1) ks ci) : CodeOk X A Fc (Fc.cl c) n ks (mkC c ci) := by
  refine ⟨fun args Q E h => ?_, fun pins s σ H vs us zs ws Q W tk I r rz l1 l2 h => ?_⟩
  · have := (C [] []).len _ _ _ h
    rw [List.length_cons] at this
    omega
  · have hq := sp_make h (s.heap.objs.size + 1) s.heap.objs.size (I.hok.fresh (Nat.le_succ _)) (I.hok.fresh (Nat.le_refl _)) (Nat.ne_of_lt (Nat.lt_succ_self _))
    have I2 := Inv.made (C := Fc.cl c) I
    refine make_map (f := f) I.kIn M.makes M.init (beq_iff_eq.mp M.fn) (codeAny_mono ((C us (ks.zip ws)).run pins _ σ _ (V.ref (s.heap.objs.size + 1) :: vs) (Value.ref (s.heap.objs.size + 1) :: us) zs ws _ W tk I2 (.cons rfl r) rz (by rw [List.length_cons, l1]) l2 hq) fun r s' hq' => ?_)
    cases r with
    | error e => exact hq'
    | ok fl =>
      cases fl with
      | ret u =>
        obtain ⟨v, H', I3, rv, ev, q3⟩ := hq'
        subst ev
        exact ⟨rv, ⟨V.ref (s.heap.objs.size + 1), H', I3, rfl, q3⟩⟩
      | next => exact False.elim hq'
      | brk => exact False.elim hq'
      | cont => exact False.elim hq'
/-! ### arguments and keywords -/
structure LK (X : Cx) (F : Fx) (E : XP) (kws : List Keyword) (p : QA) : Prop where
  run : ∀ (pos : Pos) (pins : List (Addr × Obj)) (s : Shared) (σ : St) (H G : Hp) (Γ : Env) (Q : List D → Env → Prop), Inv X pins σ H s → Ok F G H σ Γ → p Γ Q E →
    wpAny (model X.prog X.w) X.A (evalAll ((backToKw pos (keywordEach kws X.env)).map (·.2))) (AP X pins σ (FinA F G σ Q)) X.xe s
variable {a o : Expr} {es : List Expr} {kws : List Keyword} {ks : List Str} {pa : QE} {pr : QA} {ph : QH} {pos p0 apos kpos : Pos} {nm : Option Str}
theorem lk_nil : LK X F E [] qNil := ⟨fun _ _ _ _ H G Γ Q I k h => wpAny_evalAll_nil ⟨[], H, I, .nil, [], Γ, G, h, Inc.refl G, k, rfl⟩⟩
theorem lk_cons (ha : LE X F E a pa) (hr : LK X F E kws pr) : LK X F E (⟨nm, a, kpos⟩ :: kws) (qCons pa pr) := by
  refine ⟨fun pos pins s σ H G Γ Q I k h => ?_⟩
  show wpAny _ _ (evalAll ((do let v ← eval a X.env; standAt pos; pure v) :: (backToKw pos (keywordEach kws X.env)).map (·.2))) _ _ s
  refine wpAny_evalAll_cons (wpAny_bind (thn (ha.run pins s σ H G Γ _ I k h) fun u s1 ⟨x, H1, I1, r1, d, Γ1, G1, q1, i1, k1, rp1⟩ => wpAny_bind (wpAny_standAt (wpAny_pure ?_))))
  exact thn (hr.run pos pins s1 σ H1 G1 Γ1 _ I1 k1 q1) fun us s2 ⟨xs, H2, I2, r2, ds, Γ2, G2, q2, i2, k2, rp2⟩ => ⟨x :: xs, H2, I2, .cons r1 r2, d :: ds, Γ2, G2, q2, i1.trans i2, k2, x, xs, rfl, rp1.inc i2, rp2⟩
structure LC (X : Cx) (F : Fx) (E : XP) (args : List Expr) (kws : List Keyword) (ks : List Str) (p : QH) : Prop where
  run : ∀ (pos : Pos) (f : Value) (first : List Value) (pins : List (Addr × Obj)) (s : Shared) (σ : St) (H G : Hp) (Γ : Env) (Q : List Hd → Env → Prop) (R : Value → Shared → Prop), PySem.W.keepIn X.K f = true → Inv X pins σ H s → Ok F G H σ Γ → p Γ Q E →
    (∀ us ws vs zs s' H' hs Γ' G', Inv X pins σ H' s' → Vals vs us → Vals zs ws → zs.length = ks.length → Q hs Γ' → Inc G G' → Ok F G' H' σ Γ' → HdsOk F G' σ hs (vs ++ zs) → wpAny (model X.prog X.w) X.A (call f (first ++ us) (ks.zip ws)) R X.xe s') →
    wpAny (model X.prog X.w) X.A (callWith pos f first (backTo pos (starEach args X.env)) (backToKw pos (keywordEach kws X.env))) R X.xe s
def qHK (ph : QH) (pk : QA) : QH := fun Γ Q E => ph Γ (fun hs Γ1 => pk Γ1 (fun ds Γ2 => Q (hs ++ ds.map Hd.val) Γ2) E) E
theorem hds_vals {G : Hp} {σ : St} : ∀ {ds : List D} {vs : List V}, Reps F.toCf G ds vs → HdsOk F G σ (ds.map Hd.val) vs
  | [], _, h => h
  | _ :: _, _, h => by
    obtain ⟨v, r, rfl, a, b⟩ := h
    exact ⟨v, r, rfl, a, hds_vals b⟩
theorem hds_inc {G G' : Hp} {σ : St} (i : Inc G G') : ∀ {hs : List Hd} {vs : List V}, HdsOk F G σ hs vs → HdsOk F G' σ hs vs
  | [], _, h => h
  | _ :: _, _, h => by
    obtain ⟨v, r, rfl, a, b⟩ := h
    exact ⟨v, r, rfl, a.inc i, hds_inc i b⟩
theorem hds_app {G : Hp} {σ : St} : ∀ {hs gs : List Hd} {vs zs : List V}, HdsOk F G σ hs vs → HdsOk F G σ gs zs → HdsOk F G σ (hs ++ gs) (vs ++ zs)
  | [], _, _, _, h, k => by cases (show _ = [] from h); exact k
  | _ :: _, _, _, _, h, k => by
    obtain ⟨v, r, rfl, a, b⟩ := h
    exact ⟨v, _, rfl, a, hds_app b k⟩
theorem lc_0 : LC X F E [] [] [] qhNil := ⟨fun pos f first pins s σ H G Γ Q R hk I k h c => by
  refine PySem.W.callWith_K0 I.kIn hk (c [] [] [] [] s H [] Γ G I .nil .nil rfl h (Inc.refl G) k rfl)⟩
theorem lc_p (ha : LH X F E (a :: es) ph) (he : starEach (a :: es) X.env = (false, eval a X.env) :: starEach es X.env := by rfl) (hpl : ∀ pos, (backTo pos (starEach es X.env)).any (·.1) = false := by intro _; rfl) : LC X F E (a :: es) [] [] ph := ⟨fun pos f first pins s σ H G Γ Q R hk I k h c => by
  refine PySem.W.callWith_K (h₀ := X.base) I.ok.mod.kin hk (thn (ha.run pos pins s σ H G Γ _ I k h) fun us s1 ⟨vs, H1, I1, r, hs, Γ1, G1, q1, i1, k1, hh⟩ => ⟨I1.kIn, ?_⟩) he (hpl pos)
  exact c us [] vs [] s1 H1 hs Γ1 G1 I1 r .nil rfl q1 i1 k1 (by rw [List.append_nil]; exact hh)⟩
theorem lc_k (hr : LK X F E kws pr) (hall : ∀ pos, (backToKw pos (keywordEach kws X.env)).all (·.1.isSome) = true := by intro _; rfl) (hks : ∀ pos, (backToKw pos (keywordEach kws X.env)).filterMap (·.1) = ks := by intro _; rfl)
    (hpl : ∀ pos, ((backTo pos (starEach [] X.env)).any (·.1) || (backToKw pos (keywordEach kws X.env)).any (·.1.isNone)) = false := by intro _; rfl) (hn : ∀ Γ Q E, pr Γ Q E → pr Γ (fun ds Γ' => ds.length = ks.length ∧ Q ds Γ') E) : LC X F E [] kws ks (qHK qhNil pr) := ⟨fun pos f first pins s σ H G Γ Q R hk I k h c => by
  refine PySem.W.callWith_KW0 (h₀ := X.base) I.ok.mod.kin hk (hall pos) ?_ (hpl pos)
  refine thn (hr.run pos pins s σ H G Γ _ I k (hn _ _ _ h)) fun ws s1 ⟨zs, H1, I1, r, ds, Γ1, G1, ⟨l, q1⟩, i1, k1, rp⟩ => ⟨I1.kIn, ?_⟩
  rw [hks pos]
  exact c [] ws [] zs s1 H1 _ Γ1 G1 I1 .nil r (by rw [rp.len, l]) q1 i1 k1 (hds_vals rp)⟩
theorem lc_pk (ha : LH X F E (a :: es) ph) (hr : LK X F E kws pr) (he : starEach (a :: es) X.env = (false, eval a X.env) :: starEach es X.env := by rfl) (hall : ∀ pos, (backToKw pos (keywordEach kws X.env)).all (·.1.isSome) = true := by intro _; rfl) (hks : ∀ pos, (backToKw pos (keywordEach kws X.env)).filterMap (·.1) = ks := by intro _; rfl)
    (hpl : ∀ pos, ((backTo pos (starEach (a :: es) X.env)).any (·.1) || (backToKw pos (keywordEach kws X.env)).any (·.1.isNone)) = false := by intro _; rfl) (hn : ∀ Γ Q E, pr Γ Q E → pr Γ (fun ds Γ' => ds.length = ks.length ∧ Q ds Γ') E) : LC X F E (a :: es) kws ks (qHK ph pr) := ⟨fun pos f first pins s σ H G Γ Q R hk I k h c => by
  refine PySem.W.callWith_KW (h₀ := X.base) I.ok.mod.kin hk (hall pos) (thn (ha.run pos pins s σ H G Γ _ I k h) fun us s1 ⟨vs, H1, I1, r1, hs, Γ1, G1, q1, i1, k1, hh⟩ => ?_) (hpl pos) he
  refine thn (hr.run pos pins s1 σ H1 G1 Γ1 _ I1 k1 (hn _ _ _ q1)) fun ws s2 ⟨zs, H2, I2, r, ds, Γ2, G2, ⟨l, q2⟩, i2, k2, rp⟩ => ⟨I2.kIn, ?_⟩
  rw [hks pos]
  exact c us ws vs zs s2 H2 _ Γ2 G2 I2 r1 r (by rw [rp.len, l]) q2 (i1.trans i2) k2 (hds_app (hds_inc i2 hh) (hds_vals rp))⟩
theorem hds_len {G : Hp} {σ : St} : ∀ {hs : List Hd} {vs : List V}, HdsOk F G σ hs vs → vs.length = hs.length
  | [], _, h => by cases (show _ = [] from h); rfl
  | _ :: _, _, h => by
    obtain ⟨v, r, rfl, a, b⟩ := h
    rw [List.length_cons, List.length_cons, hds_len b]
theorem argsOf_len {Γ : Env} : ∀ {hs : List Hd}, (argsOf Γ hs).length = hs.length
  | [] => rfl
  | h :: hs => by
    show (h.arg Γ :: argsOf Γ hs).length = _
    rw [List.length_cons, List.length_cons, argsOf_len]
/-- the contract at the caller, its length -/
theorem call_len {c : Ct} {hs : List Hd} {Γ : Env} {n : Nat} {Q : D → Env → Prop} (hl : ∀ args Q E, c args Q E → args.length = n)
    (h : match ndb (ixs hs) && hmut Γ hs with
      | true => c (argsOf Γ hs) (fun d outs => Q (unfr d) (updS Γ hs outs)) (fun x outs => E x (updS Γ hs outs))
      | false => False) : hs.length = n := by
  split at h
  · rw [← argsOf_len (Γ := Γ)]; exact hl _ _ _ h
  · exact h.elim
theorem back_call {pins : List (Addr × Obj)} {σ : St} {Q : VK} {f : Value} {us : List Value} {kw : List (Str × Value)} {s : Shared} (h : codeAny (model X.prog X.w) A (.call f ⟨us, kw⟩) (Back X pins σ Q) s) : wpAny (model X.prog X.w) A (call f us kw) (EP X pins σ Q) X.xe s := wpAny_call (codeAny_mono h fun r s' hq => by
  cases r with
  | error e => exact hq
  | ok fl =>
    cases fl with
    | ret u => exact hq
    | next => exact False.elim hq
    | brk => exact False.elim hq
    | cont => exact False.elim hq)
theorem le_callC {c : Ct} {fa : Addr} {n : Nat} {x : Str} {args : List Expr} (C : CodeOk X X.A F.toCf fa n ks c) (hm : X.mg x = some (.ref fa)) (hk : PySem.W.keepIn X.K (.ref fa) = true) (tk : Takes X (wOf F E)) (ha : LC X F E args kws ks ph) (hg : Gl X x := by rfl)
    (hdb : (x == ("__debug__" : Str)) = false := by decide) : LE X F E (.Call (.Name x p0) args kws pos) (qCall c ph) := by
  refine ⟨fun pins s σ H G Γ Q I k h => ?_⟩
  refine wpAny_Call_Name_kw (ld_glob I hg hm ?_ hdb)
  refine ha.run pos _ [] pins s σ H G Γ _ _ hk I k h fun us ws vs zs s' H' hs Γ' G' I' r rz l q i k' hh => ?_
  have hl := call_len C.len q
  have hv := hds_len hh
  rw [List.length_append] at hv
  exact thn (back_call (C.run pins s' σ H' vs us zs ws _ _ tk I' r rz (by omega) l (sp_call k' hh q))) fun u s2 z => ep_inc i z
/-! ### methods -/
abbrev QR := Env → (Hd → Env → Prop) → XP → Prop
structure LR (X : Cx) (F : Fx) (E : XP) (o : Expr) (c : Cn) (m : Str) (p : QR) : Prop where
  run : ∀ (pins : List (Addr × Obj)) (s : Shared) (σ : St) (H G : Hp) (Γ : Env) (Q : Hd → Env → Prop), Inv X pins σ H s → Ok F G H σ Γ → p Γ Q E →
    wpAny (model X.prog X.w) X.A (eval o X.env) (fun u s' => ∃ a H', Inv X pins σ H' s' ∧ u = .ref a ∧ ∃ hd Γ' G', Q hd Γ' ∧ Inc G G' ∧ Ok F G' H' σ Γ' ∧ HdOk F G' σ hd (.ref a) ∧ ∃ dx fs, H' a = some (.ins (F.cl c) dx fs) ∧ fs.lookup m = none) X.xe s
def isC (c : Cn) : D → Bool
  | .rat _ => Nat.beq Cn.ratio.ix c.ix
  | .ins c' _ => Nat.beq c'.ix c.ix
  | _ => false
def qrVal (c : Cn) (pa : QE) : QR := fun Γ Q E => pa Γ (fun d Γ1 => match isC c d with
  | true => Q (.val d) Γ1
  | false => False) E
theorem zip_no {N : List Str} {vs : List V} {m : Str} (h : m ∉ N) : (N.zip vs).lookup m = none := by
  induction N generalizing vs with
  | nil => simp
  | cons n N ih =>
    cases vs with
    | nil => simp
    | cons v vs =>
      have h1 : (m == n) = false := by rw [beq_eq_false_iff_ne]; exact fun e => h (e ▸ List.mem_cons_self)
      rw [List.zip_cons_cons]
      simp only [List.lookup, h1]
      exact ih fun z => h (List.mem_cons_of_mem _ z)
theorem isC_at {c : Cn} {d : D} {G H : Hp} {v : V} {m : Str} (hm : m ∉ c.fields) (s : Sub G H) (hc : isC c d = true) (r : Rep Fc G d v) : ∃ a dx fs, v = .ref a ∧ H a = some (.ins (Fc.cl c) dx fs) ∧ fs.lookup m = none := by
  cases d with
  | rat q =>
    have e := ix_inj hc
    subst e
    obtain ⟨a, dx, rfl, g⟩ := r
    refine ⟨a, dx, _, rfl, s.i g, ?_⟩
    exact zip_no (N := Cn.ratio.fields) (vs := [.int q.num, .int (q.den : Int)]) hm
  | ins c' ds =>
    have e := ix_inj hc
    subst e
    obtain ⟨a, dx, vs, rfl, g, _⟩ := r
    exact ⟨a, dx, _, rfl, s.i g, zip_no hm⟩
  | _ => cases hc
theorem lr_val {c : Cn} {m : Str} (ha : LE X F E o pa) (hm : m ∉ c.fields := by decide +kernel) : LR X F E o c m (qrVal c pa) := ⟨fun pins s σ H G Γ Q I k h =>
  thn (ha.run pins s σ H G Γ _ I k h) fun u s1 ⟨x, H1, I1, r1, d, Γ1, G1, q1, i1, k1, rp1⟩ => by
    dsimp only at q1
    split at q1
    · rename_i hc
      obtain ⟨a, dx, fs, rfl, e1, e2⟩ := isC_at (Fc := F.toCf) hm k1.sub hc rp1
      exact ⟨a, H1, I1, r1, .val d, Γ1, G1, q1, i1, k1, rp1, dx, fs, e1, e2⟩
    · exact q1.elim⟩
def qrSlot (j : Nat) (c : Cn) : QR := fun Γ Q _ => match insM Γ j c with
  | some _ => Q (.slot j) Γ
  | none => False
theorem lr_slot (j : Nat) {c : Cn} {m x : Str} {px : Pos} (hm : m ∉ c.fields := by decide +kernel) (hN : X.N[j]? = some x := by rfl) (hv : Vis X.env.scope x := by first | exact Or.inl rfl | exact Or.inr (Or.inl rfl) | exact Or.inr (Or.inr rfl)) (hd : (x == ("__debug__" : Str)) = false := by decide)
    (hcd : (x == ("__classdict__" : Str)) = false := by decide) : LR X F E (.Name x px) c m (qrSlot j c) := ⟨fun pins s σ H G Γ Q I k h => by
  unfold qrSlot at h
  split at h
  · rename_i ds e
    obtain ⟨a, dx, vs, s0, ea, hp, rs, _, _⟩ := insAt k e
    exact thn ((pe_var (X := X) (i := j) hN hv hd hcd).run pins s σ H (fun v H' => v = .ref a ∧ H' = H) I ⟨.ref a, ea, rfl, rfl⟩) fun u s1 ⟨x, H1, I1, r1, e1, e2⟩ => by
      subst e1
      subst e2
      exact ⟨a, H1, I1, r1, .slot j, Γ, G, h, Inc.refl G, k, ea, dx, _, hp, zip_no hm⟩
  · exact h.elim⟩
def qMeth (c : Ct) (pr : QR) (p : QH) : QE := fun Γ Q E => pr Γ (fun h Γ0 => p Γ0 (fun hs Γ1 => match ndb (ixs (h :: hs)) && hmut Γ1 (h :: hs) with
  | true => c (argsOf Γ1 (h :: hs)) (fun d outs => Q (unfr d) (updS Γ1 (h :: hs) outs)) (fun x outs => E x (updS Γ1 (h :: hs) outs))
  | false => False) E) E
theorem le_methC {c : Ct} {cn : Cn} {m : Str} {fa : Addr} {n : Nat} {args : List Expr} {pr : QR} {pl : Sem Bool} (C : CodeOk X X.A F.toCf fa (n + 1) ks c) (hK : F.K = X.K) (T : Kl F.toCf cn) (hm : Meth F.K (F.cl cn) m fa) (tk : Takes X (wOf F E)) (ho : LR X F E o cn m pr) (ha : LC X F E args kws ks ph)
    (ht : eval (.Call (.Attribute o m apos) args kws pos) X.env = (do
      let ov ← eval o X.env
      standAt apos.atName
      let (f, first) ← holding [ov] (getMethod ov m pl)
      callWith pos f first (backTo pos (starEach args X.env)) (backToKw pos (keywordEach kws X.env))) := by rfl) : LE X F E (.Call (.Attribute o m apos) args kws pos) (qMeth c pr ph) := by
  refine ⟨fun pins s σ H G Γ Q I k h => ?_⟩
  refine PySem.W.methodCall_KW (pl := pl) (thn (ho.run pins s σ H G Γ _ I k h) fun u s1 ⟨b, H1, I1, eu, hd, Γ1, G1, q1, i1, k1, ho1, dx, fs, e1, e2⟩ => ?_) ht
  subst eu
  refine getmeth_ok I1 e1 (hK ▸ T.cls) (hK ▸ hm) e2 ?_
  refine ha.run pos _ [.ref b] pins s1 σ H1 G1 Γ1 _ _ (by rw [← hK]; exact hm.kp) I1 k1 q1 fun us ws vs zs s' H' hs Γ' G' I' r rz l q i k' hh => ?_
  have hl := call_len (hs := hd :: hs) C.len q
  have hv := hds_len hh
  rw [List.length_append] at hv
  rw [List.length_cons] at hl
  have hh' : HdsOk F G' σ (hd :: hs) ((.ref b :: vs) ++ zs) := ⟨.ref b, vs ++ zs, rfl, ho1.inc i, hh⟩
  exact thn (back_call (C.run pins s' σ H' (.ref b :: vs) (.ref b :: us) zs ws _ _ tk I' (.cons rfl r) rz (by rw [List.length_cons]; omega) l (sp_call k' hh' q))) fun u s2 z => ep_inc (i1.trans i) z
end
end Q

set_option Elab.async false
set_option linter.all false
set_option maxRecDepth 100000
set_option maxHeartbeats 4000000
/-! a != b by an own __eq__ -/
namespace PySem.W
open PySem PySem.Calls PyProof.Rows
section
variable {prog : Program} {w : World} {A : Around} {E : Value → Shared → Prop} {s : Shared} {K : Frag} {x C f : Addr} {b tb : Value} {ox : Obj} {od : Option Obj} {L : Addr} {h₀ : Heap} {m : Str → Option Value}
theorem q_objNe {Q : Fin → Shared → Prop} (hu : A.units < cLine) (X : K.In s.heap) (I : InstAt s.heap x ox C od) (hs : findIn K (.ref C) "__eq__" = some (some (.ref f))) (hf : isFn K (.ref f) = true)
    (h : wpAny (model prog w) A (call (.ref f) [.ref x, b]) (fun r s' => ∃ c, r = .bool c ∧ Q (.done (.ret (.bool (!c)))) s') E s) : wpAny (model prog w) A (Builtin.«object.__ne__» ⟨[.ref x, b], []⟩) Q E s := by
  obtain ⟨hh, g, d, t, os⟩ := s
  unfold Builtin.«object.__ne__»
  repeat (first
    | with_reducible refine wpAny_cRoomFor hu ?_
    | (refine wpAny_bind (m := callSpecialIfBound? (.ref x) (Str.ofString "__eq__") [b])
        (ifBound_K X I hs hf (wpAny_mono h (fun r s' hr => by
          obtain ⟨b, rfl, hq⟩ := hr
          repeat (first | exact hq | exact wpAny_pure hq | exact wpAny_truthy_bool hq | (refine wpAny_bind (m := truthy (.bool _)) (wpAny_truthy_bool ?_)) | wp_step)) fun _ _ e => e)))
    | wp_step)
theorem q_ne_K {Q : Value → Shared → Prop} (hu : A.units + 1 < cLine) (F : Fr h₀ L s.heap m) (X₀ : K.In h₀) (I : InstAt s.heap x ox C od) (hb : Looks (model prog w) s.heap (typeOf b) tb) (hn : notFirst K C tb = true)
    (hne : findIn K (.ref C) "__ne__" = some (some (.builtin "object.__ne__"))) (hob : mroIn K C (.type "object") = some true) (hs : findIn K (.ref C) "__eq__" = some (some (.ref f))) (hf : isFn K (.ref f) = true)
    (h : wpAny (model prog w) A.in1 (call (.ref f) [.ref x, b]) (fun r s' => ∃ c, r = .bool c ∧ Q (.bool (!c)) s') E s) : wpAny (model prog w) A (richCompare .NotEq (.ref x) b) Q E s := by
  have X := X₀.keeps F.keep
  have hu0 : A.units < cLine := Nat.lt_of_succ_lt hu
  have Ls : Looks (model prog w) s.heap (isInstance (.ref x) (.type "object")) true := I.type.andThen (looks_mroIn X hob)
  have fin : ∀ {R : Option Value → Shared → Prop}, (∀ c s', Q (.bool (!c)) s' → R (some (.bool (!c))) s') → wpAny (model prog w) A (call (.builtin "object.__ne__") ([.ref x] ++ [b]) >>= fun v => pure (some v)) R E s := fun hR =>
    wpAny_bind (wpAny_call (codeAny_call_builtin PySem.F.cmp_object.ne.plain PySem.F.cmpEntry_ne (check_slot PySem.F.cmpKind_ne PySem.F.cmpSplit_ne Ls (PySem.F.cmpArgs_ne _ _)
      (q_objNe (A := A.in1) hu X I hs hf (wpAny_mono h (fun v s' ⟨c, e, q⟩ => ⟨c, e, wpAny_pure (hR c s' q)⟩) fun _ _ e => e)))))
  have one : wpAny (model prog w) A (tryCompare (.ref x) "__ne__" b) (fun r s' => ∃ v, r = some v ∧ Q v s') E s := by
    unfold tryCompare
    refine wpAny_bind ?_
    simp only [callSpecialIfBound?, bindSpecialIfBound?]
    refine wpAny_holding (wpAny_bind (wpAny_bind (wpAny_bind (I.type.here ((looks_findIn X hne).here ?_)))))
    refine wpAny_bind (wpAny_askSetting (wpAny_ite ?_))
    have hbd := PySem.F.cmp_object.ne.bind (.ref x)
    split
    · rw [hbd]
      exact wpAny_bind (wpAny_pure (wpAny_pure (fin fun c s' q => wpAny_pure ⟨_, rfl, q⟩)))
    · rw [hbd]
      exact wpAny_tryCatch (wpAny_bind (wpAny_pure (wpAny_pure (fin fun c s' q => wpAny_pure ⟨_, rfl, q⟩))))
  unfold richCompare
  simp only [oneThing_ref]
  refine wpAny_holding (wpAny_bind (wpAny_cRoomFor hu0 ?_))
  refine wpAny_bind (I.type.here (wpAny_bind (hb.here ?_)))
  split
  · rename_i q
    have e : subIn K tb (.ref C) = some false := by
      rcases Bool.or_eq_true_iff.mp hn with e | e
      · rw [beq_iff_eq.mp e] at q; simp at q
      · exact beq_iff_eq.mp e
    refine wpAny_bind ((looks_subIn X e).here ?_)
    simp only [Bool.false_eq_true, if_false]
    refine wpAny_bind (wpAny_mono one (fun r s' z => ?_) fun _ _ e => e)
    obtain ⟨v, rfl, hq⟩ := z
    exact wpAny_pure hq
  · refine wpAny_bind (wpAny_pure ?_)
    simp only [Bool.false_eq_true, if_false]
    refine wpAny_bind (wpAny_mono one (fun r s' z => ?_) fun _ _ e => e)
    obtain ⟨v, rfl, hq⟩ := z
    exact wpAny_pure hq
end
end PySem.W

set_option Elab.async false
set_option linter.all false
set_option maxRecDepth 100000
set_option maxHeartbeats 4000000
namespace Q
open PySem L2 PySem.Spec PyProof.Rows
open SlX (SIsi cmpback)
/-! ## 9. Types of data; isinstance; own operators; built-ins -/
inductive TyD (F : Cf) : D → Value → Prop where
  | non : TyD F .non (.type "NoneType")
  | bl (b : Bool) : TyD F (.bl b) (.type "bool")
  | int (i : Int) : TyD F (.int i) (.type "int")
  | str (x : Str) : TyD F (.str x) (.type "str")
  | lst (xs : List D) : TyD F (.lst xs) (.type "list")
  | tup (xs : List D) : TyD F (.tup xs) (.type "tuple")
  | dic (xs : List (Key × D)) : TyD F (.dic xs) (.type "dict")
  | own {d : D} {c : Cn} (h : isC c d = true) (k : Cls F.K (F.cl c)) (i : SIsi F.K (F.cl c)) : TyD F d (.ref (F.cl c))
theorem isC_of {F : Cf} {G H : Hp} {c : Cn} {d : D} {v : V} (s : Sub G H) (hc : isC c d = true) (r : Rep F G d v) : ∃ a dx fs, v = .ref a ∧ H a = some (.ins (F.cl c) dx fs) := by
  cases d with
  | rat q => have e := ix_inj hc; subst e; obtain ⟨a, dx, rfl, g⟩ := r; exact ⟨a, dx, _, rfl, s.i g⟩
  | ins c' ds => have e := ix_inj hc; subst e; obtain ⟨a, dx, vs, rfl, g, _⟩ := r; exact ⟨a, dx, _, rfl, s.i g⟩
  | _ => cases hc
theorem TyD.x {F : Cf} {G H : Hp} {d : D} {t : Value} {v : V} (s : Sub G H) (ty : TyD F d t) (r : Rep F G d v) : TyX F.K H v t := by
  cases ty with
  | non => cases (show v = .non from r); exact .base .non
  | bl b => cases (show v = .bl b from r); exact .base (.bl b)
  | int b => cases (show v = .int b from r); exact .base (.int b)
  | str b => cases (show v = .str b from r); exact .base (.str b)
  | lst xs => obtain ⟨a, vs, rfl, g, _⟩ := r; exact .base (.lst (s.m g))
  | tup xs =>
    obtain ⟨a, vs, rfl, g, _⟩ := r
    rcases s.t g with (h | ⟨o, h⟩) | ⟨o, its, n, hk, hc, _⟩
    · exact .base (.tup h)
    · exact .fTuple h
    · exact .kTuple hk hc
  | dic xs =>
    obtain ⟨a, vs, rfl, g, _⟩ := r
    rcases s _ _ g with h | ⟨_, o, h⟩
    · exact .base (.dK h)
    · exact .fDict h
  | own h k i =>
    obtain ⟨a, dx, fs, rfl, e⟩ := isC_of s h r
    exact .base (.ins e k i.ca i.cn i.ct i.cm)
section
variable {X : Cx} {F : Fx} {E : XP} {a b o : Expr} {es : List Expr} {pa pb : QE} {pr : QA} {pos p0 : Pos}
theorem looks_ty {pins : List (Addr × Obj)} {σ : St} {G H : Hp} {s : Shared} {Γ : Env} {d : D} {t : Value} {v : V} {u : Value} (hK : F.K = X.K) (I : Inv X pins σ H s) (k : Ok F G H σ Γ) (ty : TyD F.toCf d t) (r : Rep F.toCf G d v) (ru : RelV v u) (M : Model) : PySem.W.Looks M s.heap (typeOf u) t := by
  obtain ⟨P, Z, p, _⟩ := kit_of I ru (hK ▸ ty.x k.sub r)
  exact Z.ty M s.heap I.kIn p
/-! ### isinstance -/
structure IsaT where
  non : Bool := false
  bl : Bool := false
  int : Bool := false
  str : Bool := false
  lst : Bool := false
  tup : Bool := false
  dic : Bool := false
  own : List (Cn × Bool) := []
def lookC : List (Cn × Bool) → Cn → Option Bool
  | [], _ => none
  | (c, b) :: r, x => match Nat.beq c.ix x.ix with
    | true => some b
    | false => lookC r x
def IsaT.ans (t : IsaT) : D → Option Bool
  | .non => some t.non
  | .bl _ => some t.bl
  | .int _ => some t.int
  | .str _ => some t.str
  | .lst _ => some t.lst
  | .tup _ => some t.tup
  | .dic _ => some t.dic
  | .rat _ => lookC t.own .ratio
  | .ins c _ => lookC t.own c
  | _ => none
structure IsaOk (F : Cf) (us : List Value) (t : IsaT) : Prop where
  non : PySem.W.kitAny F.K (.type "NoneType") us = some t.non
  bl : PySem.W.kitAny F.K (.type "bool") us = some t.bl
  int : PySem.W.kitAny F.K (.type "int") us = some t.int
  str : PySem.W.kitAny F.K (.type "str") us = some t.str
  lst : PySem.W.kitAny F.K (.type "list") us = some t.lst
  tup : PySem.W.kitAny F.K (.type "tuple") us = some t.tup
  dic : PySem.W.kitAny F.K (.type "dict") us = some t.dic
  own : ∀ p ∈ t.own, PySem.W.kitAny F.K (.ref (F.cl p.1)) us = some p.2 ∧ Cls F.K (F.cl p.1) ∧ SIsi F.K (F.cl p.1)
theorem lookC_mem : ∀ {l : List (Cn × Bool)} {x : Cn} {b : Bool}, lookC l x = some b → (x, b) ∈ l
  | [], _, _, h => by cases h
  | (c, b) :: r, x, b', h => by
    unfold lookC at h
    split at h
    · rename_i e
      cases h
      rw [ix_inj e]
      exact List.mem_cons_self
    · exact List.mem_cons_of_mem _ (lookC_mem h)
theorem beq_ix (c : Cn) : Nat.beq c.ix c.ix = true := Nat.beq_refl _
theorem IsaOk.get {Fc : Cf} {us : List Value} {t : IsaT} (h : IsaOk Fc us t) {d : D} {b : Bool} (e : t.ans d = some b) : ∃ ty, TyD Fc d ty ∧ PySem.W.kitAny Fc.K ty us = some b := by
  cases d with
  | non => cases e; exact ⟨_, .non, h.non⟩
  | bl x => cases e; exact ⟨_, .bl x, h.bl⟩
  | int x => cases e; exact ⟨_, .int x, h.int⟩
  | str x => cases e; exact ⟨_, .str x, h.str⟩
  | lst x => cases e; exact ⟨_, .lst x, h.lst⟩
  | tup x => cases e; exact ⟨_, .tup x, h.tup⟩
  | dic x => cases e; exact ⟨_, .dic x, h.dic⟩
  | rat q => obtain ⟨a, b, c⟩ := h.own _ (lookC_mem e); exact ⟨_, .own (beq_ix _) b c, a⟩
  | ins c x => obtain ⟨a, b, c⟩ := h.own _ (lookC_mem e); exact ⟨_, .own (beq_ix _) b c, a⟩
  | _ => cases e
def oIsa (t : IsaT) : O1 := fun d Γ Q _ => match t.ans d with
  | some b => Q (.bl b) Γ
  | none => False
theorem kitAny_one {K : PySem.W.Frag} {t c : Value} {b : Bool} (h : PySem.W.kitAny K t [c] = some b) : PySem.W.kitOne K t c = some b := by
  unfold PySem.W.kitAny at h
  split at h
  · rename_i e; cases h; exact e
  · rename_i e; cases h; exact e
  · cases h
/-- isinstance(a, c), c a class -/
theorem le_isi {ce : Expr} {cv : V} {cu : Value} {t : IsaT} (T : IsaOk F.toCf [cu] t) (hK : F.K = X.K) (hc : PE X ce (tC cv)) (hcv : ClsV cv cu) (ha : LE X F E a pa) (hm : X.mg "isinstance" = none) (hg : Gl X "isinstance" := by rfl)
    (hv : bootBuiltins "isinstance" = some (.builtin "isinstance") := by rfl) (he : starEach [a, ce] X.env = (false, eval a X.env) :: starEach [ce] X.env := by rfl) (he2 : starEach [ce] X.env = (false, eval ce X.env) :: starEach [] X.env := by rfl) (hpl : (backTo pos (starEach [ce] X.env)).any (·.1) = false := by rfl) :
    LE X F E (.Call (.Name "isinstance" p0) [a, ce] [] pos) (qUn (oIsa t) pa) :=
  LE.of (pe_callB (call_isi (X := X)) hg hm hv (pa_cons ha.pe (pa_cons hc pa_nil he2) he) (by decide) (by decide) he hpl) fun σ H G Γ Q k q => ⟨G, Γ, _, k, q, fun w H' ⟨d, Γ', G', q', i, k', r⟩ => by
    dsimp only [oIsa] at q'
    split at q'
    · rename_i b e
      obtain ⟨ty, h1, h2⟩ := T.get e
      exact ⟨w, cv, ty, cu, b, rfl, hcv, hK ▸ h1.x k'.sub r, by rw [← hK]; exact kitAny_one h2, fin_inc i (fin0 k' q' rfl)⟩
    · exact q'.elim⟩
/-- isinstance(a, (c1, c2)) -/
theorem le_isiT {ts : List Expr} {x1 pt} {cs : List V} {us : List Value} {t : IsaT} (T : IsaOk F.toCf us t) (hK : F.K = X.K) (hc : PA X ts (fun _ H Q => Q cs H)) (hl : cs.length ≤ sizeLine) (hcv : Paired ClsV cs us) (ha : LE X F E a pa) (hm : X.mg "isinstance" = none) (hg : Gl X "isinstance" := by rfl)
    (hv : bootBuiltins "isinstance" = some (.builtin "isinstance") := by rfl) (he : starEach [a, .Tuple ts x1 pt] X.env = (false, eval a X.env) :: starEach [.Tuple ts x1 pt] X.env := by rfl) (he2 : starEach [.Tuple ts x1 pt] X.env = (false, eval (.Tuple ts x1 pt) X.env) :: starEach [] X.env := by rfl) (hpl : (backTo pos (starEach [.Tuple ts x1 pt] X.env)).any (·.1) = false := by rfl) :
    LE X F E (.Call (.Name "isinstance" p0) [a, .Tuple ts x1 pt] [] pos) (qUn (oIsa t) pa) :=
  LE.of (pe_callB (call_isiT (X := X)) hg hm hv (pa_cons ha.pe (pa_cons (pe_tup hc) pa_nil he2) he) (by decide) (by decide) he hpl) fun σ H G Γ Q k q => ⟨G, Γ, _, k, q, fun w H' ⟨d, Γ', G', q', i, k', r⟩ => by
    dsimp only [oIsa] at q'
    split at q'
    · rename_i b e
      obtain ⟨ty, h1, h2⟩ := T.get e
      refine ⟨hl, fun p hp => ⟨w, p, cs, ty, us, b, rfl, upd_same, hcv, hK ▸ h1.x (k'.new0 hp (.tup cs)).sub r, by rw [← hK]; exact h2, fin_inc i (fin0 (k'.new0 hp _) q' rfl)⟩⟩
    · exact q'.elim⟩
/-! ### own operators -/
theorem updS_vals {Γ : Env} : ∀ {ds : List D} {outs : List Slot}, updS Γ (ds.map Hd.val) outs = Γ
  | [], outs => by cases outs <;> rfl
  | _ :: _, [] => rfl
  | d :: ds, _ :: outs => updS_vals (ds := ds) (outs := outs)
theorem argsOf_vals {Γ : Env} : ∀ {ds : List D}, argsOf Γ (ds.map Hd.val) = ds.map Slot.val
  | [] => rfl
  | d :: ds => congrArg (Slot.val d :: ·) argsOf_vals
theorem ixs_vals : ∀ {ds : List D}, ixs (ds.map Hd.val) = []
  | [] => rfl
  | d :: ds => ixs_vals (ds := ds)
theorem hmut_vals {Γ : Env} : ∀ {ds : List D}, hmut Γ (ds.map Hd.val) = true
  | [] => rfl
  | d :: ds => hmut_vals (ds := ds)
theorem sp_vals {c : Ct} {ds : List D} {vs : List V} {Γ : Env} {σ : St} {G H : Hp} {Q : D → Env → Prop} (k : Ok F G H σ Γ) (r : Reps F.toCf G ds vs) (h : c (ds.map Slot.val) (fun r _ => Q (unfr r) Γ) (fun x _ => E x Γ)) : spC F.toCf c vs H (Fin F G σ Q) (WE (wOf F E) σ) := by
  refine sp_call (hs := ds.map Hd.val) k (hds_vals r) ?_
  rw [ixs_vals, hmut_vals, argsOf_vals]
  simp only [updS_vals]
  exact h
/-- a def of two data runs below the running body -/
theorem run2 {c : Ct} {A : Around} {f : Addr} {pins : List (Addr × Obj)} {s : Shared} {σ : St} {G H : Hp} {Γ : Env} {x y : V} {v u : Value} {d e : D} {Q : D → Env → Prop} (C : CodeOk X A F.toCf f 2 [] c) (tk : Takes X (wOf F E)) (I : Inv X pins σ H s) (k : Ok F G H σ Γ) (rv : RelV x v) (ru : RelV y u) (rx : Rep F.toCf G d x) (ry : Rep F.toCf G e y)
    (h : c [.val d, .val e] (fun r _ => Q (unfr r) Γ) (fun x _ => E x Γ)) : wpAny (model X.prog X.w) A (call (.ref f) [v, u]) (EP X pins σ (Fin F G σ Q)) X.xe s :=
  back_call (C.run pins s σ H [x, y] [v, u] [] [] _ _ tk I (.cons rv (.cons ru .nil)) .nil rfl rfl (sp_vals (ds := [d, e]) k ⟨x, [y], rfl, rx, y, [], rfl, ry, rfl⟩ h))
theorem run1 {c : Ct} {A : Around} {f : Addr} {pins : List (Addr × Obj)} {s : Shared} {σ : St} {G H : Hp} {Γ : Env} {x : V} {v : Value} {d : D} {Q : D → Env → Prop} (C : CodeOk X A F.toCf f 1 [] c) (tk : Takes X (wOf F E)) (I : Inv X pins σ H s) (k : Ok F G H σ Γ) (rv : RelV x v) (rx : Rep F.toCf G d x)
    (h : c [.val d] (fun r _ => Q (unfr r) Γ) (fun x _ => E x Γ)) : wpAny (model X.prog X.w) A (call (.ref f) [v]) (EP X pins σ (Fin F G σ Q)) X.xe s :=
  back_call (C.run pins s σ H [x] [v] [] [] _ _ tk I (.cons rv .nil) .nil rfl rfl (sp_vals (ds := [d]) k ⟨x, [], rfl, rx, rfl⟩ h))
structure OwnOp (K : PySem.W.Frag) (C : Addr) (op : Operator) (f : Addr) : Prop where
  first : PySem.W.selfFirst K C = true
  at_ : PySem.W.findIn K (.ref C) (PySem.dunder op.info.2) = some (some (.ref f))
  fn : PySem.W.isFn K (.ref f) = true
/-- .. with a built-in on the right -/
structure OwnOpT (K : PySem.W.Frag) (C : Addr) (op : Operator) (T : String) : Prop where
  ex : ∃ fo ro rc, PySem.W.findIn K (.ref C) (dunderR op.info.2) = some rc ∧ (rc = none ∨ ∃ g : Addr, rc = some (.ref g)) ∧ PySem.W.findIn K (.type T) (PySem.dunder op.info.2) = some fo ∧ PySem.W.findIn K (.type T) (dunderR op.info.2) = some ro ∧ PySem.W.subIn K (.type T) (.ref C) = some false
def oOwn (c : Cn) (ct : Ct) : O2 := fun d e Γ Q E => match isC c d with
  | true => ct [.val d, .val e] (fun r _ => Q (unfr r) Γ) (fun x _ => E x Γ)
  | false => False
/-- the right operand: one of the same class, or an int -/
def sameOrInt (c : Cn) : D → Bool
  | .int _ => true
  | d => isC c d
def oOwnR (c : Cn) (ct : Ct) : O2 := fun d e Γ Q E => match sameOrInt c e with
  | true => oOwn c ct d e Γ Q E
  | false => False
theorem inst_of {pins : List (Addr × Obj)} {σ : St} {G H : Hp} {s : Shared} {Γ : Env} {c : Cn} {d : D} {x : V} {v : Value} (I : Inv X pins σ H s) (k : Ok F G H σ Γ) (hc : isC c d = true) (r : Rep F.toCf G d x) (rv : RelV x v) : ∃ a ox od, v = .ref a ∧ PySem.W.InstAt s.heap a ox (F.cl c) od := by
  obtain ⟨a, dx, fs, rfl, e⟩ := isC_of k.sub hc r
  cases (show v = Value.ref a from rv)
  obtain ⟨mA, O, _⟩ := ins_get I.hok e
  obtain ⟨od, J, _⟩ := O.look
  exact ⟨a, _, _, rfl, J⟩
theorem back_cmp {A : Around} {pins : List (Addr × Obj)} {σ : St} {Q : VK} {t : Sem Value} {s : Shared} (h : wpAny (model X.prog X.w) A t (EP X pins σ Q) X.xe s) : wpAny (model X.prog X.w) A t (PySem.W.CmpBack (EP X pins σ Q)) X.xe s :=
  wpAny_mono h (fun w s' z => by
    obtain ⟨z', H', I', rz, qz⟩ := z
    exact cmpback rz ⟨z', H', I', rz, qz⟩) fun _ _ x => x
theorem ol_own {c : Cn} {ct : Ct} {op : Operator} {f : Addr} (hK : F.K = X.K) (o1 : OwnOp F.K (F.cl c) op f) (o2 : OwnOpT F.K (F.cl c) op "int") (C : CodeOk X X.A F.toCf f 2 [] ct) (tk : Takes X (wOf F E)) : OpL X F E (binaryOp op) (oOwnR c ct) := by
  intro pins s σ H G Γ x y v u d e Q I k rv ru rx ry q
  unfold oOwnR at q
  split at q
  · rename_i he
    unfold oOwn at q
    split at q
    · rename_i hd
      obtain ⟨a, ox, od, rfl, J⟩ := inst_of I k hd rx rv
      obtain ⟨m, hF⟩ := I.fr
      have h := run2 C tk I k rv ru rx ry q
      have h' := back_cmp h
      by_cases hi : ∃ i, e = .int i
      · obtain ⟨i, rfl⟩ := hi
        obtain ⟨fo, ro, rc, h1, h2, h3, h4, h5⟩ := o2.ex
        cases (show y = .int i from ry)
        obtain ⟨t, rfl⟩ := (show ∃ t, u = Value.int i t from ru)
        exact PySem.W.ksp_binT hF (hK ▸ I.ok.mod.kin) J rfl o1.first o1.at_ o1.fn h1 h2 h3 h4 h5 h'
      · have he' : isC c e = true := by
          cases e with
          | int i => exact absurd ⟨i, rfl⟩ hi
          | _ => exact he
        obtain ⟨b, oy, ody, rfl, J'⟩ := inst_of I k he' ry ru
        exact PySem.W.binop_K hF (hK ▸ I.ok.mod.kin) J J'.type o1.first o1.at_ o1.fn h'
    · exact q.elim
  · exact q.elim
/-- an own operator, both of the class -/
def oOwnS (c : Cn) (ct : Ct) : O2 := fun d e Γ Q E => match isC c e with
  | true => oOwn c ct d e Γ Q E
  | false => False
theorem ol_ownS {c : Cn} {ct : Ct} {op : Operator} {f : Addr} (hK : F.K = X.K) (o1 : OwnOp F.K (F.cl c) op f) (C : CodeOk X X.A F.toCf f 2 [] ct) (tk : Takes X (wOf F E)) : OpL X F E (binaryOp op) (oOwnS c ct) := by
  intro pins s σ H G Γ x y v u d e Q I k rv ru rx ry q
  unfold oOwnS at q
  split at q
  · rename_i he
    unfold oOwn at q
    split at q
    · rename_i hd
      obtain ⟨a, ox, od, rfl, J⟩ := inst_of I k hd rx rv
      obtain ⟨m, hF⟩ := I.fr
      have h := run2 C tk I k rv ru rx ry q
      have h' := back_cmp h
      obtain ⟨b, oy, ody, rfl, J'⟩ := inst_of I k he ry ru
      exact PySem.W.binop_K hF (hK ▸ I.ok.mod.kin) J J'.type o1.first o1.at_ o1.fn h'
    · exact q.elim
  · exact q.elim
structure OwnUn (K : PySem.W.Frag) (C f : Addr) : Prop where
  at_ : PySem.W.findIn K (.ref C) "__neg__" = some (some (.ref f))
  fn : PySem.W.isFn K (.ref f) = true
def oOwn1 (c : Cn) (ct : Ct) : O1 := fun d Γ Q E => match isC c d with
  | true => ct [.val d] (fun r _ => Q (unfr r) Γ) (fun x _ => E x Γ)
  | false => False
theorem ul_own {c : Cn} {ct : Ct} {f : Addr} (hK : F.K = X.K) (o1 : OwnUn F.K (F.cl c) f) (C : CodeOk X X.A F.toCf f 1 [] ct) (tk : Takes X (wOf F E)) : UnL X F E (unaryOp .USub) (oOwn1 c ct) := by
  intro pins s σ H G Γ x v d Q I k rv rx q
  unfold oOwn1 at q
  split at q
  · rename_i hd
    obtain ⟨a, ox, od, rfl, J⟩ := inst_of I k hd rx rv
    obtain ⟨m, hF⟩ := I.fr
    exact PySem.W.ksp_neg hF (hK ▸ I.ok.mod.kin) J o1.at_ o1.fn (run1 C tk I k rv rx q)
  · exact q.elim
/-- which data may stand on the right of a comparison by an own def -/
structure CmpT where
  blt : Bool := true
  own : List Cn := []
def memC : List Cn → Cn → Bool
  | [], _ => false
  | c :: r, x => match Nat.beq c.ix x.ix with
    | true => true
    | false => memC r x
def CmpT.ok (t : CmpT) : D → Bool
  | .non => t.blt
  | .bl _ => t.blt
  | .int _ => t.blt
  | .str _ => t.blt
  | .lst _ => t.blt
  | .tup _ => t.blt
  | .dic _ => t.blt
  | .rat _ => memC t.own .ratio
  | .ins c _ => memC t.own c
  | _ => false
structure CmpOk (F : Cf) (c : Cn) (t : CmpT) : Prop where
  blt : t.blt = true → ∀ T ∈ ["NoneType", "bool", "int", "str", "list", "tuple", "dict"], PySem.W.notFirst F.K (F.cl c) (.type T) = true
  own : ∀ p ∈ t.own, PySem.W.notFirst F.K (F.cl c) (.ref (F.cl p)) = true ∧ Cls F.K (F.cl p) ∧ SIsi F.K (F.cl p)
theorem memC_mem : ∀ {l : List Cn} {x : Cn}, memC l x = true → x ∈ l
  | [], _, h => by cases h
  | c :: r, x, h => by
    unfold memC at h
    split at h
    · rename_i e
      rw [ix_inj e]
      exact List.mem_cons_self
    · exact List.mem_cons_of_mem _ (memC_mem h)
theorem CmpOk.get {Fc : Cf} {c : Cn} {t : CmpT} (h : CmpOk Fc c t) {d : D} (e : t.ok d = true) : ∃ ty, TyD Fc d ty ∧ PySem.W.notFirst Fc.K (Fc.cl c) ty = true := by
  cases d with
  | non => exact ⟨_, .non, h.blt e _ (by simp)⟩
  | bl x => exact ⟨_, .bl x, h.blt e _ (by simp)⟩
  | int x => exact ⟨_, .int x, h.blt e _ (by simp)⟩
  | str x => exact ⟨_, .str x, h.blt e _ (by simp)⟩
  | lst x => exact ⟨_, .lst x, h.blt e _ (by simp)⟩
  | tup x => exact ⟨_, .tup x, h.blt e _ (by simp)⟩
  | dic x => exact ⟨_, .dic x, h.blt e _ (by simp)⟩
  | rat q => obtain ⟨a, b, c⟩ := h.own _ (memC_mem e); exact ⟨_, .own (beq_ix _) b c, a⟩
  | ins c x => obtain ⟨a, b, c⟩ := h.own _ (memC_mem e); exact ⟨_, .own (beq_ix _) b c, a⟩
  | _ => cases e
structure OwnCmp (K : PySem.W.Frag) (C : Addr) (op : CmpOp) (f : Addr) : Prop where
  at_ : PySem.W.findIn K (.ref C) (cmpInfo op).2.1 = some (some (.ref f))
  fn : PySem.W.isFn K (.ref f) = true
def oOwnC (c : Cn) (t : CmpT) (ct : Ct) : O2 := fun d e Γ Q E => match t.ok e with
  | true => oOwn c ct d e Γ Q E
  | false => False
theorem ol_cmp {c : Cn} {t : CmpT} {ct : Ct} {op : CmpOp} {f : Addr} {kk : Nat} (hK : F.K = X.K) (hr : Room kk X.A) (hop : ∀ a b, compareOp op a b = richCompare op a b) (T : CmpOk F.toCf c t) (o1 : OwnCmp F.K (F.cl c) op f) (C : CodeOk X X.A F.toCf f 2 [] ct) (tk : Takes X (wOf F E)) : OpL X F E (compareOp op) (oOwnC c t ct) := by
  intro pins s σ H G Γ x y v u d e Q I k rv ru rx ry q
  unfold oOwnC at q
  split at q
  · rename_i he
    unfold oOwn at q
    split at q
    · rename_i hd
      obtain ⟨a, ox, od, rfl, J⟩ := inst_of I k hd rx rv
      obtain ⟨m, hF⟩ := I.fr
      obtain ⟨ty, h1, h2⟩ := T.get he
      have h := run2 C tk I k rv ru rx ry q
      rw [hop]
      refine PySem.W.cmp_K (op := op) (tb := ty) hr.units0 hF (hK ▸ I.ok.mod.kin) J (looks_ty hK I k h1 ry ru _) h2 o1.at_ o1.fn (wpAny_mono h (fun w s' z => ?_) fun _ _ x => x)
      obtain ⟨z', H', I', rz, qz⟩ := z
      exact cmpback rz ⟨z', H', I', rz, qz⟩
    · exact q.elim
  · exact q.elim
/-- != by the own == -/
structure OwnNe (K : PySem.W.Frag) (C : Addr) (f : Addr) : Prop where
  ne : PySem.W.findIn K (.ref C) "__ne__" = some (some (.builtin "object.__ne__"))
  ob : PySem.W.mroIn K C (.type "object") = some true
  at_ : PySem.W.findIn K (.ref C) "__eq__" = some (some (.ref f))
  fn : PySem.W.isFn K (.ref f) = true
def oOwnN (c : Cn) (t : CmpT) (ct : Ct) : O2 := fun d e Γ Q E => match t.ok e with
  | true => oOwn c ct d e Γ (fun r Γ1 => match r with
    | .bl b => Q (.bl (!b)) Γ1
    | _ => False) E
  | false => False
theorem ol_cmpN {c : Cn} {t : CmpT} {ct : Ct} {f : Addr} {kk : Nat} (hK : F.K = X.K) (hr : Room kk X.A) (T : CmpOk F.toCf c t) (o1 : OwnNe F.K (F.cl c) f) (C : CodeOk X X.A.in1 F.toCf f 2 [] ct) (tk : Takes X (wOf F E)) : OpL X F E (compareOp .NotEq) (oOwnN c t ct) := by
  intro pins s σ H G Γ x y v u d e Q I k rv ru rx ry q
  unfold oOwnN at q
  split at q
  · rename_i he
    unfold oOwn at q
    split at q
    · rename_i hd
      obtain ⟨a, ox, od, rfl, J⟩ := inst_of I k hd rx rv
      obtain ⟨m, hF⟩ := I.fr
      obtain ⟨ty, h1, h2⟩ := T.get he
      have h := run2 (Q := fun r Γ1 => match r with
        | .bl b => Q (.bl (!b)) Γ1
        | _ => False) C tk I k rv ru rx ry q
      refine PySem.W.q_ne_K (tb := ty) (by have := hr.units; omega) hF (hK ▸ I.ok.mod.kin) J (looks_ty hK I k h1 ry ru _) h2 o1.ne o1.ob o1.at_ o1.fn (wpAny_mono h (fun w s' z => ?_) fun _ _ x => x)
      obtain ⟨z', H', I', rz, d', Γ', G', q', i', k', r'⟩ := z
      split at q'
      · rename_i b
        cases (show z' = .bl b from r')
        cases rz
        exact ⟨b, rfl, .bl (!b), H', I', rfl, _, Γ', G', q', i', k', rfl⟩
      · exact q'.elim
    · exact q.elim
  · exact q.elim
/-! ### built-ins -/
abbrev ON := List D → Env → (D → Env → Prop) → XP → Prop
def BlL (X : Cx) (F : Fx) (E : XP) (f : Value) (o : ON) : Prop := ∀ (pins : List (Addr × Obj)) (s : Shared) (σ : St) (H G : Hp) (Γ : Env) (vs : List V) (us : List Value) (ds : List D) (Q : D → Env → Prop), Inv X pins σ H s → Ok F G H σ Γ → Vals vs us → Reps F.toCf G ds vs → o ds Γ Q E →
    wpAny (model X.prog X.w) X.A (call f us) (EP X pins σ (Fin F G σ Q)) X.xe s
def qB (o : ON) (p : QA) : QE := fun Γ Q E => p Γ (fun ds Γ1 => o ds Γ1 Q E) E
theorem le_b {id : String} {f : ON} {x : Str} (ho : BlL X F E (.builtin id) f) (ha : LA X F E (a :: es) pr) (hm : X.mg x = none) (hg : Gl X x := by rfl) (hv : bootBuiltins x = some (.builtin id) := by rfl) (hn : x ≠ "__name__" := by decide) (hdb : (x == ("__debug__" : Str)) = false := by decide)
    (he : starEach (a :: es) X.env = (false, eval a X.env) :: starEach es X.env := by rfl) (hpl : (backTo pos (starEach es X.env)).any (·.1) = false := by rfl) : LE X F E (.Call (.Name x p0) (a :: es) [] pos) (qB f pr) := by
  refine ⟨fun pins s σ H G Γ Q I k h => ?_⟩
  refine wpAny_Call_Name_kw (ld_blt I hg hm hv ?_ hn hdb)
  exact PyProof.Rows.callWith_builtin1 (thn (ha.run pos pins s σ H G Γ _ I k h) fun us s1 ⟨vs, H1, I1, r1, ds, Γ1, G1, q1, i1, k1, rp⟩ => thn (ho pins s1 σ H1 G1 Γ1 vs us ds Q I1 k1 r1 rp q1) fun u s2 z => ep_inc i1 z) he hpl
theorem le_bty {id : String} {f : ON} {x : Str} (ho : BlL X F E (.type id) f) (ha : LA X F E (a :: es) pr) (hm : X.mg x = none) (hg : Gl X x := by rfl) (hv : bootBuiltins x = some (.type id) := by rfl) (hn : x ≠ "__name__" := by decide) (hdb : (x == ("__debug__" : Str)) = false := by decide)
    (he : starEach (a :: es) X.env = (false, eval a X.env) :: starEach es X.env := by rfl) (hpl : (backTo pos (starEach es X.env)).any (·.1) = false := by rfl) : LE X F E (.Call (.Name x p0) (a :: es) [] pos) (qB f pr) := by
  refine ⟨fun pins s σ H G Γ Q I k h => ?_⟩
  refine wpAny_Call_Name_kw (ld_blt I hg hm hv ?_ hn hdb)
  exact PyProof.Rows.callWith_type1 (thn (ha.run pos pins s σ H G Γ _ I k h) fun us s1 ⟨vs, H1, I1, r1, ds, Γ1, G1, q1, i1, k1, rp⟩ => thn (ho pins s1 σ H1 G1 Γ1 vs us ds Q I1 k1 r1 rp q1) fun u s2 z => ep_inc i1 z) he hpl
theorem BlL.of {f : Value} {o : ON} {r : List V → Hp → VK → Prop} (h : CallR X f r) (i : ∀ σ H G Γ vs ds Q, Ok F G H σ Γ → Reps F.toCf G ds vs → o ds Γ Q E → r vs H (Fin F G σ Q)) : BlL X F E f o :=
  fun pins s σ H G Γ vs us ds Q I k rv rd q => h pins s σ H vs us _ I rv (i σ H G Γ vs ds Q k rd q)
theorem reps1 {G : Hp} {d : D} {vs : List V} (h : Reps F.toCf G [d] vs) : ∃ v, vs = [v] ∧ Rep F.toCf G d v := by
  obtain ⟨v, r, rfl, a, b⟩ := h
  cases (show r = [] from b)
  exact ⟨v, rfl, a⟩
theorem reps2 {G : Hp} {d e : D} {vs : List V} (h : Reps F.toCf G [d, e] vs) : ∃ v w, vs = [v, w] ∧ Rep F.toCf G d v ∧ Rep F.toCf G e w := by
  obtain ⟨v, r, rfl, a, b⟩ := h
  obtain ⟨w, rfl, b'⟩ := reps1 b
  exact ⟨v, w, rfl, a, b'⟩
def oAbs : ON := fun ds Γ Q _ => match ds with
  | [.int i] => Q (.int (if i < 0 then -i else i)) Γ
  | _ => False
theorem bl_abs : BlL X F E (.builtin "abs") oAbs := BlL.of call_abs fun σ H G Γ vs ds Q k rd q => by
  unfold oAbs at q
  split at q
  · obtain ⟨v, rfl, r⟩ := reps1 rd
    cases (show v = _ from r)
    exact ⟨_, rfl, fin0 k q rfl⟩
  · exact q.elim
def oMax : ON := fun ds Γ Q _ => match ds with
  | [.int i, .int j] => Q (.int (if j > i then j else i)) Γ
  | _ => False
def oMin : ON := fun ds Γ Q _ => match ds with
  | [.int i, .int j] => Q (.int (if j < i then j else i)) Γ
  | _ => False
theorem bl_max (hc : X.calm = true) : BlL X F E (.builtin "max") oMax := BlL.of (call_max2 hc) fun σ H G Γ vs ds Q k rd q => by
  unfold oMax at q
  split at q
  · obtain ⟨v, w, rfl, r, r2⟩ := reps2 rd
    cases (show v = _ from r)
    cases (show w = _ from r2)
    exact ⟨_, _, rfl, fin0 k q rfl⟩
  · exact q.elim
theorem bl_min (hc : X.calm = true) : BlL X F E (.builtin "min") oMin := BlL.of (call_min2 hc) fun σ H G Γ vs ds Q k rd q => by
  unfold oMin at q
  split at q
  · obtain ⟨v, w, rfl, r, r2⟩ := reps2 rd
    cases (show v = _ from r)
    cases (show w = _ from r2)
    exact ⟨_, _, rfl, fin0 k q rfl⟩
  · exact q.elim
def oInt : ON := fun ds Γ Q _ => match ds with
  | [.int i] => Q (.int i) Γ
  | [.bl b] => Q (.int (if b then 1 else 0)) Γ
  | _ => False
theorem bl_int : BlL X F E (.type "int") oInt := BlL.of call_int1 fun σ H G Γ vs ds Q k rd q => by
  unfold oInt at q
  split at q
  · obtain ⟨v, rfl, r⟩ := reps1 rd
    cases (show v = _ from r)
    exact .inl ⟨_, rfl, fin0 k q rfl⟩
  · obtain ⟨v, rfl, r⟩ := reps1 rd
    cases (show v = _ from r)
    exact .inr ⟨_, rfl, fin0 k q rfl⟩
  · exact q.elim
def oLen : ON := fun ds Γ Q _ => match ds with
  | [.lst xs] => Q (.int xs.length) Γ
  | [.tup xs] => Q (.int xs.length) Γ
  | [.scr xs] => Q (.int xs.length) Γ
  | [.str x] => x.length ≤ 100000 ∧ Q (.int x.length) Γ
  | _ => False
theorem bl_len (hK : F.K = X.K) : BlL X F E (.builtin "len") oLen := BlL.of L2.call_len fun σ H G Γ vs ds Q k rd q => by
  unfold oLen at q
  split at q
  · obtain ⟨v, rfl, r⟩ := reps1 rd
    obtain ⟨a, ws, rfl, g, rs⟩ := r
    exact ⟨_, _, rfl, .inl ⟨ws, SqL.of (k.sub.m g), rfl⟩, by rw [rs.len]; exact fin0 k q rfl⟩
  · obtain ⟨v, rfl, r⟩ := reps1 rd
    obtain ⟨a, ws, rfl, g, rs⟩ := r
    exact ⟨_, _, rfl, .inr ⟨ws, hK ▸ k.sub.t g, rfl⟩, by rw [rs.len]; exact fin0 k q rfl⟩
  · obtain ⟨v, rfl, r⟩ := reps1 rd
    obtain ⟨a, rfl, g⟩ := r
    exact ⟨_, _, rfl, .inl ⟨_, hK ▸ k.sub.l g, rfl⟩, by rw [List.length_map]; exact fin0 k q rfl⟩
  · obtain ⟨v, rfl, r⟩ := reps1 rd
    cases (show v = _ from r)
    exact ⟨_, _, rfl, ⟨szl q.1, rfl⟩, fin0 k q.2 rfl⟩
  · exact q.elim
end
end Q

set_option Elab.async false
set_option linter.all false
set_option maxRecDepth 100000
set_option maxHeartbeats 4000000
namespace Q
open PySem L2 PySem.Spec PyProof.Rows
/-! ## 10. Errors -/
section
variable {X : Cx} {e : Expr} {es : List Expr} {ta : TA} {p p1 p2 p3 p4 p5 p6 p7 p8 p9 pos : Pos}
/-- B.__init__(self, ..), B an own error class without an __init__ of its own -/
structure ErrB (K : PySem.W.Frag) (B : Addr) : Prop where
  sp : PySem.W.specialIn K (.ref B) "__getattribute__" = some (some (.builtin "type.__getattribute__"))
  rd : PySem.W.readsIn K B (.type "type") = true
  at_ : PySem.W.findCls K (.ref B) (.type "type") "__init__" = some (.val (.builtin "ValueError.__init__"))
theorem pe_errinit {pl : Sem Bool} {B : Addr} {x : Str} (T : ErrB X.K B) (hg : Gl X x) (hm : X.mg x = some (.ref B)) (ha : PA X (e :: es) ta) (hdb : (x == ("__debug__" : Str)) = false := by decide)
    (hc : eval (.Call (.Attribute (.Name x p1) "__init__" p2) (e :: es) [] pos) X.env = (do
      let ov ← eval (.Name x p1) X.env
      standAt p2.atName
      let (f, first) ← holding [ov] (getMethod ov "__init__" pl)
      callWith pos f first (backTo pos (starEach (e :: es) X.env)) (backToKw pos (keywordEach [] X.env))) := by rfl)
    (he : starEach (e :: es) X.env = (false, eval e X.env) :: starEach es X.env := by rfl) (hpl : (backTo pos (starEach es X.env)).any (·.1) = false := by rfl) :
    PE X (.Call (.Attribute (.Name x p1) "__init__" p2) (e :: es) [] pos) (tVeI X.K ta) := by
  refine ⟨fun pins s σ H Q I h => ?_⟩
  refine PySem.W.methodCall_KW (ld_glob I hg hm ?_ hdb) hc
  refine PySem.W.method_cls I.kIn T.sp (PySem.W.cls_value I.kIn T.rd T.at_ (by decide +kernel) ?_)
  show wpAny _ _ (callWith pos (Value.builtin "ValueError.__init__") [] (backTo pos (starEach (e :: es) X.env)) []) _ _ _
  refine PyProof.Rows.callWith_method1 (thn (ha.run pos pins _ σ H _ (I.tok _) h) fun us s1 ⟨vs, H1, I1, r1, a, C, ws, ev, hl, T, ea, q⟩ => ?_) he hpl
  subst ev
  cases r1 with
  | @cons _ u0 _ ur ra rw' =>
    obtain rfl : u0 = Value.ref a := ra
    have hlen : ur.length ≤ sizeLine := by
      rw [← Paired.length rw', sizeLine_eq]
      omega
    exact oinit_ok T I1 ea hlen fun s' J => ⟨.non, H1, J, rfl, q⟩
/-- what the __init__ of an error does: no field, one field -/
def spE0 (C : Addr) : Sp := fun vs H Q _ => ∃ a, vs = [.ref a] ∧ H a = some (exo a C none) ∧ Q .non H
def spE1 (C : Addr) (f : Str) : Sp := fun vs H Q _ => ∃ a y, vs = [.ref a, y] ∧ H a = some (exo a C none) ∧ ∀ dx, H dx = none → dx ≠ a → Q .non (upd (upd H dx (exd dx [(f, y)])) a (exo a C (some dx)))
end
section
variable {P : Program} {w : World} {K : PySem.W.Frag} {mg : Str → Option Value} {base : Heap} {CX : CXT} {p1 p2 p3 p4 p5 p6 p7 p8 p9 p1' : Pos}
theorem err_fn0 {qual txt : Str} {params : Arguments} {scope : Scope} {f C Bc : Addr} {fd : FuncData} {j : Nat} (Fn : FunD K "__init__" qual params [.Expr (.Call (.Attribute (.Name "FilterError" p1) "__init__" p2) [.Name "self" p3, .Constant (.str txt) j p4] [] p5) p6] scope [] [] f fd)
    (hev : ∀ env : PySem.Env, ∃ pl : Sem Bool, eval (.Call (.Attribute (.Name "FilterError" p1) "__init__" p2) [.Name "self" p3, .Constant (.str txt) j p4] [] p5) env = (do
      let ov ← eval (.Name "FilterError" p1) env
      standAt p2.atName
      let (f, first) ← holding [ov] (getMethod ov "__init__" pl)
      callWith p5 f first (backTo p5 (starEach [.Name "self" p3, .Constant (.str txt) j p4] env)) (backToKw p5 (keywordEach [] env))))
    (S : FnScope ["self"] ["self"] scope) (T : ErrB K Bc) (O : OexC K C) (hm : mg "FilterError" = some (.ref Bc)) (hgB : scope.names.lookup ("FilterError" : Str) = some NameKind.globalImplicit) (hself : scope.names.lookup ("self" : Str) = some NameKind.local) :
    FnOk P w K mg base CX 1 f fd ["self"] (spE0 C) := by
  refine Fn.ok (k := 0) S (fun vs H Q E ⟨a, e, _⟩ => by rw [e]; rfl) fun cdv A outer s H vs Q E hr h => ?_
  obtain ⟨a, rfl, ha, q⟩ := h
  obtain ⟨pl, hev⟩ := hev (envOfC qual scope s.heap.objs.size f cdv)
  refine ⟨_, pss_one (ps_expr (pe_errinit T ?_ hm (pa_cons (pe_var (i := 0) rfl ?_ (by decide) (by decide)) (pa_cons pe_str pa_nil)) (by decide) hev)), ?_⟩
  · first | exact hgB | (show (envOfC qual scope s.heap.objs.size f cdv).kindOf B = _; exact hgB)
  · exact Or.inl hself
  · exact ⟨.ref a, rfl, a, C, [.str txt], rfl, by simp, O, ha, q⟩
theorem err_fn1 {qual txt g fl : Str} {params : Arguments} {scope : Scope} {f C Bc : Addr} {fd : FuncData} {j : Nat} (Fn : FunD K "__init__" qual params [.Expr (.Call (.Attribute (.Name "FilterError" p1) "__init__" p2) [.Name "self" p3, .Constant (.str txt) j p4] [] p5) p6, .Assign [.Attribute (.Name "self" p7) fl p8] (.Name g p9) p1'] scope [] [] f fd)
    (hev : ∀ env : PySem.Env, ∃ pl : Sem Bool, eval (.Call (.Attribute (.Name "FilterError" p1) "__init__" p2) [.Name "self" p3, .Constant (.str txt) j p4] [] p5) env = (do
      let ov ← eval (.Name "FilterError" p1) env
      standAt p2.atName
      let (f, first) ← holding [ov] (getMethod ov "__init__" pl)
      callWith p5 f first (backTo p5 (starEach [.Name "self" p3, .Constant (.str txt) j p4] env)) (backToKw p5 (keywordEach [] env))))
    (S : FnScope ["self", g] ["self", g] scope) (T : ErrB K Bc) (O : OexC K C) (hm : mg "FilterError" = some (.ref Bc)) (hgB : scope.names.lookup ("FilterError" : Str) = some NameKind.globalImplicit) (hself : scope.names.lookup ("self" : Str) = some NameKind.local) (hgg : scope.names.lookup g = some NameKind.local)
    (hd1 : (g == ("__debug__" : Str)) = false) (hd2 : (g == ("__classdict__" : Str)) = false) (hno : PySem.W.findIn K (.ref C) fl = some none) : FnOk P w K mg base CX 1 f fd ["self", g] (spE1 C fl) := by
  refine Fn.ok (k := 0) S (fun vs H Q E ⟨a, y, e, _⟩ => by rw [e]; rfl) fun cdv A outer s H vs Q E hr h => ?_
  obtain ⟨a, y, rfl, ha, q⟩ := h
  obtain ⟨pl, hev⟩ := hev (envOfC qual scope s.heap.objs.size f cdv)
  refine ⟨_, pss_cons (ps_expr (pe_errinit T ?_ hm (pa_cons (pe_var (i := 0) rfl ?_ (by decide) (by decide)) (pa_cons pe_str pa_nil)) (by decide) hev)) (pss_one (ps_ost (pe_var (i := 0) rfl ?_ (by decide) (by decide)) (pe_var (i := 1) rfl ?_ hd1 hd2))), ?_⟩
  · exact hgB
  · exact Or.inl hself
  · exact Or.inl hself
  · exact Or.inl hgg
  · refine ⟨.ref a, rfl, a, C, [.str txt], rfl, by simp, O, ha, ?_⟩
    exact ⟨y, rfl, .ref a, rfl, a, C, rfl, O, hno, .inl ⟨ha, q⟩⟩
end
end Q

set_option Elab.async false
set_option linter.all false
set_option maxRecDepth 100000
set_option maxHeartbeats 4000000
namespace Q
open PySem L2 PySem.Spec PyProof.Rows
section
variable {X : Cx} {o e : Expr} {es : List Expr} {to te : TE} {ta : TA} {f : Str} {p p' p1 p2 pos : Pos}
/-- the end of C(): the exception is let go, it has no dict -/
theorem mk_endN {pins : List (Addr × Obj)} {σ : St} {H1 H2 : Hp} {Q : XK} {hp hp2 h2 : Heap} {g1 g2 : Array GenState} {d1 d2 : Drawn} {t1 t2 : Nat} {os1 os2 : OsState} {a C : Addr} (T : Raises X (.ref C)) (I1 : Inv X pins σ H1 ⟨hp, g1, d1, t1, os1⟩)
    (ha : hp.objs.size ≤ a) (k : ∀ b o, hp.get? b = some o → hp2.get? b = some o) (un : Un (frs X.stack) [] (upd H1 a (exo a C none)) H2 hp2 h2) (hok : HOk X.prog X.w H2 h2) (ho : os2 = os1) (hb : AllBare g2)
    (ea : H2 a = some (exo a C none)) (q : Q (.ref C) none (del H2 a)) : MkP X pins σ Q (.ref a) ⟨h2, g2, d2, t2, os2⟩ := by
  obtain ⟨t0, hoe⟩ := exo_at hok ea
  have hn : H1 a = none := I1.hok.fresh ha
  obtain ⟨G, g1', g2'⟩ := restrict h2 fun b => decide (b ≠ a)
  have gk : ∀ b, b ≠ a → G.get? b = h2.get? b := fun b hb => g1' b (decide_eq_true hb)
  have ge : G.get? a = none := g2' a (by simp)
  have nha : ∀ {b : Addr} {o : Obj}, hp.get? b = some o → b ≠ a := fun {b o} z => Nat.ne_of_lt (Nat.lt_of_lt_of_le (Heap.lt_size z) ha)
  have up : ∀ {b : Addr}, b ≠ a → H1 b = none → upd H1 a (exo a C none) b = none := fun {b} hb n => by rw [upd_ne hb]; exact n
  have U : Un (frs X.stack) [] H1 (del H2 a) hp G := {
    keep := fun b o z n hf hx => by
      rw [gk b (nha z)]
      exact un.keep b o (k b o z) (up (nha z) n) hf hx
    slot := fun b o z n hf hx => by
      rw [gk b (nha z)]
      exact un.slot b o (k b o z) (up (nha z) n) hf hx
    free := fun b o z n hx => by
      rw [del_ne (nha z)]
      exact un.free b o (k b o z) (up (nha z) n) hx
    there := fun b o z hx => by
      rw [gk b (nha z)]
      exact un.there b o (k b o z) hx
    tups := fun b xs z => by
      rw [del_ne (ne_of_none z hn)]
      exact un.tups b xs (by rw [upd_ne (ne_of_none z hn)]; exact z)
    frzs := fun b o v z => by
      rw [del_ne (ne_of_none z hn)]
      exact un.frzs b o v (by rw [upd_ne (ne_of_none z hn)]; exact z)
    tbls := fun b ps z => by
      rw [del_ne (ne_of_none z hn)]
      exact un.tbls b ps (by rw [upd_ne (ne_of_none z hn)]; exact z) }
  have hok3 : HOk X.prog X.w (del H2 a) G := fun b o z => by
    have hba : b ≠ a := fun e => by
      rw [e, del_same] at z
      cases z
    rw [del_ne hba] at z
    have noa : ∀ {c : Addr}, H2 c = some (.own b) → c ≠ a := fun {c} hc => at_ne ea hc exo_own
    exact (hok b o z).stay (fun c v hc y => by
        have hca : c ≠ a := by
          rcases hc with hc | hc
          · rw [hc]
            exact hba
          · exact noa hc
        rw [gk c hca]
        exact y)
      (fun c hc => by rw [del_ne (noa hc)]; exact hc) (fun c xs hc => by rw [del_ne (at_ne ea hc exo_tup)]; exact hc)
  have J : Inv X pins σ (del H2 a) ⟨G, g2, d2, t2, os2⟩ := I1.call' (ch := []) ho U hok3 hb (fun b z => absurd z (by simp))
  refine ⟨a, _, _, ⟨G, g2, d2, t2, os2⟩, _, .ref C, none, rfl, J, fun b o z => ?_, ge, hoe, ⟨rfl, rfl⟩, rfl, rfl, del_same, rfl, hb, T, q⟩
  by_cases hba : b = a
  · rw [hba, ge] at z
    cases z
  · exact (gk b hba).symm.trans z
theorem pmk_err0 {CX : CXT} {x : Str} {C fI : Addr} {k : Nat} {fd : FuncData} {ps : List Str} (T : OexC X.K C) (iC : PySem.W.findIn X.K (.ref C) "__init__" = some (some (.ref fI))) (tI : PySem.W.typeIn X.K (.ref fI) = some (.type "function"))
    (F1 : FnOk X.prog X.w X.K X.mg X.base CX k fI fd ps (spE0 C)) (hr : Room (k + 1) X.A) (hb : Binds X.K fd ps []) (hx : Passes CX X (fun _ _ _ => False)) (hg : Gl X x) (hm : X.mg x = some (.ref C))
    (hdb : (x == ("__debug__" : Str)) = false := by decide) :
    PMk X (.Call (.Name x p) [] [] pos) (fun σ H Q => Q (.ref C) none H) := by
  intro pins s σ H Q I q1
  obtain ⟨nm, q, N, bs, bm, sn, sub, ab, col, dd, k0, k1, k2, k3, k5, hC, hbm⟩ := T.cls
  refine wpAny_Call_Name_kw (ld_glob I hg hm ?_ hdb)
  refine PySem.W.callWith_K0 I.kIn T.kC ?_
  show wpAny _ _ (call (.ref C) []) _ _ _
  obtain ⟨hp, g, dr, tk, os⟩ := s
  have hsz : hp.objs.size ≤ hp.objs.size + 1 := Nat.le_succ _
  have hn : H (hp.objs.size + 1) = none := I.hok.fresh hsz
  have hq : spE0 C [.ref (hp.objs.size + 1)] (upd H (hp.objs.size + 1) (exo (hp.objs.size + 1) C none)) (fun v H2 => v = .non ∧ H2 (hp.objs.size + 1) = some (exo (hp.objs.size + 1) C none) ∧ Q (.ref C) none (del H2 (hp.objs.size + 1))) (fun _ _ _ => False) := by
    refine ⟨_, rfl, upd_same, rfl, upd_same, ?_⟩
    have e : del (upd H (hp.objs.size + 1) (exo (hp.objs.size + 1) C none)) (hp.objs.size + 1) = H := by
      funext b
      by_cases h : b = hp.objs.size + 1
      · subst h; rw [del_same, hn]
      · rw [del_ne h, upd_ne h]
    rw [e]; exact q1
  have kk : ∀ b o, hp.get? b = some o → ((hp.push (PySem.W.kdv_tup [])).push (PySem.HandSPX.excO C hp.objs.size)).get? b = some o := fun b o e => Heap.get?_push_of_some _ (Heap.get?_push_of_some _ e)
  have hget : ((hp.push (PySem.W.kdv_tup [])).push (PySem.HandSPX.excO C hp.objs.size)).get? (hp.objs.size + 1) = some (PySem.HandSPX.excO C hp.objs.size) := by heap_get
  have I2 : Inv X pins σ (upd H (hp.objs.size + 1) (exo (hp.objs.size + 1) C none)) ⟨(hp.push (PySem.W.kdv_tup [])).push (PySem.HandSPX.excO C hp.objs.size), g, dr, tk, os⟩ :=
    I.laid (t' := tk) (a := hp.objs.size + 1) (o := exo (hp.objs.size + 1) C none) (h' := (hp.push (PySem.W.kdv_tup [])).push (PySem.HandSPX.excO C hp.objs.size)) kk hsz (exo_ok hget)
  have r2 : Vals [V.ref (hp.objs.size + 1)] [Value.ref (hp.objs.size + 1)] := .cons rfl .nil
  have hl : ([Value.ref (hp.objs.size + 1)] ++ []).length = ps.length := by
    have e := r2.length
    rw [F1.len _ _ _ _ hq] at e
    exact e.symm
  refine wpAny_call (PySem.HandSPX.call_own F.excBase_ValueError (fun Y => PySem.HandSPX.refsVE_contains Y bm hbm) (I.kIn _ _ hC) (PySem.W.looks_findIn I.kIn iC) (fun self => PySem.W.bind_fn I.kIn self tI) (Nat.zero_le _)
    (codeAny_mono (F1.run _ X.stack _ _ ⟨[Value.ref (hp.objs.size + 1)], []⟩ [Value.ref (hp.objs.size + 1)] _ _ (fun _ _ _ => False) (hr.make C [] []) (I2.env0.make C [] []) (hb _ [Value.ref (hp.objs.size + 1)] I2.kIn hl) r2 hq) fun r s' hq' => ?_))
  cases r with
  | error er => exact hx pins σ _ _ er s' I2 hq'
  | ok fl =>
    cases fl with
    | ret u =>
      obtain ⟨v, H2, os2, bare2, un2, hok2, rv, ev, ea, q2⟩ := hq'
      subst ev
      obtain ⟨h2, g2, d2, t2, os'⟩ := s'
      exact ⟨rv, mk_endN (raises_own T.exC T.tyC) I hsz kk un2 hok2 os2 bare2 ea q2⟩
    | next => exact False.elim hq'
    | brk => exact False.elim hq'
    | cont => exact False.elim hq'
end
/-- all that is known of an error class without a field: f its __init__ -/
structure Er0 (P : Program) (w : World) (Fc : Cf) (mg : Str → Option Value) (base : Heap) (c : Cn) (f : Addr) (fd : FuncData) (ps : List Str) : Prop where
  o : OexC Fc.K (Fc.cl c)
  i : PySem.W.findIn Fc.K (.ref (Fc.cl c)) "__init__" = some (some (.ref f))
  t : PySem.W.typeIn Fc.K (.ref f) = some (.type "function")
  b : Binds Fc.K fd ps []
  fn : FnOk P w Fc.K mg base (L2.CX P w) 1 f fd ps (spE0 (Fc.cl c))
structure Er1 (P : Program) (w : World) (Fc : Cf) (mg : Str → Option Value) (base : Heap) (c : Cn) (g : Str) (f : Addr) (fd : FuncData) (ps : List Str) : Prop where
  o : OexC Fc.K (Fc.cl c)
  i : PySem.W.findIn Fc.K (.ref (Fc.cl c)) "__init__" = some (some (.ref f))
  t : PySem.W.typeIn Fc.K (.ref f) = some (.type "function")
  b : Binds Fc.K fd ps []
  fl : c.fields = [g]
  fn : FnOk P w Fc.K mg base (L2.CX P w) 1 f fd ps (spE1 (Fc.cl c) g)
def qRaise0 (c : Cn) : QS := fun Γ _ E => E ⟨c, []⟩ Γ
def qRaise1 (c : Cn) (p : QE) : QS := fun Γ _ E => p Γ (fun d Γ1 => E ⟨c, [d]⟩ Γ1) E
section
variable {X : Cx} {F : Fx} {E : XP} {a : Expr} {pa : QE} {p pos pos' : Pos}
theorem pass0 {X : Cx} {W : WX} (tk : Takes X W) : Passes (L2.CX X.prog X.w) X (fun _ _ _ => False) := fun pins σ H s e s' I c => tk e s' (XE.of_call I (fun _ _ _ h => h.elim) c)
theorem ls_raise0 {c : Cn} {x : Str} {f : Addr} {fd : FuncData} {ps : List Str} {k : Nat} (T : Er0 X.prog X.w F.toCf X.mg X.base c f fd ps) (hK : F.K = X.K) (hr : Room (k + 2) X.A) (hc : X.calm = true) (tk : Takes X (wOf F E)) (hm : X.mg x = some (.ref (F.cl c))) (hg : Gl X x := by rfl) (hdb : (x == ("__debug__" : Str)) = false := by decide) :
    LS X F E (.Raise (some (.Call (.Name x p) [] [] pos)) none pos') (qRaise0 c) :=
  LS.of (ps_raise hc tk (pmk_err0 (hK ▸ T.o) (hK ▸ T.i) (hK ▸ T.t) (hK ▸ T.fn) (hr.mono (by omega)) (hK ▸ T.b) (pass0 tk) hg hm hdb)) fun σ H G Γ P k q => ⟨G, Γ, ⟨c, []⟩, k, ⟨rfl, .inl rfl⟩, q⟩
theorem ls_raise1 {c : Cn} {x g : Str} {f : Addr} {fd : FuncData} {ps : List Str} {k : Nat} (T : Er1 X.prog X.w F.toCf X.mg X.base c g f fd ps) (hK : F.K = X.K) (hr : Room (k + 2) X.A) (hc : X.calm = true) (tk : Takes X (wOf F E)) (ha : LE X F E a pa) (hm : X.mg x = some (.ref (F.cl c))) (hg : Gl X x := by rfl) (hdb : (x == ("__debug__" : Str)) = false := by decide)
    (he : starEach [a] X.env = (false, eval a X.env) :: starEach [] X.env := by rfl) (hpl : (backTo pos (starEach [] X.env)).any (·.1) = false := by rfl) :
    LS X F E (.Raise (some (.Call (.Name x p) [a] [] pos)) none pos') (qRaise1 c pa) :=
  LS.of (ps_raise hc tk (pmk_oex (ds := []) (dvs := []) (hK ▸ T.o) (hK ▸ T.i) (hK ▸ T.t) (hK ▸ T.fn) (hr.mono (by omega)) (hK ▸ T.b) .nil (pass0 tk) hg hm (pa_cons ha.pe pa_nil he) hdb he hpl)) fun σ H G Γ P k q => ⟨G, Γ, _, k, q, fun w H' ⟨d, Γ', G', q', i, k', r⟩ => by
    refine ⟨by simp, fun b hb => ⟨b, w, by simp, upd_same, fun dx hdx ne => ?_⟩⟩
    have hdx' : H' dx = none := by rw [upd_ne ne] at hdx; exact hdx
    refine ⟨rfl, dx, [(g, w)], upd_same, by rw [upd_ne ne, upd_same], hdx', ?_⟩
    have eH : upd (del (upd (upd (upd H' b (exo b (F.cl c) none)) dx (exd dx [(g, w)])) b (exo b (F.cl c) (some dx))) b) dx (.xd [(g, w)]) = upd H' dx (.xd [(g, w)]) := by
      funext z
      by_cases h1 : z = dx
      · subst h1; rw [upd_same, upd_same]
      · rw [upd_ne h1, upd_ne h1]
        by_cases h2 : z = b
        · subst h2; rw [del_same, hb]
        · rw [del_ne h2, upd_ne h2, upd_ne h1, upd_ne h2]
    rw [eH]
    exact ⟨G', Γ', ⟨c, [d]⟩, k'.new0 hdx' _, ⟨rfl, .inr ⟨dx, [w], rfl, by rw [upd_same, T.fl]; rfl, w, [], rfl, r, rfl⟩⟩, q'⟩⟩
end
end Q

set_option Elab.async false
set_option linter.all false
set_option maxRecDepth 100000
set_option maxHeartbeats 4000000
namespace Q
open PySem L2 PySem.Spec PyProof.Rows
/-! ## 11. try -/
def noX : Env → Bool
  | [] => true
  | .exc _ _ :: _ => false
  | _ :: r => noX r
def offI (Γ : Env) (i : Nat) : Bool := match Γ[i]? with
  | some (.own _) => false
  | some (.bor _) => false
  | none => false
  | some _ => true
theorem offI_ok {Γ : Env} {i : Nat} (h : offI Γ i = true) : nomut Γ i := by
  intro s e
  unfold offI at h
  rw [e] at h
  cases s <;> first | rfl | cases h
def withX (F : Fx) (a : Addr) (d : Option Addr) (c : Cn) : Fx := { F with xa := a, xd := d, xc := c }
def withG0 (F : Fx) (G : Hp) : Fx := { F with G0 := G }
theorem slots_x {F F' : Fx} {G H : Hp} (h1 : F'.toCf = F.toCf) (h2 : F'.H0 = F.H0) (h3 : F'.B = F.B) : ∀ {σ : St} {Γ : Env}, noX Γ = true → Slots F G H σ Γ → Slots F' G H σ Γ
  | [], [], _, _ => trivial
  | v :: σ, s :: Γ, n, h => by
    have n' : noX Γ = true := by
      cases s with
      | exc c fs => cases n
      | _ => exact n
    refine ⟨?_, slots_x h1 h2 h3 n' h.2⟩
    have h0 := h.1
    cases s with
    | exc c fs => cases n
    | no => cases v <;> trivial
    | val d =>
      cases v with
      | none => exact h0
      | some v => show Rep F'.toCf G d v; rw [h1]; exact h0
    | own o =>
      cases v with
      | none => exact h0
      | some v =>
        obtain ⟨b, e, g, m, z⟩ := h0
        exact ⟨b, e, g, h1 ▸ m, h2 ▸ z⟩
    | bor o =>
      cases v with
      | none => exact h0
      | some v =>
        obtain ⟨b, e, g, m, z⟩ := h0
        exact ⟨b, e, g, h1 ▸ m, h3 ▸ z⟩
  | [], _ :: _, _, h => h.elim
  | _ :: _, [], _, h => h.elim
section
variable {X : Cx} {F : Fx} {E : XP} {G H : Hp} {σ : St} {Γ : Env}
theorem Ok.toX (k : Ok F G H σ Γ) (n : noX Γ = true) (a : Addr) (d : Option Addr) (c : Cn) : Ok (withX F a d c) G H σ Γ :=
  ⟨k.sub, k.g0, k.fresh, k.frame, k.bor, slots_x (F := F) (F' := withX F a d c) rfl rfl rfl n k.slots, k.nd, k.pin, k.pl⟩
theorem Ok.ofX {a : Addr} {d : Option Addr} {c : Cn} (k : Ok (withX F a d c) G H σ Γ) (n : noX Γ = true) : Ok F G H σ Γ :=
  ⟨k.sub, k.g0, k.fresh, k.frame, k.bor, slots_x (F := withX F a d c) (F' := F) rfl rfl rfl n k.slots, k.nd, k.pin, k.pl⟩
theorem slots_g {F : Fx} {G1 G H : Hp} : ∀ {σ : St} {Γ : Env}, Slots F G H σ Γ ↔ Slots (withG0 F G1) G H σ Γ := by
  have key : ∀ (v : Option V) (s : Slot), SlotOk F G H v s ↔ SlotOk (withG0 F G1) G H v s := by
    intro v s
    cases v <;> cases s <;> exact Iff.rfl
  intro σ
  induction σ with
  | nil => intro Γ; cases Γ <;> exact Iff.rfl
  | cons v σ ih =>
    intro Γ
    cases Γ with
    | nil => exact Iff.rfl
    | cons s Γ => exact and_congr (key v s) ih
theorem Ok.toG (k : Ok F G H σ Γ) : Ok (withG0 F G) G H σ Γ :=
  ⟨k.sub, Inc.refl G, fun a o e => .inl e, k.frame, k.bor, slots_g.mp k.slots, k.nd, k.pin, k.pl⟩
theorem Ok.ofG {G1 H1 : Hp} {σ1 : St} {Γ1 : Env} (k0 : Ok F G1 H1 σ1 Γ1) (k : Ok (withG0 F G1) G H σ Γ) : Ok F G H σ Γ :=
  ⟨k.sub, k0.g0.trans k.g0, fun a o e => (k.fresh a o e).elim (fun z => k0.fresh a o z) .inr, k.frame, k.bor, slots_g.mpr k.slots, k.nd, k.pin, k.pl⟩
/-- behind the suite: the exception's name is gone -/
def afterX (i : Nat) (P : PEnds) : PEnds where
  nx := fun Γ => match noX (Γ.set i .no) && offI Γ i with
    | true => P.nx (Γ.set i .no)
    | false => False
  rt := fun d Γ => match noX (Γ.set i .no) && offI Γ i with
    | true => P.rt d (Γ.set i .no)
    | false => False
  bk := fun Γ => match noX (Γ.set i .no) && offI Γ i with
    | true => P.bk (Γ.set i .no)
    | false => False
  ct := fun Γ => match noX (Γ.set i .no) && offI Γ i with
    | true => P.ct (Γ.set i .no)
    | false => False
theorem afterX_get {i : Nat} {Z : Env → Prop} {Γ : Env} (h : match noX (Γ.set i .no) && offI Γ i with | true => Z (Γ.set i .no) | false => False) : noX (Γ.set i .no) = true ∧ nomut Γ i ∧ Z (Γ.set i .no) := by
  split at h
  · rename_i e
    obtain ⟨a, b⟩ := Bool.and_eq_true_iff.mp e
    exact ⟨a, offI_ok b, h⟩
  · exact h.elim
def qTryAs (i : Nat) (t : List (Cn × Bool)) (tb ts : QS) : QS := fun Γ P E => tb Γ P fun x Γ1 => match lookC t x.c with
  | some true => match noX Γ1 && offI Γ1 i with
    | true => ts (Γ1.set i (.exc x.c x.fs)) (afterX i P) (fun _ _ => False)
    | false => False
  | some false => E x Γ1
  | none => False
def qTry (t : List (Cn × Bool)) (tb ts : QS) : QS := fun Γ P E => tb Γ P fun x Γ1 => match lookC t x.c with
  | some true => ts Γ1 P (fun _ _ => False)
  | some false => E x Γ1
  | none => False
def ExmOk (F : Cf) (cv : Value) (t : List (Cn × Bool)) : Prop := ∀ p ∈ t, PySem.W.exmOne F.K (.ref (F.cl p.1)) cv = some p.2
def tTb (F : Fx) (tb : QS) : WX → TS := fun W D σ H => ∃ G Γ P E', Ok F G H σ Γ ∧ tb Γ P E' ∧ (∀ cls d σ' H', wOf (withG0 F G) E' cls d σ' H' → W cls d σ' H') ∧ (∀ σ' H', (endsOf F G P).nx σ' H' → D.nx σ' H') ∧ (∀ v H', (endsOf F G P).rt v H' → D.rt v H') ∧
  (∀ σ' H', (endsOf F G P).bk σ' H' → D.bk σ' H') ∧ (∀ σ' H', (endsOf F G P).ct σ' H' → D.ct σ' H')
def tTs (F : Fx) (ts : QS) : Addr → Value → Option Addr → TS := fun a cls d D σ H => ∃ c G Γ P, cls = .ref (F.cl c) ∧ Ok (withX F a d c) G H σ Γ ∧ ts Γ P (fun _ _ => False) ∧ (∀ σ' H', (endsOf (withX F a d c) G P).nx σ' H' → D.nx σ' H') ∧ (∀ v H', (endsOf (withX F a d c) G P).rt v H' → D.rt v H') ∧
  (∀ σ' H', (endsOf (withX F a d c) G P).bk σ' H' → D.bk σ' H') ∧ (∀ σ' H', (endsOf (withX F a d c) G P).ct σ' H' → D.ct σ' H')
variable {x n : Str} {cv : Value} {i : Nat} {body suite : List Stmt} {b₀ : Stmt} {np pos pos' : Pos} {tb ts : QS} {t : List (Cn × Bool)}
theorem tr_body {pn : List (Addr × Obj)} {xe : Value → Shared → Prop} {W : WX} (tk : Takes (X.tr pn xe) W) (hp : PassesOwn (model X.prog X.w) X.A X.env xe)
    (hb : ∀ (G : Hp) (pn : List (Addr × Obj)) (xe : Value → Shared → Prop) (E' : XP), Takes (X.tr pn xe) (wOf (withG0 F G) E') → PassesOwn (model X.prog X.w) X.A X.env xe → LSs (X.tr pn xe) (withG0 F G) E' body tb) : PSs (X.tr pn xe) body (tTb F tb W) :=
  ⟨fun pins s σ H D I ⟨G, Γ, P, E', k, q, w, i1, i2, i3, i4⟩ => by
    have tk' : Takes (X.tr pn xe) (wOf (withG0 F G) E') := fun u s' ⟨a, B, sI, pins, σ, H', cls, d, e, I, nb, up, sky, na, os, ag, z⟩ => tk u s' ⟨a, B, sI, pins, σ, H', cls, d, e, I, nb, up, sky, na, os, ag, w _ _ _ _ z⟩
    refine thn ((hb G pn xe E' tk' hp).run pins s σ H G Γ P I k.toG q) fun f s' z => sp_imp z ?_ ?_ ?_ ?_
    · exact fun σ' H' ⟨Γ', G', a, b, c⟩ => i1 _ _ ⟨Γ', G', a, b, k.ofG c⟩
    · exact fun v H' ⟨d, Γ', G', σ', a, b, c, e⟩ => i2 _ _ ⟨d, Γ', G', σ', a, b, k.ofG c, e⟩
    · exact fun σ' H' ⟨Γ', G', a, b, c⟩ => i3 _ _ ⟨Γ', G', a, b, k.ofG c⟩
    · exact fun σ' H' ⟨Γ', G', a, b, c⟩ => i4 _ _ ⟨Γ', G', a, b, k.ofG c⟩⟩
theorem tr_suite {a : Addr} {oe : Obj} {cls : Value} {d : Option Addr} {pn : List (Addr × Obj)} (hsu : ∀ c : Cn, cls = .ref (F.cl c) → LSs (X.suite a ((a, oe) :: pn)) (withX F a d c) (fun _ _ => False) (b₀ :: suite) ts) : PSs (X.suite a ((a, oe) :: pn)) (b₀ :: suite) (tTs F ts a cls d) :=
  ⟨fun pins s σ H D I ⟨c, G, Γ, P, ec, k, q, i1, i2, i3, i4⟩ => thn ((hsu c ec).run pins s σ H G Γ P I k q) fun f s' z => sp_imp z i1 i2 i3 i4⟩
theorem slotX {G H : Hp} {x : Exn} {d : Option Addr} {a : Addr} {cls : Value} (h : XRep F.toCf G H x cls d) : SlotOk (withX F a d x.c) G H (some (.ref a)) (.exc x.c x.fs) :=
  ⟨rfl, rfl, h.2.imp id fun ⟨b, vs, e, h1, r⟩ => ⟨b, vs, e, h1, r⟩⟩
theorem ls_tryAs (i : Nat) {k0 : Nat} (T : ExmOk F.toCf cv t) (hK : F.K = X.K) (hs : X.stack = X.env :: X.outer) (hf : X.env.frame = some X.env.locals) (hN : X.N.Nodup) (hc : Names X x cv) (tk : Takes X (wOf F E))
    (hb : ∀ (G : Hp) (pn : List (Addr × Obj)) (xe : Value → Shared → Prop) (E' : XP), Takes (X.tr pn xe) (wOf (withG0 F G) E') → PassesOwn (model X.prog X.w) X.A X.env xe → LSs (X.tr pn xe) (withG0 F G) E' body tb)
    (hsu : ∀ (a : Addr) (oe : Obj) (cls : Value) (d : Option Addr) (pn : List (Addr × Obj)) (c : Cn), Zc cls d oe → (∃ vs, oe.data = .fields vs) → cls = .ref (F.cl c) → LSs (X.suite a ((a, oe) :: pn)) (withX F a d c) (fun _ _ => False) (b₀ :: suite) ts)
    (hi : X.N[i]? = some n := by rfl) (hln : X.env.kindOf n = some .local := by rfl) :
    LS X F E (.Try body [.ExceptHandler (some (.Name x np)) (some n) (b₀ :: suite) pos'] [] [] pos) (qTryAs i t tb ts) :=
  LS.of (ps_try_as (i := i) (tb := tTb F tb) (ts := tTs F ts) hs hf hN hi hln hc tk (fun W pn xe tk' hp => tr_body tk' hp hb) fun a oe cls d pn hz hv => tr_suite fun c ec => hsu a oe cls d pn c hz hv ec) fun σ H G Γ P k q => by
    refine ⟨G, Γ, P, _, k, q, fun cls d σ' H' ⟨G1, Γ1, xx, k1, xr, z⟩ => ?_, fun _ _ z => z, fun _ _ z => z, fun _ _ z => z, fun _ _ z => z⟩
    have i1 : Inc G G1 := k1.g0
    have k1' : Ok F G1 H' σ' Γ1 := k.ofG k1
    obtain ⟨ec, xr2⟩ := xr
    subst ec
    dsimp only at z
    split at z
    · rename_i hl
      refine ⟨true, hK ▸ T _ (lookC_mem hl), fun _ a ha => ?_, fun e => by cases e⟩
      split at z
      · rename_i hn
        obtain ⟨n1, n2⟩ := Bool.and_eq_true_iff.mp hn
        refine ⟨xx.c, G1, _, _, rfl, (k1'.toX n1 a d xx.c).setS (offI_ok n2) rfl (slotX ⟨rfl, xr2⟩), z, ?_, ?_, ?_, ?_⟩
        · rintro σ2 H2 ⟨Γ2, G2, q2, i2, k2⟩
          obtain ⟨b1, b2, b3⟩ := afterX_get (Z := P.nx) q2
          exact ⟨_, G2, b3, i1.trans i2, (k2.unset b2).ofX b1⟩
        · rintro v H2 ⟨d2, Γ2, G2, σ2, q2, i2, k2, r2⟩
          obtain ⟨b1, b2, b3⟩ := afterX_get (Z := P.rt d2) q2
          exact ⟨d2, _, G2, σ2.set i none, b3, i1.trans i2, (k2.unset b2).ofX b1, r2⟩
        · rintro σ2 H2 ⟨Γ2, G2, q2, i2, k2⟩
          obtain ⟨b1, b2, b3⟩ := afterX_get (Z := P.bk) q2
          exact ⟨_, G2, b3, i1.trans i2, (k2.unset b2).ofX b1⟩
        · rintro σ2 H2 ⟨Γ2, G2, q2, i2, k2⟩
          obtain ⟨b1, b2, b3⟩ := afterX_get (Z := P.ct) q2
          exact ⟨_, G2, b3, i1.trans i2, (k2.unset b2).ofX b1⟩
      · exact z.elim
    · rename_i hl
      exact ⟨false, hK ▸ T _ (lookC_mem hl), (fun e => by cases e), fun _ => ⟨G1, Γ1, xx, k1', ⟨rfl, xr2⟩, z⟩⟩
    · exact z.elim
theorem ls_try (T : ExmOk F.toCf cv t) (hK : F.K = X.K) (hs : X.stack = X.env :: X.outer) (hf : X.env.frame = some X.env.locals) (hc : Names X x cv) (tk : Takes X (wOf F E))
    (hb : ∀ (G : Hp) (pn : List (Addr × Obj)) (xe : Value → Shared → Prop) (E' : XP), Takes (X.tr pn xe) (wOf (withG0 F G) E') → PassesOwn (model X.prog X.w) X.A X.env xe → LSs (X.tr pn xe) (withG0 F G) E' body tb)
    (hsu : ∀ (a : Addr) (oe : Obj) (pn : List (Addr × Obj)), LSs (X.suite a ((a, oe) :: pn)) F (fun _ _ => False) (b₀ :: suite) ts) :
    LS X F E (.Try body [.ExceptHandler (some (.Name x np)) none (b₀ :: suite) pos'] [] [] pos) (qTry t tb ts) :=
  LS.of (ps_try_only (tb := tTb F tb) (ts := fun _ _ _ => tS F (fun _ _ => False) ts) hs hf hc tk (fun W pn xe tk' hp => tr_body tk' hp hb) fun a oe cls d pn hz hv => (hsu a oe pn).ps) fun σ H G Γ P k q => by
    refine ⟨G, Γ, P, _, k, q, fun cls d σ' H' ⟨G1, Γ1, xx, k1, xr, z⟩ => ?_, fun _ _ z => z, fun _ _ z => z, fun _ _ z => z, fun _ _ z => z⟩
    have i1 : Inc G G1 := k1.g0
    have k1' : Ok F G1 H' σ' Γ1 := k.ofG k1
    obtain ⟨ec, xr2⟩ := xr
    subst ec
    dsimp only at z
    split at z
    · rename_i hl
      refine ⟨true, hK ▸ T _ (lookC_mem hl), fun _ a ha => ?_, fun e => by cases e⟩
      refine ⟨G1, Γ1, P, k1', z, ?_, ?_, ?_, ?_⟩
      · rintro σ2 H2 ⟨Γ2, G2, q2, i2, k2⟩
        exact ⟨_, G2, q2, i1.trans i2, k2⟩
      · rintro v H2 ⟨d2, Γ2, G2, σ2, q2, i2, k2, r2⟩
        exact ⟨d2, _, G2, σ2, q2, i1.trans i2, k2, r2⟩
      · rintro σ2 H2 ⟨Γ2, G2, q2, i2, k2⟩
        exact ⟨_, G2, q2, i1.trans i2, k2⟩
      · rintro σ2 H2 ⟨Γ2, G2, q2, i2, k2⟩
        exact ⟨_, G2, q2, i1.trans i2, k2⟩
    · rename_i hl
      exact ⟨false, hK ▸ T _ (lookC_mem hl), (fun e => by cases e), fun _ => ⟨G1, Γ1, xx, k1', ⟨rfl, xr2⟩, z⟩⟩
    · exact z.elim
/-- e.f of the exception that is handled, in slot j -/
def qXf (j : Nat) (c : Cn) (n : Nat) : QE := fun Γ Q _ => match Γ[j]? with
  | some (.exc c' fs) => match Nat.beq c'.ix c.ix, fs[n]? with
    | true, some z => Q z Γ
    | _, _ => False
  | _ => False
theorem le_xf (j : Nat) (c : Cn) (n : Nat) {a : Addr} {oe : Obj} {cls : Value} {d : Option Addr} {pn : List (Addr × Obj)} {c0 : Cn} {y f : Str} {px : Pos} (hz : Zc cls d oe) (hv : ∃ vs, oe.data = .fields vs) (ec : cls = .ref (F.cl c0)) (hK : F.K = X.K) (T : XfC F.K (F.cl c)) (hno : PySem.W.findIn F.K (.ref (F.cl c)) f = some none)
    (hf : c.fields[n]? = some f := by rfl) (hb : attributeBase (.Name y px) f X.env (eval (.Name y px) X.env) = eval (.Name y px) X.env := by rfl)
    (hN : X.N[j]? = some y := by rfl) (hvv : Vis X.env.scope y := by first | exact Or.inl rfl | exact Or.inr (Or.inl rfl) | exact Or.inr (Or.inr rfl)) (hd : (y == ("__debug__" : Str)) = false := by decide) (hcd : (y == ("__classdict__" : Str)) = false := by decide) :
    LE (X.suite a ((a, oe) :: pn)) (withX F a d c0) E (.Attribute (.Name y px) f pos) (qXf j c n) :=
  LE.of (pe_xf (hK ▸ T) (hK ▸ hno) hz hv (pe_var (i := j) hN hvv hd hcd) hb) fun σ H G Γ Q k q => by
    unfold qXf at q
    split at q
    · rename_i c' fs e
      split at q
      · rename_i z e1 e2
        have e3 := ix_inj e1
        subst e3
        obtain ⟨v, ev, ok⟩ := k.slots.get e
        cases v with
        | none => exact ok.elim
        | some v =>
          obtain ⟨rfl, rfl, r⟩ := ok
          rcases r with r | ⟨dd, vs, e4, e5, rs⟩
          · subst r; cases e2
          · obtain ⟨v, e6, r6⟩ := rs.get e2
            exact ⟨_, ev, rfl, ec, dd, _, v, e4, e5, by rw [zip_look (fields_nd _) hf]; exact e6, fin0 k q r6⟩
      · exact q.elim
    · exact q.elim
end
end Q

set_option Elab.async false
set_option linter.all false
set_option maxRecDepth 100000
set_option maxHeartbeats 4000000
namespace Q
open PySem L2 PySem.Spec PyProof.Rows
/-! ## 12. Things of one's own -/
theorem mutA_setOwn {a : Addr} {o : MO} : ∀ {σ : St} {Γ : Env} {i : Nat}, a ∉ mutA σ Γ → (mutA σ Γ).Nodup → (mutA (σ.set i (some (.ref a))) (Γ.set i (.own o))).Nodup ∧ ∀ b ∈ mutA (σ.set i (some (.ref a))) (Γ.set i (.own o)), b = a ∨ b ∈ mutA σ Γ
  | [], Γ, _, _, _ => by simp [mutA]
  | v :: σ, [], i, _, _ => by
    have e : ∀ τ : St, mutA τ [] = [] := fun τ => by cases τ with
      | nil => rfl
      | cons u r => cases u with
        | none => rfl
        | some w => cases w <;> rfl
    rw [List.set_nil, e]
    simp
  | v :: σ, s :: Γ, 0, hn, nd => by
    have h1 : a ∉ mutA σ Γ := fun m => hn (mutA_tail m)
    have h2 := nd_tail nd
    show (a :: mutA σ Γ).Nodup ∧ ∀ b ∈ a :: mutA σ Γ, b = a ∨ b ∈ mutA (v :: σ) (s :: Γ)
    exact ⟨List.nodup_cons.mpr ⟨h1, h2⟩, fun b hb => (List.mem_cons.mp hb).imp id fun m => mutA_tail m⟩
  | v :: σ, s :: Γ, i + 1, hn, nd => by
    have h1 : a ∉ mutA σ Γ := fun m => hn (mutA_tail m)
    obtain ⟨ih1, ih2⟩ := mutA_setOwn (o := o) (i := i) h1 (nd_tail nd)
    show (mutA (v :: σ.set i (some (.ref a))) (s :: Γ.set i (.own o))).Nodup ∧ ∀ b ∈ mutA (v :: σ.set i (some (.ref a))) (s :: Γ.set i (.own o)), b = a ∨ b ∈ mutA (v :: σ) (s :: Γ)
    have step : ∀ (c : Addr), mutA (v :: σ) (s :: Γ) = c :: mutA σ Γ → mutA (v :: σ.set i (some (.ref a))) (s :: Γ.set i (.own o)) = c :: mutA (σ.set i (some (.ref a))) (Γ.set i (.own o)) →
        (mutA (v :: σ.set i (some (.ref a))) (s :: Γ.set i (.own o))).Nodup ∧ ∀ b ∈ mutA (v :: σ.set i (some (.ref a))) (s :: Γ.set i (.own o)), b = a ∨ b ∈ mutA (v :: σ) (s :: Γ) := by
      intro c e1 e2
      rw [e1] at nd hn ⊢
      rw [e2]
      refine ⟨List.nodup_cons.mpr ⟨fun m => ?_, ih1⟩, fun b hb => ?_⟩
      · rcases ih2 c m with z | z
        · exact hn (z ▸ List.mem_cons_self)
        · exact (List.nodup_cons.mp nd).1 z
      · rcases List.mem_cons.mp hb with z | z
        · exact .inr (z ▸ List.mem_cons_self)
        · exact (ih2 b z).imp id fun m => List.mem_cons_of_mem _ m
    have stay : mutA (v :: σ) (s :: Γ) = mutA σ Γ → mutA (v :: σ.set i (some (.ref a))) (s :: Γ.set i (.own o)) = mutA (σ.set i (some (.ref a))) (Γ.set i (.own o)) →
        (mutA (v :: σ.set i (some (.ref a))) (s :: Γ.set i (.own o))).Nodup ∧ ∀ b ∈ mutA (v :: σ.set i (some (.ref a))) (s :: Γ.set i (.own o)), b = a ∨ b ∈ mutA (v :: σ) (s :: Γ) := by
      intro e1 e2
      rw [e1, e2]
      exact ⟨ih1, ih2⟩
    cases s with
    | own o' =>
      cases v with
      | none => exact stay (by rw [mutA_cons]) (by rw [mutA_cons])
      | some w => cases w <;> first | exact step _ (by rw [mutA_cons]) (by rw [mutA_cons]) | exact stay (by rw [mutA_cons]) (by rw [mutA_cons])
    | bor o' =>
      cases v with
      | none => exact stay (by rw [mutA_cons]) (by rw [mutA_cons])
      | some w => cases w <;> first | exact step _ (by rw [mutA_cons]) (by rw [mutA_cons]) | exact stay (by rw [mutA_cons]) (by rw [mutA_cons])
    | no =>
      cases v with
      | none => exact stay (by rw [mutA_cons]) (by rw [mutA_cons])
      | some w => cases w <;> exact stay (by rw [mutA_cons]) (by rw [mutA_cons])
    | val d =>
      cases v with
      | none => exact stay (by rw [mutA_cons]) (by rw [mutA_cons])
      | some w => cases w <;> exact stay (by rw [mutA_cons]) (by rw [mutA_cons])
    | exc c fs =>
      cases v with
      | none => exact stay (by rw [mutA_cons]) (by rw [mutA_cons])
      | some w => cases w <;> exact stay (by rw [mutA_cons]) (by rw [mutA_cons])
section
variable {X : Cx} {F : Fx} {E : XP} {G H : Hp} {σ : St} {Γ : Env}
/-- not handed in -/
def noBor (Γ : Env) (i : Nat) : Bool := match Γ[i]? with
  | some (.bor _) => false
  | none => false
  | some _ => true
theorem Ok.setOwn (k : Ok F G H σ Γ) {i : Nat} {a : Addr} {o : MO} (hi : noBor Γ i = true) (ga : G a = none) (m : MRep F.toCf G H o a) (h0 : F.H0 a = none) (hm : a ∉ mutA σ Γ) : Ok F G H (σ.set i (some (.ref a))) (Γ.set i (.own o)) := by
  refine ⟨k.sub, k.g0, k.fresh, k.frame, k.bor, k.slots.set (s := .own o) (v := some (.ref a)) (show SlotOk F G H (some (.ref a)) (.own o) from ⟨a, rfl, ga, m, h0⟩) i, (mutA_setOwn hm k.nd).1, fun j b e => ?_, by rw [List.length_set]; exact k.pl⟩
  obtain ⟨e1, o', e2⟩ := k.pin j b e
  have hj : i ≠ j := fun q => by
    subst q
    unfold noBor at hi
    rw [e2] at hi
    cases hi
  rw [List.getElem?_set_ne hj, List.getElem?_set_ne hj]
  exact ⟨e1, o', e2⟩
abbrev QN := Env → (MO → Env → Prop) → XP → Prop
def FinN (F : Fx) (G : Hp) (σ : St) (Q : MO → Env → Prop) : VK := fun w H' => ∃ o a Γ' G', Q o Γ' ∧ Inc G G' ∧ Ok F G' H' σ Γ' ∧ w = .ref a ∧ G' a = none ∧ MRep F.toCf G' H' o a ∧ F.H0 a = none ∧ a ∉ mutA σ Γ'
/-- an expression that makes a new thing -/
structure LN (X : Cx) (F : Fx) (E : XP) (e : Expr) (p : QN) : Prop where
  run : ∀ (pins : List (Addr × Obj)) (s : Shared) (σ : St) (H G : Hp) (Γ : Env) (Q : MO → Env → Prop), Inv X pins σ H s → Ok F G H σ Γ → p Γ Q E →
    wpAny (model X.prog X.w) X.A (eval e X.env) (EP X pins σ (FinN F G σ Q)) X.xe s
def tN (F : Fx) (E : XP) (p : QN) : TE := fun σ H K => ∃ G Γ Q, Ok F G H σ Γ ∧ p Γ Q E ∧ ∀ w H', FinN F G σ Q w H' → K w H'
theorem LN.pe {e : Expr} {p : QN} (h : LN X F E e p) : PE X e (tN F E p) := ⟨fun pins s σ H K I ⟨G, Γ, Q, k, q, i⟩ =>
  thn (h.run pins s σ H G Γ Q I k q) fun u s' ⟨v, H', I', r, z⟩ => ⟨v, H', I', r, i v H' z⟩⟩
variable {es : List Expr} {e : Expr} {pr : QA} {pn : QN} {pos p0 : Pos}
theorem not_mut (k : Ok F G H σ Γ) {a : Addr} (h : H a = none) : a ∉ mutA σ Γ := fun m => by
  obtain ⟨⟨o, e⟩, _⟩ := mutA_there k.slots a m
  rw [h] at e
  cases e
/-- [..] -/
def qnLst (p : QA) : QN := fun Γ Q E => p Γ (fun ds Γ1 => ds.length ≤ 100000 ∧ Q (.lst ds) Γ1) E
theorem ln_lst (h : LA X F E es pr) : LN X F E (.List es pos) (qnLst pr) := ⟨fun pins s σ H G Γ Q I k q =>
  (pe_lst h.pa).run pins s σ H _ I ⟨G, Γ, _, k, q, fun ws H' ⟨ds, Γ', G', ⟨hl, q'⟩, i, k', r⟩ => ⟨by rw [r.len]; exact szl hl, fun p hp =>
    ⟨.lst ds, p, Γ', G', q', i, k'.new0 hp _, rfl, k'.sub.no hp, ⟨ws, upd_same, r⟩, k'.h0 hp, not_mut k' hp⟩⟩⟩⟩
/-- f(..), a new thing -/
def qnCall (c : Ct) (p : QH) : QN := fun Γ Q E => p Γ (fun hs Γ1 => match ndb (ixs hs) && hmut Γ1 hs with
  | true => c (argsOf Γ1 hs) (fun d outs => match d with
    | .fr d' => match moD d' with
      | some o => Q o (updS Γ1 hs outs)
      | none => False
    | _ => False) (fun x outs => E x (updS Γ1 hs outs))
  | false => False) E
theorem sp_callN {c : Ct} {hs : List Hd} {Γ : Env} {vs : List V} {σ : St} {G H : Hp} {Q : MO → Env → Prop} (k : Ok F G H σ Γ) (hh : HdsOk F G σ hs vs)
    (h : match ndb (ixs hs) && hmut Γ hs with
      | true => c (argsOf Γ hs) (fun d outs => match d with
        | .fr d' => match moD d' with
          | some o => Q o (updS Γ hs outs)
          | none => False
        | _ => False) (fun x outs => E x (updS Γ hs outs))
      | false => False) : spC F.toCf c vs H (FinN F G σ Q) (WE (wOf F E) σ) := by
  split at h
  · rename_i e
    obtain ⟨nd, hm⟩ := Bool.and_eq_true_iff.mp e
    have hm := hmut_ok hm
    refine ⟨G, argsOf Γ hs, k.sub, args_ok k hh hm, argA_nd k hh nd, _, _, h, fun d outs v H' G' q p ha sh r => ?_, fun x outs cls dd H' G' q p ha sh r => ?_⟩
    · cases d with
      | fr d' =>
        dsimp only at q
        obtain ⟨o, a, hd, rfl, ga, m, h0⟩ := r
        rw [hd] at q
        refine ⟨o, a, _, G', q, p.inc, k.called hh hm nd p ha sh, rfl, ga, m, k.h0 h0, fun mm => ?_⟩
        rw [mutA_kin updS_len fun i s t e1 e2 => updS_kin e1 e2] at mm
        exact not_mut k h0 mm
      | _ => exact q.elim
    · exact ⟨G', _, x, k.called hh hm nd p ha sh, r, q⟩
  · exact h.elim
theorem call_lenN {c : Ct} {hs : List Hd} {Γ : Env} {n : Nat} {Q : MO → Env → Prop} (hl : ∀ args Q E, c args Q E → args.length = n)
    (h : match ndb (ixs hs) && hmut Γ hs with
      | true => c (argsOf Γ hs) (fun d outs => match d with
        | .fr d' => match moD d' with
          | some o => Q o (updS Γ hs outs)
          | none => False
        | _ => False) (fun x outs => E x (updS Γ hs outs))
      | false => False) : hs.length = n := by
  split at h
  · rw [← argsOf_len (Γ := Γ)]; exact hl _ _ _ h
  · exact h.elim
theorem finN_inc {G G' : Hp} {σ : St} {Q : MO → Env → Prop} {b : V} {H : Hp} (i : Inc G G') (h : FinN F G' σ Q b H) : FinN F G σ Q b H := let ⟨o, a, Γ, G2, q, c, e⟩ := h; ⟨o, a, Γ, G2, q, i.trans c, e⟩
theorem ln_call {c : Ct} {fa : Addr} {n : Nat} {x : Str} {args : List Expr} {kws : List Keyword} {ks : List Str} {ph : QH} (C : CodeOk X X.A F.toCf fa n ks c) (hm : X.mg x = some (.ref fa)) (hk : PySem.W.keepIn X.K (.ref fa) = true) (tk : Takes X (wOf F E)) (ha : LC X F E args kws ks ph) (hg : Gl X x := by rfl)
    (hdb : (x == ("__debug__" : Str)) = false := by decide) : LN X F E (.Call (.Name x p0) args kws pos) (qnCall c ph) := by
  refine ⟨fun pins s σ H G Γ Q I k h => ?_⟩
  refine wpAny_Call_Name_kw (ld_glob I hg hm ?_ hdb)
  refine ha.run pos _ [] pins s σ H G Γ _ _ hk I k h fun us ws vs zs s' H' hs Γ' G' I' r rz l q i k' hh => ?_
  have hl := call_lenN C.len q
  have hv := hds_len hh
  rw [List.length_append] at hv
  exact thn (back_call (C.run pins s' σ H' vs us zs ws _ _ tk I' r rz (by omega) l (sp_callN k' hh q))) fun u s2 ⟨w, H2, I2, r2, z⟩ => ⟨w, H2, I2, r2, finN_inc i z⟩
/-- x = a new thing -/
def setN (Γ : Env) (i : Nat) (o : MO) (Q : Env → Prop) : Prop := match noBor Γ i with
  | true => Q (Γ.set i (.own o))
  | false => False
def qSetN (i : Nat) (p : QN) : QS := fun Γ P E => p Γ (fun o Γ1 => setN Γ1 i o P.nx) E
theorem ls_setN (i : Nat) {x : Str} {pos' : Pos} (hN : X.N.Nodup) (he : LN X F E e pn) (hi : X.N[i]? = some x := by rfl) (hx : Loc X.env.scope x := by first | exact Or.inl rfl | exact Or.inr rfl) (hs : swapsWith e (some (.Name x pos')) pos.line X.env = pure false := by rfl)
    (hf : X.fn x = true ∨ X.env.scope.names.lookup x = some .local := by first | exact .inl rfl | exact .inr rfl | assumption) : LS X F E (.Assign [.Name x pos'] e pos) (qSetN i pn) :=
  LS.of (ps_set (i := i) hN hi hx he.pe hs hf) fun σ H G Γ P k q => ⟨G, Γ, _, k, q, fun w H' ⟨o, a, Γ', G', q', i1, k', e, ga, m, h0, hm⟩ => by
    subst e
    dsimp only [setN] at q'
    split at q'
    · rename_i hb
      exact ⟨_, G', q', i1, k'.setOwn hb ga m h0 hm⟩
    · exact q'.elim⟩
def dMo : MO → D
  | .lst xs => .lst xs
  | .dic xs => .dic xs
  | .ins c xs => .ins c xs
theorem moD_dMo (o : MO) : moD (dMo o) = some o := by cases o <;> rfl
/-- return a new thing -/
def qRetN (p : QN) : QS := fun Γ P E => p Γ (fun o Γ1 => P.rt (.fr (dMo o)) Γ1) E
theorem ls_retN (he : LN X F E e pn) : LS X F E (.Return (some e) pos) (qRetN pn) :=
  ⟨fun pins s σ H G Γ P I k h => wpAny_Return_some (thn (he.run pins s σ H G Γ _ I k h) fun v s1 ⟨x, H1, I1, r1, o, a, Γ1, G1, q1, i1, k1, e, ga, m, h0, hm⟩ => ⟨x, σ, H1, I1, r1, .fr (dMo o), Γ1, G1, σ, q1, i1, k1, o, a, moD_dMo o, e, ga, m, h0⟩)⟩
/-- return x, x a thing of one's own -/
def qRetO (j : Nat) : QS := fun Γ P _ => match Γ[j]? with
  | some (.own o) => P.rt (.fr (dMo o)) Γ
  | _ => False
variable {x : Str} {px : Pos}
theorem ls_retO (j : Nat) (hN : X.N[j]? = some x := by rfl) (hv : Vis X.env.scope x := by first | exact Or.inl rfl | exact Or.inr (Or.inl rfl) | exact Or.inr (Or.inr rfl)) (hd : (x == ("__debug__" : Str)) = false := by decide)
    (hcd : (x == ("__classdict__" : Str)) = false := by decide) : LS X F E (.Return (some (.Name x px)) pos) (qRetO j) :=
  ⟨fun pins s σ H G Γ P I k h => by
    unfold qRetO at h
    split at h
    · rename_i o e
      obtain ⟨v, ev, ok⟩ := k.slots.get e
      cases v with
      | none => exact ok.elim
      | some v =>
        obtain ⟨a, rfl, ga, m, h0⟩ := ok
        exact wpAny_Return_some (thn ((pe_var (X := X) (i := j) hN hv hd hcd).run pins s σ H (fun v H' => v = .ref a ∧ H' = H) I ⟨.ref a, ev, rfl, rfl⟩) fun v s1 ⟨x, H1, I1, r1, e1, e2⟩ => by
          subst e1
          subst e2
          exact ⟨.ref a, σ, H1, I1, r1, .fr (dMo o), Γ, G, σ, h, Inc.refl G, k, o, a, moD_dMo o, rfl, ga, m, h0⟩)
    · exact h.elim⟩
/-- x read as a datum: from now on it stays as it is -/
def qFrz (j : Nat) : QE := fun Γ Q _ => match Γ[j]? with
  | some (.own o) => Q (dMo o) (Γ.set j (.val (dMo o)))
  | _ => False
theorem mutA_drop {d : D} {a : Addr} : ∀ {σ : St} {Γ : Env} {j : Nat} {s : Slot}, σ[j]? = some (some (.ref a)) → Γ[j]? = some s → s.mo.isSome = true → (mutA σ Γ).Nodup → (mutA σ (Γ.set j (.val d))).Nodup ∧ ∀ b ∈ mutA σ (Γ.set j (.val d)), b ≠ a ∧ b ∈ mutA σ Γ
  | [], _, _, _, e, _, _, _ => by simp at e
  | _ :: _, [], _, _, _, e, _, _ => by simp at e
  | v :: σ, t :: Γ, 0, s, e1, e2, z, nd => by
    simp at e1 e2
    subst e1; subst e2
    have h : mutA (some (V.ref a) :: σ) (t :: Γ) = a :: mutA σ Γ := by
      rw [mutA_cons]
      cases t with
      | own o => rfl
      | bor o => rfl
      | no => cases z
      | val d => cases z
      | exc c fs => cases z
    rw [h] at nd ⊢
    show (mutA σ Γ).Nodup ∧ ∀ b ∈ mutA σ Γ, b ≠ a ∧ b ∈ a :: mutA σ Γ
    exact ⟨(List.nodup_cons.mp nd).2, fun b hb => ⟨fun q => (List.nodup_cons.mp nd).1 (q ▸ hb), List.mem_cons_of_mem _ hb⟩⟩
  | v :: σ, t :: Γ, j + 1, s, e1, e2, z, nd => by
    have e1' : σ[j]? = some (some (.ref a)) := by simpa using e1
    have e2' : Γ[j]? = some s := by simpa using e2
    obtain ⟨h1, h2⟩ := mutA_drop (d := d) e1' e2' z (nd_tail nd)
    have ma := mem_mutA e1' e2' z
    show (mutA (v :: σ) (t :: Γ.set j (.val d))).Nodup ∧ ∀ b ∈ mutA (v :: σ) (t :: Γ.set j (.val d)), b ≠ a ∧ b ∈ mutA (v :: σ) (t :: Γ)
    rw [mutA_cons] at nd ⊢
    rw [mutA_cons]
    split at nd
    · rename_i c _
      refine ⟨List.nodup_cons.mpr ⟨fun m => (List.nodup_cons.mp nd).1 (h2 _ m).2, h1⟩, fun b hb => ?_⟩
      rcases List.mem_cons.mp hb with q | q
      · subst q
        exact ⟨fun q => (List.nodup_cons.mp nd).1 (q ▸ ma), List.mem_cons_self⟩
      · exact ⟨(h2 b q).1, List.mem_cons_of_mem _ (h2 b q).2⟩
    · rename_i c _
      refine ⟨List.nodup_cons.mpr ⟨fun m => (List.nodup_cons.mp nd).1 (h2 _ m).2, h1⟩, fun b hb => ?_⟩
      rcases List.mem_cons.mp hb with q | q
      · subst q
        exact ⟨fun q => (List.nodup_cons.mp nd).1 (q ▸ ma), List.mem_cons_self⟩
      · exact ⟨(h2 b q).1, List.mem_cons_of_mem _ (h2 b q).2⟩
    · rename_i h3 h4
      exact ⟨h1, h2⟩
theorem le_frz (j : Nat) (hN : X.N[j]? = some x := by rfl) (hv : Vis X.env.scope x := by first | exact Or.inl rfl | exact Or.inr (Or.inl rfl) | exact Or.inr (Or.inr rfl)) (hd : (x == ("__debug__" : Str)) = false := by decide)
    (hcd : (x == ("__classdict__" : Str)) = false := by decide) : LE X F E (.Name x px) (qFrz j) :=
  LE.of (pe_var hN hv hd hcd) fun σ H G Γ Q k q => by
    unfold qFrz at q
    split at q
    · rename_i o e
      obtain ⟨v, ev, ok⟩ := k.slots.get e
      cases v with
      | none => exact ok.elim
      | some v =>
        obtain ⟨a, rfl, ga, m, h0⟩ := ok
        obtain ⟨u, hu, ru⟩ := mrep_tell (moD_dMo o) ga m
        obtain ⟨nd1, nd2⟩ := mutA_drop (d := dMo o) ev e rfl k.nd
        refine ⟨.ref a, ev, dMo o, _, upd G a u, q, Inc.new ga, ?_, ru⟩
        refine ⟨fun b w eb => ?_, k.g0.trans (Inc.new ga), fun b w eb => ?_, k.frame, k.bor, ?_, nd1, fun i b eb => ?_, by rw [List.length_set]; exact k.pl⟩
        · by_cases h : b = a
          · subst h
            rw [upd_same] at eb
            cases eb
            exact .inl hu
          · rw [upd_ne h] at eb
            exact k.sub b w eb
        · by_cases h : b = a
          · subst h
            exact .inr h0
          · rw [upd_ne h] at eb
            exact k.fresh b w eb
        · refine Slots.mk (by rw [List.length_set]; exact k.slots.len) fun i v t e1 e2 => ?_
          by_cases hij : j = i
          · subst hij
            have hl : j < Γ.length := (List.getElem?_eq_some_iff.mp e).1
            rw [List.getElem?_set_self hl] at e2
            cases e2
            rw [ev] at e1
            cases e1
            exact ru
          · rw [List.getElem?_set_ne hij] at e2
            obtain ⟨v', ev', ok'⟩ := k.slots.get e2
            rw [e1] at ev'
            cases ev'
            refine SlotOk.step (Inc.new ga) (fun b eb zb => ?_) (fun dd ws _ q => q) ok'
            subst eb
            have nba : b ≠ a := fun q => by
              subst q
              exact hij (mutA_inj k.nd ev e1 e e2 rfl zb)
            obtain ⟨o2, ho2⟩ := Option.isSome_iff_exists.mp zb
            obtain ⟨b', eb', g2, _⟩ := k.mut e2 ho2
            rw [e1] at eb'
            cases eb'
            exact ⟨rfl, by rw [upd_ne nba]; exact g2⟩
        · obtain ⟨e1, o', e2⟩ := k.pin i b eb
          have hj : j ≠ i := fun q => by
            subst q
            rw [e] at e2
            cases e2
          rw [List.getElem?_set_ne hj]
          exact ⟨e1, o', e2⟩
    · exact q.elim
/-- len(x), x a thing that may change -/
def qLenM (j : Nat) : QE := fun Γ Q _ => match seqAt Γ j with
  | some xs => Q (.int xs.length) Γ
  | none => False
theorem le_lenM (j : Nat) {p1 : Pos} (hK : F.K = X.K) (hm : X.mg "len" = none) (hg : Gl X "len" := by rfl) (hbv : bootBuiltins "len" = some (.builtin "len") := by rfl) (hN : X.N[j]? = some x := by rfl) (hv : Vis X.env.scope x := by first | exact Or.inl rfl | exact Or.inr (Or.inl rfl) | exact Or.inr (Or.inr rfl)) (hd : (x == ("__debug__" : Str)) = false := by decide)
    (hcd : (x == ("__classdict__" : Str)) = false := by decide) (he : starEach [.Name x px] X.env = (false, eval (.Name x px) X.env) :: starEach [] X.env := by rfl) (hpl : (backTo pos (starEach [] X.env)).any (·.1) = false := by rfl) : LE X F E (.Call (.Name "len" p1) [.Name x px] [] pos) (qLenM j) :=
  LE.of (pe_callB L2.call_len hg hm hbv (pa_cons (pe_var hN hv hd hcd) pa_nil he) (by decide) (by decide) he hpl) fun σ H G Γ Q k q => by
    unfold qLenM at q
    split at q
    · rename_i xs e
      obtain ⟨a, vs, ea, sq, r⟩ := seqAt_ok k e
      exact ⟨.ref a, ea, .ref a, _, rfl, .inl ⟨vs, hK ▸ sq, rfl⟩, by rw [r.len]; exact fin0 k q rfl⟩
    · exact q.elim
end
end Q

set_option Elab.async false
set_option linter.all false
set_option maxRecDepth 100000
set_option maxHeartbeats 4000000
namespace Q
open PySem L2 PySem.Spec PyProof.Rows He PySem.W
open SlX (SIsi)
/-! ## 13. The head -/
structure DP where
  p : Frag → Prop
  d : ∀ K, Decidable (p K)
def DP.b (f : DP) (K : Frag) : Bool := @decide (f.p K) (f.d K)
def dp (p : Frag → Prop) [d : ∀ K, Decidable (p K)] : DP := ⟨p, d⟩
open He5 (DefA fnA wf wrapB cmet_of)
def valA (fn : List DefA) : AlD := (true, fn.map DefA.val)
def obsQ (fa : List DP) (fn : List DefA) (K : Frag) : AlD := ((fa.all fun f => f.b K) && fn.all fun d => d.ok K, fn.map fun d => fnA K (d.at_ K))
def SaysQ (fa : List DP) (fn : List DefA) (K : Frag) : Prop := obsQ fa fn K = valA fn
def asQ (g : Addr → Option Obj) : Nat → List Addr
  | 0 => [mainGlobals, cStatics]
  | n + 1 => growD g (asQ g n)
def obsQG (n : Nat) (fa : List DP) (fn : List DefA) (g : Addr → Option Obj) : AlD := obsQ fa fn (frG g (asQ g n))
def hookQ (n : Nat) (fa : List DP) (fn : List DefA) : Hook where
  α := AlD
  obs := fun s => obsQG n fa fn s.heap.get?
  val := fun _ => valA fn
  says := fun _ h => ∃ K : Frag, K.In h ∧ SaysQ fa fn K
  of := fun _ _ e => ⟨_, frG_in, e⟩
  keeps := fun _ _ _ ⟨K, hK, c⟩ k => ⟨K, Frag.In.keeps hK k, c⟩
theorem obsQG_eq {n : Nat} {fa : List DP} {fn : List DefA} {g : Addr → Option Obj} {s : Shared} (h : ∀ a, g a = s.heap.get? a) : obsQG n fa fn g = (hookQ n fa fn).obs s := by
  have e : g = s.heap.get? := funext h
  rw [e] <;> rfl
section
variable {fa : List DP} {fn : List DefA} {K : Frag}
theorem SaysQ.fact (c : SaysQ fa fn K) (i : Nat) {f : DP} (h : fa[i]? = some f := by rfl) : f.p K := by
  have c1 := (ba (show ((fa.all fun f => f.b K) && fn.all fun d => d.ok K) = true from congrArg (fun z : AlD => z.1) c)).1
  exact @of_decide_eq_true _ (f.d K) (List.all_eq_true.mp c1 f (List.mem_of_getElem? h))
theorem SaysQ.def_ (c : SaysQ fa fn K) (i : Nat) {d : DefA} (h : fn[i]? = some d := by rfl) : ∃ fd, FunD K d.name d.qual d.params d.body d.scope (d.dvs K) (d.kws K) (d.at_ K) fd := by
  have c2 := (ba (show ((fa.all fun f => f.b K) && fn.all fun d => d.ok K) = true from congrArg (fun z : AlD => z.1) c)).2
  have e : fn.map (fun d => fnA K (d.at_ K)) = fn.map DefA.val := congrArg (fun z : AlD => z.2) c
  have e2 : (fn.map fun d => fnA K (d.at_ K))[i]? = (fn.map DefA.val)[i]? := by rw [e]
  rw [List.getElem?_map, List.getElem?_map, h] at e2
  exact DefA.funD (Option.some.inj e2) (List.all_eq_true.mp c2 d (List.mem_of_getElem? h))
end
/-! ### what is asked of the names -/
def cname : Cn → Str
  | .ratio => "Ratio" | .poly => "Polynomial" | .root => "Root" | .formula => "Formula" | .table => "Table" | .facts => "Facts" | .desk => "Desk" | .trial => "Trial"
  | .filterError => "FilterError" | .byZero => "ByZero" | .badNumber => "BadNumber" | .badText => "BadText" | .zeroPolynomial => "ZeroPolynomial" | .badRoot => "BadRoot" | .badStretch => "BadStretch" | .badRow => "BadRow" | .badTable => "BadTable"
  | .noLine => "NoLine" | .unlikeTables => "UnlikeTables" | .badBeam => "BadBeam" | .notFilter => "NotFilter" | .notMirror => "NotMirror" | .badCounts => "BadCounts" | .badAnswer => "BadAnswer" | .badShare => "BadShare" | .never => "Never"
  | .badLine => "BadLine" | .clash => "Clash" | .nothingToUndo => "NothingToUndo" | .nothingToRedo => "NothingToRedo"
def cf (K : Frag) : Cf := ⟨K, fun c => ga K (cname c)⟩
abbrev pGlo (x : Str) (K : Frag) : Prop := nsIn K mainGlobals x = some (some (.ref (ga K x)))
abbrev pFree (x : Str) (K : Frag) : Prop := nsIn K mainGlobals x = some none
abbrev pCls (c : Cn) (K : Frag) : Prop := (plainGet K (ga K (cname c)) Str.empty = true ∧ hasDictIn K (ga K (cname c)) = true ∧ plainOver K (ga K (cname c)) = true ∧ findIn K (.ref (ga K (cname c))) "__setattr__" = some (some (.builtin "object.__setattr__"))) ∧
  (findIn K (.ref (ga K (cname c))) "__class__" = some (some (.builtin "object.__class__")) ∧ specialIn K (.builtin "object.__class__") "__get__" = some (some (.builtin "getset_descriptor.__get__")) ∧ takesIn K (.builtin "object.__class__") = some true ∧ mroIn K (ga K (cname c)) (.type "object") = some true)
theorem pCls_cls {c : Cn} {K : Frag} (h : pCls c K) : L2.Cls K ((cf K).cl c) := ⟨h.1.1, h.1.2.1, h.1.2.2.1, h.1.2.2.2⟩
theorem pCls_isi {c : Cn} {K : Frag} (h : pCls c K) : SIsi K ((cf K).cl c) := ⟨h.2.1, h.2.2.1, h.2.2.2.1, h.2.2.2.2⟩
abbrev pNo (c : Cn) (f : Str) (K : Frag) : Prop := findIn K (.ref (ga K (cname c))) f = some none
abbrev pMeth (c : Cn) (m : Str) (K : Frag) : Prop := findIn K (.ref (ga K (cname c))) m = some (some (.ref (ma K (ga K (cname c)) m))) ∧ isFn K (.ref (ma K (ga K (cname c)) m)) = true ∧ keepIn K (.ref (ma K (ga K (cname c)) m)) = true
theorem pMeth_ok {c : Cn} {m : Str} {K : Frag} (h : pMeth c m K) : Meth K ((cf K).cl c) m (ma K (ga K (cname c)) m) := ⟨h.1, h.2.1, h.2.2⟩
abbrev pMk (c : Cn) (K : Frag) : Prop := makesIn K (ga K (cname c)) = true ∧ findIn K (.ref (ga K (cname c))) "__init__" = some (some (.ref (ma K (ga K (cname c)) "__init__"))) ∧ isFn K (.ref (ma K (ga K (cname c)) "__init__")) = true ∧ keepIn K (.ref (ga K (cname c))) = true
theorem pMk_ok {c : Cn} {K : Frag} (h : pMk c K) : L2.Mk K ((cf K).cl c) (ma K (ga K (cname c)) "__init__") := ⟨h.1, h.2.1, h.2.2.1, h.2.2.2⟩
abbrev pFirst (c : Cn) (K : Frag) : Prop := selfFirst K (ga K (cname c)) = true
theorem op_ok {c : Cn} {m : Str} {K : Frag} {op : Operator} (hm : PySem.dunder op.info.2 = m) (h0 : pFirst c K) (h : pMeth c m K) : OwnOp K ((cf K).cl c) op (ma K (ga K (cname c)) m) := ⟨h0, by rw [hm]; exact h.1, h.2.1⟩
abbrev pOpT (c : Cn) (op : Operator) (T : String) (K : Frag) : Prop := findIn K (.ref (ga K (cname c))) (dunderR op.info.2) = some none ∧ (findIn K (.type T) (PySem.dunder op.info.2)).isSome = true ∧ (findIn K (.type T) (dunderR op.info.2)).isSome = true ∧ subIn K (.type T) (.ref (ga K (cname c))) = some false
theorem pOpT_ok {c : Cn} {op : Operator} {T : String} {K : Frag} (h : pOpT c op T K) : OwnOpT K ((cf K).cl c) op T := by
  obtain ⟨h1, h2, h3, h4⟩ := h
  obtain ⟨fo, e1⟩ := Option.isSome_iff_exists.mp h2
  obtain ⟨ro, e2⟩ := Option.isSome_iff_exists.mp h3
  exact ⟨fo, ro, none, h1, .inl rfl, e1, e2, h4⟩
theorem neg_ok {c : Cn} {K : Frag} (h : pMeth c "__neg__" K) : OwnUn K ((cf K).cl c) (ma K (ga K (cname c)) "__neg__") := ⟨h.1, h.2.1⟩
theorem cmp_ok {c : Cn} {m : Str} {K : Frag} {op : CmpOp} (hm : (cmpInfo op).2.1 = m) (h : pMeth c m K) : OwnCmp K ((cf K).cl c) op (ma K (ga K (cname c)) m) := ⟨by rw [hm]; exact h.1, h.2.1⟩
abbrev pNe (c : Cn) (K : Frag) : Prop := findIn K (.ref (ga K (cname c))) "__ne__" = some (some (.builtin "object.__ne__"))
theorem ne_ok {c : Cn} {K : Frag} (h0 : pCls c K) (h : pNe c K) (he : pMeth c "__eq__" K) : OwnNe K ((cf K).cl c) (ma K (ga K (cname c)) "__eq__") := ⟨h, h0.2.2.2.2, he.1, he.2.1⟩
def bltT : List String := ["NoneType", "bool", "int", "str", "list", "tuple", "dict"]
abbrev pNF (c : Cn) (ds : List Cn) (K : Frag) : Prop := (bltT.all fun T => notFirst K (ga K (cname c)) (.type T)) = true ∧ (ds.all fun d => notFirst K (ga K (cname c)) (.ref (ga K (cname d)))) = true
theorem nf_ok {c : Cn} {ds : List Cn} {K : Frag} (h : pNF c ds K) (hd : ∀ d ∈ ds, pCls d K) : CmpOk (cf K) c { blt := true, own := ds } :=
  ⟨fun _ T hT => List.all_eq_true.mp h.1 T hT, fun d m => ⟨List.all_eq_true.mp h.2 d m, pCls_cls (hd d m), pCls_isi (hd d m)⟩⟩
/-- what stands for a class: a built-in type, an own class -/
inductive Cu where
  | ty (n : String) | own (c : Cn)
def Cu.v (K : Frag) : Cu → Value
  | .ty n => .type n
  | .own c => .ref (ga K (cname c))
abbrev pIsa (us : List Cu) (t : IsaT) (K : Frag) : Prop := kitAny K (.type "NoneType") (us.map (Cu.v K)) = some t.non ∧ kitAny K (.type "bool") (us.map (Cu.v K)) = some t.bl ∧ kitAny K (.type "int") (us.map (Cu.v K)) = some t.int ∧ kitAny K (.type "str") (us.map (Cu.v K)) = some t.str ∧ kitAny K (.type "list") (us.map (Cu.v K)) = some t.lst ∧
  kitAny K (.type "tuple") (us.map (Cu.v K)) = some t.tup ∧ kitAny K (.type "dict") (us.map (Cu.v K)) = some t.dic ∧ (t.own.all fun p => decide (kitAny K (.ref (ga K (cname p.1))) (us.map (Cu.v K)) = some p.2)) = true
theorem isa_ok {us : List Cu} {t : IsaT} {K : Frag} (h : pIsa us t K) (hd : ∀ p ∈ t.own, pCls p.1 K) : IsaOk (cf K) (us.map (Cu.v K)) t :=
  ⟨h.1, h.2.1, h.2.2.1, h.2.2.2.1, h.2.2.2.2.1, h.2.2.2.2.2.1, h.2.2.2.2.2.2.1, fun p m => ⟨of_decide_eq_true (List.all_eq_true.mp h.2.2.2.2.2.2.2 p m), pCls_cls (hd p m), pCls_isi (hd p m)⟩⟩
/-! errors -/
def oexB (K : Frag) (C : Addr) : Bool := match K.lookup C with
  | some ⟨.type "type", _, .cls cd, sl⟩ => (match cd.mro, sl.toList with
    | .ref C' :: bm, [_, _, _, _, some (.builtin n), _] => C' == C && n == "ValueError.__new__" && !cd.hasDel && cd.hasDict && PySem.HandSPX.refsVE bm
    | _, _ => false)
  | _ => false
theorem oexB_ok {K : Frag} {C : Addr} (q : oexB K C = true) : ∃ nm q N bs bm sn sub ab col dd k0 k1 k2 k3 k5, K.lookup C = some (excClassObj nm q C N bs bm true sn sub ab col dd k0 k1 k2 k3 k5 "ValueError.__new__") ∧ PySem.HandSPX.refsVE bm = true := by
  unfold oexB at q
  split at q
  · rename_i dd cd sl ho
    split at q
    · rename_i C' bm k0 k1 k2 k3 n k5 hm hs
      simp only [Bool.and_eq_true, beq_iff_eq, Bool.not_eq_true'] at q
      obtain ⟨⟨⟨⟨rfl, rfl⟩, hdel⟩, hdd⟩, ht⟩ := q
      obtain ⟨nm, bs, mro, ns, qn, hd, sn, sub, ab, col, del⟩ := cd
      dsimp only at hm hdel hdd
      subst hm hdel hdd
      have hsl : sl = #[k0, k1, k2, k3, some (.builtin "ValueError.__new__"), k5] := by
        obtain ⟨l⟩ := sl
        simp only at hs
        rw [hs]
      subst hsl
      exact ⟨nm, qn, ns, bs, bm, sn, sub, ab, col, dd, k0, k1, k2, k3, k5, ho, ht⟩
    · cases q
  · cases q
abbrev pErr (c : Cn) (K : Frag) : Prop := oexB K (ga K (cname c)) = true ∧ findIn K (.ref (ga K (cname c))) "__setattr__" = some (some (.builtin "object.__setattr__")) ∧ subIn K (.ref (ga K (cname c))) (.type "BaseException") = some true ∧ typeIn K (.ref (ga K (cname c))) = some (.type "type") ∧ keepIn K (.ref (ga K (cname c))) = true ∧
  findIn K (.ref (ga K (cname c))) "__init__" = some (some (.ref (ma K (ga K (cname c)) "__init__"))) ∧ typeIn K (.ref (ma K (ga K (cname c)) "__init__")) = some (.type "function") ∧
  findIn K (.ref (ga K (cname c))) "__getattribute__" = some (some (.builtin "BaseException.__getattribute__")) ∧ findIn K (.ref (ga K (cname c))) "__getattr__" = some none ∧ hasDictIn K (ga K (cname c)) = true
theorem pErr_o {c : Cn} {K : Frag} (h : pErr c K) : OexC K ((cf K).cl c) := ⟨oexB_ok h.1, h.2.1, h.2.2.1, h.2.2.2.1, h.2.2.2.2.1⟩
theorem pErr_x {c : Cn} {K : Frag} (h : pErr c K) : XfC K ((cf K).cl c) := ⟨h.2.2.2.2.2.2.2.1, h.2.2.2.2.2.2.2.2.1, h.2.2.1, h.2.2.2.2.2.2.2.2.2⟩
abbrev pErrB (K : Frag) : Prop := specialIn K (.ref (ga K "FilterError")) "__getattribute__" = some (some (.builtin "type.__getattribute__")) ∧ readsIn K (ga K "FilterError") (.type "type") = true ∧ (match findCls K (.ref (ga K "FilterError")) (.type "type") "__init__" with
  | some (.val (.builtin n)) => n == "ValueError.__init__"
  | _ => false) = true
theorem pErrB_ok {K : Frag} (h : pErrB K) : ErrB K (ga K "FilterError") := by
  obtain ⟨h1, h2, h3⟩ := h
  refine ⟨h1, h2, ?_⟩
  split at h3
  · rename_i n e
    rw [e, beq_iff_eq.mp h3]
  · cases h3
abbrev pExm (c : Cn) (t : List (Cn × Bool)) (K : Frag) : Prop := (t.all fun p => decide (exmOne K (.ref (ga K (cname p.1))) (.ref (ga K (cname c))) = some p.2)) = true
theorem exm_ok' {c : Cn} {t : List (Cn × Bool)} {K : Frag} (h : pExm c t K) : ExmOk (cf K) (.ref (ga K (cname c))) t := fun p m => of_decide_eq_true (List.all_eq_true.mp h p m)
/-! ### a def, all that the callers lean on -/
structure FnB (P : Program) (w : World) (K : Frag) (mg : Str → Option Value) (base : Heap) (d : DefA) (k : Nat) (ps : List Str) (c : Ct) : Prop where
  ex : ∃ fd, FunD K d.name d.qual d.params d.body d.scope (d.dvs K) (d.kws K) (d.at_ K) fd ∧ FnOk P w K mg base (L2.CX P w) k (d.at_ K) fd ps (spC (cf K) c)
  len : ∀ args Q E, c args Q E → args.length = ps.length
section
variable {P : Program} {w : World} {K : Frag} {mg : Str → Option Value} {base : Heap}
theorem FnB.kp {d : DefA} {k : Nat} {ps : List Str} {c : Ct} (h : FnB P w K mg base d k ps c) : keepIn K (.ref (d.at_ K)) = true := by
  obtain ⟨fd, F, _⟩ := h.ex
  exact F.kp
/-- called with all arguments, by position -/
theorem FnB.all {d : DefA} {k : Nat} {ps : List Str} {c : Ct} {X : Cx} {A : Around} {n : Nat} (h : FnB P w K mg base d k ps c) (hX : X.prog = P) (hw : X.w = w) (hK : X.K = K) (hmg : X.mg = mg) (hb : X.base = base) (hA : A.frames = X.A.frames) (hr : Room k A) (hd : d.dfl = []) (hn : n = ps.length)
    (hbd : ∀ (kV doc pm : Value) (an : Option Addr) (cdv ct : Value) (us : List Value), us.length = ps.length → bindArgs (fnOf d.name d.qual d.params d.body d.scope .none kV doc pm an cdv ct) ⟨us, []⟩ = pure (ps.zip us)) : CodeOk X A (cf K) (d.at_ K) n [] c := by
  subst hX hw hK hmg hb
  obtain ⟨fd, F, G⟩ := h.ex
  have hdv : d.dvs X.K = [] := by unfold DefA.dvs; rw [hd]; rfl
  rw [hdv] at F
  exact code_all G hA hr (F.bindsN hbd) hn fun args Q E z => by rw [hn]; exact h.len args Q E z
/-- with the last ones by default -/
theorem FnB.dfl {d : DefA} {k : Nat} {ps : List Str} {c : Ct} {X : Cx} {A : Around} {n : Nat} {dd : List D} (h : FnB P w K mg base d k ps c) (hX : X.prog = P) (hw : X.w = w) (hK : X.K = K) (hmg : X.mg = mg) (hb : X.base = base) (hA : A.frames = X.A.frames) (hr : Room k A) (hd : d.dvs K ≠ []) (hR : ∀ G, Reps (cf K) G dd (d.dvs K)) (hn : n + (d.dvs K).length = ps.length)
    (hbd : ∀ (T : Addr) (kV doc pm : Value) (an : Option Addr) (cdv ct : Value) (us its : List Value), us.length = n → its.length = (d.dvs K).length →
      ∃ k, bindArgs (fnOf d.name d.qual d.params d.body d.scope (.ref T) kV doc pm an cdv ct) ⟨us, []⟩ = seqItems? (.ref T) >>= k ∧ k (some its.toArray) = pure (ps.zip (us ++ its.drop 0))) : CodeOk X A (cf K) (d.at_ K) n [] (dflt c dd) := by
  subst hX hw hK hmg hb
  obtain ⟨fd, F, G⟩ := h.ex
  obtain ⟨ds, hv, hbn⟩ := F.binds1 (ps := ps) n 0 hd (by rw [Nat.sub_zero]; exact hn) hbd
  have hl : (d.dvs X.K).length = dd.length := (hR fun _ => none).len
  rw [List.drop_zero] at hv
  exact code_dfl G hA hr hbn hv hR hn fun args Q E z => by rw [h.len args Q E z]; omega
/-- by keywords, no defaults -/
theorem FnB.kw {d : DefA} {k : Nat} {ps ks : List Str} {c : Ct} {X : Cx} {A : Around} {n : Nat} {fD : List D → List D} {g : {α : Type} → List α → List α → List α} (h : FnB P w K mg base d k ps c) (hX : X.prog = P) (hw : X.w = w) (hK : X.K = K) (hmg : X.mg = mg) (hb : X.base = base) (hA : A.frames = X.A.frames) (hr : Room k A) (hd : d.dfl = [])
    (hbd : ∀ (kV doc pm : Value) (an : Option Addr) (cdv ct : Value) (us ws : List Value), us.length = n → ws.length = ks.length → bindArgs (fnOf d.name d.qual d.params d.body d.scope .none kV doc pm an cdv ct) ⟨us, ks.zip ws⟩ = pure (ps.zip (g us ws)))
    (hrel : ∀ {vs zs : List V} {us ws : List Value}, Vals vs us → Vals zs ws → Vals (g vs zs) (g us ws))
    (hl : ∀ ds : List D, (fD ds).length = ps.length → ds.length = n + ks.length) (hf : ∀ (ds : List D) (vs zs : List V) G, vs.length = n → zs.length = ks.length → Reps (cf K) G ds (vs ++ zs) → Reps (cf K) G (fD ds) (g vs zs)) : CodeOk X A (cf K) (d.at_ K) n ks (kwC c fD) := by
  subst hX hw hK hmg hb
  obtain ⟨fd, F, G⟩ := h.ex
  have hdv : d.dvs X.K = [] := by unfold DefA.dvs; rw [hd]; rfl
  rw [hdv] at F
  have kb : KBn X.K fd ps n ks (fun us ws => g us ws) (fun vs zs => g vs zs) := by
    obtain ⟨oc, od, dV, kV, doc, pm, an, cdv, ct, osl, rfl, lk, hcd, hD, hKw⟩ := F.ex
    rcases hD with ⟨_, rfl⟩ | ⟨e, _⟩
    · exact ⟨fun s us ws _ l1 l2 => .of_eq (hbd kV doc pm an cdv ct us ws l1 l2), fun r1 r2 => hrel r1 r2⟩
    · exact absurd rfl e
  exact code_kw G hA hr kb (fun ds Q E z => hl ds (by have := h.len _ _ _ z; rw [List.length_map] at this; exact this)) hf
/-- by keywords, defaults are there -/
theorem FnB.kwD {d : DefA} {k : Nat} {ps ks : List Str} {c : Ct} {X : Cx} {A : Around} {n : Nat} {fD : List D → List D} {g : {α : Type} → List α → List α → List α → List α} (h : FnB P w K mg base d k ps c) (hX : X.prog = P) (hw : X.w = w) (hK : X.K = K) (hmg : X.mg = mg) (hb : X.base = base) (hA : A.frames = X.A.frames) (hr : Room k A) (hd : d.dvs K ≠ [])
    (hbd : ∀ (T : Addr) (kV doc pm : Value) (an : Option Addr) (cdv ct : Value) (us its ws : List Value), us.length = n → its.length = (d.dvs K).length → ws.length = ks.length → ∃ k, bindArgs (fnOf d.name d.qual d.params d.body d.scope (.ref T) kV doc pm an cdv ct) ⟨us, ks.zip ws⟩ = seqItems? (.ref T) >>= k ∧ k (some its.toArray) = pure (ps.zip (g us its ws)))
    (hrel : ∀ {vs ds zs : List V} {us its ws : List Value}, Vals vs us → Vals ds its → Vals zs ws → Vals (g vs ds zs) (g us its ws))
    (hl : ∀ ds : List D, (fD ds).length = ps.length → ds.length = n + ks.length) (hf : ∀ (ds : List D) (vs zs : List V) G, vs.length = n → zs.length = ks.length → Reps (cf K) G ds (vs ++ zs) → Reps (cf K) G (fD ds) (g vs (d.dvs K) zs)) : CodeOk X A (cf K) (d.at_ K) n ks (kwC c fD) := by
  subst hX hw hK hmg hb
  obtain ⟨fd, F, G⟩ := h.ex
  obtain ⟨its, kb⟩ := F.kbindsD n ks g hd hrel hbd
  exact code_kw G hA hr kb (fun ds Q E z => hl ds (by have := h.len _ _ _ z; rw [List.length_map] at this; exact this)) hf
/-- THE RULE for a def -/
theorem FnB.of {d : DefA} {k : Nat} {N ps : List Str} {c : Ct} {r : QS} (Fn : ∃ fd, FunD K d.name d.qual d.params d.body d.scope (d.dvs K) (d.kws K) (d.at_ K) fd) (S : FnScope N ps d.scope) (hlen : ∀ args Q E, c args Q E → args.length = ps.length) (hw : ∀ args Q E, c args Q E → r (startE N.length args) (endsC args Q) (exnC args E))
    (hd : ∀ (f : Addr) (cdv : Value) (A : Around) (outer : List PySem.Env) (s : Shared) (H : Hp) (E0 : XK), Room k (A.deeper (envOfC d.qual d.scope s.heap.objs.size f cdv)) → ∀ (G0 H0 : Hp) (B : List Addr) (pin : List (Option Addr)) (xa : Addr) (xd : Option Addr) (xc : Cn) (E : XP),
      Takes (cxOf (L2.CX P w) P w K mg base N d.qual d.scope f cdv A outer s H E0) (wOf ⟨cf K, G0, H0, B, pin, xa, xd, xc⟩ E) → PassesOwn (model P w) (A.deeper (envOfC d.qual d.scope s.heap.objs.size f cdv)) (envOfC d.qual d.scope s.heap.objs.size f cdv) (cxOf (L2.CX P w) P w K mg base N d.qual d.scope f cdv A outer s H E0).xe →
      LSs (cxOf (L2.CX P w) P w K mg base N d.qual d.scope f cdv A outer s H E0) ⟨cf K, G0, H0, B, pin, xa, xd, xc⟩ E d.body r) : FnB P w K mg base d (k + 1) ps c := by
  obtain ⟨fd, F⟩ := Fn
  refine ⟨⟨fd, F, fnC (Fc := cf K) F S hlen hw fun cdv A outer s H E0 hr Fx E hF tk hp => ?_⟩, hlen⟩
  obtain ⟨c0, G0, H0, B, pin, xa, xd, xc⟩ := Fx
  dsimp only at hF
  subst hF
  exact hd _ cdv A outer s H E0 hr G0 H0 B pin xa xd xc E tk hp
end
/-- one of two readings, by the class of the left operand -/
def oSw (c : Cn) (o1 o2 : O2) : O2 := fun d e Γ Q E => match isC c d with
  | true => o1 d e Γ Q E
  | false => o2 d e Γ Q E
theorem ol_sw {X : Cx} {F : Fx} {E : XP} {f : Value → Value → Sem Value} {c : Cn} {o1 o2 : O2} (h1 : OpL X F E f o1) (h2 : OpL X F E f o2) : OpL X F E f (oSw c o1 o2) := by
  intro pins s σ H G Γ x y v u d e Q I k rv ru rx ry q
  unfold oSw at q
  split at q
  · exact h1 pins s σ H G Γ x y v u d e Q I k rv ru rx ry q
  · exact h2 pins s σ H G Γ x y v u d e Q I k rv ru rx ry q
def oSw1 (c : Cn) (o1 o2 : O1) : O1 := fun d Γ Q E => match isC c d with
  | true => o1 d Γ Q E
  | false => o2 d Γ Q E
theorem ul_sw {X : Cx} {F : Fx} {E : XP} {f : Value → Sem Value} {c : Cn} {o1 o2 : O1} (h1 : UnL X F E f o1) (h2 : UnL X F E f o2) : UnL X F E f (oSw1 c o1 o2) := by
  intro pins s σ H G Γ x v d Q I k rv rx q
  unfold oSw1 at q
  split at q
  · exact h1 pins s σ H G Γ x v d Q I k rv rx q
  · exact h2 pins s σ H G Γ x v d Q I k rv rx q
end Q

set_option Elab.async false
set_option linter.all false
set_option maxRecDepth 100000
set_option maxHeartbeats 4000000
namespace Q
open He5 (DefA fnA wf wrapB cmet_of)
open PySem L2 PySem.Spec PyProof.Rows He PySem.W
theorem names_own {X : Cx} {x : Str} {c : Value} (hm : X.mg x = some c) (hg : Gl X x := by rfl) (hdb : (x == ("__debug__" : Str)) = false := by decide) : Names X x c := ⟨hg, hdb, .inl hm⟩
theorem hn1 {pa : QE} {k : Str} (Γ : Env) (Q : List D → Env → Prop) (E : XP) (h : qCons pa qNil Γ Q E) : qCons pa qNil Γ (fun ds Γ' => ds.length = [k].length ∧ Q ds Γ') E := by
  have e : (fun (d : D) (Γ1 : Env) => qNil Γ1 (fun ds Γ2 => (d :: ds).length = [k].length ∧ Q (d :: ds) Γ2) E) = fun d Γ1 => qNil Γ1 (fun ds Γ2 => Q (d :: ds) Γ2) E := by
    funext d Γ1
    exact propext ⟨fun z => z.2, fun z => ⟨rfl, z⟩⟩
  show pa Γ (fun (d : D) (Γ1 : Env) => qNil Γ1 (fun ds Γ2 => (d :: ds).length = [k].length ∧ Q (d :: ds) Γ2) E) E
  rw [e]
  exact h
theorem hn2 {pa pb : QE} {k k2 : Str} (Γ : Env) (Q : List D → Env → Prop) (E : XP) (h : qCons pa (qCons pb qNil) Γ Q E) : qCons pa (qCons pb qNil) Γ (fun ds Γ' => ds.length = [k, k2].length ∧ Q ds Γ') E := by
  have e : (fun (d : D) (Γ1 : Env) => qCons pb qNil Γ1 (fun ds Γ2 => (d :: ds).length = [k, k2].length ∧ Q (d :: ds) Γ2) E) = fun d Γ1 => qCons pb qNil Γ1 (fun ds Γ2 => Q (d :: ds) Γ2) E := by
    funext d Γ1
    have e2 : (fun (d2 : D) (Γ3 : Env) => qNil Γ3 (fun ds Γ2 => (d :: d2 :: ds).length = [k, k2].length ∧ Q (d :: d2 :: ds) Γ2) E) = fun d2 Γ3 => qNil Γ3 (fun ds Γ2 => Q (d :: d2 :: ds) Γ2) E := by
      funext d2 Γ3
      exact propext ⟨fun z => z.2, fun z => ⟨rfl, z⟩⟩
    show pb Γ1 (fun (d2 : D) (Γ3 : Env) => qNil Γ3 (fun ds Γ2 => (d :: d2 :: ds).length = [k, k2].length ∧ Q (d :: d2 :: ds) Γ2) E) E = _
    rw [e2]
    rfl
  show pa Γ (fun (d : D) (Γ1 : Env) => qCons pb qNil Γ1 (fun ds Γ2 => (d :: ds).length = [k, k2].length ∧ Q (d :: ds) Γ2) E) E
  rw [e]
  exact h
section
variable {P : Program} {w : World} {K : Frag} {mg : Str → Option Value} {base : Heap}
/-- all arguments are written, though there are defaults -/
theorem FnB.full {d : DefA} {k : Nat} {ps : List Str} {c : Ct} {X : Cx} {A : Around} {n : Nat} (h : FnB P w K mg base d k ps c) (hX : X.prog = P) (hw : X.w = w) (hK : X.K = K) (hmg : X.mg = mg) (hb : X.base = base) (hA : A.frames = X.A.frames) (hr : Room k A) (hd : d.dvs K ≠ []) (hn : n = ps.length)
    (hbd : ∀ (T : Addr) (kV doc pm : Value) (an : Option Addr) (cdv ct : Value) (us its : List Value), us.length = n → its.length = (d.dvs K).length →
      ∃ k, bindArgs (fnOf d.name d.qual d.params d.body d.scope (.ref T) kV doc pm an cdv ct) ⟨us, []⟩ = seqItems? (.ref T) >>= k ∧ k (some its.toArray) = pure (ps.zip (us ++ its.drop (d.dvs K).length))) : CodeOk X A (cf K) (d.at_ K) n [] c := by
  subst hX hw hK hmg hb
  obtain ⟨fd, F, G⟩ := h.ex
  obtain ⟨ds, hv, hbn⟩ := F.binds1 (ps := ps) n (d.dvs X.K).length hd (by rw [Nat.sub_self]; exact hn) hbd
  rw [List.drop_length] at hv
  cases hv
  exact code_all G hA hr hbn hn fun args Q E z => by rw [hn]; exact h.len args Q E z
end
/-- {} -/
theorem le_dic0 {X : Cx} {F : Fx} {E : XP} {pos : Pos} : LE X F E (.Dict [] [] pos) (qC (.dic [])) :=
  LE.of pe_dnewK fun σ H G Γ Q k q => fun p hp => ⟨_, Γ, upd G p (.dK []), q, Inc.new (k.sub.no hp), k.new hp _, p, [], rfl, upd_same, rfl⟩
theorem mk_glo {K : Frag} {h : Heap} {mg : Str → Option Value} (X : K.In h) (G : h.Ns mainGlobals mg) {x : Str} (c : pGlo x K) : mg x = some (.ref (ga K x)) := PySem.W.mg_of X G c
theorem mk_free {K : Frag} {h : Heap} {mg : Str → Option Value} (X : K.In h) (G : h.Ns mainGlobals mg) {x : Str} (c : pFree x K) : mg x = none := PySem.W.mg_none_of X G c
end Q

set_option Elab.async false
set_option linter.all false
set_option maxRecDepth 100000
set_option maxHeartbeats 4000000
namespace Q
open PySem L2
/-! ## 14. Plain laws -/
def Bd (n : Nat) (i : Int) : Prop := i.natAbs < 2 ^ n
theorem Bd.mono {n m : Nat} {i : Int} (h : Bd n i) (l : n ≤ m) : Bd m i := Nat.lt_of_lt_of_le h (Nat.pow_le_pow_right (by decide) l)
theorem bd_of {n : Nat} {i : Int} (h : Nat.ble (i.natAbs + 1) (2 ^ n) = true) : Bd n i := Nat.le_of_ble_eq_true h
theorem Bd.mul {n m : Nat} {i j : Int} (h : Bd n i) (k : Bd m j) : Bd (n + m) (i * j) := by
  unfold Bd at *
  rw [Int.natAbs_mul, Nat.pow_add]
  exact Nat.mul_lt_mul'' h k
theorem Bd.add {n : Nat} {i j : Int} (h : Bd n i) (k : Bd n j) : Bd (n + 1) (i + j) := by
  unfold Bd at *
  rw [Nat.pow_succ]
  have := Int.natAbs_add_le i j
  omega
theorem Bd.sub {n : Nat} {i j : Int} (h : Bd n i) (k : Bd n j) : Bd (n + 1) (i - j) := by
  unfold Bd at *
  rw [Nat.pow_succ]
  have := Int.natAbs_sub_le i j
  omega
theorem Bd.neg {n : Nat} {i : Int} (h : Bd n i) : Bd n (-i) := by
  unfold Bd at *
  rwa [Int.natAbs_neg]
theorem mul_ok {n m : Nat} {i j : Int} (h : Bd n i) (k : Bd m j) (l : n + m ≤ 134217728) : MulOk i j := mulx_ok h k l
theorem div_ok {i j : Int} (h0 : j ≠ 0) (h : Bd 8999 j) : DivOk i j := ⟨h0, PyProof.noPylong_of_log2 (by
  have : j.natAbs.log2 < 8999 := (Nat.log2_lt (by omega)).mpr h
  omega)⟩
theorem pow3_ok {n : Nat} {i : Int} (h : Bd n i) (l : n ≤ 1000) : PowOk i 3 := ⟨by decide, by
  have h1 := PyProof.Rows.intBits_le h
  have h2 : (Builtin.Int.intBits i : Int) ≤ 1000 := by omega
  have e : (2 : Int) ^ 27 = 134217728 := by decide
  rw [e]
  omega⟩
theorem gcd_bd {n : Nat} {a b : Int} (h : Bd n b) (hb : b ≠ 0) : Bd n (Int.gcd a b : Int) := by
  unfold Bd at *
  have h1 : Int.gcd a b ≤ b.natAbs := Nat.le_of_dvd (by omega) (Nat.gcd_dvd_right _ _)
  have h2 : ((Int.gcd a b : Nat) : Int).natAbs = Int.gcd a b := rfl
  omega
theorem gcd_ne {a b : Int} (hb : b ≠ 0) : (Int.gcd a b : Int) ≠ 0 := by
  have : Int.gcd a b ≠ 0 := fun e => by
    have := (Int.gcd_eq_zero_iff.mp e).2
    exact hb this
  omega
theorem gcd_fmod (x y : Int) : Int.gcd y (x.fmod y) = Int.gcd x y := by
  rw [Int.fmod_def, show x - y * x.fdiv y = x - x.fdiv y * y by rw [Int.mul_comm], Int.gcd_sub_mul_right_right, Int.gcd_comm]
theorem fmod_lt (x : Int) {y : Int} (h : y ≠ 0) : (x.fmod y).natAbs < y.natAbs := by
  rcases Int.lt_or_gt_of_ne h with h | h
  · have e : x.fmod y = -((-x).fmod (-y)) := by rw [Int.neg_fmod_neg]; omega
    have h1 := Int.fmod_lt_of_pos (-x) (show 0 < -y by omega)
    have h2 := Int.fmod_nonneg_of_pos (-x) (show 0 < -y by omega)
    omega
  · have h1 := Int.fmod_lt_of_pos x h
    have h2 := Int.fmod_nonneg_of_pos x h
    omega
/-! ratios -/
def dvs (a b : Int) : Int := if 0 < b then (Int.gcd a b : Int) else -(Int.gcd a b : Int)
theorem dvs_ne {a b : Int} (hb : b ≠ 0) : dvs a b ≠ 0 := by
  have := gcd_ne (a := a) hb
  unfold dvs
  split <;> omega
theorem dvs_bd {n : Nat} {a b : Int} (h : Bd n b) (hb : b ≠ 0) : Bd n (dvs a b) := by
  have := gcd_bd (a := a) h hb
  unfold dvs
  split
  · exact this
  · exact this.neg
theorem dvs_num {a b : Int} (hb : b ≠ 0) : a.fdiv (dvs a b) = (Rat.divInt a b).num := by
  have hd : (Int.gcd a b : Int) ∣ a := Int.gcd_dvd_left a b
  have hg := gcd_ne (a := a) hb
  rw [Rat.num_divInt, Int.gcd_comm b a]
  unfold dvs
  split
  · rename_i h
    rw [Int.sign_eq_one_of_pos h, Int.one_mul, Int.fdiv_eq_ediv_of_dvd hd]
  · rename_i h
    have hn : b < 0 := by omega
    rw [Int.sign_eq_neg_one_of_neg hn, Int.fdiv_neg hg, if_pos hd, Int.fdiv_eq_ediv_of_dvd hd, Int.neg_mul, Int.one_mul, Int.neg_ediv_of_dvd hd]
theorem dvs_den {a b : Int} (hb : b ≠ 0) : b.fdiv (dvs a b) = ((Rat.divInt a b).den : Int) := by
  have hd : (Int.gcd a b : Int) ∣ b := Int.gcd_dvd_right a b
  have hg := gcd_ne (a := a) hb
  rw [Rat.den_divInt, if_neg hb, Int.gcd_comm b a]
  unfold dvs
  split
  · rename_i h
    rw [Int.fdiv_eq_ediv_of_dvd hd]
    rw [Int.natCast_ediv, Int.natAbs_of_nonneg (by omega)]
  · rename_i h
    have hn : b < 0 := by omega
    rw [Int.fdiv_neg hg, if_pos hd, Int.fdiv_eq_ediv_of_dvd hd, Int.natCast_ediv, Int.ofNat_natAbs_of_nonpos (by omega), Int.neg_ediv_of_dvd hd]
structure Sz (n : Nat) (q : Rat) : Prop where
  num : Bd n q.num
  den : Bd n (q.den : Int)
theorem den_ne (q : Rat) : (q.den : Int) ≠ 0 := by
  have := q.den_nz
  omega
theorem den_pos (q : Rat) : 0 < (q.den : Int) := by
  have := q.den_nz
  omega
theorem add_divInt (p q : Rat) : Rat.divInt (p.num * (q.den : Int) + q.num * (p.den : Int)) ((p.den : Int) * (q.den : Int)) = p + q := by
  rw [← Rat.divInt_add_divInt _ _ (den_ne p) (den_ne q), Rat.num_divInt_den, Rat.num_divInt_den]
theorem sub_divInt (p q : Rat) : Rat.divInt (p.num * (q.den : Int) - q.num * (p.den : Int)) ((p.den : Int) * (q.den : Int)) = p - q := by
  rw [← Rat.divInt_sub_divInt _ _ (den_ne p) (den_ne q), Rat.num_divInt_den, Rat.num_divInt_den]
theorem mul_divInt (p q : Rat) : Rat.divInt (p.num * q.num) ((p.den : Int) * (q.den : Int)) = p * q := by
  rw [← Rat.divInt_mul_divInt, Rat.num_divInt_den, Rat.num_divInt_den]
theorem neg_divInt (p : Rat) : Rat.divInt (-p.num) (p.den : Int) = -p := by
  rw [← Rat.neg_divInt, Rat.num_divInt_den]
theorem div_divInt (p q : Rat) : Rat.divInt (p.num * (q.den : Int)) ((p.den : Int) * q.num) = p / q := by
  rw [Rat.div_def, Rat.inv_def, ← Rat.divInt_mul_divInt, Rat.num_divInt_den]
/-- the sizes of what is made -/
theorem divInt_sz {n : Nat} {a b : Int} (ha : Bd n a) (hb : Bd n b) (h0 : b ≠ 0) : Sz n (Rat.divInt a b) := by
  constructor
  · rw [← dvs_num h0]
    unfold Bd at *
    have hd : dvs a b ∣ a := by
      unfold dvs
      split
      · exact Int.gcd_dvd_left a b
      · exact (Int.neg_dvd).mpr (Int.gcd_dvd_left a b)
    rw [Int.fdiv_eq_ediv_of_dvd hd]
    have := Int.natAbs_ediv_le_natAbs a (dvs a b)
    omega
  · rw [← dvs_den h0]
    unfold Bd at *
    have hd : dvs a b ∣ b := by
      unfold dvs
      split
      · exact Int.gcd_dvd_right a b
      · exact (Int.neg_dvd).mpr (Int.gcd_dvd_right a b)
    rw [Int.fdiv_eq_ediv_of_dvd hd]
    have := Int.natAbs_ediv_le_natAbs b (dvs a b)
    omega
/-! data -/
def isInt : D → Bool
  | .int _ => true
  | _ => false
/-- data that may be asked for their type -/
def plain : D → Bool
  | .scr _ => false
  | .cls _ => false
  | .ins _ _ => false
  | .err _ _ => false
  | .fr _ => false
  | _ => true
/-- the number that a datum is -/
def numQ : D → Option Rat
  | .int n => some (n : Rat)
  | .rat q => some q
  | _ => none
def tupR (q : Rat) : D := .tup [.int q.num, .int (q.den : Int)]
theorem eqv_int (a b : Int) : PyData.eqv (.int a) (.int b) = (a == b) := by unfold PyData.eqv; rfl
theorem eqv_tupR (p q : Rat) : PyData.eqv (toPy (tupR p)) (toPy (tupR q)) = decide (p = q) := by
  have e : PyData.eqv (toPy (tupR p)) (toPy (tupR q)) = (p.num == q.num && ((p.den : Int) == (q.den : Int) && true)) := rfl
  rw [e, Bool.and_true]
  by_cases h : p = q
  · subst h
    simp
  · rw [decide_eq_false h]
    by_cases h1 : p.num = q.num
    · have h2 : p.den ≠ q.den := fun e2 => h (Rat.ext h1 e2)
      simp [h1]
      omega
    · simp [h1]
theorem plain_tupR (q : Rat) : plainD (tupR q) = true := rfl
end Q

set_option Elab.async false
set_option linter.all false
set_option maxRecDepth 100000
set_option maxHeartbeats 4000000
namespace Q
open He5 (DefA fnA wf wrapB cmet_of)
open PySem L2 PySem.Spec PyProof.Rows He PySem.W
/-! ## 15. self by position, the others by keywords -/
def kwS (c : Ct) (f : List D → List D) : Ct := fun args Q E => match args with
  | [] => False
  | s :: rest => match valsOf rest with
    | some ds => c (s :: (f ds).map Slot.val) (fun d outs => match outs with
      | t :: _ => Q d (t :: rest)
      | [] => False) (fun x outs => match outs with
      | t :: _ => E x (t :: rest)
      | [] => False)
    | none => False
theorem argA_one : ∀ {s : Slot} {v : V} {ds : List D} {vs : List V}, argA (s :: ds.map Slot.val) (v :: vs) = argA [s] [v] := by
  intro s v ds vs
  cases s with
  | bor o =>
    cases v with
    | ref a => show a :: argA (ds.map Slot.val) vs = [a]; rw [argA_vals]
    | _ => exact argA_vals
  | _ => cases v <;> exact argA_vals
section
variable {X : Cx} {A : Around} {Fc : Cf}
theorem code_kwS {c : Ct} {k n : Nat} {f : Addr} {fd : FuncData} {ps ks : List Str} {g : List Value → List Value → List Value} {gV gW : List V → List V → List V} {fD : List D → List D} (Fn : FnOk X.prog X.w X.K X.mg X.base (L2.CX X.prog X.w) k f fd ps (spC Fc c)) (hA : A.frames = X.A.frames) (hr : Room k A) (hb : KBn X.K fd ps (n + 1) ks g gV)
    (hg : ∀ v vs zs, vs.length = n → zs.length = ks.length → gV (v :: vs) zs = v :: gW vs zs) (hl : ∀ (s : Slot) (ds : List D) Q E, c (s :: (fD ds).map Slot.val) Q E → ds.length = n + ks.length) (hf : ∀ (ds : List D) (vs zs : List V) G, vs.length = n → zs.length = ks.length → Reps Fc G ds (vs ++ zs) → Reps Fc G (fD ds) (gW vs zs)) : CodeOk X A Fc f (n + 1) ks (kwS c fD) := by
  refine code_fn Fn hA hr hb (fun args Q E h => ?_) fun vs zs H Q E l1 l2 h => ?_
  · cases args with
    | nil => exact h.elim
    | cons s rest =>
      dsimp only [kwS] at h
      split at h
      · rename_i ds e
        have := hl s ds _ _ h
        rw [List.length_cons, valsOf_eq e, List.length_map]
        omega
      · exact h.elim
  · cases vs with
    | nil => cases l1
    | cons v vs =>
      have l1' : vs.length = n := by simpa using l1
      obtain ⟨G, args, sb, ha, nd, Qc, Ec, hc, hq, he⟩ := h
      cases args with
      | nil => exact hc.elim
      | cons s rest =>
        obtain ⟨v', r', e0, hs, hrest⟩ := ha
        cases e0
        dsimp only [kwS] at hc
        split at hc
        · rename_i ds e
          have ea := valsOf_eq e
          subst ea
          have rp := hf ds vs zs G l1' l2 (args_vals.mp hrest)
          rw [hg v vs zs l1' l2]
          rw [List.cons_append, argA_one] at nd
          have out : ∀ {G' H' : Hp} {outs : List Slot}, Post G H (argA (s :: (fD ds).map Slot.val) (v :: gW vs zs)) G' H' → ArgsOk Fc G' H' outs (v :: gW vs zs) → shape (s :: (fD ds).map Slot.val) outs → ∃ t r, outs = t :: r ∧ Post G H (argA (s :: ds.map Slot.val) (v :: (vs ++ zs))) G' H' ∧ ArgsOk Fc G' H' (t :: ds.map Slot.val) (v :: (vs ++ zs)) ∧ shape (s :: ds.map Slot.val) (t :: ds.map Slot.val) := by
            intro G' H' outs p a sh
            cases outs with
            | nil => cases a
            | cons t outs =>
              obtain ⟨_, _, e1, ht, _⟩ := a
              cases e1
              refine ⟨t, outs, rfl, ?_, ⟨v, vs ++ zs, rfl, ht, args_vals.mpr ((args_vals.mp hrest).inc p.inc)⟩, ?_⟩
              · rw [argA_one] at p ⊢
                exact p
              · cases s with
                | bor o => exact ⟨sh.1, shape_vals⟩
                | no => exact ⟨sh.1, shape_vals⟩
                | val d => exact ⟨sh.1, shape_vals⟩
                | own o => exact ⟨sh.1, shape_vals⟩
                | exc c fs => exact ⟨sh.1, shape_vals⟩
          refine ⟨G, s :: (fD ds).map Slot.val, sb, ⟨v, _, rfl, hs, args_vals.mpr rp⟩, by rw [argA_one]; exact nd, _, _, hc, fun d outs w H' G' q p a sh r => ?_, fun x outs cls d' H' G' q p a sh r => ?_⟩
          · obtain ⟨t, r', rfl, p', a', sh'⟩ := out p a sh
            exact hq d _ w H' G' q p' a' sh' r
          · obtain ⟨t, r', rfl, p', a', sh'⟩ := out p a sh
            exact he x _ cls d' H' G' q p' a' sh' r
        · exact hc.elim
end
section
variable {P : Program} {w : World} {K : Frag} {mg : Str → Option Value} {base : Heap}
theorem FnB.kwSD {d : DefA} {k : Nat} {ps ks : List Str} {c : Ct} {X : Cx} {A : Around} {n : Nat} {fD : List D → List D} {g : {α : Type} → List α → List α → List α → List α} {gW : List V → List V → List V} (h : FnB P w K mg base d k ps c) (hX : X.prog = P) (hw : X.w = w) (hK : X.K = K) (hmg : X.mg = mg) (hb : X.base = base) (hA : A.frames = X.A.frames) (hr : Room k A) (hd : d.dvs K ≠ [])
    (hbd : ∀ (T : Addr) (kV doc pm : Value) (an : Option Addr) (cdv ct : Value) (us its ws : List Value), us.length = n + 1 → its.length = (d.dvs K).length → ws.length = ks.length → ∃ k, bindArgs (fnOf d.name d.qual d.params d.body d.scope (.ref T) kV doc pm an cdv ct) ⟨us, ks.zip ws⟩ = seqItems? (.ref T) >>= k ∧ k (some its.toArray) = pure (ps.zip (g us its ws)))
    (hrel : ∀ {vs ds zs : List V} {us its ws : List Value}, Vals vs us → Vals ds its → Vals zs ws → Vals (g vs ds zs) (g us its ws)) (hg : ∀ v vs zs, vs.length = n → zs.length = ks.length → g (v :: vs) (d.dvs K) zs = v :: gW vs zs)
    (hl : ∀ ds : List D, (fD ds).length + 1 = ps.length → ds.length = n + ks.length) (hf : ∀ (ds : List D) (vs zs : List V) G, vs.length = n → zs.length = ks.length → Reps (cf K) G ds (vs ++ zs) → Reps (cf K) G (fD ds) (gW vs zs)) : CodeOk X A (cf K) (d.at_ K) (n + 1) ks (kwS c fD) := by
  subst hX hw hK hmg hb
  obtain ⟨fd, F, G⟩ := h.ex
  obtain ⟨its, kb⟩ := F.kbindsD (n + 1) ks g hd hrel hbd
  exact code_kwS G hA hr kb hg (fun s ds Q E z => hl ds (by have := h.len _ _ _ z; rw [List.length_cons, List.length_map] at this; exact this)) hf
/-! ### a def that asks what is shown: nothing is being shown around it -/
structure FnG (P : Program) (w : World) (K : Frag) (mg : Str → Option Value) (base : Heap) (CX : CXT) (k : Nat) (f : Addr) (fd : FuncData) (ps : List Str) (sp : Sp) : Prop where
  len : ∀ vs H Q E, sp vs H Q E → vs.length = ps.length
  run : ∀ (A : Around) (outer : List PySem.Env) (s : Shared) (H : Hp) (args : Args) (us : List Value) (vs : List V) (Q : VK) (E : XK), A.guards = some [] → Room k A → Env0 P w K mg base A outer s H → BindsTo s fd args (ps.zip us) → Vals vs us → sp vs H Q E →
    codeAny (model P w) A (.call (.ref f) args) (CR CX outer P w H s Q E) s
theorem deeper_g (A : Around) (env : PySem.Env) : (A.deeper env).guards = A.guards := rfl
theorem in1_g (A : Around) : A.in1.guards = A.guards := rfl
theorem mark_g (A : Around) (h : Option Value) : (A.mark h).guards = A.guards := rfl
end
end Q

set_option Elab.async false
set_option linter.all false
set_option maxRecDepth 100000
set_option maxHeartbeats 4000000
namespace Q
open PySem L2 PySem.Spec PyProof.Rows He PySem.W
/-! ## 16. repr, and the defs that ask it -/
section
variable {X : Cx} {F : Fx} {E : XP}
def oRepr : ON := fun ds Γ Q _ => match ds with
  | [.non] => Q (.str "None") Γ
  | [.bl b] => Q (.str (if b then "True" else "False")) Γ
  | [.int i] => i.natAbs.log2 < 1920 ∧ Q (.str (toString i)) Γ
  | [.str x] => (reprText x).length ≤ sizeLine ∧ Q (.str (reprText x)) Γ
  | [.lst xs] => (isPys xs = true ∧ (toPy (.lst xs)).showable = true ∧ (toPy (.lst xs)).hasDict = false ∧ (toPy (.lst xs)).depth ≤ 50 ∧ (toPy (.lst xs)).shown.length ≤ sizeLine) ∧ Q (.str (toPy (.lst xs)).shown) Γ
  | [.tup xs] => (isPys xs = true ∧ (toPy (.tup xs)).showable = true ∧ (toPy (.tup xs)).hasDict = false ∧ (toPy (.tup xs)).depth ≤ 50 ∧ (toPy (.tup xs)).shown.length ≤ sizeLine) ∧ Q (.str (toPy (.tup xs)).shown) Γ
  | [.dic []] => Q (.str (PyData.dict []).shown) Γ
  | _ => False
theorem roomU {k : Nat} {A : Around} (r : Room k A) : A.units + 100 < cLine := by have := r.un; omega
theorem ol_eqU (hK : F.K = X.K) (hu : X.A.units + 100 < cLine) : OpL X F E (compareOp .Eq) oEq := OpL.of (op_eqD (by omega)) fun σ H G Γ x y d e Q k rx ry q => by
  obtain ⟨a, b, q⟩ := q
  exact ⟨toPy d, toPy e, hK ▸ dp_of k.sub (plain_py a).1 rx, hK ▸ dp_of k.sub (plain_py b).1 ry, (plain_py a).2, (plain_py b).2, fin0 k q rfl⟩
theorem bl_repr (hK : F.K = X.K) (hr : X.A.units + 100 < cLine) (hg : X.A.guards = some []) : BlL X F E (.builtin "repr") oRepr := by
  intro pins s σ H G Γ vs us ds Q I k rv rd q
  have shown : ∀ {d : PyData} {u : Value} {a : Addr} {as : List Addr}, u = .ref a → Reads s.heap u d as → d.showable = true → (d.hasDict = true → sysModules ∉ as) → d.depth ≤ 50 → d.shown.length ≤ sizeLine → Q (.str d.shown) Γ →
      wpAny (model X.prog X.w) X.A (call (.builtin "repr") [u]) (EP X pins σ (Fin F G σ Q)) X.xe s := by
    intro d u a as e r h1 h2 h3 h4 hq
    subst e
    exact repr_of_reads' r h1 h2 hg (by omega) (fun _ _ z => z) (fun h' u tk hk => ⟨.str d.shown, H, I.kept hk, ⟨_, rfl⟩, fin0 k hq rfl⟩) h4
  unfold oRepr at q
  split at q
  · obtain ⟨v, rfl, r⟩ := reps1 rd
    cases (show v = _ from r)
    obtain ⟨u, rfl, ru⟩ := vals1 rv
    cases (show u = Value.none from ru)
    exact PySem.P.repr_of_none ⟨.str _, H, I.tok _, ⟨_, rfl⟩, fin0 k q rfl⟩
  · rename_i b
    obtain ⟨v, rfl, r⟩ := reps1 rd
    cases (show v = _ from r)
    obtain ⟨u, rfl, ru⟩ := vals1 rv
    cases (show u = Value.bool b from ru)
    exact PySem.P.repr_of_bool ⟨.str _, H, I.tok _, ⟨_, rfl⟩, fin0 k q rfl⟩
  · rename_i i
    obtain ⟨v, rfl, r⟩ := reps1 rd
    cases (show v = _ from r)
    obtain ⟨u, rfl, ru⟩ := vals1 rv
    obtain ⟨t, rfl⟩ := (show ∃ t, u = Value.int i t from ru)
    exact PySem.P.repr_of_int q.1 ⟨.str _, H, I.tok _, ⟨_, rfl⟩, fin0 k q.2 rfl⟩
  · rename_i x
    obtain ⟨v, rfl, r⟩ := reps1 rd
    cases (show v = _ from r)
    obtain ⟨u, rfl, ru⟩ := vals1 rv
    obtain ⟨t, rfl⟩ := (show ∃ t, u = Value.str x t from ru)
    exact PySem.P.repr_of_str ⟨.str _, H, I.tok _, ⟨_, rfl⟩, fin0 k q.2 rfl⟩ q.1
  · rename_i xs
    obtain ⟨v, rfl, r⟩ := reps1 rd
    obtain ⟨u, rfl, ru⟩ := vals1 rv
    obtain ⟨⟨h1, h2, h3, h4, h5⟩, hq⟩ := q
    obtain ⟨as, rr⟩ := Dp.reads I _ v u (hK ▸ dp_of k.sub (d := .lst xs) h1 r) ru
    obtain ⟨a, ws, rfl, _⟩ := r
    exact shown ru rr h2 (fun z => by rw [h3] at z; cases z) h4 h5 hq
  · rename_i xs
    obtain ⟨v, rfl, r⟩ := reps1 rd
    obtain ⟨u, rfl, ru⟩ := vals1 rv
    obtain ⟨⟨h1, h2, h3, h4, h5⟩, hq⟩ := q
    obtain ⟨as, rr⟩ := Dp.reads I _ v u (hK ▸ dp_of k.sub (d := .tup xs) h1 r) ru
    obtain ⟨a, ws, rfl, _⟩ := r
    exact shown ru rr h2 (fun z => by rw [h3] at z; cases z) h4 h5 hq
  · obtain ⟨v, rfl, r⟩ := reps1 rd
    obtain ⟨u, rfl, ru⟩ := vals1 rv
    obtain ⟨a, ws, rfl, g, rw'⟩ := r
    cases (show ws = [] from rw')
    cases (show u = Value.ref a from ru)
    have key : ObjOk X.prog X.w H s.heap a (.dK []) := by
      rcases k.sub _ _ g with e | ⟨_, ob, e⟩
      · exact I.hok a _ e
      · exact (show ObjOk X.prog X.w H s.heap a (.frz ob (.dK [])) from I.hok a _ e).2
    obtain ⟨_, hs, vs, kv, o, es, ep, h1, h2, h3, _, h5, _⟩ := key
    cases kv
    have hes : es.toList = [] := by
      cases h : es.toList with
      | nil => rfl
      | cons _ _ => rw [h] at h5; cases h5
    refine shown (d := .dict []) (as := a :: [] ++ []) rfl (.dict (as := []) (bs := []) h1 h2.1 h3 (by rw [hes]; exact .nil) (by rw [hes]; exact .nil)) rfl (fun _ m => ?_) (by decide) (by decide) q
    have : sysModules = a := by simpa using m
    rw [this] at hs
    simp at hs
  · exact q.elim
end
section
variable {P : Program} {w : World} {mg : Str → Option Value} {base : Heap} {Fc : Cf}
theorem fnCG {c : Ct} {r : QS} {x qual : Str} {params : Arguments} {body : List Stmt} {scope : Scope} {dvs : List V} {kws : List (Str × V)} {f : Addr} {fd : FuncData} {N ps : List Str} {k : Nat} (Fn : FunD Fc.K x qual params body scope dvs kws f fd) (S : FnScope N ps scope)
    (hlen : ∀ args Q E, c args Q E → args.length = ps.length) (hw : ∀ args Q E, c args Q E → r (startE N.length args) (endsC args Q) (exnC args E))
    (hd : ∀ (cdv : Value) (A : Around) (outer : List PySem.Env) (s : Shared) (H : Hp) (E0 : XK), Room k (A.deeper (envOfC qual scope s.heap.objs.size f cdv)) → (A.deeper (envOfC qual scope s.heap.objs.size f cdv)).guards = some [] → ∀ (F : Fx) (E : XP), F.toCf = Fc →
      Takes (cxOf (L2.CX P w) P w Fc.K mg base N qual scope f cdv A outer s H E0) (wOf F E) → PassesOwn (model P w) (A.deeper (envOfC qual scope s.heap.objs.size f cdv)) (envOfC qual scope s.heap.objs.size f cdv) (cxOf (L2.CX P w) P w Fc.K mg base N qual scope f cdv A outer s H E0).xe →
      LSs (cxOf (L2.CX P w) P w Fc.K mg base N qual scope f cdv A outer s H E0) F E body r) :
    FnG P w Fc.K mg base (L2.CX P w) (k + 1) f fd ps (spC Fc c) := by
  obtain ⟨oc, od, dV, kV, doc, pm, an, cdv, ct, osl, rfl, lk, hcd, _, _⟩ := Fn.ex
  have len : ∀ vs H Q E, spC Fc c vs H Q E → vs.length = ps.length := fun vs H Q E ⟨G, args, sb, ha, nd, Qc, Ec, hc, _⟩ => by
    rw [ha.len]
    exact hlen _ _ _ hc
  refine ⟨len, fun A outer s H args us vs Q E hgd hr e0 hb rr hsp => ?_⟩
  have hl := len _ _ _ _ hsp
  have KX : Fc.K.In s.heap := e0.mod.kin.keeps fun b o e => (e0.bs b o e).1
  have lim : s.heap.NoLimit := e0.mod.nolimit.keeps fun b o e => (e0.bs b o e).1
  have hkind : ∀ y ∈ ps.zip us, scope.names.lookup y.1 = some .local ∨ (scope.names.lookup y.1 = some .cell ∧ ((cellsFrom (s.heap.objs.size + 1) scope.names []).lookup y.1).isSome = true) := fun ⟨n, v⟩ hy => by
    rcases S.par n (List.of_mem_zip hy).1 with q | q
    · exact .inl q
    · exact .inr ⟨q, PySem.W.cellsFrom_some _ _ _ (.inl q)⟩
  refine codeAny_call_function hr.depth (KX _ _ lk) rfl S.co S.gen rfl (PySem.W.codeRec_of KX hcd) (hb _ _ _ _ ?_)
  refine wpAny_newFunctionEnv_cells S.kind hkind fun env he s1 x => ?_
  subst he
  refine ⟨lim.keeps x.toInCall.keep, codeAny_func ?_⟩
  obtain ⟨G, args', sb, ha, nd, Qc, Ec, hc, hq, he⟩ := hsp
  have al : args'.length = ps.length := hlen _ _ _ hc
  have tk0 : Takes (cxOf (L2.CX P w) P w Fc.K mg base N qual scope f cdv A outer s H E) (fun cls d _ H' => E cls d H') := takes_of rfl rfl rfl rfl
  have tk : Takes (cxOf (L2.CX P w) P w Fc.K mg base N qual scope f cdv A outer s H E) (wOf (fxOf Fc G H args' vs) (exnC args' Ec)) := fun u s' ⟨a, B, sI, pins, σ, H', cls, d, e, I, nb, up, sky, na, os, ag, G', Γ', xx, kk, xr, q⟩ => by
    obtain ⟨p, o1, o2⟩ := post_end ha kk
    exact tk0 u s' ⟨a, B, sI, pins, σ, H', cls, d, e, I, nb, up, sky, na, os, ag, he xx _ cls d H' G' q p o1 o2 xr⟩
  have D := hd cdv A outer s H E (hr.deeper _) hgd (fxOf Fc G H args' vs) (exnC args' Ec) rfl tk PassesOwn.leaving
  have I : Inv (cxOf (L2.CX P w) P w Fc.K mg base N qual scope f cdv A outer s H E) [] (start N vs) H s1 := inv_start S hr.hd e0 hl rr x
  refine wpAny_mono (D.run [] s1 (start N vs) H G (startE N.length args') (endsC args' Qc) I (ok_start sb ha nd) (hw args' Qc Ec hc)) (fun fl s' hs => ?_) fun e s' hs => hs
  have fin : ∀ {σ' : St} {H' : Hp} {v : V} {u : Value}, Inv (cxOf (L2.CX P w) P w Fc.K mg base N qual scope f cdv A outer s H E) [] σ' H' s' → RelV v u → Q v H' → CE outer P w H s Q u s' :=
    fun {σ' H' v u} J rv q => ⟨v, H', J.os, J.bare, J.base, J.hok, rv, q⟩
  cases fl with
  | next =>
    obtain ⟨σ', H', I', Γ', G', q, i, kk⟩ := hs
    obtain ⟨p, o1, o2⟩ := post_end ha kk
    exact fin (v := V.non) (u := Value.none) I' rfl (hq _ _ .non H' G' q p o1 o2 rfl)
  | ret u =>
    obtain ⟨v, σ', H', I', rv, d, Γ', G', σ2, q, i, kk, rp⟩ := hs
    obtain ⟨p, o1, o2⟩ := post_end ha kk
    exact fin I' rv (hq _ _ v H' G' q p o1 o2 rp)
  | brk =>
    obtain ⟨σ', H', I', Γ', G', q, i, kk⟩ := hs
    exact q.elim
  | cont =>
    obtain ⟨σ', H', I', Γ', G', q, i, kk⟩ := hs
    exact q.elim
end
end Q

set_option Elab.async false
set_option linter.all false
set_option maxRecDepth 100000
set_option maxHeartbeats 4000000
namespace Q
open He5 (DefA fnA wf wrapB cmet_of)
open PySem L2 PySem.Spec PyProof.Rows He PySem.W
/-! ## 17. The law's end, where nothing is being shown -/
section
variable {X : Cx} {A : Around} {Fc : Cf}
theorem code_fnG {c0 c : Ct} {k n : Nat} {f : Addr} {fd : FuncData} {ps ks : List Str} {g : List Value → List Value → List Value} {gV : List V → List V → List V} (Fn : FnG X.prog X.w X.K X.mg X.base (L2.CX X.prog X.w) k f fd ps (spC Fc c0)) (hgd : A.guards = some []) (hA : A.frames = X.A.frames) (hr : Room k A) (hb : KBn X.K fd ps n ks g gV)
    (hl : ∀ args Q E, c args Q E → args.length = n + ks.length) (hsp : ∀ vs zs H Q E, vs.length = n → zs.length = ks.length → spC Fc c (vs ++ zs) H Q E → spC Fc c0 (gV vs zs) H Q E) : CodeOk X A Fc f n ks c := by
  refine ⟨hl, fun pins s σ H vs us zs ws Q W tk I r rz l1 l2 h => ?_⟩
  have r2 := hb.rel r rz
  refine codeAny_mono (Fn.run A X.stack s H ⟨us, ks.zip ws⟩ (g us ws) (gV vs zs) Q (WE W σ) hgd hr (env0_at hA I) (hb.to s us ws I.kIn (r.length.symm.trans l1) (rz.length.symm.trans l2)) r2 (hsp vs zs H Q _ l1 l2 h)) fun r s' hq => ?_
  cases r with
  | error e => exact passAt tk σ pins H s e s' I hq
  | ok fl =>
    cases fl with
    | ret u => exact I.after hq
    | next => exact False.elim hq
    | brk => exact False.elim hq
    | cont => exact False.elim hq
end
structure FnBG (P : Program) (w : World) (K : Frag) (mg : Str → Option Value) (base : Heap) (d : DefA) (k : Nat) (ps : List Str) (c : Ct) : Prop where
  ex : ∃ fd, FunD K d.name d.qual d.params d.body d.scope (d.dvs K) (d.kws K) (d.at_ K) fd ∧ FnG P w K mg base (L2.CX P w) k (d.at_ K) fd ps (spC (cf K) c)
  len : ∀ args Q E, c args Q E → args.length = ps.length
section
variable {P : Program} {w : World} {K : Frag} {mg : Str → Option Value} {base : Heap}
theorem FnBG.kp {d : DefA} {k : Nat} {ps : List Str} {c : Ct} (h : FnBG P w K mg base d k ps c) : keepIn K (.ref (d.at_ K)) = true := by
  obtain ⟨fd, F, _⟩ := h.ex
  exact F.kp
theorem FnBG.all {d : DefA} {k : Nat} {ps : List Str} {c : Ct} {X : Cx} {A : Around} {n : Nat} (h : FnBG P w K mg base d k ps c) (hgd : A.guards = some []) (hX : X.prog = P) (hw : X.w = w) (hK : X.K = K) (hmg : X.mg = mg) (hb : X.base = base) (hA : A.frames = X.A.frames) (hr : Room k A) (hd : d.dfl = []) (hn : n = ps.length)
    (hbd : ∀ (kV doc pm : Value) (an : Option Addr) (cdv ct : Value) (us : List Value), us.length = ps.length → bindArgs (fnOf d.name d.qual d.params d.body d.scope .none kV doc pm an cdv ct) ⟨us, []⟩ = pure (ps.zip us)) : CodeOk X A (cf K) (d.at_ K) n [] c := by
  subst hX hw hK hmg hb
  obtain ⟨fd, F, G⟩ := h.ex
  have hdv : d.dvs X.K = [] := by unfold DefA.dvs; rw [hd]; rfl
  rw [hdv] at F
  exact code_fnG G hgd hA hr (kbn_all (F.bindsN hbd) hn) (fun args Q E z => by rw [hn]; exact h.len args Q E z) fun vs zs H Q E l1 l2 h => by
    cases zs with
    | nil => rw [List.append_nil] at h; exact h
    | cons _ _ => cases l2
theorem FnBG.of {d : DefA} {k : Nat} {N ps : List Str} {c : Ct} {r : QS} (Fn : ∃ fd, FunD K d.name d.qual d.params d.body d.scope (d.dvs K) (d.kws K) (d.at_ K) fd) (S : FnScope N ps d.scope) (hlen : ∀ args Q E, c args Q E → args.length = ps.length) (hw : ∀ args Q E, c args Q E → r (startE N.length args) (endsC args Q) (exnC args E))
    (hd : ∀ (f : Addr) (cdv : Value) (A : Around) (outer : List PySem.Env) (s : Shared) (H : Hp) (E0 : XK), Room k (A.deeper (envOfC d.qual d.scope s.heap.objs.size f cdv)) → (A.deeper (envOfC d.qual d.scope s.heap.objs.size f cdv)).guards = some [] → ∀ (G0 H0 : Hp) (B : List Addr) (pin : List (Option Addr)) (xa : Addr) (xd : Option Addr) (xc : Cn) (E : XP),
      Takes (cxOf (L2.CX P w) P w K mg base N d.qual d.scope f cdv A outer s H E0) (wOf ⟨cf K, G0, H0, B, pin, xa, xd, xc⟩ E) → PassesOwn (model P w) (A.deeper (envOfC d.qual d.scope s.heap.objs.size f cdv)) (envOfC d.qual d.scope s.heap.objs.size f cdv) (cxOf (L2.CX P w) P w K mg base N d.qual d.scope f cdv A outer s H E0).xe →
      LSs (cxOf (L2.CX P w) P w K mg base N d.qual d.scope f cdv A outer s H E0) ⟨cf K, G0, H0, B, pin, xa, xd, xc⟩ E d.body r) : FnBG P w K mg base d (k + 1) ps c := by
  obtain ⟨fd, F⟩ := Fn
  refine ⟨⟨fd, F, fnCG (Fc := cf K) F S hlen hw fun cdv A outer s H E0 hr hgd Fx E hF tk hp => ?_⟩, hlen⟩
  obtain ⟨c0, G0, H0, B, pin, xa, xd, xc⟩ := Fx
  dsimp only at hF
  subst hF
  exact hd _ cdv A outer s H E0 hr hgd G0 H0 B pin xa xd xc E tk hp
end
/-- what is asked of a law's def: at every script it says True -/
def lawC (n : Nat) : Ct := fun args Q _ => ∃ ns : List Int, args = [.val (.scr ns)] ∧ ns.length ≤ n ∧ Q (.bl true) args
theorem lawC_sp {K : Frag} {n : Nat} {H : Hp} {a : Addr} {ns : List Int} {G : Hp} (sb : Sub G H) (hG : SqL K G a (ns.map V.int)) (hl : ns.length ≤ n) : spC (cf K) (lawC n) [.ref a] H (fun v _ => v = .bl true) (fun _ _ _ => False) := by
  refine ⟨G, [.val (.scr ns)], sb, ⟨.ref a, [], rfl, ⟨a, rfl, hG⟩, rfl⟩, List.nodup_nil, fun d _ => d = .bl true, fun _ _ => False, ⟨ns, rfl, hl, rfl⟩, fun d outs v H' G' q p ha sh r => ?_, fun x outs cls dd H' G' q p ha sh r => q⟩
  subst q
  exact r
theorem endG {l : OpenLaw} {n k : Nat} {q : Program} {loose : List Str} {XP : (Str → Option Value) → Heap → Prop} {YP : World → Heap → Prop} {d : DefRec} {x : Str}
    (hn : l.most = some n) (hn2 : n ≤ sizeLine) (hdf : d.params.defaults = []) (hr : Room k callerA)
    (F : ∀ (w : World) (mg : Str → Option Value) (fa : Addr) (h : Heap), YP w h → h.Ns mainGlobals mg → mg d.name = some (.ref fa) →
      ∃ (K : Frag) (fd : FuncData), K.In h ∧ (∀ (s : Shared) (u : Value), BindsTo s fd ⟨[u], []⟩ [(x, u)]) ∧
        ∀ base : Heap, K.In base → base.Ns mainGlobals mg → FnG l.prog w K mg base (L2.CX l.prog w) k fa fd [x] (spC (cf K) (lawC n))) :
    WalkO q loose XP YP l.row.toRowW d [] (fun f vs => PySem.call f vs) := by
  refine Att.attach_call hn hdf fun w s₀ s₁ mg mb fa o pm cd doc a vs ns G Y ho hd hcd hmg ha hi hlen hg => ?_
  obtain ⟨K, fd, KX, hbind, hF⟩ := F w mg fa _ Y G.T.g hmg
  have rv := vals_ints hi
  have lenV := hi.length
  have hl : ns.length ≤ sizeLine := Nat.le_trans hlen hn2
  -- H tells of the script alone
  have core : ∀ H : Hp, Only H → SqL K H a (ns.map V.int) → HOk l.prog w H s₁.heap → (∀ b, H b ≠ none → b = a) → (H a ≠ none → K.lookup a = none) →
      codeAny (model l.prog w) callerA (.call (.ref fa) ⟨[.ref a], []⟩) (fun r s' => r = .ok (.ret (.bool true)) ∧ OldK s₁.heap s'.heap ∧ s'.os = s₁.os ∧ AllBare s'.gens) s₁ := by
    intro H hO hS hok hA hK
    have own : ∀ {b : Addr} {u : HO}, H b = some u → b = a := fun {b u} e => hA b (by rw [e]; exact Option.some_ne_none u)
    have noA : ∀ {b : Addr} {o : Obj} {es : Array DictEntry} {ep : Nat}, s₁.heap.get? b = some o → o.data = .dict es ep → H b = none := fun {b o es ep} e dd => by
      cases hb : H b with
      | none => rfl
      | some u =>
        rw [own hb, ha] at e
        cases e
        cases dd
    have nsK : ∀ {b : Addr} {m : Str → Option Value}, s₁.heap.Ns b m → (hidT s₁.heap H).Ns b m := fun {b m} ⟨o, es, ep, e, dd, r⟩ => ⟨o, es, ep, hidT_get e (noA e dd), dd, r⟩
    have hKb : K.In (hidT s₁.heap H) := fun b o e => hidT_get (KX b o e) (by
      cases hb : H b with
      | none => rfl
      | some u =>
        have eb := own hb
        subst eb
        rw [hK (by rw [hb]; exact Option.some_ne_none u)] at e
        cases e)
    have hM : Mod K mg (hidT s₁.heap H) := ⟨hKb, nsK G.T.g, ⟨mb, nsK G.T.b, G.T.builtins⟩, let ⟨mc, h1, h2⟩ := G.T.nolimit; ⟨mc, nsK h1, h2⟩⟩
    have e0 : Env0 l.prog w K mg (hidT s₁.heap H) callerA [] s₁ H := ⟨rfl, hM, fun b o e => of_hidT e, Nat.le_of_eq (hidT_size _ _), trivial, fun b hb => absurd (show b ∈ ([] : List Addr) from hb) (by simp), hok, .of_eq hg⟩
    refine codeAny_mono ((hF _ hKb (nsK G.T.g)).run callerA [] s₁ H ⟨[.ref a], []⟩ [.ref a] [.ref a] _ _ rfl hr e0 (hbind s₁ (.ref a)) (.cons rfl .nil) (lawC_sp (G := H) (fun b o e => .inl e) hS hlen)) fun r s' h => ?_
    cases r with
    | error e =>
      obtain ⟨_, _, _, _, _, _, _, _, _, _, _, _, z⟩ := (show L2.CX l.prog w [] H s₁ (fun _ _ _ => False) e s' from h)
      exact z.elim
    | ok fl =>
      cases fl with
      | next => exact False.elim h
      | brk => exact False.elim h
      | cont => exact False.elim h
      | ret u =>
        obtain ⟨v, H', os, bare, un, hok', r', z⟩ := h
        have z' : v = .bl true := z
        subst z'
        obtain rfl : u = Value.bool true := r'
        refine ⟨rfl, OldK.of_keep fun b o e => ?_, os, bare⟩
        cases hb : H b with
        | none => exact un.keep b o e hb (fun y => absurd (show b ∈ ([] : List Addr) from y) (by simp)) (by simp)
        | some u =>
          rcases hO b with y | ⟨ob, xs, y⟩
          · rw [hb] at y
            cases y
          · obtain ⟨e1, _⟩ := hok b _ y
            obtain ⟨e2, _⟩ := hok' b _ (un.frzs b ob _ y)
            rw [e] at e1
            cases e1
            exact e2
  cases hk : K.lookup a with
  | some o =>
    have e := KX a o hk
    rw [ha] at e
    cases e
    exact core (fun _ => none) (fun _ => .inl rfl) (.inr ⟨_, vs.toArray, _, hk, rfl, rfl, rfl, by rw [List.size_toArray, lenV]; exact hl, by simpa using rv⟩) (fun b u z => by cases (show (none : Option HO) = some u from z)) (fun b z => absurd rfl z) fun z => absurd rfl z
  | none =>
    refine core (fun b => if b = a then some (.frz { cls := .type "list", data := .seq vs.toArray } (.lst (ns.map V.int))) else none) (fun b => ?_) (.inl (.inr ⟨{ cls := .type "list", data := .seq vs.toArray }, if_pos rfl⟩)) (fun b u z => ?_) (fun b z => ?_) fun _ => hk
    · by_cases hb : b = a
      · exact .inr ⟨_, _, if_pos hb⟩
      · exact .inl (if_neg hb)
    · by_cases hb : b = a
      · have z' := (if_pos hb).symm.trans z
        cases z'
        subst hb
        exact ⟨ha, by rw [List.length_map]; exact hl, vs, _, rv, ha⟩
      · have z' := (if_neg hb).symm.trans z
        cases z'
    · by_cases hb : b = a
      · exact hb
      · exact absurd (if_neg hb) z
end Q

set_option Elab.async false
set_option linter.all false
set_option maxRecDepth 100000
set_option maxHeartbeats 4000000
namespace Q
open PySem L2 PySem.Spec PyProof.Rows He PySem.W
/-- the function object at an address is one -/
theorem same_fd {K : Frag} {x qual x' qual' : Str} {params params' : Arguments} {body body' : List Stmt} {scope scope' : Scope} {dvs dvs' : List V} {kws kws' : List (Str × V)} {f : Addr} {fd fd' : FuncData} (F : FunD K x qual params body scope dvs kws f fd) (F' : FunD K x' qual' params' body' scope' dvs' kws' f fd') : fd' = fd := by
  obtain ⟨oc, od, dV, kV, doc, pm, an, cdv, ct, osl, _, lk, _⟩ := F.ex
  obtain ⟨oc', od', dV', kV', doc', pm', an', cdv', ct', osl', _, lk', _⟩ := F'.ex
  rw [lk] at lk'
  cases lk'
  rfl
end Q

set_option Elab.async false
set_option linter.all false
set_option maxRecDepth 100000
set_option maxHeartbeats 4000000
namespace Q
open PySem L2 PySem.Spec PyProof.Rows
/-! ## 18. [e for x in it if t], nothing is raised in it -/
def wipeE (Γ : Env) : List Nat → Env
  | [] => Γ
  | v :: vs => (wipeE Γ vs).set v .no
/-- the names of the comprehension stand for nothing that may change -/
def offs (Γ : Env) : List Nat → Bool
  | [] => true
  | v :: vs => offI Γ v && offs Γ vs
abbrev noE : XP := fun _ _ => False
structure LTs (X : Cx) (F : Fx) (E : XP) (ifs : List Expr) (p : QT) : Prop where
  run : ∀ (pins : List (Addr × Obj)) (s : Shared) (σ : St) (H G : Hp) (Γ : Env) (Q : Bool → Env → Prop), Inv X pins σ H s → Ok F G H σ Γ → p Γ Q E →
    wpAny (model X.prog X.w) X.A (forIn ifs true fun c r => if r = true then do let ok ← isTrue c X.env (eval c X.env); pure (ForInStep.yield ok) else pure (ForInStep.yield r)) (TP X pins σ (FinT F G σ Q)) X.xe s
def qYes : QT := fun Γ Q _ => Q true Γ
section
variable {X : Cx} {F : Fx} {E : XP}
theorem lts_nil : LTs X F E [] qYes := ⟨fun _ _ _ H G Γ _ I k h => wpAny_tests_nil ⟨H, I, Γ, G, h, Inc.refl G, k⟩⟩
theorem lts_one {c : Expr} {t : QT} (h : LT X F E c t) : LTs X F E [c] t := ⟨fun pins s σ H G Γ Q I k hw => wpAny_tests_one (h.run pins s σ H G Γ Q I k hw)⟩
theorem Ok.wipe {G H : Hp} {σ : St} {Γ : Env} (k : Ok F G H σ Γ) : ∀ {vs : List Nat}, offs Γ vs = true → Ok F G H (wipe σ vs) (wipeE Γ vs) ∧ ∀ i, offI Γ i = true → offI (wipeE Γ vs) i = true
  | [], _ => ⟨k, fun _ h => h⟩
  | v :: vs, h => by
    obtain ⟨h1, h2⟩ := Bool.and_eq_true_iff.mp h
    obtain ⟨k1, o1⟩ := k.wipe (vs := vs) h2
    refine ⟨k1.unset (offI_ok (o1 v h1)), fun i hi => ?_⟩
    have hi' := o1 i hi
    unfold wipeE
    unfold offI at hi' ⊢
    by_cases e : v = i
    · subst e
      cases hg : (wipeE Γ vs)[v]? with
      | none => rw [hg] at hi'; cases hi'
      | some s =>
        have hl : v < (wipeE Γ vs).length := (List.getElem?_eq_some_iff.mp hg).1
        rw [List.getElem?_set_self hl]
    · rw [List.getElem?_set_ne e]
      exact hi'
theorem wipe_get {σ : St} {j : Nat} : ∀ {vs : List Nat}, (wipe σ vs)[j]? = if j ∈ vs then (σ[j]?).map (fun _ => none) else σ[j]?
  | [] => by simp [wipe]
  | v :: vs => by
    unfold wipe
    have ih := wipe_get (σ := σ) (j := j) (vs := vs)
    by_cases h : v = j
    · subst h
      rw [List.getElem?_set, if_pos rfl, wipe_length, if_pos List.mem_cons_self]
      by_cases hl : v < σ.length
      · rw [if_pos hl, List.getElem?_eq_getElem hl]; rfl
      · rw [if_neg hl, List.getElem?_eq_none (by omega)]; rfl
    · rw [List.getElem?_set_ne h, ih]
      by_cases hm : j ∈ vs
      · rw [if_pos hm, if_pos (List.mem_cons_of_mem _ hm)]
      · rw [if_neg hm, if_neg (fun z => by
          rcases List.mem_cons.mp z with z | z
          · exact h z.symm
          · exact hm z)]
theorem wipe_idem {σ : St} {vs : List Nat} : wipe (wipe σ vs) vs = wipe σ vs := by
  refine List.ext_getElem? fun j => ?_
  rw [wipe_get, wipe_get]
  split
  · cases σ[j]? <;> rfl
  · rfl
theorem wipe_set {σ : St} {vs : List Nat} {i : Nat} {v : Option V} (h : i ∈ vs) : wipe (σ.set i v) vs = wipe σ vs := by
  refine List.ext_getElem? fun j => ?_
  rw [wipe_get, wipe_get]
  split
  · by_cases e : i = j
    · subst e
      rw [List.getElem?_set, if_pos rfl]
      by_cases hl : i < σ.length
      · rw [if_pos hl, List.getElem?_eq_getElem hl]; rfl
      · rw [if_neg hl, List.getElem?_eq_none (by omega)]
    · rw [List.getElem?_set_ne e]
  · rename_i hm
    rw [List.getElem?_set_ne (show i ≠ j from fun e => hm (e ▸ h))]
theorem wipeE_len {Γ : Env} : ∀ {vs : List Nat}, (wipeE Γ vs).length = Γ.length
  | [] => rfl
  | v :: vs => by unfold wipeE; rw [List.length_set, wipeE_len]
theorem wipeE_no {Γ : Env} : ∀ {vs : List Nat}, offs Γ vs = true → ∀ v ∈ vs, (wipeE Γ vs)[v]? = some .no
  | [], _, v, m => by cases m
  | u :: vs, h, v, m => by
    obtain ⟨h1, h2⟩ := Bool.and_eq_true_iff.mp h
    unfold wipeE
    by_cases e : u = v
    · subst e
      have hl : u < (wipeE Γ vs).length := by
        rw [wipeE_len]
        unfold offI at h1
        cases hg : Γ[u]? with
        | none => rw [hg] at h1; cases h1
        | some s => exact (List.getElem?_eq_some_iff.mp hg).1
      rw [List.getElem?_set_self hl]
    · rw [List.getElem?_set_ne e]
      rcases List.mem_cons.mp m with z | z
      · exact absurd z.symm e
      · exact wipeE_no h2 v z
theorem mutA_same : ∀ {σ σ' : St} {Γ : Env}, σ.length = σ'.length → (∀ (i : Nat) s, Γ[i]? = some s → s.mo.isSome = true → σ[i]? = σ'[i]?) → mutA σ Γ = mutA σ' Γ
  | [], [], _, _, _ => rfl
  | v :: σ, v' :: σ', [], _, _ => by
    have e : ∀ (u : Option V) (τ : St), mutA (u :: τ) [] = [] := fun u τ => by
      cases u with
      | none => rfl
      | some w => cases w <;> rfl
    rw [e, e]
  | v :: σ, v' :: σ', s :: Γ, h, k => by
    have ih := mutA_same (σ := σ) (σ' := σ') (Γ := Γ) (by simpa using h) fun i t e z => by
      have := k (i + 1) t (by simpa using e) z
      simpa using this
    rw [mutA_cons, mutA_cons, ih]
    cases s with
    | own o =>
      have := k 0 _ rfl rfl
      simp at this
      rw [this]
    | bor o =>
      have := k 0 _ rfl rfl
      simp at this
      rw [this]
    | no =>
      cases v with
      | none => cases v' with
        | none => rfl
        | some w => cases w <;> rfl
      | some w => cases v' with
        | none => cases w <;> rfl
        | some w' => cases w <;> cases w' <;> rfl
    | val d =>
      cases v with
      | none => cases v' with
        | none => rfl
        | some w => cases w <;> rfl
      | some w => cases v' with
        | none => cases w <;> rfl
        | some w' => cases w <;> cases w' <;> rfl
    | exc c fs =>
      cases v with
      | none => cases v' with
        | none => rfl
        | some w => cases w <;> rfl
      | some w => cases v' with
        | none => cases w <;> rfl
        | some w' => cases w <;> cases w' <;> rfl
  | [], _ :: _, _, h, _ => by simp at h
  | _ :: _, [], _, h, _ => by simp at h
theorem Ok.unwipe {G H : Hp} {σ : St} {Γ : Env} {vs : List Nat} (k : Ok F G H (L2.wipe σ vs) Γ) (hv : ∀ v ∈ vs, Γ[v]? = some .no) : Ok F G H σ Γ := by
  have same : ∀ (i : Nat) s, Γ[i]? = some s → s ≠ .no → (L2.wipe σ vs)[i]? = σ[i]? := fun i s e ns => by
    rw [wipe_get, if_neg (fun m => ns (by rw [hv i m] at e; exact (Option.some.inj e).symm))]
  refine ⟨k.sub, k.g0, k.fresh, k.frame, k.bor, ?_, ?_, fun i a e => ?_, k.pl⟩
  · refine Slots.mk (by rw [← k.slots.len, wipe_length]) fun i v s e1 e2 => ?_
    by_cases ns : s = .no
    · subst ns
      cases v <;> trivial
    · obtain ⟨v', ev, ok⟩ := k.slots.get e2
      rw [same i s e2 ns, e1] at ev
      cases ev
      exact ok
  · rw [← mutA_same (σ := L2.wipe σ vs) (by rw [wipe_length]) fun i s e z => same i s e (fun q => by subst q; cases z)]
    exact k.nd
  · obtain ⟨e1, o, e2⟩ := k.pin i a e
    exact ⟨by rw [← same i _ e2 (by simp)]; exact e1, o, e2⟩
/-- a target whose names are the comprehension's own -/
structure LGv (X : Cx) (F : Fx) (tg : Expr) (g : QG) (vs : List Nat) : Prop where
  run : ∀ (pins : List (Addr × Obj)) (s : Shared) (σ : St) (H G : Hp) (Γ : Env) (v : V) (u : Value) (d : D) (Q : Env → Prop), Inv X pins σ H s → Ok F G H σ Γ → RelV v u → Rep F.toCf G d v → g d Γ Q →
    wpAny (model X.prog X.w) X.A (assign tg X.env u) (fun _ s' => ∃ σ' H', Inv X pins σ' H' s' ∧ wipe σ' vs = wipe σ vs ∧ ∃ Γ', Q Γ' ∧ Ok F G H' σ' Γ') X.xe s
structure LGvs (X : Cx) (F : Fx) (ts : List Expr) (g : List D → Env → (Env → Prop) → Prop) (vs : List Nat) : Prop where
  run : ∀ (pins : List (Addr × Obj)) (s : Shared) (σ : St) (H G : Hp) (Γ : Env) (ws : List V) (us : List Value) (ds : List D) (Q : Env → Prop), Inv X pins σ H s → Ok F G H σ Γ → Vals ws us → Reps F.toCf G ds ws → g ds Γ Q →
    wpAny (model X.prog X.w) X.A (assignInOrder ((assignEach ts X.env).map (·.2)) us) (fun _ s' => ∃ σ' H', Inv X pins σ' H' s' ∧ wipe σ' vs = wipe σ vs ∧ ∃ Γ', Q Γ' ∧ Ok F G H' σ' Γ') X.xe s
variable {vs : List Nat} {pos : Pos}
theorem lgv_name (i : Nat) {x : Str} (hN : X.N.Nodup) (hm : i ∈ vs := by decide) (hi : X.N[i]? = some x := by rfl) (hx : Loc X.env.scope x := by first | exact Or.inl rfl | exact Or.inr rfl) (hf : X.fn x = true ∨ X.env.scope.names.lookup x = some .local := by first | exact .inl rfl | exact .inr rfl | assumption) : LGv X F (.Name x pos) (gV i) vs :=
  ⟨fun pins s σ H G Γ v u d Q I k r rp h => by
    obtain ⟨n, q⟩ := setV_get h
    exact thn ((pg_name (X := X) (i := i) hN hi hx hf).run pins s σ H v u (fun σ' H' => wipe σ' vs = wipe σ vs ∧ ∃ Γ', Q Γ' ∧ Ok F G H' σ' Γ') I r ⟨wipe_set hm, _, q, k.set n rp⟩) fun _ s' ⟨σ', H', I', a, b⟩ => ⟨σ', H', I', a, b⟩⟩
theorem lgvs_nil : LGvs X F [] gsNil vs := ⟨fun pins s σ H G Γ ws us ds Q I k r rp h => by
  cases ds with
  | nil =>
    cases (show ws = [] from rp)
    cases r
    exact assignInOrder_nil ⟨σ, H, I, rfl, Γ, h, k⟩
  | cons _ _ => exact h.elim⟩
theorem lgvs_cons {e : Expr} {es : List Expr} {g : QG} {gr : List D → Env → (Env → Prop) → Prop} (h1 : LGv X F e g vs) (h2 : LGvs X F es gr vs) (hs : (assignEach (e :: es) X.env).map (·.2) = assign e X.env :: (assignEach es X.env).map (·.2) := by rfl) : LGvs X F (e :: es) (gsCons g gr) vs := ⟨fun pins s σ H G Γ ws us ds Q I k r rp h => by
  cases ds with
  | nil => exact h.elim
  | cons d ds =>
    obtain ⟨v, vr, rfl, r1, r2⟩ := rp
    cases r with
    | cons ra rb =>
      rw [hs]
      refine assignInOrder_cons (thn (h1.run pins s σ H G Γ _ _ d _ I k ra r1 h) fun _ s1 ⟨σ1, H1, I1, w1, Γ1, q1, k1⟩ => ?_)
      exact thn (h2.run pins s1 σ1 H1 G Γ1 _ _ ds Q I1 k1 rb r2 q1) fun _ s2 ⟨σ2, H2, I2, w2, z⟩ => ⟨σ2, H2, I2, w2.trans w1, z⟩⟩
theorem lgv_tup {es : List Expr} {k0 : Nat} {gr : List D → Env → (Env → Prop) → Prop} {n : Nat} (hK : F.K = X.K) (hc : X.calm = true) (h : LGvs X F es gr vs) (hn : (assignEach es X.env).length = n := by rfl) (hst : (assignEach es X.env).findIdx? (·.1) = none := by rfl) : LGv X F (.Tuple es k0 pos) (gT n gr) vs :=
  ⟨fun pins s σ H G Γ v u d Q I k r rp hw => by
    cases d with
    | tup ds =>
      obtain ⟨hl, hw⟩ := hw
      obtain ⟨a, ws, rfl, hq, rs⟩ := rp
      cases r
      obtain ⟨its, rv, ht, hz⟩ := I.tuple (hK ▸ k.sub.t hq)
      refine assign_Tuple_tuple (I.ok.hd hc) ht (by simp [hn, ← hl, ← rs.len, rv.length]) hst fun h' hx => ?_
      have I1 : Inv X pins σ H { s with heap := h' } := I.kept (t' := s.toks) fun b o e => hx b o (Nat.ne_of_lt (Heap.lt_size e)) e
      exact h.run pins _ σ H G Γ ws _ ds Q I1 k (by simpa using rv) rs hw
    | _ => exact hw.elim⟩
end
end Q

set_option Elab.async false
set_option linter.all false
set_option maxRecDepth 100000
set_option maxHeartbeats 4000000
namespace Q
open PySem L2 PySem.Spec PyProof.Rows
/-! ## 19. More that is walked: lists, tuples, range(a, b), texts, enumerate, zip -/
section
variable {X : Cx} {F : Fx} {E : XP} {a b : Expr} {pa pb : QE} {pr : QA} {pos p0 tpos : Pos} {tg : Expr}
theorem seqw_list {G : Hp} {σ0 : St} {c : Addr} {vs : List V} {ds : List D} {K : PySem.W.Frag} (hG : G c = some (.lst vs)) (r : Reps F.toCf G ds vs) : SeqW F G σ0 (Itl K c) ds none where
  goH := fun _ i G' H' σ Γ i1 k _ h => by
    have h1 : i < vs.length := by rw [r.len]; exact h
    exact ⟨vs, vs[i], SqL.of (k.sub.m (i1 _ _ hG)), List.getElem?_eq_getElem h1⟩
  stopH := fun _ G' H' σ Γ i1 k _ => ⟨vs, SqL.of (k.sub.m (i1 _ _ hG)), by rw [r.len]; exact Nat.le_refl _⟩
  yldH := fun _ i G' H' σ Γ x H'' i1 k _ h y => by
    obtain ⟨e, z⟩ := y
    subst e
    have e1 := z vs (SqL.of (k.sub.m (i1 _ _ hG)))
    obtain ⟨d, ed, rd⟩ := r.get' e1
    exact ⟨d, G', ed, Inc.refl _, k, rd.inc i1⟩
theorem seqw_tup {G : Hp} {σ0 : St} {c : Addr} {vs : List V} {ds : List D} (hG : SqT F.K G c vs) (r : Reps F.toCf G ds vs) : SeqW F G σ0 (Itt F.K c) ds none where
  goH := fun _ i G' H' σ Γ i1 k _ h => by
    have h1 : i < vs.length := by rw [r.len]; exact h
    exact ⟨vs, vs[i], k.sub.t (sqT_inc i1 hG), List.getElem?_eq_getElem h1⟩
  stopH := fun _ G' H' σ Γ i1 k _ => ⟨vs, k.sub.t (sqT_inc i1 hG), by rw [r.len]; exact Nat.le_refl _⟩
  yldH := fun _ i G' H' σ Γ x H'' i1 k _ h y => by
    obtain ⟨e, z⟩ := y
    subst e
    have e1 := z vs (k.sub.t (sqT_inc i1 hG))
    obtain ⟨d, ed, rd⟩ := r.get' e1
    exact ⟨d, G', ed, Inc.refl _, k, rd.inc i1⟩
def qiLst (pa : QE) : QI := fun Γ Q E => pa Γ (fun d Γ1 => match d with
  | .lst ds => Q ds none Γ1
  | _ => False) E
def qiTup (pa : QE) : QI := fun Γ Q E => pa Γ (fun d Γ1 => match d with
  | .tup ds => Q ds none Γ1
  | _ => False) E
theorem li_lst (ha : LE X F E a pa) : LI X F E tg a (qiLst pa) :=
  LI.of (pi_list ha.pe) fun σ H G Γ Q k q => ⟨G, Γ, _, k, q, fun w H' ⟨d, Γ', G', q', i, k', r⟩ => by
    cases d with
    | lst ds =>
      obtain ⟨c, vs, rfl, hG, rs⟩ := r
      exact ⟨c, rfl, ⟨vs, SqL.of (k'.sub.m hG)⟩, ds, none, Γ', G', q', i, k', seqw_list hG rs⟩
    | _ => exact q'.elim⟩
theorem li_tup (hK : F.K = X.K) (ha : LE X F E a pa) : LI X F E tg a (qiTup pa) :=
  LI.of (pi_tup ha.pe) fun σ H G Γ Q k q => ⟨G, Γ, _, k, q, fun w H' ⟨d, Γ', G', q', i, k', r⟩ => by
    cases d with
    | tup ds =>
      obtain ⟨c, vs, rfl, hG, rs⟩ := r
      exact ⟨c, rfl, ⟨vs, hK ▸ k'.sub.t hG⟩, ds, none, Γ', G', q', i, k', hK ▸ seqw_tup hG rs⟩
    | _ => exact q'.elim⟩
/-- range(i, j) -/
def qRng2 (p : QA) : QI := fun Γ Q E => p Γ (fun ds Γ1 => match ds with
  | [.int i, .int j] => i ≤ 100000 ∧ -100000 ≤ i ∧ j ≤ 100000 ∧ -100000 ≤ j ∧ Q ((List.range (j - i).toNat).map fun k : Nat => D.int (i + (k : Int))) none Γ1
  | _ => False) E
theorem li_rng2 (hm : X.mg "range" = none) (ha : LA X F E [a, b] pr) (hg : Gl X "range" := by rfl) (hs : starEach [a, b] X.env = [(false, eval a X.env), (false, eval b X.env)] := by rfl) (hs2 : starEach [b] X.env = [(false, eval b X.env)] := by rfl) : LI X F E tg (.Call (.Name "range" p0) [a, b] [] pos) (qRng2 pr) :=
  LI.of (pi_range2 hg hm ha.pa hs hs2) fun σ H G Γ Q k q => ⟨G, Γ, _, k, q, fun ws H' ⟨ds, Γ', G', q', i1, k', r⟩ => by
    dsimp only at q'
    split at q'
    · rename_i i j
      obtain ⟨h1, h2, h3, h4, q'⟩ := q'
      obtain ⟨v, w, rfl, r1, r2⟩ := reps2 r
      cases (show v = .int i from r1)
      cases (show w = .int j from r2)
      exact ⟨i, j, rfl, ⟨by omega, by omega, by omega, by omega⟩, _, none, Γ', G', q', i1, k', seqw_rng⟩
    · exact q'.elim⟩
/-- the characters of a text -/
def chars (x : Str) : List D := x.cps.toList.map fun c => D.str ⟨#[c]⟩
def qiStr (pa : QE) : QI := fun Γ Q E => pa Γ (fun d Γ1 => match d with
  | .str x => Q (chars x) none Γ1
  | _ => False) E
theorem seqw_str {G : Hp} {σ0 : St} {x : Str} : SeqW F G σ0 (Its x) (chars x) none where
  goH := fun _ i _ _ _ _ _ _ _ h => by
    show i < x.cps.size
    simpa [chars] using h
  stopH := fun _ _ _ _ _ _ _ _ => by
    show x.cps.size ≤ (chars x).length
    simp [chars]
  yldH := fun _ i G' H' σ Γ v H'' _ k _ h y => by
    obtain ⟨e, c, hc, ev⟩ := y
    subst e; subst ev
    refine ⟨.str ⟨#[c]⟩, G', ?_, Inc.refl _, k, rfl⟩
    unfold chars
    rw [List.getElem?_map, Array.getElem?_toList, hc]
    rfl
theorem li_str (ha : LE X F E a pa) : LI X F E tg a (qiStr pa) :=
  LI.of (pi_str ha.pe) fun σ H G Γ Q k q => ⟨G, Γ, _, k, q, fun w H' ⟨d, Γ', G', q', i, k', r⟩ => by
    cases d with
    | str x =>
      cases (show w = .str x from r)
      exact ⟨x, rfl, _, none, Γ', G', q', i, k', seqw_str⟩
    | _ => exact q'.elim⟩
/-- enumerate(a list) -/
def enumD (ds : List D) : List D := (List.range ds.length).map fun i : Nat => D.tup [.int (i : Int), ds.getD i .non]
def qiEnum (p : QA) : QI := fun Γ Q E => p Γ (fun ds Γ1 => match ds with
  | [.lst xs] => Q (enumD xs) none Γ1
  | _ => False) E
theorem enumD_at {ds : List D} {i : Nat} {d : D} (h : ds[i]? = some d) : (enumD ds)[i]? = some (.tup [.int (i : Int), d]) := by
  have hl := (List.getElem?_eq_some_iff.mp h).1
  unfold enumD
  rw [List.getElem?_map, List.getElem?_range hl]
  show some (D.tup [.int (i : Int), ds.getD i .non]) = _
  rw [List.getD_eq_getElem?_getD, h]
  rfl
theorem enumD_len {ds : List D} : (enumD ds).length = ds.length := by simp [enumD]
theorem seqw_enum {G : Hp} {σ0 : St} {c : Addr} {vs : List V} {ds : List D} {K : PySem.W.Frag} (hG : G c = some (.lst vs)) (r : Reps F.toCf G ds vs) : SeqW F G σ0 (Ite K c) (enumD ds) none where
  goH := fun _ i G' H' σ Γ i1 k _ h => (walk_enum (K := K) (a := c) (xs := vs)).goes i H' (by rw [r.len, ← enumD_len]; exact h) (SqL.of (k.sub.m (i1 _ _ hG)))
  stopH := fun _ G' H' σ Γ i1 k _ => by
    rw [enumD_len, ← r.len]
    exact (walk_enum (K := K) (a := c) (xs := vs)).stops H' (SqL.of (k.sub.m (i1 _ _ hG)))
  yldH := fun _ i G' H' σ Γ x H'' i1 k _ h y => by
    obtain ⟨T, u, v, rfl, hT, rfl, e1, e2⟩ := (walk_enum (K := K) (a := c) (xs := vs)).yields i H' x H'' (by rw [r.len, ← enumD_len]; exact h) (SqL.of (k.sub.m (i1 _ _ hG))) y
    obtain ⟨d, ed, rd⟩ := r.get' e2
    have eu : u = .int (i : Int) := by
      have := Option.some.inj e1
      exact this.symm
    subst eu
    have n1 := Inc.new (o := .tup [.int (i : Int), v]) (k.sub.no hT)
    exact ⟨_, upd G' T (.tup [.int (i : Int), v]), enumD_at ed, n1, k.new hT _, T, _, rfl, SqT.of upd_same, _, _, rfl, rfl, _, _, rfl, (rd.inc i1).inc n1, rfl⟩
theorem li_enum {elts : List Expr} {kk : Nat} (hm : X.mg "enumerate" = none) (ha : LA X F E [a] pr) (hg : Gl X "enumerate" := by rfl) (hs : starEach [a] X.env = [(false, eval a X.env)] := by rfl) : LI X F E (.Tuple elts kk tpos) (.Call (.Name "enumerate" p0) [a] [] pos) (qiEnum pr) :=
  LI.of (pi_enum hg hm ha.pa hs) fun σ H G Γ Q k q => ⟨G, Γ, _, k, q, fun ws H' ⟨ds, Γ', G', q', i1, k', r⟩ => by
    dsimp only at q'
    split at q'
    · rename_i xs
      obtain ⟨v, rfl, r1⟩ := reps1 r
      obtain ⟨c, vs, rfl, hG, rs⟩ := r1
      exact ⟨c, vs, rfl, SqL.of (k'.sub.m hG), _, none, Γ', G', q', i1, k', seqw_enum hG rs⟩
    · exact q'.elim⟩
end
end Q

set_option Elab.async false
set_option linter.all false
set_option maxRecDepth 100000
set_option maxHeartbeats 4000000
namespace Q
open PySem L2 PySem.Spec PyProof.Rows
/-! ## 20. list(..), tuple(..) -/
section
variable {X : Cx} {F : Fx} {E : XP}
def oList : ON := fun ds Γ Q _ => match ds with
  | [.lst xs] => Q (.lst xs) Γ
  | [.tup xs] => Q (.lst xs) Γ
  | _ => False
def oTuple : ON := fun ds Γ Q _ => match ds with
  | [.lst xs] => Q (.tup xs) Γ
  | [.tup xs] => Q (.tup xs) Γ
  | _ => False
theorem bl_list (hK : F.K = X.K) : BlL X F E (.type "list") oList := BlL.of call_list_of fun σ H G Γ vs ds Q k rd q => by
  unfold oList at q
  split at q
  · obtain ⟨v, rfl, r⟩ := reps1 rd
    obtain ⟨a, ws, rfl, g, rs⟩ := r
    exact ⟨a, ws, rfl, .inl (SqL.of (k.sub.m g)), fun l hl => fin_lst k hl q rs⟩
  · obtain ⟨v, rfl, r⟩ := reps1 rd
    obtain ⟨a, ws, rfl, g, rs⟩ := r
    exact ⟨a, ws, rfl, .inr (hK ▸ k.sub.t g), fun l hl => fin_lst k hl q rs⟩
  · exact q.elim
theorem bl_tuple (hK : F.K = X.K) : BlL X F E (.type "tuple") oTuple := BlL.of call_tuple_of fun σ H G Γ vs ds Q k rd q => by
  unfold oTuple at q
  split at q
  · obtain ⟨v, rfl, r⟩ := reps1 rd
    obtain ⟨a, ws, rfl, g, rs⟩ := r
    exact ⟨a, ws, rfl, .inl ⟨SqL.of (k.sub.m g), fun l hl => fin_tup k hl q rs⟩⟩
  · obtain ⟨v, rfl, r⟩ := reps1 rd
    obtain ⟨a, ws, rfl, g, rs⟩ := r
    exact ⟨a, ws, rfl, .inr ⟨hK ▸ k.sub.t g, fin0 k q ⟨a, ws, rfl, g, rs⟩⟩⟩
  · exact q.elim
end
end Q

set_option Elab.async false
set_option linter.all false
set_option maxRecDepth 100000
set_option maxHeartbeats 4000000
namespace Q
open PySem L2 PySem.Spec PyProof.Rows
/-! ## 21. What is raised inside a comprehension -/
/-- noted somewhere: in flight, or at any frame -/
def NotedA (B : Heap) (l : List PySem.Env) (a : Addr) (Z : Obj → Prop) (h : Heap) : Prop :=
  B.StaysIn h ∧ B.get? a = none ∧ h.FunFrames B l ∧ ∃ fl, HandSPX.TracedZ h B a Z fl
def SkyA (B : Heap) (l : List PySem.Env) (a : Addr) (Z : Obj → Prop) (h : Heap) : Prop :=
  (B.StaysIn h ∧ B.get? a = none ∧ h.FunFrames B l ∧ ∃ oe vs, h.get? a = some oe ∧ Z oe ∧ oe.data = .fields vs ∧ vs[1]? = some .none) ∨ NotedA B l a Z h
theorem SkyA.of {B : Heap} {l : List PySem.Env} {a L : Addr} {Z : Obj → Prop} {h : Heap} (x : Sky B l a Z L h) : SkyA B l a Z h := by
  rcases x with x | ⟨a, b, c, d⟩ | ⟨a, b, c, d⟩
  · exact .inl x
  · exact .inr ⟨a, b, c, _, d⟩
  · exact .inr ⟨a, b, c, _, d⟩
theorem note_frame {env env' : PySem.Env} (h : env'.frame = env.frame) (e : Value) : noteFrame e env' = noteFrame e env := by
  unfold noteFrame PySem.frameOf
  rw [h]
section
variable {M : Model} {A : Around} {E₁ : Value → Shared → Prop} {s : Shared} {Z : Obj → Prop} {B : Heap} {env : PySem.Env} {outer l : List PySem.Env} {L a : Addr}
theorem noteA {Q : Unit → Shared → Prop} (hZ : HandSPX.Steady Z) (hfr : A.frames = some (env :: outer)) (hf : env.frame = some L) (x : SkyA B (env :: outer) a Z s.heap)
    (hQ : ∀ h', NotedA B (env :: outer) a Z h' → s.heap.UpToSlots h' → Q () { s with heap := h' }) : wpAny M A (noteFrame (.ref a) env) Q E₁ s := by
  rcases x with ⟨hB, hn, hl, oe, vs, he, hz, hd, h1⟩ | ⟨hkb, hen, hl, fl, oe, vs, T, oT, ts, he, hz, hd, h1, hnT, hTe, hT, hdT, h3⟩
  · exact HandSPX.look_newZ hZ hfr hl hf he hB hn hd h1 hz fun h' ⟨a, b, c, d⟩ up => hQ h' ⟨a, b, c, _, d⟩ up
  · unfold noteFrame
    simp only [hf]
    refine wpAny_bind (wpAny_field he hd h1 ?_)
    rw [if_pos (show (Value.ref T != Value.none) = true from by simp)]
    refine wpAny_bind (wpAny_field hT hdT h3 ?_)
    by_cases hb : (fl == rawInt L) = true
    · rw [if_pos hb]
      exact wpAny_pure (hQ s.heap ⟨hkb, hen, hl, fl, oe, vs, T, oT, ts, he, hz, hd, h1, hnT, hTe, hT, hdT, h3⟩ (Heap.UpToSlots.refl _))
    · rw [if_neg hb]
      refine wpAny_bind (wpAny_setField hT hdT (Array.getElem?_eq_some_iff.mp h3).1 ?_)
      have other : ∀ b, b ≠ T → (s.heap.update T (Obj.mapFields (·.setIfInBounds 3 Value.none))).get? b = s.heap.get? b := fun b hb => Heap.get?_update_other _ _ (Ne.symm hb)
      have noRecord : ∀ b o, s.heap.get? b = some o → (∀ vs, o.data ≠ .fields vs) → b ≠ T := fun b o hb hnf q => by
        rw [q, hT] at hb; injection hb with hb; subst hb; exact hnf ts hdT
      refine HandSPX.wpAny_entryZ hZ hfr (hl.of_keeps fun b o hb hnf => ⟨o, (other b (noRecord b o hb hnf)).trans hb, rfl⟩) hf ((other a (Ne.symm hTe)).trans he)
        (fun b o hbo => (other b fun q => by rw [q, hnT] at hbo; cases hbo).trans (hkb b o hbo)) hen hd (Array.getElem?_eq_some_iff.mp h1).1 hz fun h' hN => ?_
      obtain ⟨x1, x2, x3, x4⟩ := hN
      exact hQ h' ⟨x1, hen, x2, _, x3⟩ fun b o hb hnf => x4 b o ((other b (noRecord b o hb hnf)).trans hb) hnf
theorem passA {what : String} {cenv : PySem.Env} (hf : cenv.frame = some L) (x : NotedA B l a Z s.heap)
    (hE : ∀ h', HandSPX.HeldZ B l a Z L h' → s.heap.UpToSlots h' → E₁ (.ref a) { s with heap := h' }) : wpAny M A (PySem.passOn what (.ref a) cenv : Sem Value) (fun _ _ => False) E₁ s := by
  obtain ⟨hkb, hen, hl, fl, ht⟩ := x
  obtain ⟨oe, vs, T, oT, ts, he, hz, hd, h1, hnT, hTe, hT, hdT, h3⟩ := id ht
  unfold PySem.passOn
  refine wpAny_bind (wpAny_field he hd h1 ?_)
  rw [if_neg (show ¬ ((Value.ref T == Value.none) = true) from by simp), hf]
  exact wpAny_bind (HandSPX.setFlight_anyZ hkb hl ht fun h' k1 k2 k3 k4 => wpAny_throw (hE h' ⟨k1, hen, k2, k3⟩ k4))
end
theorem ff_same {h h' base : Heap} {C : Addr} (hs : Heap.SameBut C h h') : ∀ {l : List PySem.Env}, h.FunFrames base l → C ∉ frs l → h'.FunFrames base l
  | [], _, _ => trivial
  | env :: l, x, hn => by
    obtain ⟨hk, ⟨L, o, hf, hb, ho, hd⟩, hr⟩ := x
    have hL : L ∈ frs (env :: l) := List.mem_filterMap.mpr ⟨env, List.mem_cons_self, hf⟩
    refine ⟨hk, ⟨L, o, hf, hb, (hs.2 L fun q => hn (q ▸ hL)).trans ho, hd⟩, ff_same hs hr fun m => hn ?_⟩
    obtain ⟨e, he, q⟩ := List.mem_filterMap.mp m
    exact List.mem_filterMap.mpr ⟨e, List.mem_cons_of_mem _ he, q⟩
/-! ### the air of a block -/
def XEA (X : Cx) (W : WX) (u : Value) (s' : Shared) : Prop :=
  ∃ (a : Addr) (B : Heap) (sI : Shared) (pins : List (Addr × Obj)) (σ : St) (H : Hp) (cls : Value) (d : Option Addr),
    u = .ref a ∧ Inv X pins σ H sI ∧ (∀ b o, sI.heap.get? b = some o → b ∉ frs X.stack → B.get? b = some o) ∧ sI.heap.UpToSlots s'.heap ∧
      SkyA B X.stack a (Zc cls d) s'.heap ∧ H a = none ∧ s'.os = sI.os ∧ AllBare s'.gens ∧ W cls d σ H
def XEF (X : Cx) (W : WX) (u : Value) (s' : Shared) : Prop :=
  ∃ (a : Addr) (B : Heap) (sI : Shared) (pins : List (Addr × Obj)) (σ : St) (H : Hp) (cls : Value) (d : Option Addr) (L : Addr),
    u = .ref a ∧ Inv X pins σ H sI ∧ (∀ b o, sI.heap.get? b = some o → b ∉ frs X.stack → B.get? b = some o) ∧ sI.heap.UpToSlots s'.heap ∧ X.env.frame = some L ∧
      HandSPX.HeldZ B X.stack a (Zc cls d) L s'.heap ∧ H a = none ∧ s'.os = sI.os ∧ AllBare s'.gens ∧ W cls d σ H
def TakesF (X : Cx) (W : WX) : Prop := ∀ u s', XEF X W u s' → X.xe u s'
def FrOk (X : Cx) : Prop := ∃ fe out L, X.stack = fe :: out ∧ fe.frame = some L ∧ X.env.frame = some L
theorem XEA.of {X : Cx} {W : WX} {u : Value} {s' : Shared} (x : XE X W u s') : XEA X W u s' := by
  obtain ⟨a, B, sI, pins, σ, H, cls, d, e, I, nb, up, sky, na, os, ag, w⟩ := x
  exact ⟨a, B, sI, pins, σ, H, cls, d, e, I, nb, up, .of sky, na, os, ag, w⟩
theorem takesF_def {X : Cx} {W : WX} (hf : X.env.frame = some X.env.locals) (tk : Takes X W) : TakesF X W := by
  rintro u s' ⟨a, B, sI, pins, σ, H, cls, d, L, e, I, nb, up, hL, hd, na, os, ag, w⟩
  rw [hf] at hL
  cases hL
  exact tk u s' ⟨a, B, sI, pins, σ, H, cls, d, e, I, nb, up, .inr (.inr hd), na, os, ag, w⟩
/-- what a derivation asks of what takes exceptions -/
structure Tk (X : Cx) (F : Fx) (E : XP) : Prop where
  t : Takes X (wOf F E)
  f : TakesF X (wOf F E)
  fr : FrOk X
theorem Tk.def {X : Cx} {F : Fx} {E : XP} (tk : Takes X (wOf F E)) (hs : X.stack = X.env :: X.outer := by rfl) (hf : X.env.frame = some X.env.locals := by rfl) : Tk X F E := ⟨tk, takesF_def hf tk, _, _, _, hs, hf, hf⟩
/-- what a block is run with -/
structure BlkD where
  s : Shared
  H : Hp
  C : Addr
  cl : List (Str × Addr)
  fp : List Addr
  xe : Value → Shared → Prop
abbrev bk (X : Cx) (scope : Scope) (b : BlkD) : Cx := { X with s_0 := b.s, H_0 := b.H, env := compEnvC scope b.cl b.C X.env, outer := X.stack, ex := b.fp, fn := fun x => scope.names.lookup x == some .cell, pn := [], xe := b.xe }
theorem Inv.bk {X : Cx} {pins : List (Addr × Obj)} {σ : St} {H : Hp} {s : Shared} {scope : Scope} {s0 : Shared} {H0 : Hp} {C : Addr} {cl : List (Str × Addr)} {fp : List Addr} (xe : Value → Shared → Prop) (I : Inv (X.blk s0 H0 scope (compEnvC scope cl C X.env) fp) pins σ H s) : Inv (bk X scope ⟨s0, H0, C, cl, fp, xe⟩) pins σ H s :=
  ⟨⟨I.ok.mod, I.ok.kind, I.ok.glob, I.ok.blt, I.ok.above, I.ok.inj, I.ok.has, I.ok.cab, I.ok.hd, I.ok.frames, I.ok.stk, I.ok.exf, I.ok.bs, I.ok.bsz, I.ok.noex, I.ok.exfs, I.ok.funs, I.ok.frf⟩, I.os, I.bare, I.base, I.loc, I.cell, I.free, I.freeC, I.pin, I.hok, I.len⟩
theorem exitX {X : Cx} {W : WX} {pins : List (Addr × Obj)} {σ : St} {H3 : Hp} {s3 : Shared} {scope : Scope} {b : BlkD} {what : String} {u : Value} {s' : Shared} (fr : FrOk X) (tf : TakesF X W) (I3 : Inv X pins σ H3 s3)
    (hb1 : b.s = s3) (hb2 : b.H = H3) (hC : b.C = s3.heap.objs.size) (f3 : ∀ c ∈ b.fp, FpOk X pins H3 c) (x : XEA (bk X scope b) (fun cls d _ H' => W cls d σ H') u s') :
    notedBy (model X.prog X.w) X.A (compEnvC scope b.cl b.C X.env) (fun e s'' => ∃ m, s''.heap.Ns b.C m ∧ ∀ h', Heap.SameBut b.C s''.heap h' → wpAny (model X.prog X.w) X.A (PySem.passOn what e (compEnvC scope b.cl b.C X.env) : Sem Value) (fun _ _ => False) X.xe { s'' with heap := h' }) u s' := by
  obtain ⟨a, B, sI, pins', σ', H', cls, d, rfl, I', nb, up, sky, na, os, ag, w⟩ := x
  obtain ⟨fe, out, L, hst, hfe, hxe⟩ := fr
  have hfr : X.A.frames = some (fe :: out) := by rw [← hst]; exact I'.ok.frames
  have hce : (compEnvC scope b.cl b.C X.env).frame = some L := hxe
  have sky : SkyA B X.stack a (Zc cls d) s'.heap := sky
  rw [hst] at sky
  unfold notedBy
  rw [note_frame (env := fe) (env' := compEnvC scope b.cl b.C X.env) (hce.trans hfe.symm)]
  refine noteA Zc.steady hfr hfe sky fun h1 nt up1 => ?_
  obtain ⟨m, hn, _⟩ := I'.loc
  have hn : sI.heap.Ns b.C m := hn
  have hn1 : h1.Ns b.C m := Heap.UpToSlots.ns (up.trans up1) hn
  refine ⟨m, hn1, fun h2 sb => ?_⟩
  have nC : H' b.C = none := I'.free
  have fC : FpOk X pins H' b.C := I3.fpOk (by rw [hC]; exact Nat.le_refl _) nC
  have nF : b.C ∉ frs X.stack := fun hm => by
    rcases List.mem_cons.mp (I3.stkSub _ hm) with z | z
    · exact fC.2.1 z
    · exact fC.2.2.1 z
  obtain ⟨o1, es1, ep1, e1, dd1, _⟩ := hn1
  have ne : ∀ c oc vs, h1.get? c = some oc → oc.data = .fields vs → c ≠ b.C := fun c oc vs e dd q => by
    rw [q, e1] at e
    cases e
    rw [dd1] at dd
    cases dd
  have nt2 : NotedA (PySem.W.hideAll B [b.C]) (fe :: out) a (Zc cls d) h2 := by
    obtain ⟨k1, k2, k3, fl, oe, vs, T, oT, ts, he, hz, hd, hv1, hnT, hTe, hT, hdT, h3⟩ := nt
    have hid : ∀ c, B.get? c = none → (PySem.W.hideAll B [b.C]).get? c = none := fun c e => by
      cases q : (PySem.W.hideAll B [b.C]).get? c with
      | none => rfl
      | some o => rw [PySem.W.of_hideAll _ q] at e; cases e
    refine ⟨fun c o e => ?_, hid _ k2, ?_, fl, oe, vs, T, oT, ts, (sb.2 _ (ne a oe vs he hd)).trans he, hz, hd, hv1, hid _ hnT, hTe, (sb.2 _ (ne T oT ts hT hdT)).trans hT, hdT, h3⟩
    · have nc : c ≠ b.C := fun q => by
        rw [q, PySem.W.hideAll_none _ (List.mem_singleton.mpr rfl)] at e
        cases e
      exact (sb.2 c nc).trans (k1 c o (PySem.W.of_hideAll _ e))
    · refine ff_same sb (funFrames_none k3 fun L' hL' => hid _ (k3.mem hL').1) ?_
      rw [← hst]; exact nF
  refine passA hce nt2 fun h4 held up4 => ?_
  have I7 : Inv X pins σ H' sI := I3.call' (ch := b.fp) (I'.os.trans (by rw [← hb1])) (by have z := I'.base; rw [← hb1, ← hb2]; exact z) I'.hok I'.bare fun c hc => ⟨(f3 c hc).2.2.2.1, (f3 c hc).2.1, (f3 c hc).2.2.2.2.1, (f3 c hc).2.2.2.2.2⟩
  have I8 : Inv X pins σ H' { sI with heap := PySem.W.hideAll sI.heap [b.C] } := I7.turned (t' := sI.toks) (it := b.C) (fun c o nc e => PySem.W.hideAll_get _ e (fun z => nc (List.mem_singleton.mp z))) nC fC.2.1 fC.2.2.2.1 fC.2.2.2.2.1 fC.2.2.2.2.2
  refine tf _ _ ⟨a, PySem.W.hideAll B [b.C], { sI with heap := PySem.W.hideAll sI.heap [b.C] }, pins, σ, H', cls, d, L, rfl, I8, fun c o e hc => ?_, fun c o e hnf => ?_, hxe, by rw [hst]; exact held, na, os, ag, w⟩
  · have nc : c ≠ b.C := fun q => by
      rw [show (PySem.W.hideAll sI.heap [b.C]).get? c = none from q ▸ PySem.W.hideAll_none _ (List.mem_singleton.mpr rfl)] at e
      cases e
    exact PySem.W.hideAll_get _ (nb c o (PySem.W.of_hideAll _ e) hc) (fun z => nc (List.mem_singleton.mp z))
  · have nc : c ≠ b.C := fun q => by
      rw [show (PySem.W.hideAll sI.heap [b.C]).get? c = none from q ▸ PySem.W.hideAll_none _ (List.mem_singleton.mpr rfl)] at e
      cases e
    obtain ⟨sl, q1⟩ := (up.trans up1) c o (PySem.W.of_hideAll _ e) hnf
    obtain ⟨sl2, q2⟩ := up4 c _ ((sb.2 c nc).trans q1) hnf
    exact ⟨sl2, q2⟩
end Q

set_option Elab.async false
set_option linter.all false
set_option maxRecDepth 100000
set_option maxHeartbeats 4000000
namespace Q
open PySem L2 PySem.Spec PyProof.Rows
/-! ## 22. Into a block and out of it -/
def bS : Slot → Slot
  | .own o => .bor o
  | s => s
/-- in the block: what may change is handed in -/
def bE : Env → Env
  | [] => []
  | s :: Γ => bS s :: bE Γ
/-- behind the block -/
def rE : Env → Env → Env
  | .own _ :: Γ, .bor o :: Γ' => .own o :: rE Γ Γ'
  | .bor _ :: Γ, .bor o :: Γ' => .bor o :: rE Γ Γ'
  | s :: Γ, _ :: Γ' => s :: rE Γ Γ'
  | Γ, [] => Γ
  | [], _ => []
def pinE : St → Env → List (Option Addr)
  | some (.ref a) :: σ, .own _ :: Γ => some a :: pinE σ Γ
  | some (.ref a) :: σ, .bor _ :: Γ => some a :: pinE σ Γ
  | _ :: σ, _ :: Γ => none :: pinE σ Γ
  | _, _ => []
theorem bE_get {Γ : Env} : ∀ {i : Nat}, (bE Γ)[i]? = (Γ[i]?).map bS := by
  induction Γ with
  | nil => intro i; rfl
  | cons s Γ ih =>
    intro i
    cases i with
    | zero => rfl
    | succ i => exact ih
theorem bE_len {Γ : Env} : (bE Γ).length = Γ.length := by
  induction Γ with
  | nil => rfl
  | cons s Γ ih => show (bE Γ).length + 1 = _; rw [ih]; rfl
theorem mutA_bE : ∀ {σ : St} {Γ : Env}, mutA σ (bE Γ) = mutA σ Γ
  | [], Γ => by cases Γ <;> simp [mutA]
  | v :: σ, [] => by simp [bE]
  | v :: σ, s :: Γ => by
    have ih := mutA_bE (σ := σ) (Γ := Γ)
    show mutA (v :: σ) (bS s :: bE Γ) = _
    rw [mutA_cons, mutA_cons, ih]
    cases s <;> first | rfl | (cases v <;> first | rfl | (rename_i w; cases w <;> rfl))
theorem pinE_get : ∀ {σ : St} {Γ : Env} {i : Nat} {a : Addr}, (pinE σ Γ)[i]? = some (some a) → σ[i]? = some (some (V.ref a)) ∧ ∃ s, Γ[i]? = some s ∧ s.mo.isSome = true
  | [], Γ, i, a, h => by cases Γ <;> simp [pinE] at h
  | v :: σ, [], i, a, h => by
    have e : pinE (v :: σ) [] = [] := by cases v <;> first | rfl | (rename_i w; cases w <;> rfl)
    rw [e] at h; simp at h
  | v :: σ, s :: Γ, 0, a, h => by
    cases s <;> cases v <;> first | (simp [pinE] at h; done) | (rename_i w; cases w <;> first | (simp [pinE] at h; done) | (simp [pinE] at h; subst h; exact ⟨rfl, _, rfl, rfl⟩)) | (rename_i o w; cases w <;> first | (simp [pinE] at h; done) | (simp [pinE] at h; subst h; exact ⟨rfl, _, rfl, rfl⟩))
  | v :: σ, s :: Γ, i + 1, a, h => by
    have e : (pinE σ Γ)[i]? = some (some a) := by
      cases s <;> cases v <;> first | exact h | (rename_i w; cases w <;> exact h) | (rename_i o w; cases w <;> exact h)
    obtain ⟨q1, q2⟩ := pinE_get e
    exact ⟨q1, q2⟩
theorem pinE_of : ∀ {σ : St} {Γ : Env} {i : Nat} {a : Addr} {s : Slot}, σ[i]? = some (some (V.ref a)) → Γ[i]? = some s → s.mo.isSome = true → (pinE σ Γ)[i]? = some (some a)
  | [], _, _, _, _, h, _, _ => by simp at h
  | _ :: _, [], _, _, _, _, h, _ => by simp at h
  | v :: σ, t :: Γ, 0, a, s, h1, h2, z => by
    simp at h1 h2
    subst h1; subst h2
    cases t <;> first | rfl | cases z
  | v :: σ, t :: Γ, i + 1, a, s, h1, h2, z => by
    have ih := pinE_of (σ := σ) (Γ := Γ) (i := i) (a := a) (s := s) (by simpa using h1) (by simpa using h2) z
    cases t <;> cases v <;> first | exact ih | (rename_i w; cases w <;> exact ih) | (rename_i o w; cases w <;> exact ih)
theorem pinE_len : ∀ {σ : St} {Γ : Env}, (pinE σ Γ).length ≤ Γ.length
  | [], Γ => by cases Γ <;> simp [pinE]
  | v :: σ, [] => by
    have e : pinE (v :: σ) [] = [] := by cases v <;> first | rfl | (rename_i w; cases w <;> rfl)
    rw [e]; exact Nat.le_refl _
  | v :: σ, s :: Γ => by
    have ih := pinE_len (σ := σ) (Γ := Γ)
    have e : (pinE (v :: σ) (s :: Γ)).length = (pinE σ Γ).length + 1 := by
      cases s <;> cases v <;> first | rfl | (rename_i w; cases w <;> rfl) | (rename_i o w; cases w <;> rfl)
    rw [e, List.length_cons]
    omega
theorem rE_len : ∀ {Γ Γ' : Env}, (rE Γ Γ').length = Γ.length
  | [], Γ' => by cases Γ' <;> rfl
  | s :: Γ, [] => by cases s <;> rfl
  | s :: Γ, t :: Γ' => by
    have ih := rE_len (Γ := Γ) (Γ' := Γ')
    cases s <;> cases t <;> (simp only [rE, List.length_cons]; rw [ih])
/-- what stands behind the block at a place -/
def rS : Slot → Option Slot → Slot
  | .own _, some (.bor o) => .own o
  | .bor _, some (.bor o) => .bor o
  | s, _ => s
theorem rE_get : ∀ {Γ Γ' : Env} {i : Nat} {s : Slot}, Γ[i]? = some s → (rE Γ Γ')[i]? = some (rS s Γ'[i]?)
  | [], _, _, _, h => by simp at h
  | t :: Γ, [], i, s, h => by
    have e : rE (t :: Γ) [] = t :: Γ := by cases t <;> rfl
    rw [e, h]
    cases s <;> rfl
  | t :: Γ, u :: Γ', 0, s, h => by
    simp at h
    subst h
    cases t <;> cases u <;> rfl
  | t :: Γ, u :: Γ', i + 1, s, h => by
    have ih := rE_get (Γ := Γ) (Γ' := Γ') (i := i) (s := s) (by simpa using h)
    cases t <;> cases u <;> exact ih
theorem rS_kin (s : Slot) (t : Option Slot) : kin s (rS s t) := by
  cases s with
  | own o => cases t with
    | none => trivial
    | some t => cases t <;> trivial
  | bor o => cases t with
    | none => trivial
    | some t => cases t <;> trivial
  | no => exact kin_refl _
  | val d => exact kin_refl _
  | exc c fs => exact kin_refl _
theorem rE_kin {Γ Γ' : Env} {i : Nat} {s t : Slot} (h1 : Γ[i]? = some s) (h2 : (rE Γ Γ')[i]? = some t) : kin s t := by
  rw [rE_get h1] at h2
  cases h2
  exact rS_kin _ _
theorem mutA_at : ∀ {σ : St} {Γ : Env} {a : Addr}, a ∈ mutA σ Γ → ∃ (j : Nat) (s : Slot), σ[j]? = some (some (V.ref a)) ∧ Γ[j]? = some s ∧ s.mo.isSome = true
  | [], Γ, a, h => by cases Γ <;> simp [mutA] at h
  | v :: σ, [], a, h => by
    have e : mutA (v :: σ) [] = [] := by cases v <;> first | rfl | (rename_i w; cases w <;> rfl)
    rw [e] at h; simp at h
  | v :: σ, s :: Γ, a, h => by
    have tail : a ∈ mutA σ Γ → ∃ (j : Nat) (t : Slot), (v :: σ)[j]? = some (some (V.ref a)) ∧ (s :: Γ)[j]? = some t ∧ t.mo.isSome = true := fun m => by
      obtain ⟨j, t, e1, e2, z⟩ := mutA_at m
      exact ⟨j + 1, t, by simpa using e1, by simpa using e2, z⟩
    rw [mutA_cons] at h
    split at h
    · rcases List.mem_cons.mp h with e | e
      · subst e; exact ⟨0, _, rfl, rfl, rfl⟩
      · exact tail e
    · rcases List.mem_cons.mp h with e | e
      · subst e; exact ⟨0, _, rfl, rfl, rfl⟩
      · exact tail e
    · exact tail h
section
variable {F : Fx} {G H G' H' : Hp} {σ σ' : St} {Γ Γ' : Env}
abbrev blkF (F : Fx) (G H : Hp) (σ : St) (Γ : Env) : Fx := fbk F ⟨G, H, mutA σ Γ, pinE σ Γ⟩
theorem Ok.enter (k : Ok F G H σ Γ) : Ok (blkF F G H σ Γ) G H σ (bE Γ) := by
  refine ⟨k.sub, Inc.refl G, fun a o e => .inl e, fun a o e _ => e, fun a m => (mutA_there k.slots a m).1, ?_, by rw [mutA_bE]; exact k.nd, fun i a e => ?_, by rw [bE_len]; exact pinE_len⟩
  · refine Slots.mk (by rw [bE_len]; exact k.slots.len) fun i v s e1 e2 => ?_
    rw [bE_get] at e2
    cases hg : Γ[i]? with
    | none => rw [hg] at e2; cases e2
    | some t =>
      rw [hg] at e2
      cases e2
      obtain ⟨v', ev, okk⟩ := k.slots.get hg
      rw [e1] at ev
      cases ev
      cases t with
      | no => cases v <;> trivial
      | val d => cases v <;> exact okk
      | own o =>
        cases v with
        | none => exact okk
        | some v =>
          obtain ⟨a, rfl, g, m, z⟩ := okk
          exact ⟨a, rfl, g, m, mem_mutA e1 hg rfl⟩
      | bor o =>
        cases v with
        | none => exact okk
        | some v =>
          obtain ⟨a, rfl, g, m, z⟩ := okk
          exact ⟨a, rfl, g, m, mem_mutA e1 hg rfl⟩
      | exc c fs => cases v <;> exact okk
  · obtain ⟨e1, s, e2, z⟩ := pinE_get e
    refine ⟨e1, ?_⟩
    rw [bE_get, e2]
    cases s with
    | own o => exact ⟨o, rfl⟩
    | bor o => exact ⟨o, rfl⟩
    | no => cases z
    | val d => cases z
    | exc c fs => cases z
theorem Ok.leave (k0 : Ok F G H σ Γ) (k : Ok (blkF F G H σ Γ) G' H' σ' Γ') : Inc G G' ∧ Ok F G' H' σ (rE Γ Γ') := by
  have ig : Inc G G' := k.g0
  have kf : ∀ a o, H a = some o → a ∉ mutA σ Γ → H' a = some o := k.frame
  have fr : ∀ a o, G' a = some o → G a = some o ∨ H a = none := k.fresh
  have at_ : ∀ {i : Nat} {a : Addr} {s : Slot}, σ[i]? = some (some (V.ref a)) → Γ[i]? = some s → s.mo.isSome = true → ∃ o, Γ'[i]? = some (.bor o) ∧ G' a = none ∧ MRep F.toCf G' H' o a := fun {i a s} e1 e2 z => by
    obtain ⟨q1, o, q2⟩ := k.pin i a (pinE_of e1 e2 z)
    obtain ⟨b, eb, g, m, _⟩ := k.mut q2 rfl
    rw [q1] at eb
    cases eb
    exact ⟨o, q2, g, m⟩
  refine ⟨ig, k.sub, k0.g0.trans ig, fun a o e => ?_, fun a o e nb => ?_, fun a m => ?_, ?_, ?_, fun i a e => ?_, by rw [rE_len]; exact k0.pl⟩
  · rcases fr a o e with q | q
    · exact k0.fresh a o q
    · exact .inr (k0.h0 q)
  · have e1 := k0.frame a o e nb
    refine kf a o e1 fun m => ?_
    rcases (mutA_there k0.slots a m).2.2 with q | q
    · rw [e] at q; cases q
    · exact nb q
  · obtain ⟨o, e⟩ := k0.bor a m
    by_cases hm : a ∈ mutA σ Γ
    · exact k.bor a hm
    · exact ⟨o, kf a o e hm⟩
  · refine Slots.mk (by rw [rE_len]; exact k0.slots.len) fun i v t e1 e2 => ?_
    have hl : i < Γ.length := by rw [← rE_len (Γ := Γ) (Γ' := Γ')]; exact (List.getElem?_eq_some_iff.mp e2).1
    have g1 : Γ[i]? = some Γ[i] := List.getElem?_eq_getElem hl
    obtain ⟨v', ev, okk⟩ := k0.slots.get g1
    rw [e1] at ev
    cases ev
    rw [rE_get g1] at e2
    cases e2
    generalize Γ[i] = s at *
    cases s with
    | no => cases v <;> trivial
    | val d =>
      cases v with
      | none => exact okk
      | some v => exact Rep.inc ig okk
    | own o =>
      cases v with
      | none => exact okk.elim
      | some v =>
        obtain ⟨a, rfl, g, m, z⟩ := okk
        obtain ⟨o', q1, q2, q3⟩ := at_ e1 g1 rfl
        rw [q1]
        exact ⟨a, rfl, q2, q3, z⟩
    | bor o =>
      cases v with
      | none => exact okk.elim
      | some v =>
        obtain ⟨a, rfl, g, m, z⟩ := okk
        obtain ⟨o', q1, q2, q3⟩ := at_ e1 g1 rfl
        rw [q1]
        exact ⟨a, rfl, q2, q3, z⟩
    | exc c fs =>
      cases v with
      | none => exact okk.elim
      | some v =>
        obtain ⟨a, b, r⟩ := okk
        refine ⟨a, b, ?_⟩
        rcases r with r | ⟨dd, ws, e, q, r⟩
        · exact .inl r
        · refine .inr ⟨dd, ws, e, kf dd _ q fun m => ?_, r.inc ig⟩
          obtain ⟨j, s, ej, gj, zj⟩ : ∃ (j : Nat) (s : Slot), σ[j]? = some (some (V.ref dd)) ∧ Γ[j]? = some s ∧ s.mo.isSome = true := mutA_at m
          obtain ⟨o, ho⟩ := Option.isSome_iff_exists.mp zj
          obtain ⟨b, eb, _, mr, _⟩ := k0.mut gj ho
          rw [ej] at eb
          cases eb
          cases o with
          | lst xs => obtain ⟨vs, e, _⟩ := mr; rw [q] at e; cases e
          | dic xs => obtain ⟨vs, e, _⟩ := mr; rw [q] at e; cases e
          | ins c xs => obtain ⟨dx, vs, e, _⟩ := mr; rw [q] at e; cases e
  · rw [mutA_kin rE_len fun i s t e1 e2 => rE_kin e1 e2]
    exact k0.nd
  · obtain ⟨e1, o, e2⟩ := k0.pin i a e
    refine ⟨e1, ?_⟩
    rw [rE_get e2]
    cases hq : Γ'[i]? with
    | none => exact ⟨o, rfl⟩
    | some t => cases t <;> exact ⟨_, rfl⟩
end
end Q

set_option Elab.async false
set_option linter.all false
set_option maxRecDepth 100000
set_option maxHeartbeats 4000000
namespace Q
open PySem L2 PySem.Spec PyProof.Rows
/-! ## 23. [e for x in it if t] -/
section
variable {M : Model} {A : Around} {E : Value → Shared → Prop} {s : Shared} {env : PySem.Env}
def cPost (M : Model) (A : Around) (E : Value → Shared → Prop) (use : Option (Value → Sem Unit)) (Q : Value → Shared → Prop) (acc : Value) (cenv : PySem.Env) (r : Result) (s' : Shared) : Prop :=
  match r, use with
  | .ok _, none => ∃ m, s'.heap.Ns cenv.locals m ∧ ∀ h', Heap.SameBut cenv.locals s'.heap h' → Q acc { s' with heap := h' }
  | .ok _, some u => wpAny M A (u acc) (fun _ s'' => ∃ m, s''.heap.Ns cenv.locals m ∧ ∀ h', Heap.SameBut cenv.locals s''.heap h' → Q .none { s'' with heap := h' }) E s'
  | .error x, _ => ∃ m, s'.heap.Ns cenv.locals m ∧ ∀ h', Heap.SameBut cenv.locals s'.heap h' → wpAny M A (PySem.passOn "comprehension.variables-let-go" x cenv : Sem Value) (fun _ _ => False) E { s' with heap := h' }
/-- the library's rule of a comprehension, with the block's frame kept for what is raised (statement and proof follow it) -/
theorem comp_fr {e : Expr} {scope : Scope} {pos : Pos} {newAcc first : Sem Value} {g : Comprehension} {gs : List Comprehension} {cl : List (Str × Addr)} {use : Option (Value → Sem Unit)}
    {Q : Value → Shared → Prop}
    (hcl : clausesOf e = g :: gs) (hs : ∀ x, foldedSetIterable g.iter env x = pure x) (hclos : closureFor scope env = pure cl)
    (hkind : scope.kind = .function) (hnames : ∀ x ∈ scope.names, x.2 = .local → scope.names.lookup x.1 = some .local)
    (h : wpAny M A first (fun x s₁ => wpAny M A (pyIter x) (fun it s₂ => wpAny M A newAcc (fun acc s₃ =>
      wpAny M A (newFunctionEnv scope env.globals cl [] env.qual none .none (some env)) (fun cenv s₄ =>
        codeAny M A (.compStart e 0 it acc { cenv with scope := relabel scope env }) (cPost M A E use Q acc { cenv with scope := relabel scope env }) s₄) E s₃) E s₂) E s₁) E s) :
    wpAny M A (comprehension e scope env pos newAcc false first use) Q E s := by
  unfold comprehension
  rw [hclos, hcl]
  refine wpAny_bind (wpAny_mono h (fun x s₁ h₁ => wpAny_bind (wpAny_standAt (wpAny_bind (wpAny_of_eq (hs x) (wpAny_bind (wpAny_holding (wpAny_mono h₁ (fun it s₂ h₂ =>
    wpAny_standIf (wpAny_bind (wpAny_mono h₂ (fun acc s₃ h₃ => wpAny_bind (wpAny_pure (wpAny_bind (wpAny_mono h₃ (fun cenv s₄ h₄ => ?_) fun _ _ h' => h')))) fun _ _ h' => h')))
      fun _ _ h' => h'))))))) fun _ _ h' => h')
  dsimp only
  have hv : ∀ x ∈ (scope.names.filter fun x => (x.2 == .local || x.2 == .cell) && x.1 != (".0" : Str)).reverse, x.2 = .local →
      Env.kindOf { cenv with scope := relabel scope env } x.1 = some .local := fun x hx hl => lookup_relabel_local (hnames x (List.mem_filter.mp (List.mem_reverse.mp hx)).1 hl)
  have hv' : ∀ x ∈ (scope.names.filter fun x => (x.2 == .local || x.2 == .cell) && x.1 != (".0" : Str)).reverse.drop 1 ++ (scope.names.filter fun x => (x.2 == .local || x.2 == .cell) && x.1 != (".0" : Str)).reverse.take 1,
      x.2 = .local → Env.kindOf { cenv with scope := relabel scope env } x.1 = some .local := fun x hx hl => by
    rcases List.mem_append.mp hx with h1 | h1
    · exact hv x (List.mem_of_mem_drop h1) hl
    · exact hv x (List.mem_of_mem_take h1) hl
  refine wpAny_holding (wpAny_bind (wpAny_attempt (wpAny_holding (wpAny_run (codeAny_mono h₄ fun r s' hr => ?_)))))
  cases r with
  | ok f =>
    cases use with
    | none =>
      obtain ⟨m, hn, hr⟩ := hr
      exact wpAny_bind (wpAny_holding (wpAny_comp_letGo (cenv := { cenv with scope := relabel scope env }) hkind _ s' m hv hn fun h' m' _ hs' => wpAny_pure (hr h' hs')))
    | some u =>
      refine wpAny_bind (wpAny_rule (wpAny_bind (wpAny_holding (wpAny_mono hr (fun _ s'' hr' => ?_) fun _ _ h' => h'))))
      obtain ⟨m, hn, hr'⟩ := hr'
      exact wpAny_bind (wpAny_comp_letGo (cenv := { cenv with scope := relabel scope env }) hkind _ s'' m hv' hn fun h' m' _ hs' => wpAny_pure (hr' h' hs'))
  | error x =>
    have hr' : ∃ m, s'.heap.Ns cenv.locals m ∧ ∀ h', Heap.SameBut cenv.locals s'.heap h' → wpAny M A (PySem.passOn "comprehension.variables-let-go" x { cenv with scope := relabel scope env } : Sem Value) (fun _ _ => False) E { s' with heap := h' } := by cases use <;> exact hr
    obtain ⟨m, hn, hr⟩ := hr'
    exact wpAny_bind (wpAny_holding (wpAny_comp_letGo (cenv := { cenv with scope := relabel scope env }) hkind _ s' m hv hn fun h' m' _ hs' => wpAny_mono (hr h' hs') (fun _ _ f => f.elim) fun _ _ y => y))
end
/-- gd: what is walked; vs: the block's names -/
def qLcGo (gd : Gd) (g : QG) (tt : QT) (pe : QE) (vs : List Nat) : List D → List D → Env → (MO → Env → Prop) → XP → Prop
  | [], acc => fun Γ Q _ => withG gd Γ (Q (.lst acc) Γ)
  | d :: ds, acc => fun Γ Q E => withG gd Γ (g d (wipeE (bE Γ) vs) fun Γ2 => tt Γ2 (fun b Γ3 => match b with
    | true => pe Γ3 (fun y Γ4 => acc.length < 100000 ∧ qLcGo gd g tt pe vs ds (acc ++ [y]) (rE Γ Γ4) Q E) (fun x Γ' => E x (rE Γ Γ'))
    | false => qLcGo gd g tt pe vs ds acc (rE Γ Γ3) Q E) (fun x Γ' => E x (rE Γ Γ')))
def qnLc (pi : QI) (g : QG) (tt : QT) (pe : QE) (vs : List Nat) : QN := fun Γ Q E => pi Γ (fun items gd Γ1 => match offs Γ1 vs with
  | true => qLcGo gd g tt pe vs items [] Γ1 Q E
  | false => False) E
theorem offs_bE {Γ : Env} : ∀ {vs : List Nat}, offs Γ vs = true → offs (bE Γ) vs = true
  | [], _ => rfl
  | v :: vs, h => by
    obtain ⟨h1, h2⟩ := Bool.and_eq_true_iff.mp h
    refine Bool.and_eq_true_iff.mpr ⟨?_, offs_bE h2⟩
    unfold offI at h1 ⊢
    rw [bE_get]
    cases hg : Γ[v]? with
    | none => rw [hg] at h1; cases h1
    | some s =>
      rw [hg] at h1
      cases s <;> first | rfl | cases h1
theorem offs_rE {Γ Γ' : Env} : ∀ {vs : List Nat}, offs Γ vs = true → offs (rE Γ Γ') vs = true
  | [], _ => rfl
  | v :: vs, h => by
    obtain ⟨h1, h2⟩ := Bool.and_eq_true_iff.mp h
    refine Bool.and_eq_true_iff.mpr ⟨?_, offs_rE h2⟩
    unfold offI at h1 ⊢
    cases hg : Γ[v]? with
    | none => rw [hg] at h1; cases h1
    | some s =>
      rw [hg] at h1
      rw [rE_get hg]
      cases s <;> first | rfl | cases h1
theorem gOk_of {gd : Gd} {σ : St} {Γ : Env} (h : gM gd Γ) : gOk gd σ σ Γ := by
  cases gd with
  | none => trivial
  | some p => exact ⟨h, rfl⟩
theorem gOk_bE {gd : Gd} {σ : St} {Γ : Env} (h : gM gd Γ) : gOk gd σ σ (bE Γ) := by
  cases gd with
  | none => trivial
  | some p =>
    obtain ⟨j, o⟩ := p
    refine ⟨?_, rfl⟩
    rw [bE_get]
    have h : (Γ[j]?).bind Slot.mo = some o := h
    cases hg : Γ[j]? with
    | none => rw [hg] at h; cases h
    | some s =>
      rw [hg] at h
      cases s <;> first | exact h | cases h
section
variable {X : Cx} {F : Fx} {E : XP}
/-- the block's air at one turn -/
theorem tk_turn {scope : Scope} {b : BlkD} {G H : Hp} {σ : St} {Γ : Env} (fr : FrOk X) (hx : b.xe = XEA (bk X scope b) (fun cls d _ H' => wOf F E cls d σ H')) (k : Ok F G H σ Γ) :
    Tk (bk X scope b) (blkF F G H σ Γ) (fun x Γ' => E x (rE Γ Γ')) := by
  have imp : ∀ cls d σ' H', wOf (blkF F G H σ Γ) (fun x Γ' => E x (rE Γ Γ')) cls d σ' H' → wOf F E cls d σ H' := fun cls d σ' H' ⟨G', Γ', x, k', xr, e⟩ => ⟨G', _, x, (k.leave k').2, xr, e⟩
  have key : ∀ u s', XEA (bk X scope b) (wOf (blkF F G H σ Γ) (fun x Γ' => E x (rE Γ Γ'))) u s' → b.xe u s' := fun u s' x => by
    obtain ⟨a, B, sI, pins, σ', H', cls, d, e, I, nb, up, sky, na, os, ag, w⟩ := x
    rw [hx]
    exact ⟨a, B, sI, pins, σ', H', cls, d, e, I, nb, up, sky, na, os, ag, imp _ _ _ _ w⟩
  refine ⟨fun u s' x => key u s' (.of x), fun u s' x => ?_, ?_⟩
  · obtain ⟨a, B, sI, pins, σ', H', cls, d, L, e, I, nb, up, hL, ⟨h1, h2, h3, h4⟩, na, os, ag, w⟩ := x
    exact key u s' ⟨a, B, sI, pins, σ', H', cls, d, e, I, nb, up, .inr ⟨h1, h2, h3, _, h4⟩, na, os, ag, w⟩
  · obtain ⟨fe, out, L, h1, h2, h3⟩ := fr
    exact ⟨fe, out, L, h1, h2, h3⟩
theorem thnX {α : Type} {t : Sem α} {Q Q' : α → Shared → Prop} {M : Model} {A : Around} {E1 E2 : Value → Shared → Prop} {s : Shared} (h : wpAny M A t Q E1 s) (hQ : ∀ a s, Q a s → Q' a s) (hE : ∀ e s, E1 e s → E2 e s) : wpAny M A t Q' E2 s := wpAny_mono h hQ hE
variable {pos : Pos}
theorem lx_core {pins : List (Addr × Obj)} {s : Shared} {σ : St} {H G : Hp} {Γ : Env} {Q : MO → Env → Prop} {elt tg iter : Expr} {ifs : List Expr} {scope : Scope} {own : List (Str × Nat)} {pos' : Pos} {pi : QI} {g : QG} {tt : QT} {pe : QE} {use : Option (Value → Sem Unit)} {Qf : Value → Shared → Prop}
    (hc : X.calm = true) (hN : X.N.Nodup) (tk : Tk X F E) (I : Inv X pins σ H s) (k : Ok F G H σ Γ) (hi : LI X F E tg iter pi) (ok : BlkOk X.N X.env.scope scope own)
    (hg : ∀ (b : BlkD) (q : FxD), LGv (bk X scope b) (fbk F q) tg g (own.map (·.2)))
    (ht : ∀ (b : BlkD) (q : FxD) (E' : XP), Tk (bk X scope b) (fbk F q) E' → LTs (bk X scope b) (fbk F q) E' ifs tt)
    (he : ∀ (b : BlkD) (q : FxD) (E' : XP), Tk (bk X scope b) (fbk F q) E' → LE (bk X scope b) (fbk F q) E' elt pe) (hs : ∀ x, foldedSetIterable iter X.env x = pure x)
    (h : qnLc pi g tt pe (own.map (·.2)) Γ Q E)
    (hRR : ∀ D C s' m H' (ce : PySem.Env), ce.locals = C → Inv X pins σ H' s' → FinN F G σ Q (.ref D) H' → s'.heap.Ns C m → FpOk X pins H' C → cPost (model X.prog X.w) X.A X.xe use Qf (.ref D) ce (.ok .next) s') :
    wpAny (model X.prog X.w) X.A (comprehension (.ListComp elt [⟨tg, iter, ifs, 0⟩] scope pos) scope X.env pos' (newList []) false (eval iter X.env) use) Qf X.xe s := by
  have hfree : ∀ y ∈ scope.names, y.2 = .free → ∃ c, X.env.cells.lookup y.1 = some c := fun y hy e => by
    rcases ok.free y hy e with k | k
    · exact I.ok.has _ (.inl k)
    · exact I.ok.has _ (.inr k)
  refine comp_fr (use := use) rfl hs (closure_ok hfree) ok.kind (fun y hy e => by rw [ok.uniq y hy, e])
    (thn (hi.run pins s σ H G Γ _ I k h) fun xv s1 hx => thn hx fun itv s2 h2 => ?_)
  obtain ⟨it, fp, tn, J, H2, e, I2, T, st2, f2, items, gd, Γ1, G1, q1, i1, k1, sw⟩ := h2
  subst e
  refine wpAny_newObj_type (newEnv_comp ?_) (by show 0 ≤ sizeLine; decide)
  generalize hD : s2.heap.objs.size = D
  have hDn : H2 D = none := I2.hok.fresh (Nat.le_of_eq hD)
  obtain ⟨ho, q1⟩ : offs Γ1 (own.map (·.2)) = true ∧ qLcGo gd g tt pe (own.map (·.2)) items [] Γ1 Q E := by
    revert q1
    cases offs Γ1 (own.map (·.2)) with
    | true => exact fun q => ⟨rfl, q⟩
    | false => exact fun q => q.elim
  -- the new list
  generalize hs3 : ({ s2 with heap := s2.heap.push { cls := .type "list", data := .seq ([] : List Value).toArray } } : Shared) = s3
  have I3 : Inv X pins σ (upd H2 D (.lst [])) s3 := by
    rw [← hs3]
    refine I2.laid (t' := s2.toks) (fun b o e => Heap.get?_push_of_some _ e) (Nat.le_of_eq hD) ⟨Nat.zero_le _, [], 0, .nil, ?_⟩
    rw [← hD]
    exact Heap.get?_push_size _ rfl
  have h3 : s3.heap = s2.heap.push { cls := .type "list", data := .seq ([] : List Value).toArray } := by rw [← hs3]
  have sz : ∀ b ∈ fp, b < s2.heap.objs.size := fun b hb => by
    obtain ⟨o, e, _⟩ := T.obj _ _ st2 b hb
    exact Heap.lt_size e
  have f3 : ∀ b ∈ fp, FpOk X pins (upd H2 D (.lst [])) b ∧ b < s3.heap.objs.size := fun b hb => by
    have hlt := sz b hb
    refine ⟨⟨?_, (f2 b hb).2⟩, by rw [h3, Heap.size_push]; exact Nat.lt_succ_of_lt hlt⟩
    rw [upd_ne (by rw [← hD]; exact Nat.ne_of_lt hlt)]
    exact (f2 b hb).1
  have st3 : tn 0 s3.heap := T.keep _ _ _ st2 fun b _ o e => by rw [h3]; exact Heap.get?_push_of_some _ e
  -- what stands behind a turn
  have h0D : F.H0 D = none := k1.h0 hDn
  have nB : D ∉ F.B := fun m => by
    obtain ⟨o, e⟩ := k1.bor D m
    rw [hDn] at e; cases e
  have g1D : G1 D = none := k1.sub.no hDn
  generalize hvs : own.map (·.2) = vs at q1 ho hg
  let W : Nat → Nat → Hp → Prop := fun i m H' => m = items.length - i ∧ i ≤ items.length ∧ ∃ acc vacc Γ' G', qLcGo gd g tt pe vs (items.drop i) acc Γ' Q E ∧ Inc G1 G' ∧ Ok F G' H' σ Γ' ∧ G' D = none ∧ H' D = some (.lst vacc) ∧ Reps F.toCf G' acc vacc ∧ D ∉ mutA σ Γ' ∧ offs Γ' vs = true
  have w0 : W 0 items.length (upd H2 D (.lst [])) := ⟨rfl, Nat.zero_le _, [], [], Γ1, G1, q1, Inc.refl G1, k1.new0 hDn _, g1D, upd_same, rfl, not_mut k1 hDn, ho⟩
  have I4 := block_start I3 ok hN f3
  show codeAny _ _ (.compStart (.ListComp elt [⟨tg, iter, ifs, 0⟩] scope pos) 0 (.ref it) (.ref D) (compEnvC scope (cellsFrom (s3.heap.objs.size + 1) scope.names (cloFrom X.env.cells scope.names [])) s3.heap.objs.size X.env)) (cPost (model X.prog X.w) X.A X.xe use Qf (.ref D) (compEnvC scope (cellsFrom (s3.heap.objs.size + 1) scope.names (cloFrom X.env.cells scope.names [])) s3.heap.objs.size X.env)) { s3 with heap := pushCells (s3.heap.push { cls := .type "dict", data := .dict #[] }) scope.names }
  have nfp : ∀ b ∈ fp, (upd H2 D (.lst [])) b = none := fun b hb => (f3 b hb).1.1
  generalize hcl : cellsFrom (s3.heap.objs.size + 1) scope.names (cloFrom X.env.cells scope.names []) = cl at I4 ⊢
  generalize hH3 : upd H2 D (.lst []) = H3 at I3 I4 w0 nfp f3
  generalize hs4 : ({ s3 with heap := pushCells (s3.heap.push { cls := .type "dict", data := .dict #[] }) scope.names } : Shared) = s4 at I4 ⊢
  have st4 : tn 0 s4.heap := T.keep _ _ _ st3 fun b _ o e => by rw [← hs4]; exact pushCells_keeps _ _ _ _ (Heap.get?_push_of_some _ e)
  -- the block's context
  obtain ⟨b, hb⟩ : ∃ b : BlkD, b = ⟨s3, H3, s3.heap.objs.size, cl, fp, fun u s' => XEA (X.blk s3 H3 scope (compEnvC scope cl s3.heap.objs.size X.env) fp) (fun cls d _ H' => wOf F E cls d σ H') u s'⟩ := ⟨_, rfl⟩
  have toB : ∀ {pins' : List (Addr × Obj)} {σ' : St} {H' : Hp} {s' : Shared}, Inv (X.blk s3 H3 scope (compEnvC scope cl s3.heap.objs.size X.env) fp) pins' σ' H' s' → Inv (bk X scope b) pins' σ' H' s' := fun {_ _ _ _} I' => by rw [hb]; exact Inv.bk _ I'
  have ofB : ∀ {pins' : List (Addr × Obj)} {σ' : St} {H' : Hp} {s' : Shared}, Inv (bk X scope b) pins' σ' H' s' → Inv (X.blk s3 H3 scope (compEnvC scope cl s3.heap.objs.size X.env) fp) pins' σ' H' s' := fun {_ _ _ _} I => by
    subst hb
    exact ⟨⟨I.ok.mod, I.ok.kind, I.ok.glob, I.ok.blt, I.ok.above, I.ok.inj, I.ok.has, I.ok.cab, I.ok.hd, I.ok.frames, I.ok.stk, I.ok.exf, I.ok.bs, I.ok.bsz, I.ok.noex, I.ok.exfs, I.ok.funs, I.ok.frf⟩, I.os, I.bare, I.base, I.loc, I.cell, I.free, I.freeC, I.pin, I.hok, I.len⟩
  have hxe : b.xe = XEA (bk X scope b) (fun cls d _ H' => wOf F E cls d σ H') := by
    funext u s'
    refine propext ⟨fun x => ?_, fun x => ?_⟩
    · obtain ⟨a, B, sI, pins', σ', H', cls, d, e, I, r⟩ := (show XEA (X.blk s3 H3 scope (compEnvC scope cl s3.heap.objs.size X.env) fp) (fun cls d _ H' => wOf F E cls d σ H') u s' by rw [hb] at x; exact x)
      exact ⟨a, B, sI, pins', σ', H', cls, d, e, toB I, r⟩
    · have x' : XEA (X.blk s3 H3 scope (compEnvC scope cl s3.heap.objs.size X.env) fp) (fun cls d _ H' => wOf F E cls d σ H') u s' := by
        obtain ⟨a, B, sI, pins', σ', H', cls, d, e, I, r⟩ := x
        exact ⟨a, B, sI, pins', σ', H', cls, d, e, ofB I, r⟩
      rw [hb]; exact x'
  have hce : compEnvC scope b.cl b.C X.env = compEnvC scope cl s3.heap.objs.size X.env := by rw [hb]
  have exit : ∀ u s', b.xe u s' → notedBy (model X.prog X.w) X.A (compEnvC scope b.cl b.C X.env) (fun e s'' => cPost (model X.prog X.w) X.A X.xe use Qf (.ref D) (compEnvC scope b.cl b.C X.env) (.error e) s'') u s' := fun u s' x => by
    rw [hxe] at x
    have z := exitX (what := "comprehension.variables-let-go") tk.fr tk.f I3 (by rw [hb]) (by rw [hb]) (by rw [hb]) (by rw [hb]; exact fun c hc => (f3 c hc).1) x
    cases use <;> exact z
  have pg := hg b
  have pt := ht b
  have pe' := he b
  have I4 := toB I4
  have stat : ∀ {σ' : St} {H' : Hp} {s' : Shared}, Inv (bk X scope b) [] σ' H' s' → (∀ c ∈ fp, H' c = none) → ∀ c ∈ fp, FpOk (bk X scope b) [] H' c := fun {σ' H' s'} I' hn c hb' => by
    have hb2 : c ∈ b.fp := by rw [hb]; exact hb'
    exact ⟨hn c hb', (I'.ok.exf c hb2).1, I'.ok.exfs c hb2, .inl hb2, fun x y e => (I'.ok.exf c hb2).2 x y e, fun p hp => absurd (show p ∈ ([] : List (Addr × Obj)) ++ [] from hp) (by simp)⟩
  have loop : codeAny (model X.prog X.w) X.A (.compLoop (.ListComp elt [⟨tg, iter, ifs, 0⟩] scope pos) 0 (.ref it) (.ref D) (compEnvC scope cl s3.heap.objs.size X.env)) (cPost (model X.prog X.w) X.A X.xe use Qf (.ref D) (compEnvC scope cl s3.heap.objs.size X.env)) s4 := by
    rw [hvs] at I4
    rw [← hce]
    refine compLoop_any (fun n s' => ∃ i H', Inv (bk X scope b) [] (wipe σ vs) H' s' ∧ tn i s'.heap ∧ (∀ c ∈ fp, H' c = none) ∧ W i n H') ?_ items.length ⟨0, H3, I4, st4, nfp, w0⟩
    rintro n s5 ⟨i, H5, I5, st5, n5, rfl, hile, acc, vacc, Γ2, G2, q2, i2, k2, g2D, h2D, r2, nm, ho2⟩
    by_cases hlt : i < items.length
    · have hd : items.drop i = items[i] :: items.drop (i + 1) := List.drop_eq_getElem_cons hlt
      rw [hd] at q2
      obtain ⟨gk, q2⟩ := withG_get q2
      have gk' : gOk gd σ σ (bE Γ2) := gOk_bE gk
      have ti := T.item (bk X scope b) rfl rfl rfl hc i [] s5 _ H5 (fun _ _ => False) I5 (stat I5 n5) st5 (sw.go i G2 H5 σ Γ2 i2 k2 (gOk_of gk) hlt)
      refine thnF ti fun r s6 ⟨u, hr, h6⟩ => ?_
      subst hr
      refine thnF h6 fun _ s7 ⟨x, H7, I7, r7, y7, st7, n7⟩ => ?_
      obtain ⟨d, G3, ed, i3, k3, r3⟩ := sw.yldH ⟨G2, H5, mutA σ Γ2, pinE σ Γ2⟩ i G2 H5 σ (bE Γ2) x H7 i2 k2.enter gk' hlt y7
      have ed' : items[i] = d := by
        rw [List.getElem?_eq_getElem hlt] at ed
        exact Option.some.inj ed
      rw [ed'] at q2
      have I7' := I7.pinned (stat I7 n7) (T.obj _ _ st7)
      obtain ⟨k4, _⟩ := k3.wipe (offs_bE ho2)
      have tkt := tk_turn (scope := scope) (b := b) tk.fr hxe k2
      -- the end of a turn
      have fin : ∀ {G4 H4 : Hp} {σ4 : St} {Γ4 : Env}, Ok (blkF F G2 H5 σ Γ2) G4 H4 σ4 Γ4 → Inc G2 G4 ∧ Ok F G4 H4 σ (rE Γ2 Γ4) ∧ H4 D = some (.lst vacc) ∧ G4 D = none ∧ D ∉ mutA σ (rE Γ2 Γ4) := by
        intro G4 H4 σ4 Γ4 k7
        obtain ⟨a1, a2⟩ := k2.leave k7
        refine ⟨a1, a2, k7.frame D _ h2D nm, ?_, ?_⟩
        · cases hg : G4 D with
          | none => rfl
          | some o =>
            rcases k7.fresh D o hg with z | z
            · have z : G2 D = some o := z
              rw [g2D] at z; cases z
            · have z : H5 D = none := z
              rw [h2D] at z; cases z
        · rw [mutA_kin rE_len fun i s t e1 e2 => rE_kin e1 e2]
          exact nm
      have back : ∀ {pins' : List (Addr × Obj)} {s' : Shared} {H' : Hp} {σ8 : St}, wipe σ8 vs = wipe σ vs → Inv (bk X scope b) ([] ++ pinsAt fp s7.heap) σ8 H' s' → W (i + 1) (items.length - (i + 1)) H' → ∃ m, m < items.length - i ∧ ∃ i H', Inv (bk X scope b) [] (wipe σ vs) H' s' ∧ tn i s'.heap ∧ (∀ c ∈ fp, H' c = none) ∧ W i m H' := fun {pins' s' H' σ8} hw8 I' w' => by
        have pin' : ∀ c ∈ fp, ∀ o, s7.heap.get? c = some o → s'.heap.get? c = some o ∧ H' c = none := fun c hb o e =>
          let z := I'.pin (c, o) (List.mem_append_right _ (List.mem_append_right _ (mem_pinsAt hb e)))
          ⟨z.1, z.2.1⟩
        have hl : (wipe σ vs).length = σ8.length := by rw [← hw8, wipe_length]
        refine ⟨items.length - (i + 1), by omega, i + 1, H', (I'.unpinned (pins := [])).weak hl (fun j v e => ?_), T.keep _ _ _ st7 fun c hb o e => (pin' c hb o e).1, fun c hb => ?_, w'⟩
        · rw [← hw8] at e
          exact (wipe_some e).1
        · obtain ⟨o, e, _⟩ := T.obj _ _ st7 c hb
          exact (pin' c hb o e).2
      refine thnX ((pg _).run _ s7 _ H7 G3 _ x u d _ I7' k4 r7 r3 q2) (fun _ s8 ⟨σ8, H8, I8, hw8, Γ4, q4, k5⟩ => ?_) exit
      have hw8 : wipe σ8 vs = wipe σ vs := hw8.trans wipe_idem
      refine thnX ((pt _ _ tkt).run _ s8 σ8 H8 G3 Γ4 _ I8 k5 q4) (fun bb s9 ⟨H9, I9, Γ5, G5, q5, i5, k6⟩ => ?_) exit
      cases bb with
      | false =>
        simp only [Bool.false_eq_true, if_false]
        obtain ⟨a1, a2, a3, a4, a5⟩ := fin k6
        exact back (pins' := []) hw8 I9 ⟨rfl, hlt, acc, vacc, _, G5, q5, i2.trans a1, a2, a4, a3, r2.inc a1, a5, offs_rE ho2⟩
      | true =>
        simp only [if_true]
        refine thnX ((pe' _ _ tkt).run _ s9 σ8 H9 G5 Γ5 _ I9 k6 q5) (fun z s10 ⟨yv, H10, I10, r10, dy, Γ6, G6, ⟨hl6, q6⟩, i6, k7, rp6⟩ => ?_) exit
        obtain ⟨a1, a2, a3, a4, a5⟩ := fin k7
        refine app_ok (X := bk X scope b) I10 a3 (by rw [r2.len]; exact szlt hl6) r10 fun s11 I11 => back (pins' := []) hw8 I11 ?_
        exact ⟨rfl, hlt, acc ++ [dy], vacc ++ [yv], _, G6, q6, i2.trans a1, a2.off a4 h0D nB a5 (fun ws z => by rw [a3] at z; cases z) _, a4, upd_same, (r2.inc a1).append (Reps.one rp6), a5, offs_rE ho2⟩
    · have e : i = items.length := by omega
      subst e
      rw [List.drop_length] at q2
      obtain ⟨gk, q2⟩ := withG_get q2
      have td := T.done (bk X scope b) rfl rfl rfl hc items.length [] s5 _ H5 (fun _ _ => False) I5 (stat I5 n5) st5 (sw.stop G2 H5 σ Γ2 i2 k2 (gOk_of gk))
      refine thnF td fun r s6 ⟨hr, I6⟩ => ?_
      subst hr
      have I6' := ofB I6
      have I7 : Inv X pins σ H5 s6 := I3.call' (ch := fp) I6'.os I6'.base I6'.hok I6'.bare fun c hb => ⟨(f3 c hb).1.2.2.2.1, (f3 c hb).1.2.1, (f3 c hb).1.2.2.2.2.1, (f3 c hb).1.2.2.2.2.2⟩
      have nC : H5 s3.heap.objs.size = none := I6'.free
      obtain ⟨m, hn, _⟩ := I6'.loc
      exact hRR D s3.heap.objs.size s6 m H5 _ (by rw [hb]; rfl) I7 ⟨.lst acc, D, Γ2, G2, q2, i1.trans i2, k2, rfl, g2D, ⟨vacc, h2D, r2⟩, h0D, nm⟩ hn (I3.fpOk (Nat.le_refl _) nC)
  exact codeAny_compStart_list loop (T.self X.A 0 _ _ _ st4 loop)
end
end Q

set_option Elab.async false
set_option linter.all false
set_option maxRecDepth 100000
set_option maxHeartbeats 4000000
namespace Q
open PySem L2 PySem.Spec PyProof.Rows
section
variable {X : Cx} {F : Fx} {E : XP} {e : Expr} {pn : QN} {pos : Pos}
/-- a new thing, told at once -/
def qTell (p : QN) : QE := fun Γ Q E => p Γ (fun o Γ1 => Q (dMo o) Γ1) E
theorem finN_tell {G H : Hp} {σ : St} {Q : D → Env → Prop} {v : V} (h : FinN F G σ (fun o Γ1 => Q (dMo o) Γ1) v H) : Fin F G σ Q v H := by
  obtain ⟨o, a, Γ', G', q, i, k, rfl, ga, m, h0, hm⟩ := h
  obtain ⟨u, hu, ru⟩ := mrep_tell (moD_dMo o) ga m
  exact ⟨dMo o, Γ', upd G' a u, q, i.trans (Inc.new ga), k.tell hu ga h0 hm, ru⟩
theorem le_tell (h : LN X F E e pn) : LE X F E e (qTell pn) := ⟨fun pins s σ H G Γ Q I k q =>
  thn (h.run pins s σ H G Γ _ I k q) fun u s' ⟨v, H', I', r, z⟩ => ⟨v, H', I', r, finN_tell z⟩⟩
theorem li_own {tg iter : Expr} {p : QI} (h : LI X F E tg iter p) : LI X F E tg iter p := h
variable {elt tg iter : Expr} {ifs : List Expr} {scope : Scope} {own : List (Str × Nat)} {pi : QI} {g : QG} {tt : QT} {pe : QE}
theorem ln_lc (own : List (Str × Nat)) (hc : X.calm = true) (hN : X.N.Nodup) (tk : Tk X F E) (hi : LI X F E tg iter pi) (ok : BlkOk X.N X.env.scope scope own)
    (hg : ∀ (b : BlkD) (q : FxD), LGv (bk X scope b) (fbk F q) tg g (own.map (·.2)))
    (ht : ∀ (b : BlkD) (q : FxD) (E' : XP), Tk (bk X scope b) (fbk F q) E' → LTs (bk X scope b) (fbk F q) E' ifs tt)
    (he : ∀ (b : BlkD) (q : FxD) (E' : XP), Tk (bk X scope b) (fbk F q) E' → LE (bk X scope b) (fbk F q) E' elt pe) (hs : ∀ x, foldedSetIterable iter X.env x = pure x := by intro _; rfl) :
    LN X F E (.ListComp elt [⟨tg, iter, ifs, 0⟩] scope pos) (qnLc pi g tt pe (own.map (·.2))) := ⟨fun pins s σ H G Γ Q I k h => by
  rw [eval_ListComp]
  refine lx_core hc hN tk I k hi ok hg ht he hs h fun D C s' m H' ce hC I' q hn f => ⟨m, by rw [hC]; exact hn, fun h'' sb => ?_⟩
  rw [hC] at sb
  obtain ⟨f0, f1, f2, f3, f4, f5⟩ := f
  exact ⟨.ref D, H', I'.turned (t' := s'.toks) (fun b o hb e => (sb.2 b hb).trans e) f0 f1 f3 f4 f5, rfl, q⟩⟩
/-- name = [..], on one line, the name a local: the name is stored ahead of the block's end -/
theorem ls_lcCore (own : List (Str × Nat)) {i : Nat} {y : Str} {py spos : Pos} {P : PEnds} {Q : MO → Env → Prop} {pins : List (Addr × Obj)} {s : Shared} {σ : St} {H G : Hp} {Γ : Env} (hc : X.calm = true) (hN : X.N.Nodup) (tk : Tk X F E) (hy : X.N[i]? = some y) (hyl : X.env.scope.names.lookup y = some .local)
    (hsw : swapsWith (.ListComp elt [⟨tg, iter, ifs, 0⟩] scope pos) (some (.Name y py)) spos.line X.env = pure true) (hi : LI X F E tg iter pi) (ok : BlkOk X.N X.env.scope scope own)
    (hg : ∀ (b : BlkD) (q : FxD), LGv (bk X scope b) (fbk F q) tg g (own.map (·.2)))
    (ht : ∀ (b : BlkD) (q : FxD) (E' : XP), Tk (bk X scope b) (fbk F q) E' → LTs (bk X scope b) (fbk F q) E' ifs tt)
    (he : ∀ (b : BlkD) (q : FxD) (E' : XP), Tk (bk X scope b) (fbk F q) E' → LE (bk X scope b) (fbk F q) E' elt pe) (hs : ∀ x, foldedSetIterable iter X.env x = pure x)
    (I : Inv X pins σ H s) (k : Ok F G H σ Γ) (h : qnLc pi g tt pe (own.map (·.2)) Γ Q E)
    (fin : ∀ D H', FinN F G σ Q (.ref D) H' → (endsOf F G P).nx (σ.set i (some (.ref D))) H') :
    wpAny (model X.prog X.w) X.A (exec (.Assign [.Name y py] (.ListComp elt [⟨tg, iter, ifs, 0⟩] scope pos) spos) X.env) (SP X pins (endsOf F G P)) X.xe s := by
  rw [exec_Assign_Name_used _ _ _ _ hsw]
  refine wpAny_bind (wpAny_standAt (wpAny_bind ?_))
  show wpAny _ X.A (do let _ ← comprehension (.ListComp elt [⟨tg, iter, ifs, 0⟩] scope pos) scope X.env (firstIterPos [⟨tg, iter, ifs, 0⟩] pos) (newList []) false (eval iter X.env) (some (assign (.Name y py) X.env))) _ _ s
  refine wpAny_bind (thn (lx_core (Qf := fun _ s' => SP X pins (endsOf F G P) .next s') hc hN tk I k hi ok hg ht he hs h fun D C s' m H' ce hC I' q hn f => ?_) fun _ s' hq => wpAny_pure (wpAny_pure hq))
  show wpAny _ _ (assign (.Name y py) X.env (.ref D)) _ _ _
  refine wpAny_assign_Name (store_ok2 (v := V.ref D) I' hN hy (.inl hyl) rfl (fun s2 I2 ⟨a, sb, ha⟩ => ?_) (.inr hyl))
  obtain ⟨f0, f1, f2, f3, f4, f5⟩ := f
  have haC : C ≠ a := by
    rcases ha with z | z
    · rw [z]; exact f1
    · exact fun e => f4 y a z e.symm
  refine ⟨m, by rw [hC]; exact hn.sameBut sb haC, fun h3 sb3 => ?_⟩
  rw [hC] at sb3
  exact ⟨_, H', I2.turned (t' := s2.toks) (fun b o hb e => (sb3.2 b hb).trans e) f0 f1 f3 f4 f5, fin D H' q⟩
theorem ls_setLc (own : List (Str × Nat)) (i : Nat) {y : Str} {py spos : Pos} (hc : X.calm = true) (hN : X.N.Nodup) (tk : Tk X F E) (hi : LI X F E tg iter pi) (ok : BlkOk X.N X.env.scope scope own)
    (hg : ∀ (b : BlkD) (q : FxD), LGv (bk X scope b) (fbk F q) tg g (own.map (·.2)))
    (ht : ∀ (b : BlkD) (q : FxD) (E' : XP), Tk (bk X scope b) (fbk F q) E' → LTs (bk X scope b) (fbk F q) E' ifs tt)
    (he : ∀ (b : BlkD) (q : FxD) (E' : XP), Tk (bk X scope b) (fbk F q) E' → LE (bk X scope b) (fbk F q) E' elt pe) (hs : ∀ x, foldedSetIterable iter X.env x = pure x := by intro _; rfl)
    (hy : X.N[i]? = some y := by rfl) (hyl : X.env.scope.names.lookup y = some .local := by rfl) (hsw : swapsWith (.ListComp elt [⟨tg, iter, ifs, 0⟩] scope pos) (some (.Name y py)) spos.line X.env = pure true := by exact sw_true rfl rfl rfl rfl) :
    LS X F E (.Assign [.Name y py] (.ListComp elt [⟨tg, iter, ifs, 0⟩] scope pos) spos) (qSet i (qTell (qnLc pi g tt pe (own.map (·.2))))) :=
  ⟨fun pins s σ H G Γ P I k h => ls_lcCore own hc hN tk hy hyl hsw hi ok hg ht he hs I k h fun D H' z => by
    obtain ⟨d, Γ', G', q, i1, k1, r⟩ := finN_tell (Q := fun d Γ1 => setV Γ1 i d P.nx) z
    obtain ⟨n, q2⟩ := setV_get q
    exact ⟨_, G', q2, i1, k1.set n r⟩⟩
theorem ls_setLcN (own : List (Str × Nat)) (i : Nat) {y : Str} {py spos : Pos} (hc : X.calm = true) (hN : X.N.Nodup) (tk : Tk X F E) (hi : LI X F E tg iter pi) (ok : BlkOk X.N X.env.scope scope own)
    (hg : ∀ (b : BlkD) (q : FxD), LGv (bk X scope b) (fbk F q) tg g (own.map (·.2)))
    (ht : ∀ (b : BlkD) (q : FxD) (E' : XP), Tk (bk X scope b) (fbk F q) E' → LTs (bk X scope b) (fbk F q) E' ifs tt)
    (he : ∀ (b : BlkD) (q : FxD) (E' : XP), Tk (bk X scope b) (fbk F q) E' → LE (bk X scope b) (fbk F q) E' elt pe) (hs : ∀ x, foldedSetIterable iter X.env x = pure x := by intro _; rfl)
    (hy : X.N[i]? = some y := by rfl) (hyl : X.env.scope.names.lookup y = some .local := by rfl) (hsw : swapsWith (.ListComp elt [⟨tg, iter, ifs, 0⟩] scope pos) (some (.Name y py)) spos.line X.env = pure true := by exact sw_true rfl rfl rfl rfl) :
    LS X F E (.Assign [.Name y py] (.ListComp elt [⟨tg, iter, ifs, 0⟩] scope pos) spos) (qSetN i (qnLc pi g tt pe (own.map (·.2)))) :=
  ⟨fun pins s σ H G Γ P I k h => ls_lcCore own hc hN tk hy hyl hsw hi ok hg ht he hs I k h fun D H' z => by
    obtain ⟨o, a, Γ', G', q, i1, k1, e, ga, m, h0, hm⟩ := z
    cases e
    dsimp only [setN] at q
    split at q
    · rename_i hb
      exact ⟨_, G', q, i1, k1.setOwn hb ga m h0 hm⟩
    · exact q.elim⟩
end
end Q

set_option Elab.async false
set_option linter.all false
set_option maxRecDepth 100000
set_option maxHeartbeats 4000000
namespace PySem
open Sem (wp)
open AutoSeq1 (wpAny_loadPart')
theorem q_enum_newT (l : Addr) (items : Array Value) (n : Nat) (dct : Option Addr) (sl : Array (Option Value)) :
    Meets (Builtin.«enumerate.__new__» ⟨[.type "enumerate", .ref l], []⟩) (fun _ R s => s.heap.get? l = some { cls := .type "tuple", dict := dct, data := .seq items n, slots := sl } ∧
      R (.ok (.ret (.ref (s.heap.push { cls := .type "tuple_iterator", data := .fields #[.ref l, .int 0 0] }).objs.size)))
        { s with heap := (s.heap.push { cls := .type "tuple_iterator", data := .fields #[.ref l, .int 0 0] }).push { cls := .type "enumerate", data := .fields #[.none, .bool false, .ref s.heap.objs.size, rawInt 0, .none, .none] } }) :=
  .of_wp fun prog w A R s h => by
    obtain ⟨hp, g, d, tk, os⟩ := s; obtain ⟨hl, h⟩ := h
    have hsub := sub_enumerate
    have hL : Heap.IsTuple (Shared.heap ⟨hp, g, d, tk, os⟩) l items := ⟨_, hl, rfl, n, rfl⟩
    wp_walk using wpAny_loadPart' hl
    refine wpAny_stack_any fun st => wpAny_pure ?_
    split
    · rename_i c _ _ _ _ _
      cases (c == Value.type "enumerate")
      · wp_walk using wpAny_loadPart' hl, wpAny_pyIter_tuple hL
        exact ⟨_, rfl, h⟩
      · wp_walk using wpAny_loadPart' hl, wpAny_pyIter_tuple hL
        exact ⟨_, rfl, h⟩
    · wp_walk using wpAny_loadPart' hl, wpAny_pyIter_tuple hL
      exact ⟨_, rfl, h⟩
section
variable {prog : Program} {w : World} {A : Around} {E : Value → Shared → Prop} {s : Shared}
theorem q_call_enumT {l : Addr} {items : Array Value} {Q : Value → Shared → Prop} (hL : s.heap.IsTuple l items)
    (h : ∀ h', IsEnum h' (s.heap.objs.size + 1) s.heap.objs.size 0 .none → h'.IsTupleIter s.heap.objs.size l 0 → h'.objs.size = s.heap.objs.size + 2 →
      (∀ b o, s.heap.get? b = some o → h'.get? b = some o) → Q (.ref (s.heap.objs.size + 1)) { s with heap := h' }) :
    wpAny (model prog w) A (call (.type "enumerate") [.ref l]) Q E s := by
  obtain ⟨⟨c, dct, dt, sl⟩, hl, hc, n, hd⟩ := hL
  replace hc : c = .type "tuple" := hc
  replace hd : dt = .seq items n := hd
  subst hc hd
  refine callType_new F.called_enumerate (by decide) (F.typeCall_enumerate_1 _) (F.newCall_enumerate_1 _) (fun obj => F.args_object_init_2 obj _) F.entry_enumerate_new
    (q_enum_newT l items n dct sl) ⟨hl, ?_⟩
  have hz : (s.heap.push { cls := .type "tuple_iterator", data := .fields #[.ref l, .int 0 0] }).objs.size = s.heap.objs.size + 1 := Heap.size_push ..
  show _ ∧ _
  rw [hz]
  have he : IsEnum ((s.heap.push { cls := .type "tuple_iterator", data := .fields #[.ref l, .int 0 0] }).push
      { cls := .type "enumerate", data := .fields #[.none, .bool false, .ref s.heap.objs.size, rawInt 0, .none, .none] }) (s.heap.objs.size + 1) s.heap.objs.size 0 .none := by
    have := Heap.get?_push_size (s.heap.push { cls := .type "tuple_iterator", data := .fields #[.ref l, .int 0 0] })
      (o := { cls := .type "enumerate", data := .fields #[.none, .bool false, .ref s.heap.objs.size, rawInt 0, .none, .none] }) rfl
    rw [hz] at this; exact this
  refine ⟨⟨_, he, rfl⟩, h _ he ⟨_, Heap.get?_push_of_some _ (Heap.get?_push_size _ rfl), rfl, rfl⟩ (by rw [Heap.size_push, hz]) fun b o x => Heap.get?_push_of_some _ (Heap.get?_push_of_some _ x)⟩
end
end PySem
namespace Q
open PySem L2 PySem.Spec PyProof.Rows
/-! ## 24. enumerate(..) and zip(.., ..) of lists, tuples and texts that stay as they are -/
inductive Sk where
  | l (a : Addr) | t (a : Addr) | x (z : Str)
def Sk.v : Sk → V
  | .l a => .ref a
  | .t a => .ref a
  | .x z => .str z
def Sk.at (K : PySem.W.Frag) (H : Hp) : Sk → List V → Prop
  | .l a, vs => SqL K H a vs
  | .t a, vs => SqT K H a vs
  | .x z, vs => vs = z.cps.toList.map fun c => V.str ⟨#[c]⟩
def Sk.it (it : Addr) (i : Nat) (h : Heap) : Sk → Prop
  | .l a => h.IsListIter it a i
  | .t a => h.IsTupleIter it a i
  | .x z => ∃ t, h.IsStrIter it (strIterType z) z t i
def Sk.ne (b : Addr) : Sk → Prop
  | .l a => b ≠ a
  | .t a => b ≠ a
  | .x _ => True
theorem Sk.it_obj {k : Sk} {it : Addr} {i : Nat} {h : Heap} (x : k.it it i h) : ∃ o fs, h.get? it = some o ∧ o.data = .fields fs := by
  cases k with
  | l a => obtain ⟨o, e, _, d⟩ := x; exact ⟨o, _, e, d⟩
  | t a => obtain ⟨o, e, _, d⟩ := x; exact ⟨o, _, e, d⟩
  | x z => obtain ⟨t, o, e, _, d⟩ := x; exact ⟨o, _, e, d⟩
theorem Sk.it_at {k : Sk} {it : Addr} {i : Nat} {h h' : Heap} (x : k.it it i h) (hk : ∀ o, h.get? it = some o → h'.get? it = some o) : k.it it i h' := by
  cases k with
  | l a => obtain ⟨o, e, r⟩ := x; exact ⟨o, hk o e, r⟩
  | t a => obtain ⟨o, e, r⟩ := x; exact ⟨o, hk o e, r⟩
  | x z => obtain ⟨t, o, e, r⟩ := x; exact ⟨t, o, hk o e, r⟩
theorem vals_get' : ∀ {xs : List V} {us : List Value} {i : Nat} {u : Value}, Vals xs us → us[i]? = some u → ∃ x, xs[i]? = some x ∧ RelV x u
  | _, _, _, _, .nil, e => by simp at e
  | _, _, 0, _, .cons r _, e => by simp at e; subst e; exact ⟨_, rfl, r⟩
  | _, _, i + 1, _, .cons _ r, e => by
    obtain ⟨x, h1, h2⟩ := vals_get' (i := i) r (by simpa using e)
    exact ⟨x, by simpa using h1, h2⟩
section
variable {X : Cx} {pins : List (Addr × Obj)} {σ : St} {H : Hp} {s : Shared}
theorem Sk.inj {k : Sk} {xs ys : List V} (I : Inv X pins σ H s) (a : k.at X.K H xs) (b : k.at X.K H ys) : xs = ys := by
  cases k with
  | l _ => exact I.list_inj a b
  | t _ => exact I.tuple_inj a b
  | x z => exact (show xs = _ from a).trans (show ys = _ from b).symm
theorem sk_draws {A : Around} {k : Sk} {vs : List V} {it : Addr} {i : Nat} (I : Inv X pins σ H s) (hh : A.handled = none) (ha : k.at X.K H vs) (hi : k.it it i s.heap) :
    ∃ (fp : List Addr) (P : Nat → Value → Prop) (St : Nat → Heap → Prop), Draws X.prog X.w A it fp vs.length P St ∧ St i s.heap ∧ (∀ j x, P j x → ∃ v, vs[j]? = some v ∧ RelV v x) ∧ (∀ j h', St j h' → k.it it j h') ∧ it ∈ fp ∧ (∀ b, b ≠ it → k.ne b → b ∉ fp) ∧
      ∀ b o fs, s.heap.get? b = some o → o.data = .fields fs → k.ne b := by
  cases k with
  | l a =>
    obtain ⟨its, r, p, _⟩ := I.list ha
    have nf : ∀ b o fs, s.heap.get? b = some o → o.data = .fields fs → b ≠ a := fun b o fs e d q => by
      obtain ⟨o', n, e', _, _, d'⟩ := p
      rw [q, e'] at e
      cases e
      rw [d'] at d
      cases d
    have hne : a ≠ it := by
      obtain ⟨o, fs, e, d⟩ := Sk.it_obj hi
      exact (nf it o fs e d).symm
    have hl : its.toArray.size = vs.length := by rw [List.size_toArray, r.length]
    refine ⟨[it, a], _, _, hl ▸ Draws.list hh it a hne its.toArray, ⟨hi, p.isList⟩, fun j x q => ?_, fun j h' q => q.1, by simp, fun b h1 h2 m => ?_, nf⟩
    · have q' : its[j]? = some x := by simpa using q
      exact vals_get' r q'
    · rcases List.mem_cons.mp m with z | z
      · exact h1 z
      · exact h2 (List.mem_singleton.mp z)
  | t a =>
    obtain ⟨its, r, p, _⟩ := I.tuple ha
    have nf : ∀ b o fs, s.heap.get? b = some o → o.data = .fields fs → b ≠ a := fun b o fs e d q => by
      obtain ⟨o', e', _, n, d'⟩ := p
      rw [q, e'] at e
      cases e
      rw [d'] at d
      cases d
    have hne : a ≠ it := by
      obtain ⟨o, fs, e, d⟩ := Sk.it_obj hi
      exact (nf it o fs e d).symm
    have hl : its.toArray.size = vs.length := by rw [List.size_toArray, r.length]
    refine ⟨[it, a], _, _, hl ▸ Draws.tuple hh it a hne its.toArray, ⟨hi, p⟩, fun j x q => ?_, fun j h' q => q.1, by simp, fun b h1 h2 m => ?_, nf⟩
    · have q' : its[j]? = some x := by simpa using q
      exact vals_get' r q'
    · rcases List.mem_cons.mp m with z | z
      · exact h1 z
      · exact h2 (List.mem_singleton.mp z)
  | x z =>
    obtain ⟨t, hi⟩ := hi
    have ev : vs = z.cps.toList.map fun c => V.str ⟨#[c]⟩ := ha
    have hl : z.cps.size = vs.length := by rw [ev]; simp
    refine ⟨[it], _, _, hl ▸ Draws.text hh it z t, hi, fun j x q => ?_, fun j h' q => ⟨t, q⟩, by simp, fun b h1 h2 m => h1 (List.mem_singleton.mp m), fun _ _ _ _ _ => trivial⟩
    obtain ⟨c, u, hc, rfl⟩ := q
    refine ⟨V.str ⟨#[c]⟩, ?_, u, rfl⟩
    rw [ev, List.getElem?_map, Array.getElem?_toList, hc]
    rfl
end
def IteS (K : PySem.W.Frag) (k : Sk) : It :=
  ⟨fun i H => ∃ (xs : List V) (x : V), k.at K H xs ∧ xs[i]? = some x, fun i H v H' => ∃ T x, v = .ref T ∧ H T = none ∧ H' = upd H T (.tup [.int (i : Nat), x]) ∧ ∀ xs, k.at K H xs → xs[i]? = some x, fun i H => ∃ xs : List V, k.at K H xs ∧ xs.length = i⟩
theorem turn_enumS {P : Program} {w : World} {K : PySem.W.Frag} {elts : List Expr} {kk : Nat} {tpos : Pos} (k : Sk) (e it : Addr) :
    Turn P w K (.Tuple elts kk tpos) (IteS K k) [e, it] e (fun i h => (∃ old, IsEnum h e it ((i : Nat) : Int) old) ∧ k.it it i h ∧ e ≠ it) where
  mem := by simp
  obj := fun i h st b hb => by
    obtain ⟨⟨old, he⟩, hi, _⟩ := st
    obtain ⟨o, fs, ho, hd⟩ := Sk.it_obj hi
    have e' : b = e ∨ b = it := by simpa using hb
    rcases e' with z | z
    · rw [z]; exact ⟨_, he, fun v q => nomatch q⟩
    · rw [z]; exact ⟨o, ho, fun v q => by rw [hd] at q; cases q⟩
  keep := fun i h h' st k => let ⟨⟨old, he⟩, hi, hne⟩ := st; ⟨⟨old, k e (by simp) _ he⟩, Sk.it_at hi fun o q => k it (by simp) o q, hne⟩
  item := by
    intro X hP hw hK hc i pins s σ H E I hf st hg
    subst hP hw hK
    obtain ⟨⟨old, he⟩, hit, hne⟩ := st
    obtain ⟨xs, x, hq, hx⟩ := hg
    obtain ⟨fp, P, St, D, st, hP, hS, hm, hfp, hnf⟩ := sk_draws (A := X.A.in1) I (I.ok.hd hc) hq hit
    have hel : e < s.heap.objs.size := Heap.lt_size he
    have hil : it < s.heap.objs.size := by obtain ⟨o, _, q, _⟩ := Sk.it_obj hit; exact Heap.lt_size q
    have hlt : i < xs.length := (List.getElem?_eq_some_iff.mp hx).1
    refine wpAny_pyNext_enum_itemD D he st hlt hne (hfp e hne (hnf e _ _ he rfl)) fun u h' tk hPu ho hst' hT hsz hk => ?_
    obtain ⟨v, ev, ru⟩ := hP i u hPu
    rw [hx] at ev
    cases ev
    refine ⟨_, rfl, wpAny_letOwnedTupleGo_enum (s := { s with heap := h', toks := tk + 1 }) ho fun h'' he' sb => ?_⟩
    have hT2 : h''.get? s.heap.objs.size = some { cls := .type "tuple", data := .seq #[.int i tk, u] } := (sb.2 _ (Nat.ne_of_gt hel)).trans hT
    have new : ObjOk X.prog X.w (upd H s.heap.objs.size (.tup [.int (i : Nat), x])) h'' s.heap.objs.size (.tup [.int (i : Nat), x]) :=
      ⟨by show 2 ≤ sizeLine; decide, [.int i tk, u], .cons ⟨_, rfl⟩ (.cons ru .nil), ⟨_, hT2, rfl, _, rfl⟩⟩
    have I1 : Inv X pins σ (upd H s.heap.objs.size (.tup [.int (i : Nat), x])) { s with heap := h'', toks := tk + 1 } :=
      I.turnedNew (ch := [e, it]) (fun b ob hb q => (sb.2 b (fun z => hb (by simp [z]))).trans (hk b ob (fun z => hb (by simp [z])) (fun z => hb (by simp [z])) q)) hf (Nat.le_refl _) new
    refine ⟨.ref s.heap.objs.size, _, I1, rfl, ⟨_, x, rfl, I.hok.fresh (Nat.le_refl _), rfl, fun ys hy => by rw [Sk.inj I hy hq]; exact hx⟩, ⟨⟨u, ?_⟩, Sk.it_at (hS _ _ hst') fun o q => (sb.2 it (Ne.symm hne)).trans q, hne⟩, fun b hb => ?_⟩
    · have e1 : ((i + 1 : Nat) : Int) = (i : Int) + 1 := by omega
      rw [e1]; exact he'
    · have hb' : b < s.heap.objs.size := by
        have e' : b = e ∨ b = it := by simpa using hb
        rcases e' with z | z
        · rw [z]; exact hel
        · rw [z]; exact hil
      rw [upd_ne (Nat.ne_of_lt hb')]
      exact (hf b hb).1
  done := by
    intro X hP hw hK hc i pins s σ H E I hf st hg
    subst hP hw hK
    obtain ⟨⟨old, he⟩, hit, hne⟩ := st
    obtain ⟨xs, hq, hx⟩ := hg
    subst hx
    obtain ⟨fp, P, St, D, st, hP, hS, hm, hfp, hnf⟩ := sk_draws (A := X.A.in1) I (I.ok.hd hc) hq hit
    obtain ⟨f0, f1, f2, f3, f4, f5⟩ := hf it (by simp)
    exact wpAny_pyNext_enum_endD D he st fun h' eb => ⟨rfl, I.turned (t' := s.toks) (fun b o hb q => eb b o hb q) f0 f1 f3 f4 f5⟩
  self := fun A i s Q E st h => let ⟨⟨_, he⟩, _⟩ := st; wpAny_pyIter_enum he h
/-- the cells of a zip lie apart -/
structure Ap5 (z TI TO i1 i2 : Addr) (k1 k2 : Sk) : Prop where
  TIz : TI ≠ z
  TOz : TO ≠ z
  TITO : TI ≠ TO
  TIi1 : TI ≠ i1
  TIi2 : TI ≠ i2
  zi1 : z ≠ i1
  zi2 : z ≠ i2
  TOi1 : TO ≠ i1
  TOi2 : TO ≠ i2
  i12 : i1 ≠ i2
  k1o : k1.ne TO
  k2o : k2.ne TO
def ItzS (K : PySem.W.Frag) (k1 k2 : Sk) : It :=
  ⟨fun i H => ∃ (xs ys : List V) (x y : V), k1.at K H xs ∧ k2.at K H ys ∧ xs[i]? = some x ∧ ys[i]? = some y,
    fun i H v H' => ∃ T x y, v = .ref T ∧ H T = none ∧ H' = upd H T (.tup [x, y]) ∧ (∀ xs, k1.at K H xs → xs[i]? = some x) ∧ ∀ ys, k2.at K H ys → ys[i]? = some y,
    fun i H => ∃ xs ys : List V, k1.at K H xs ∧ k2.at K H ys ∧ i = min xs.length ys.length⟩
theorem turn_zipS {P : Program} {w : World} {K : PySem.W.Frag} {elts : List Expr} {kk : Nat} {tpos : Pos} {k1 k2 : Sk} {z TI TO i1 i2 : Addr} (D : Ap5 z TI TO i1 i2 k1 k2) :
    Turn P w K (.Tuple elts kk tpos) (ItzS K k1 k2) [z, TI, TO, i1, i2] z (fun i h => IsZip h z TI TO .none ∧ IsPair h TI (.ref i1) (.ref i2) ∧ (∃ x y, IsPair h TO x y) ∧ k1.it i1 i h ∧ k2.it i2 i h) where
  mem := by simp
  obj := fun i h st c hc => by
    obtain ⟨hz, hTI, ⟨x, y, hTO⟩, h1, h2⟩ := st
    obtain ⟨o1, _, e1, d1⟩ := Sk.it_obj h1
    obtain ⟨o2, _, e2, d2⟩ := Sk.it_obj h2
    have e' : c = z ∨ c = TI ∨ c = TO ∨ c = i1 ∨ c = i2 := by simpa using hc
    rcases e' with q | q | q | q | q
    · rw [q]; exact ⟨_, hz, fun v q => nomatch q⟩
    · rw [q]; exact ⟨_, hTI, fun v q => nomatch q⟩
    · rw [q]; exact ⟨_, hTO, fun v q => nomatch q⟩
    · rw [q]; exact ⟨o1, e1, fun v q => by rw [d1] at q; cases q⟩
    · rw [q]; exact ⟨o2, e2, fun v q => by rw [d2] at q; cases q⟩
  keep := fun i h h' st k => by
    obtain ⟨hz, hTI, ⟨x, y, hTO⟩, h1, h2⟩ := st
    exact ⟨k z (by simp) _ hz, k TI (by simp) _ hTI, ⟨x, y, k TO (by simp) _ hTO⟩, Sk.it_at h1 fun o q => k i1 (by simp) o q, Sk.it_at h2 fun o q => k i2 (by simp) o q⟩
  item := by
    intro X hP hw hK hc i pins s σ H E I hf st hg
    subst hP hw hK
    obtain ⟨hz, hTI, ⟨x0, y0, hTO⟩, h1, h2⟩ := st
    obtain ⟨xs, ys, x, y, hqx, hqy, hx, hy⟩ := hg
    obtain ⟨fp1, P1, St1, D1, st1, hP1, hS1, hm1, hfp1, hnf1⟩ := sk_draws (A := X.A.in1) I (I.ok.hd hc) hqx h1
    obtain ⟨fp2, P2, St2, D2, st2, hP2, hS2, hm2, hfp2, hnf2⟩ := sk_draws (A := X.A.in1) I (I.ok.hd hc) hqy h2
    obtain ⟨o1, fs1, e1, d1⟩ := Sk.it_obj h1
    obtain ⟨o2, fs2, e2, d2⟩ := Sk.it_obj h2
    have S : ZipSep2 z TI TO i1 i2 fp1 fp2 := ⟨D.TIz, D.TOz, D.TITO, D.TIi1, hm1, hfp1 z D.zi1 (hnf1 z _ _ hz rfl), hfp1 TO D.TOi1 D.k1o, D.TIi2, hm2, hfp2 z D.zi2 (hnf2 z _ _ hz rfl), hfp2 TO D.TOi2 D.k2o, hfp2 i1 D.i12 (hnf2 i1 _ _ e1 d1), hfp1 i2 (Ne.symm D.i12) (hnf1 i2 _ _ e2 d2)⟩
    have hzl : z < s.heap.objs.size := Heap.lt_size hz
    refine wpAny_pyNext_zipD2_item S D1 D2 hz hTI hTO st1 st2 (List.getElem?_eq_some_iff.mp hx).1 (List.getElem?_eq_some_iff.mp hy).1 fun u u2 h' tk p1 p2 z' TO' h1' h2' hT hsz hk => ?_
    obtain ⟨v, ev, ru⟩ := hP1 i u p1
    rw [hx] at ev
    cases ev
    obtain ⟨v, ev, ru2⟩ := hP2 i u2 p2
    rw [hy] at ev
    cases ev
    refine ⟨_, rfl, wpAny_letOwnedTupleGo_zip (s := { s with heap := h', toks := tk }) z' fun h'' z'' sb => ?_⟩
    have hT2 : h''.get? s.heap.objs.size = some { cls := .type "tuple", data := .seq #[u, u2] } := (sb.2 _ (Nat.ne_of_gt hzl)).trans hT
    have new : ObjOk X.prog X.w (upd H s.heap.objs.size (.tup [x, y])) h'' s.heap.objs.size (.tup [x, y]) :=
      ⟨by show 2 ≤ sizeLine; decide, [u, u2], .cons ru (.cons ru2 .nil), ⟨_, hT2, rfl, _, rfl⟩⟩
    have I1 : Inv X pins σ (upd H s.heap.objs.size (.tup [x, y])) { s with heap := h'', toks := tk } :=
      I.turnedNew (t' := tk) (ch := [z, TI, TO, i1, i2]) (fun c o hb q => (sb.2 c (fun q' => hb (by simp [q']))).trans (hk c o (fun q' => hb (by simp [q'])) (fun q' => hb (by simp [q'])) (fun q' => hb (by simp [q'])) (fun q' => hb (by simp [q'])) q)) hf (Nat.le_refl _) new
    refine ⟨.ref s.heap.objs.size, _, I1, rfl, ⟨_, x, y, rfl, I.hok.fresh (Nat.le_refl _), rfl, fun l hl => by rw [Sk.inj I hl hqx]; exact hx, fun l hl => by rw [Sk.inj I hl hqy]; exact hy⟩, ⟨z'', ?_, ⟨u, u2, ?_⟩, ?_, ?_⟩, fun c hcm => ?_⟩
    · exact (sb.2 _ D.TIz).trans (hk _ _ D.TIz D.TITO D.TIi1 D.TIi2 hTI)
    · exact (sb.2 _ D.TOz).trans TO'
    · exact Sk.it_at (hS1 _ _ h1') fun o q => (sb.2 _ (Ne.symm D.zi1)).trans q
    · exact Sk.it_at (hS2 _ _ h2') fun o q => (sb.2 _ (Ne.symm D.zi2)).trans q
    · have hlt : c < s.heap.objs.size := by
        have e' : c = z ∨ c = TI ∨ c = TO ∨ c = i1 ∨ c = i2 := by simpa using hcm
        rcases e' with q | q | q | q | q
        · rw [q]; exact hzl
        · rw [q]; exact Heap.lt_size hTI
        · rw [q]; exact Heap.lt_size hTO
        · rw [q]; exact Heap.lt_size e1
        · rw [q]; exact Heap.lt_size e2
      rw [upd_ne (Nat.ne_of_lt hlt)]
      exact (hf c hcm).1
  done := by
    intro X hP hw hK hc i pins s σ H E I hf st hg
    subst hP hw hK
    obtain ⟨hz, hTI, ⟨x0, y0, hTO⟩, h1, h2⟩ := st
    obtain ⟨xs, ys, hqx, hqy, hend⟩ := hg
    obtain ⟨fp1, P1, St1, D1, st1, hP1, hS1, hm1, hfp1, hnf1⟩ := sk_draws (A := X.A.in1) I (I.ok.hd hc) hqx h1
    obtain ⟨fp2, P2, St2, D2, st2, hP2, hS2, hm2, hfp2, hnf2⟩ := sk_draws (A := X.A.in1) I (I.ok.hd hc) hqy h2
    obtain ⟨o1, fs1, e1, d1⟩ := Sk.it_obj h1
    obtain ⟨o2, fs2, e2, d2⟩ := Sk.it_obj h2
    have S : ZipSep2 z TI TO i1 i2 fp1 fp2 := ⟨D.TIz, D.TOz, D.TITO, D.TIi1, hm1, hfp1 z D.zi1 (hnf1 z _ _ hz rfl), hfp1 TO D.TOi1 D.k1o, D.TIi2, hm2, hfp2 z D.zi2 (hnf2 z _ _ hz rfl), hfp2 TO D.TOi2 D.k2o, hfp2 i1 D.i12 (hnf2 i1 _ _ e1 d1), hfp1 i2 (Ne.symm D.i12) (hnf1 i2 _ _ e2 d2)⟩
    exact wpAny_pyNext_zipD2_end S D1 D2 hz hTI hTO st1 st2 (by omega) (by omega) (by omega) fun h' tk hk => ⟨rfl, I.turnedL (t' := tk) (ch := [z, TI, TO, i1, i2]) (fun c o hb q =>
      hk c o (fun q' => hb (by simp [q'])) (fun q' => hb (by simp [q'])) (fun q' => hb (by simp [q'])) (fun q' => hb (by simp [q'])) q) hf⟩
  self := fun A i s Q E st h => wpAny_pyIter_zip st.1 h
end Q

set_option Elab.async false
set_option linter.all false
set_option maxRecDepth 100000
set_option maxHeartbeats 4000000
namespace HT
open PySem PySem.Spec PyProof.Rows
section
variable {prog : Program} {w : World} {A : Around} {E : Value → Shared → Prop} {s : Shared}
theorem q_applied_rev {sl : Addr} {vl vu vs : Value} {n : Nat} {Q : Int × Int × Nat → Shared → Prop} (hs : s.heap.IsSliceOf sl vl vu vs) (pl : IsPart vl none) (pu : IsPart vu none) (ps : IsPart vs (some (-1)))
    (h : Q ((n : Int) - 1, -1, n) s) : wpAny (model prog w) A (Builtin.Slice.sliceApplied (.ref sl) (pure (n : Int))) Q E s := by
  obtain ⟨os, hos, hcs, hds⟩ := id hs
  unfold Builtin.Slice.sliceApplied Builtin.Slice.sliceFields
  refine wpAny_bind (wpAny_bind (wpAny_field hos hds (x := vl) rfl (wpAny_bind (wpAny_field hos hds (x := vu) rfl (wpAny_bind (wpAny_field hos hds (x := vs) rfl (wpAny_pure ?_)))))))
  refine wpAny_bind (slicePart_ ps ?_)
  show wpAny _ _ (if ((-1 : Int) == 0) = true then _ else _) _ _ s
  rw [if_neg (by decide)]
  refine wpAny_bind (slicePart_ pl (wpAny_bind (slicePart_ pu (wpAny_bind (wpAny_pure ?_)))))
  show wpAny _ _ (match Builtin.Slice.sliceAdjust none none (-1) (n : Int) with | (lo, hi) => pure (lo, (-1 : Int), Builtin.Slice.slicePlaces lo hi (-1))) _ _ s
  have e1 : Builtin.Slice.sliceAdjust none none (-1) (n : Int) = ((n : Int) - 1, -1) := by
    unfold Builtin.Slice.sliceAdjust
    simp
  have e2 : Builtin.Slice.slicePlaces ((n : Int) - 1) (-1) (-1) = n := by
    unfold Builtin.Slice.slicePlaces
    simp
    omega
  rw [e1]
  show wpAny _ _ (pure ((n : Int) - 1, (-1 : Int), Builtin.Slice.slicePlaces ((n : Int) - 1) (-1) (-1))) _ _ s
  rw [e2]
  exact wpAny_pure h
theorem q_pick_rev (xs : Array Value) : ((List.range xs.size).filterMap fun (m : Nat) => xs[(((xs.size : Int) - 1) + (m : Int) * (-1)).toNat]?).toArray = xs.toList.reverse.toArray := by
  congr 1
  have key : ∀ k, k ≤ xs.size → (List.range k).filterMap (fun (m : Nat) => xs[(((xs.size : Int) - 1) + (m : Int) * (-1)).toNat]?) = xs.toList.reverse.take k := by
    intro k
    induction k with
    | zero => intro _; simp
    | succ k ih =>
      intro hk
      have e : (((xs.size : Int) - 1) + (k : Int) * (-1)).toNat = xs.size - 1 - k := by omega
      have hl : xs.size - 1 - k < xs.size := by omega
      rw [List.range_succ, List.filterMap_append, ih (by omega), List.take_add_one]
      congr 1
      simp only [List.filterMap_cons, List.filterMap_nil, e]
      rw [Array.getElem?_eq_getElem hl, List.getElem?_reverse (by simpa using (show k < xs.size by omega))]
      simp only [Array.length_toList, Array.getElem?_toList]
      rw [Array.getElem?_eq_getElem hl]
      rfl
  have := key xs.size (Nat.le_refl _)
  rw [this, List.take_of_length_le (by simp)]
theorem q_tuple_rev {t sl : Addr} {items : Array Value} {vl vu vs : Value} {Q : Value → Shared → Prop} (ht : IsTup s.heap t items) (hs : s.heap.IsSliceOf sl vl vu vs) (pl : IsPart vl none) (pu : IsPart vu none) (ps : IsPart vs (some (-1)))
    (h : Q (.ref s.heap.objs.size) { s with heap := s.heap.push { cls := .type "tuple", data := .seq items.toList.reverse.toArray } })
    (hsz : items.size ≤ sizeLine) : wpAny (model prog w) A (getItem (.ref t) (.ref sl)) Q E s := by
  have htake : sizeOk (.seq items.toList.reverse.toArray) := by
    show items.toList.reverse.toArray.size ≤ sizeLine
    rw [List.size_toArray, List.length_reverse, Array.length_toList]
    exact hsz
  obtain ⟨os, hos, hcs, hds⟩ := id hs
  have hTs : s.TypeIs (.ref sl) "slice" := ⟨os, hos, hcs⟩
  unfold getItem
  try with_reducible refine wpAny_holding ?_
  first | refine wpAny_bind (wpAny_pure ?_) | skip
  refine wpAny_bind (wpAny_sequenceKey ht.typeIs (by decide) ?_)
  refine wpAny_bind (wpAny_callSpecial?_slot (name := Str.ofString "__getitem__") ht.typeIs PyProof.Rows.slot_tuple_getitem
    (wpAny_call_entry PyProof.Rows.slot_tuple_getitem ht.typeIs entry_tuple_getitem ?_ (args_tuple_getitem _ _)))
  show wpAny _ _ (Builtin.Tuple.tupleItemsOf (.ref t) >>= _) _ _ s
  refine wpAny_bind (tupleItemsOf_ ht ?_)
  refine wpAny_bind (wpAny_typeOf hTs ?_)
  rw [if_pos (by decide)]
  refine wpAny_bind (q_applied_rev hs pl pu ps ?_)
  have hno : ¬ ((((items.size : Int) - 1) == 0 && (-1 : Int) == 1 && items.size == items.size) = true) := by
    intro q
    rw [Bool.and_eq_true, Bool.and_eq_true] at q
    exact absurd q.1.2 (by decide)
  show wpAny _ _ (if ((((items.size : Int) - 1) == 0 && (-1 : Int) == 1 && items.size == items.size)) = true then _ else _) _ _ s
  rw [if_neg hno, q_pick_rev]
  first
    | exact wpAny_bind (m := Builtin.Tuple.tupleExact _) (wpAny_newObj_type (wpAny_pure ⟨_, rfl, wpAny_pure h⟩) htake)
    | exact wpAny_bind (m := Builtin.Tuple.tupleExact _) (wpAny_newObj_type (wpAny_bind (wpAny_pure (wpAny_pure ⟨_, rfl, wpAny_pure h⟩))) htake)
    | exact wpAny_bind (wpAny_bind (m := Builtin.Tuple.tupleExact _) (wpAny_newObj_type (wpAny_pure (wpAny_pure ⟨_, rfl, wpAny_pure h⟩)) htake))
    | exact wpAny_bind (wpAny_bind (m := Builtin.Tuple.tupleExact _) (wpAny_newObj_type (wpAny_pure ⟨_, rfl, wpAny_pure h⟩) htake))
end
end HT
namespace Q
open PySem L2 PySem.Spec PyProof.Rows
/-! ## 25. enumerate and zip at data, slices -/
def seqD : D → Option (List D)
  | .lst xs => some xs
  | .tup xs => some xs
  | .str x => some (chars x)
  | _ => none
section
variable {X : Cx} {F : Fx} {E : XP} {a b : Expr} {pa pb : QE} {pr : QA} {pos p0 tpos : Pos} {tg : Expr}
theorem reps_chars {G : Hp} (cs : List Nat) : Reps F.toCf G (cs.map fun c => D.str ⟨#[c]⟩) (cs.map fun c => V.str ⟨#[c]⟩) := by
  induction cs with
  | nil => exact rfl
  | cons c cs ih => exact ⟨_, _, rfl, rfl, ih⟩
theorem sk_of {G : Hp} {d : D} {v : V} {ds : List D} (h : seqD d = some ds) (r : Rep F.toCf G d v) : ∃ k vs, v = Sk.v k ∧ Sk.at F.K G k vs ∧ Reps F.toCf G ds vs := by
  cases d with
  | lst xs =>
    cases h
    obtain ⟨c, vs, rfl, g, rs⟩ := r
    exact ⟨.l c, vs, rfl, SqL.of g, rs⟩
  | tup xs =>
    cases h
    obtain ⟨c, vs, rfl, g, rs⟩ := r
    exact ⟨.t c, vs, rfl, g, rs⟩
  | str z =>
    cases h
    cases (show v = .str z from r)
    exact ⟨.x z, _, rfl, rfl, reps_chars _⟩
  | _ => cases h
theorem Sk.up {K : PySem.W.Frag} {G G' H : Hp} {k : Sk} {vs : List V} (i : Inc G G') (s : Sub G' H) (h : Sk.at K G k vs) : Sk.at K H k vs := by
  cases k with
  | l a => exact s.l (sqL_inc i h)
  | t a => exact s.t (sqT_inc i h)
  | x z => exact h
theorem seqw_enumS {G : Hp} {σ0 : St} {k : Sk} {vs : List V} {ds : List D} (hG : Sk.at F.K G k vs) (r : Reps F.toCf G ds vs) : SeqW F G σ0 (IteS F.K k) (enumD ds) none where
  goH := fun _ i G' H' σ Γ i1 ok _ h => by
    have h1 : i < vs.length := by rw [r.len, ← enumD_len]; exact h
    exact ⟨vs, vs[i], Sk.up i1 ok.sub hG, List.getElem?_eq_getElem h1⟩
  stopH := fun _ G' H' σ Γ i1 ok _ => ⟨vs, Sk.up i1 ok.sub hG, by rw [r.len, enumD_len]⟩
  yldH := fun _ i G' H' σ Γ x H'' i1 ok _ h y => by
    obtain ⟨T, v, rfl, hT, rfl, e2⟩ := y
    obtain ⟨d, ed, rd⟩ := r.get' (e2 vs (Sk.up i1 ok.sub hG))
    have n1 := Inc.new (o := .tup [.int (i : Int), v]) (ok.sub.no hT)
    exact ⟨_, upd G' T (.tup [.int (i : Int), v]), enumD_at ed, n1, ok.new hT _, T, _, rfl, SqT.of upd_same, _, _, rfl, rfl, _, _, rfl, (rd.inc i1).inc n1, rfl⟩
def qiEn (p : QA) : QI := fun Γ Q E => p Γ (fun ds Γ1 => match ds with
  | [d] => match seqD d with
    | some xs => Q (enumD xs) none Γ1
    | none => False
  | _ => False) E
theorem li_en {elts : List Expr} {kk : Nat} (hK : F.K = X.K) (hm : X.mg "enumerate" = none) (ha : LA X F E [a] pr) (hg : Gl X "enumerate" := by rfl) (hs : starEach [a] X.env = [(false, eval a X.env)] := by rfl) : LI X F E (.Tuple elts kk tpos) (.Call (.Name "enumerate" p0) [a] [] pos) (qiEn pr) := by
  refine ⟨fun pins s σ H G Γ Q I k h => ?_⟩
  refine Call_ (ld_blt I hg hm boot_enumerate (PyProof.Rows.callWith_type1 (thn (ha.run pos pins s σ H G Γ _ I k h) fun us s1 ⟨vs, H1, I1, r1, ds, Γ1, G1, q1, i1, k1, rp⟩ => ?_) hs rfl))
  dsimp only at q1
  split at q1
  case h_2 => exact q1.elim
  rename_i d
  split at q1
  case h_2 => exact q1.elim
  rename_i xs ed
  obtain ⟨v, rfl, rv⟩ := reps1 rp
  obtain ⟨sk, ws, rfl, hat, rw'⟩ := sk_of ed rv
  have fin : ∀ h', IsEnum h' (s1.heap.objs.size + 1) s1.heap.objs.size 0 .none → Sk.it s1.heap.objs.size 0 h' sk → (∀ b o, s1.heap.get? b = some o → h'.get? b = some o) →
      wpAny (model X.prog X.w) X.A (pyIter (.ref (s1.heap.objs.size + 1))) (PIE X pins σ (.Tuple elts kk tpos) (FinI F G σ Q)) X.xe { s1 with heap := h' } := fun h' he hit hk => by
    refine wpAny_pyIter_enum he ?_
    have I2 : Inv X pins σ H1 { s1 with heap := h' } := I1.kept (t' := s1.toks) hk
    refine ⟨s1.heap.objs.size + 1, [s1.heap.objs.size + 1, s1.heap.objs.size], _, _, H1, rfl, I2, turn_enumS sk (s1.heap.objs.size + 1) s1.heap.objs.size, ⟨⟨.none, he⟩, hit, Nat.succ_ne_self _⟩, fun c hb => ?_, enumD xs, none, Γ1, G1, q1, i1, k1, hK ▸ seqw_enumS hat rw'⟩
    have e' : c = s1.heap.objs.size + 1 ∨ c = s1.heap.objs.size := by simpa using hb
    have hle : s1.heap.objs.size ≤ c := by
      rcases e' with z | z
      · rw [z]; exact Nat.le_add_right _ _
      · rw [z]; exact Nat.le_refl _
    exact I1.fpOk hle (I1.hok.fresh hle)
  cases r1 with
  | cons r rr =>
    cases rr
    cases sk with
    | l c =>
      cases r
      have hq : SqL X.K H1 c ws := hK ▸ Sk.up (Inc.refl _) k1.sub hat
      obtain ⟨its, rv, p', hz⟩ := I1.list hq
      exact call_enumerate_list p'.isList fun h' he hit hsz hk => fin h' he hit hk
    | t c =>
      cases r
      have hq : SqT X.K H1 c ws := hK ▸ Sk.up (k := .t c) (Inc.refl _) k1.sub hat
      obtain ⟨its, rv, p', hz⟩ := I1.tuple hq
      exact q_call_enumT p' fun h' he hit hsz hk => fin h' he hit hk
    | x z =>
      obtain ⟨t, rfl⟩ := r
      exact call_enumerate_str fun h' he hit hsz hk => fin h' he ⟨t, hit⟩ hk
/-- zip -/
def zipD : List D → List D → List D
  | x :: xs, y :: ys => .tup [x, y] :: zipD xs ys
  | _, _ => []
theorem zipD_len : ∀ {xs ys : List D}, (zipD xs ys).length = min xs.length ys.length
  | [], _ => by simp [zipD]
  | _ :: _, [] => by simp [zipD]
  | x :: xs, y :: ys => by simp only [zipD, List.length_cons, zipD_len]; omega
theorem zipD_at : ∀ {xs ys : List D} {i : Nat} {x y : D}, xs[i]? = some x → ys[i]? = some y → (zipD xs ys)[i]? = some (.tup [x, y])
  | [], _, _, _, _, h, _ => by simp at h
  | _ :: _, [], _, _, _, _, h => by simp at h
  | x :: xs, y :: ys, 0, a, b, h1, h2 => by simp at h1 h2; subst h1; subst h2; rfl
  | x :: xs, y :: ys, i + 1, a, b, h1, h2 => by
    have := zipD_at (xs := xs) (ys := ys) (i := i) (by simpa using h1) (by simpa using h2)
    simpa [zipD] using this
theorem seqw_zipS {G : Hp} {σ0 : St} {k1 k2 : Sk} {vs ws : List V} {ds es : List D} (h1 : Sk.at F.K G k1 vs) (h2 : Sk.at F.K G k2 ws) (r1 : Reps F.toCf G ds vs) (r2 : Reps F.toCf G es ws) : SeqW F G σ0 (ItzS F.K k1 k2) (zipD ds es) none where
  goH := fun _ i G' H' σ Γ i1 ok _ h => by
    rw [zipD_len] at h
    have e1 : i < vs.length := by rw [r1.len]; omega
    have e2 : i < ws.length := by rw [r2.len]; omega
    exact ⟨vs, ws, vs[i], ws[i], Sk.up i1 ok.sub h1, Sk.up i1 ok.sub h2, List.getElem?_eq_getElem e1, List.getElem?_eq_getElem e2⟩
  stopH := fun _ G' H' σ Γ i1 ok _ => ⟨vs, ws, Sk.up i1 ok.sub h1, Sk.up i1 ok.sub h2, by rw [zipD_len, r1.len, r2.len]⟩
  yldH := fun _ i G' H' σ Γ x H'' i1 ok _ h y => by
    obtain ⟨T, v, w, rfl, hT, rfl, e1, e2⟩ := y
    obtain ⟨d, ed, rd⟩ := r1.get' (e1 vs (Sk.up i1 ok.sub h1))
    obtain ⟨d2, ed2, rd2⟩ := r2.get' (e2 ws (Sk.up i1 ok.sub h2))
    have n1 := Inc.new (o := .tup [v, w]) (ok.sub.no hT)
    exact ⟨_, upd G' T (.tup [v, w]), zipD_at ed ed2, n1, ok.new hT _, T, _, rfl, SqT.of upd_same, _, _, rfl, (rd.inc i1).inc n1, _, _, rfl, (rd2.inc i1).inc n1, rfl⟩
def qiZip (p : QA) : QI := fun Γ Q E => p Γ (fun ds Γ1 => match ds with
  | [d, e] => match seqD d, seqD e with
    | some xs, some ys => Q (zipD xs ys) none Γ1
    | _, _ => False
  | _ => False) E
/-- what an iterator over a thing starts from -/
theorem sk_begins {pins : List (Addr × Obj)} {s : Shared} {σ : St} {H : Hp} {k : Sk} {vs : List V} {u : Value} (I : Inv X pins σ H s) (h : Sk.at X.K H k vs) (r : RelV (Sk.v k) u) :
    ∃ (o : Obj) (B : Heap → Prop), Begins u o B ∧ B s.heap ∧ (∀ (it : Addr) (h' : Heap), h'.get? it = some o → Sk.it it 0 h' k) ∧ ∀ b, s.heap.objs.size ≤ b → Sk.ne b k := by
  cases k with
  | l a =>
    cases r
    obtain ⟨its, rv, p', hz⟩ := I.list h
    exact ⟨_, _, begins_list a its.toArray, p'.isList, fun it h' e => ⟨_, e, rfl, rfl⟩, fun b hb => fun q => by
      have := p'.lt
      rw [← q] at this
      exact absurd (Nat.lt_of_lt_of_le this hb) (Nat.lt_irrefl _)⟩
  | t a =>
    cases r
    obtain ⟨its, rv, p', hz⟩ := I.tuple h
    exact ⟨_, _, begins_tuple a its.toArray, p', fun it h' e => ⟨_, e, rfl, rfl⟩, fun b hb => fun q => by
      obtain ⟨o, e, _⟩ := p'
      have := Heap.lt_size e
      rw [← q] at this
      exact absurd (Nat.lt_of_lt_of_le this hb) (Nat.lt_irrefl _)⟩
  | x z =>
    obtain ⟨t, rfl⟩ := r
    exact ⟨_, _, begins_text z t, trivial, fun it h' e => ⟨t, _, e, rfl, rfl⟩, fun _ _ => trivial⟩
theorem li_zip {elts : List Expr} {kk : Nat} (hK : F.K = X.K) (hm : X.mg "zip" = none) (ha : LA X F E [a, b] pr) (hg : Gl X "zip" := by rfl) (hs : starEach [a, b] X.env = (false, eval a X.env) :: starEach [b] X.env := by rfl) (hpl : (backTo pos (starEach [b] X.env)).any (·.1) = false := by rfl) :
    LI X F E (.Tuple elts kk tpos) (.Call (.Name "zip" p0) [a, b] [] pos) (qiZip pr) := by
  refine ⟨fun pins s σ H G Γ Q I k h => ?_⟩
  refine Call_ (ld_blt I hg hm PyProof.Rows.boot_zip (PyProof.Rows.callWith_type1 (thn (ha.run pos pins s σ H G Γ _ I k h) fun us s1 ⟨vs, H1, I1, r1, ds, Γ1, G1, q1, i1, k1, rp⟩ => ?_) hs hpl))
  dsimp only at q1
  split at q1
  case h_2 => exact q1.elim
  rename_i d e
  split at q1
  case h_2 => exact q1.elim
  rename_i xs ys ed ee
  obtain ⟨v, w, rfl, rv, rw'⟩ := reps2 rp
  obtain ⟨sk1, ws1, rfl, hat1, rw1⟩ := sk_of ed rv
  obtain ⟨sk2, ws2, rfl, hat2, rw2⟩ := sk_of ee rw'
  cases r1 with
  | cons r rr =>
    cases rr with
    | cons r' rr =>
      cases rr
      obtain ⟨o1, B1, b1, hb1, f1, n1⟩ := sk_begins I1 (hK ▸ Sk.up (Inc.refl _) k1.sub hat1) r
      obtain ⟨o2, B2, b2, hb2, f2, n2⟩ := sk_begins I1 (hK ▸ Sk.up (Inc.refl _) k1.sub hat2) r'
      refine zip_begins2 b1 b2 hb1 hb2 fun h' hz hTI hTO h1 h2 hsz hk => wpAny_pyIter_zip hz ?_
      have I2 : Inv X pins σ H1 { s1 with heap := h' } := I1.kept (t' := s1.toks) hk
      have ap : Ap5 (s1.heap.objs.size + 4) (s1.heap.objs.size + 2) (s1.heap.objs.size + 3) s1.heap.objs.size (s1.heap.objs.size + 1) sk1 sk2 :=
        have ne : ∀ {i j : Nat}, i ≠ j → s1.heap.objs.size + i ≠ s1.heap.objs.size + j := fun {i j} h q => h (Nat.add_left_cancel q)
        ⟨ne (by decide), ne (by decide), ne (by decide), ne (j := 0) (by decide), ne (by decide), ne (j := 0) (by decide), ne (by decide), ne (j := 0) (by decide), ne (by decide), ne (i := 0) (by decide), n1 _ (Nat.le_add_right _ _), n2 _ (Nat.le_add_right _ _)⟩
      refine ⟨s1.heap.objs.size + 4, [s1.heap.objs.size + 4, s1.heap.objs.size + 2, s1.heap.objs.size + 3, s1.heap.objs.size, s1.heap.objs.size + 1], _, _, H1, rfl, I2, turn_zipS ap, ⟨hz, hTI, ⟨_, _, hTO⟩, f1 _ _ h1, f2 _ _ h2⟩, fun c hcm => ?_, zipD xs ys, none, Γ1, G1, q1, i1, k1, hK ▸ seqw_zipS hat1 hat2 rw1 rw2⟩
      have e' : c = s1.heap.objs.size + 4 ∨ c = s1.heap.objs.size + 2 ∨ c = s1.heap.objs.size + 3 ∨ c = s1.heap.objs.size ∨ c = s1.heap.objs.size + 1 := by simpa using hcm
      have hle : s1.heap.objs.size ≤ c := by
        rcases e' with z | z | z | z | z
        · rw [z]; exact Nat.le_add_right _ _
        · rw [z]; exact Nat.le_add_right _ _
        · rw [z]; exact Nat.le_add_right _ _
        · rw [z]; exact Nat.le_refl _
        · rw [z]; exact Nat.le_add_right _ _
      exact I1.fpOk hle (I1.hok.fresh hle)
/-! ### slices -/
abbrev QO := Env → (Option Int → Env → Prop) → XP → Prop
def qoN : QO := fun Γ Q _ => Q none Γ
def qoS (p : QE) : QO := fun Γ Q E => p Γ (fun d Γ1 => match d with
  | .int i => Q (some i) Γ1
  | _ => False) E
structure LO (X : Cx) (F : Fx) (E : XP) (e : Option Expr) (p : QO) : Prop where
  run : ∀ (pins : List (Addr × Obj)) (s : Shared) (σ : St) (H G : Hp) (Γ : Env) (Q : Option Int → Env → Prop), Inv X pins σ H s → Ok F G H σ Γ → p Γ Q E →
    wpAny (model X.prog X.w) X.A (evalPart e X.env) (fun u s' => ∃ o H', Inv X pins σ H' s' ∧ IsPart u o ∧ ∃ Γ' G', Q o Γ' ∧ Inc G G' ∧ Ok F G' H' σ Γ') X.xe s
theorem lo_none : LO X F E none qoN := ⟨fun pins s σ H G Γ Q I k h => by
  rw [evalPart_none]
  exact wpAny_pure ⟨none, H, I, .none, Γ, G, h, Inc.refl G, k⟩⟩
theorem lo_some (h : LE X F E a pa) : LO X F E (some a) (qoS pa) := ⟨fun pins s σ H G Γ Q I k hw => by
  rw [evalPart_some]
  refine thn (h.run pins s σ H G Γ _ I k hw) fun u s1 ⟨x, H1, I1, r1, d, Γ1, G1, q1, i1, k1, rp⟩ => ?_
  cases d with
  | int i =>
    cases (show x = .int i from rp)
    obtain ⟨t, rfl⟩ := r1
    exact ⟨some i, H1, I1, .int i t, Γ1, G1, q1, i1, k1⟩
  | _ => exact q1.elim⟩
def cutDs (xs : List D) (lo hi : Option Int) : List D := (xs.drop (HT.sIx xs.length 0 lo)).take (HT.sIx xs.length xs.length hi - HT.sIx xs.length 0 lo)
def oSl : D → Option Int → Option Int → Env → (D → Env → Prop) → Prop := fun d lo hi Γ Q => match d with
  | .lst xs => Q (.lst (cutDs xs lo hi)) Γ
  | .tup xs => Q (.tup (cutDs xs lo hi)) Γ
  | .str z => z.length ≤ 100000 ∧ Q (.str (cutS z lo hi)) Γ
  | _ => False
def qSl (pa : QE) (pl ph : QO) : QE := fun Γ Q E => pa Γ (fun d Γ1 => pl Γ1 (fun lo Γ2 => ph Γ2 (fun hi Γ3 => oSl d lo hi Γ3 Q) E) E) E
theorem reps_cut {G : Hp} {ds : List D} {vs : List V} {lo hi : Option Int} (r : Reps F.toCf G ds vs) : Reps F.toCf G (cutDs ds lo hi) (cutV vs lo hi) := by
  unfold cutDs cutV
  rw [r.len]
  exact (r.drop _).take _
theorem le_sl {lo hi : Option Expr} {pl ph : QO} {p2 : Pos} (hK : F.K = X.K) (ha : LE X F E a pa) (hl : LO X F E lo pl) (hu : LO X F E hi ph) : LE X F E (.Subscript a (.Slice lo hi none p2) pos) (qSl pa pl ph) := by
  refine ⟨fun pins s σ H G Γ Q I k h => ?_⟩
  refine Subscript_ (thn (ha.run pins s σ H G Γ _ I k h) fun v s1 ⟨x, H1, I1, r1, d, Γ1, G1, q1, i1, k1, rp⟩ => ?_)
  refine wpAny_Slice (thn (hl.run pins s1 σ H1 G1 Γ1 _ I1 k1 q1) fun vl s2 ⟨l, H2, I2, pl, Γ2, G2, q2, i2, k2⟩ => thn (hu.run pins s2 σ H2 G2 Γ2 _ I2 k2 q2) fun vu s3 ⟨u, H3, I3, pu, Γ3, G3, q3, i3, k3⟩ => ?_)
  rw [evalPart_none]
  refine wpAny_pure ?_
  have I5 : Inv X pins σ H3 { s3 with heap := s3.heap.push { cls := .type "slice", data := .fields #[vl, vu, .none] } } := I3.kept (t' := s3.toks) fun b ob q => Heap.get?_push_of_some _ q
  have rp3 := rp.inc (i2.trans i3)
  have up := (i1.trans i2).trans i3
  have sl : ∀ {r : V → Option Int → Option Int → Hp → VK → Prop}, SlR X r → r x l u H3 (Fin F G σ Q) → wpAny (model X.prog X.w) X.A (subscriptTail a (.Slice lo hi none p2) v (.ref s3.heap.objs.size)) (EP X pins σ (Fin F G σ Q)) X.xe { s3 with heap := s3.heap.push { cls := .type "slice", data := .fields #[vl, vu, .none] } } := fun {r} hr q => by
    obtain ⟨T, id, hT, ty, hw⟩ := hr pins _ σ H3 x v vl vu l u s3.heap.objs.size _ I5 r1 (Heap.IsSliceOf.new _ vl vu .none) pl pu q
    exact tail_any ty hT hw (by with_unfolding_all rfl)
  unfold oSl at q3
  cases d with
  | lst xs =>
    obtain ⟨c, vs, rfl, g, rs⟩ := rp3
    exact sl sl_list ⟨c, vs, rfl, SqL.of (k3.sub.m g), fun p hp => fin_inc up (fin_lst k3 hp q3 (reps_cut rs))⟩
  | tup xs =>
    obtain ⟨c, vs, rfl, g, rs⟩ := rp3
    refine sl sl_tupA ⟨c, vs, rfl, hK ▸ k3.sub.t g, fun hw => ?_, fun _ p hp => fin_inc up (fin_tup k3 hp q3 (reps_cut rs))⟩
    have e : cutDs xs l u = xs := by
      unfold cutDs
      rw [← rs.len, hw.1, hw.2]
      simp [rs.len]
    have q3 : Q (.tup (cutDs xs l u)) Γ3 := q3
    rw [e] at q3
    exact fin_inc up (fin0 k3 q3 ⟨c, vs, rfl, g, rs⟩)
  | str z =>
    cases (show x = .str z from rp3)
    exact sl sl_str ⟨z, rfl, szl q3.1, fin_inc up (fin0 k3 q3.2 rfl)⟩
  | _ => exact q3.elim
/-- x[::-1] -/
def oRev : O1 := fun d Γ Q _ => match d with
  | .lst xs => Q (.lst xs.reverse) Γ
  | .tup xs => Q (.tup xs.reverse) Γ
  | _ => False
theorem reps_rev {G : Hp} : ∀ {ds : List D} {vs : List V}, Reps F.toCf G ds vs → Reps F.toCf G ds.reverse vs.reverse
  | [], _, h => by cases (show _ = [] from h); exact rfl
  | d :: ds, _, h => by
    obtain ⟨v, r, rfl, a, b⟩ := h
    rw [List.reverse_cons, List.reverse_cons]
    exact (reps_rev b).append (Reps.one a)
theorem le_rev {k : Nat} {p1 p2 p3 : Pos} (hK : F.K = X.K) (ha : LE X F E a pa) : LE X F E (.Subscript a (.Slice none none (some (.UnaryOp .USub (.Constant (.int 1) k p1) p2)) p3) pos) (qUn oRev pa) := by
  refine ⟨fun pins s σ H G Γ Q I k0 h => ?_⟩
  refine Subscript_ (thn (ha.run pins s σ H G Γ _ I k0 h) fun v s1 ⟨x, H1, I1, r1, d, Γ1, G1, q1, i1, k1, rp⟩ => ?_)
  have hst : PO X (some (.UnaryOp .USub (.Constant (.int 1) k p1) p2)) (tPart (tUn (rU fun i => .int (-i)) (tC (.int 1)))) := po_some (pe_un un_neg pe_int)
  refine wpAny_Slice (thn (po_none.run pins s1 σ H1 (fun o H2 => o = none ∧ H2 = H1) I1 ⟨rfl, rfl⟩) fun vl s2 ⟨l, H2, I2, pl, el, e2⟩ => ?_)
  subst el e2
  refine thn (po_none.run pins s2 σ H2 (fun o H3 => o = none ∧ H3 = H2) I2 ⟨rfl, rfl⟩) fun vu s3 ⟨u, H3, I3, pu, eu, e3⟩ => ?_
  subst eu e3
  refine thn (hst.run pins s3 σ H3 (fun o H4 => o = some (-1) ∧ H4 = H3) I3 ⟨1, rfl, -1, rfl, rfl, rfl⟩) fun vs s4 ⟨o, H4, I4, ps, eo, e4⟩ => ?_
  subst eo e4
  have I5 : Inv X pins σ H4 { s4 with heap := s4.heap.push { cls := .type "slice", data := .fields #[vl, vu, vs] } } := I4.kept (t' := s4.toks) fun b ob q => Heap.get?_push_of_some _ q
  unfold oRev at q1
  cases d with
  | lst xs =>
    obtain ⟨c, ws, rfl, g, rs⟩ := rp
    cases r1
    obtain ⟨its, r, ht, hz⟩ := I5.list (SqL.of (k1.sub.m g))
    have hlen := r.length
    show wpAny (model X.prog X.w) X.A (subscriptTail a (.Slice none none (some (.UnaryOp .USub (.Constant (.int 1) k p1) p2)) p3) (.ref c) (.ref s4.heap.objs.size)) (EP X pins σ (Fin F G σ Q)) X.xe { s4 with heap := s4.heap.push { cls := .type "slice", data := .fields #[vl, vu, vs] } }
    refine tail_any (ops := [.ref c, .ref s4.heap.objs.size]) ht.isList.typeIs (PySem.slot_list_getitem.lookup) ?_ (by with_unfolding_all rfl)
    refine wpAny_getItem_list_slice ht.isList (Heap.IsSliceOf.new _ vl vu vs) pl pu ps (by decide) ?_ (by rw [List.size_toArray]; omega)
    rw [PySem.W.krv_pick]
    refine ⟨.ref _, _, I5.laid (t' := s4.toks) (o := .lst ws.reverse) (fun b ob q => Heap.get?_push_of_some _ q) (Nat.le_refl _) ?_, rfl, fin_inc i1 (fin_lst k1 (I5.hok.fresh (Nat.le_refl _)) q1 (reps_rev rs))⟩
    exact ⟨by rw [List.length_reverse]; exact hz, _, 0, r.reverse, Heap.get?_push_size _ rfl⟩
  | tup xs =>
    obtain ⟨c, ws, rfl, g, rs⟩ := rp
    cases r1
    obtain ⟨its, r, ht, hz⟩ := I5.tuple (hK ▸ k1.sub.t g)
    have hlen := r.length
    show wpAny (model X.prog X.w) X.A (subscriptTail a (.Slice none none (some (.UnaryOp .USub (.Constant (.int 1) k p1) p2)) p3) (.ref c) (.ref s4.heap.objs.size)) (EP X pins σ (Fin F G σ Q)) X.xe { s4 with heap := s4.heap.push { cls := .type "slice", data := .fields #[vl, vu, vs] } }
    refine tail_any (ops := [.ref c, .ref s4.heap.objs.size]) ht.typeIs (PyProof.Rows.slot_tuple_getitem.lookup) ?_ (by with_unfolding_all rfl)
    refine HT.q_tuple_rev ht (Heap.IsSliceOf.new _ vl vu vs) pl pu ps ?_ (by rw [List.size_toArray]; omega)
    refine ⟨.ref _, _, I5.laid (t' := s4.toks) (o := .tup ws.reverse) (fun b ob q => Heap.get?_push_of_some _ q) (Nat.le_refl _) ?_, rfl, fin_inc i1 (fin_tup k1 (I5.hok.fresh (Nat.le_refl _)) q1 (reps_rev rs))⟩
    exact ⟨by rw [List.length_reverse]; exact hz, _, r.reverse, IsTup.new _ _⟩
  | _ => exact q1.elim
end
end Q

set_option Elab.async false
set_option linter.all false
set_option maxRecDepth 100000
set_option maxHeartbeats 4000000
namespace Q
open PySem L2 PySem.Spec PyProof.Rows
/-! ## 26. len of own instances, lists that change, x -= e -/
theorem Ok.offB {F : Fx} {G H : Hp} {σ : St} {Γ : Env} (k : Ok F G H σ Γ) {p : Addr} (gp : G p = none) (hp : F.H0 p = none) (hm : p ∉ mutA σ Γ) (hd : ∀ ws, H p ≠ some (.xd ws)) (o : HO) : Ok F G (upd H p o) σ Γ where
  sub := k.sub.off gp o
  g0 := k.g0
  fresh := k.fresh
  frame := fun a u e hb => by rw [upd_ne (ne_of_none e hp)]; exact k.frame a u e hb
  bor := fun a ha => by
    by_cases z : a = p
    · subst z; exact ⟨o, upd_same⟩
    · rw [upd_ne z]; exact k.bor a ha
  slots := k.slots.step (Inc.refl G) (fun a ha => by
    obtain ⟨⟨u, q⟩, g, _⟩ := mutA_there k.slots a ha
    rw [upd_ne (show a ≠ p from fun z => hm (z ▸ ha))]
    exact ⟨rfl, g⟩) (fun dd ws e q => by rw [upd_ne (show dd ≠ p from fun z => hd ws (z ▸ q))]; exact q)
  nd := k.nd
  pin := k.pin
  pl := k.pl
section
variable {X : Cx} {F : Fx} {E : XP}
structure OwnLen (K : PySem.W.Frag) (C f : Addr) : Prop where
  at_ : PySem.W.findIn K (.ref C) "__len__" = some (some (.ref f))
  fn : PySem.W.isFn K (.ref f) = true
def lenQ (Q : D → Env → Prop) (Γ : Env) : D → Prop
  | .int n => 0 ≤ n ∧ n < 2 ^ 63 ∧ Q (.int n) Γ
  | _ => False
def oLenC (c : Cn) (ct : Ct) (o : ON) : ON := fun ds Γ Q E => match ds with
  | [d] => match isC c d with
    | true => ct [.val d] (fun r _ => lenQ Q Γ (unfr r)) (fun x _ => E x Γ)
    | false => o ds Γ Q E
  | _ => o ds Γ Q E
theorem bl_lenC {c : Cn} {ct : Ct} {o : ON} {f : Addr} (hK : F.K = X.K) (o1 : OwnLen F.K (F.cl c) f) (C : CodeOk X X.A.in1 F.toCf f 1 [] ct) (tk : Takes X (wOf F E)) (ho : BlL X F E (.builtin "len") o) : BlL X F E (.builtin "len") (oLenC c ct o) := by
  intro pins s σ H G Γ vs us ds Q I k rv rd q
  unfold oLenC at q
  split at q
  case h_2 => exact ho pins s σ H G Γ vs us _ Q I k rv rd q
  rename_i d
  split at q
  case h_2 => exact ho pins s σ H G Γ vs us _ Q I k rv rd q
  rename_i hd
  obtain ⟨v, rfl, r⟩ := reps1 rd
  cases rv with
  | cons rv rr =>
    cases rr
    obtain ⟨a, ox, od, rfl, J⟩ := inst_of I k hd r rv
    obtain ⟨m, hF⟩ := I.fr
    refine PySem.W.len_K hF (hK ▸ I.ok.mod.kin) J o1.at_ o1.fn ?_
    refine thn (run1 (Q := fun r Γ' => lenQ Q Γ' r) C tk I k rv r q) fun u s' ⟨w, H', I', rw', d', Γ', G', q', i', k', r'⟩ => ?_
    cases d' with
    | int n =>
      cases (show w = .int n from r')
      obtain ⟨t, rfl⟩ := rw'
      obtain ⟨h0, h1, q'⟩ := q'
      exact ⟨⟨h0, h1⟩, .int n, H', I'.kept (t' := s'.toks + 1) fun b o e => e, ⟨_, rfl⟩, .int n, Γ', G', q', i', k', rfl⟩
    | _ => exact q'.elim
variable {o a e : Expr} {pa pe : QE} {pn : QN} {pos p0 px apos cpos : Pos} {x : Str} {es : List Expr} {kws : List Keyword} {ks : List Str} {ph : QH}
/-- o.m(..) makes a new thing -/
def qnMeth (c : Ct) (pr : QR) (p : QH) : QN := fun Γ Q E => pr Γ (fun h Γ0 => p Γ0 (fun hs Γ1 => match ndb (ixs (h :: hs)) && hmut Γ1 (h :: hs) with
  | true => c (argsOf Γ1 (h :: hs)) (fun d outs => match d with
    | .fr d' => match moD d' with
      | some o => Q o (updS Γ1 (h :: hs) outs)
      | none => False
    | _ => False) (fun x outs => E x (updS Γ1 (h :: hs) outs))
  | false => False) E) E
theorem ln_methC {c : Ct} {cn : Cn} {m : Str} {fa : Addr} {n : Nat} {args : List Expr} {pr : QR} {pl : Sem Bool} (C : CodeOk X X.A F.toCf fa (n + 1) ks c) (hK : F.K = X.K) (T : Kl F.toCf cn) (hm : Meth F.K (F.cl cn) m fa) (tk : Takes X (wOf F E)) (ho : LR X F E o cn m pr) (ha : LC X F E args kws ks ph)
    (ht : eval (.Call (.Attribute o m apos) args kws pos) X.env = (do
      let ov ← eval o X.env
      standAt apos.atName
      let (f, first) ← holding [ov] (getMethod ov m pl)
      callWith pos f first (backTo pos (starEach args X.env)) (backToKw pos (keywordEach kws X.env))) := by rfl) : LN X F E (.Call (.Attribute o m apos) args kws pos) (qnMeth c pr ph) := by
  refine ⟨fun pins s σ H G Γ Q I k h => ?_⟩
  refine PySem.W.methodCall_KW (pl := pl) (thn (ho.run pins s σ H G Γ _ I k h) fun u s1 ⟨b, H1, I1, eu, hd, Γ1, G1, q1, i1, k1, ho1, dx, fs, e1, e2⟩ => ?_) ht
  subst eu
  refine getmeth_ok I1 e1 (hK ▸ T.cls) (hK ▸ hm) e2 ?_
  refine ha.run pos _ [.ref b] pins s1 σ H1 G1 Γ1 _ _ (by rw [← hK]; exact hm.kp) I1 k1 q1 fun us ws vs zs s' H' hs Γ' G' I' r rz l q i k' hh => ?_
  have hl := call_lenN (hs := hd :: hs) C.len q
  have hv := hds_len hh
  rw [List.length_append] at hv
  rw [List.length_cons] at hl
  have hh' : HdsOk F G' σ (hd :: hs) ((.ref b :: vs) ++ zs) := ⟨.ref b, vs ++ zs, rfl, ho1.inc i, hh⟩
  exact thn (back_call (C.run pins s' σ H' (.ref b :: vs) (.ref b :: us) zs ws _ _ tk I' (.cons rfl r) rz (by rw [List.length_cons]; omega) l (sp_callN k' hh' q))) fun u s2 ⟨w, H2, I2, r2, z⟩ => ⟨w, H2, I2, r2, finN_inc (i1.trans i) z⟩
/-- x.append(e), x a list that may change, in slot j -/
def lstAt (Γ : Env) (j : Nat) : Option (List D) := match Γ[j]? with
  | some (.own (.lst xs)) => some xs
  | some (.bor (.lst xs)) => some xs
  | _ => none
theorem lstAt_ok {G H : Hp} {σ : St} {Γ : Env} {j : Nat} {xs : List D} (k : Ok F G H σ Γ) (h : lstAt Γ j = some xs) : ∃ s b vs, Γ[j]? = some s ∧ s.mo.isSome = true ∧ σ[j]? = some (some (.ref b)) ∧ H b = some (.lst vs) ∧ Reps F.toCf G xs vs := by
  unfold lstAt at h
  split at h
  · rename_i ys e
    cases h
    obtain ⟨b, ea, g, ⟨vs, q, r⟩, _⟩ := k.mut e rfl
    exact ⟨_, b, vs, e, rfl, ea, q, r⟩
  · rename_i ys e
    cases h
    obtain ⟨b, ea, g, ⟨vs, q, r⟩, _⟩ := k.mut e rfl
    exact ⟨_, b, vs, e, rfl, ea, q, r⟩
  · cases h
def qAppend (j : Nat) (pe : QE) : QE := fun Γ Q E => match lstAt Γ j with
  | some _ => pe Γ (fun d Γ1 => match lstAt Γ1 j with
    | some xs => xs.length < 100000 ∧ Q .non (putM Γ1 j (.lst (xs ++ [d])))
    | none => False) E
  | none => False
theorem le_append (j : Nat) (he : LE X F E e pe) (hN : X.N[j]? = some x := by rfl) (hv : Vis X.env.scope x := by first | exact Or.inl rfl | exact Or.inr (Or.inl rfl) | exact Or.inr (Or.inr rfl)) (hd : (x == ("__debug__" : Str)) = false := by decide) (hcd : (x == ("__classdict__" : Str)) = false := by decide)
    (hbase : attributeBase (.Name x px) "append" X.env (eval (.Name x px) X.env) = eval (.Name x px) X.env := by rfl)
    (hfew : ((backTo cpos (starEach [e] X.env)).all (fun x => !x.1) && (backToKw cpos (keywordEach [] X.env)).all (fun x => x.1.isSome) && decide (([e] : List Expr).length + ([] : List Keyword).length + (if ([] : List Keyword).isEmpty then 0 else 1) < 30)) = true := by rfl)
    (hline : (apos.endLine == cpos.line) = true := by rfl) (hs : starEach [e] X.env = (false, eval e X.env) :: starEach [] X.env := by rfl) (hplain : (backTo cpos (starEach [] X.env)).any (·.1) = false := by rfl) :
    LE X F E (.Call (.Attribute (.Name x px) "append" apos) [e] [] cpos) (qAppend j pe) :=
  LE.of (pe_bm PySem.F.plainAttrs_list PySem.F.slot_list_append PySem.F.type_list_append mt_append (pe_var hN hv hd hcd) (pa_cons he.pe pa_nil hs) hbase hfew hline hs hplain) fun σ H G Γ Q k q => by
    unfold qAppend at q
    split at q
    case h_2 => exact q.elim
    rename_i xs ex
    obtain ⟨s, b, vs, e1, z, ea, hb, rs⟩ := lstAt_ok k ex
    refine ⟨.ref b, ea, .inl ⟨rfl, vs, SqL.of hb⟩, G, Γ, _, k, q, fun w H' ⟨d, Γ', G', q', i, k', r⟩ => ?_⟩
    dsimp only at q'
    split at q'
    case h_2 => exact q'.elim
    rename_i ys ey
    obtain ⟨s', b', vs', e1', z', ea', hb', rs'⟩ := lstAt_ok k' ey
    rw [ea] at ea'
    cases ea'
    refine ⟨b, vs', w, rfl, rfl, hb', by rw [rs'.len]; exact szlt q'.1, .non, _, G', q'.2, i, k'.put e1' z' ea (fun ws z => by rw [hb'] at z; cases z) ⟨_, upd_same, rs'.append (Reps.one r)⟩, rfl⟩
/-- x.pop() -/
def qPop (j : Nat) : QE := fun Γ Q _ => match lstAt Γ j with
  | some xs => match xs[xs.length - 1]? with
    | some d => Q d (putM Γ j (.lst xs.dropLast))
    | none => False
  | none => False
theorem reps_dropLast {G : Hp} {ds : List D} {vs : List V} (r : Reps F.toCf G ds vs) : Reps F.toCf G ds.dropLast vs.dropLast := by
  rw [List.dropLast_eq_take, List.dropLast_eq_take, r.len]
  exact r.take _
theorem le_pop (j : Nat) (hN : X.N[j]? = some x := by rfl) (hv : Vis X.env.scope x := by first | exact Or.inl rfl | exact Or.inr (Or.inl rfl) | exact Or.inr (Or.inr rfl)) (hd : (x == ("__debug__" : Str)) = false := by decide) (hcd : (x == ("__classdict__" : Str)) = false := by decide)
    (hbase : attributeBase (.Name x px) "pop" X.env (eval (.Name x px) X.env) = eval (.Name x px) X.env := by rfl) (hline : (apos.endLine == cpos.line) = true := by rfl) :
    LE X F E (.Call (.Attribute (.Name x px) "pop" apos) [] [] cpos) (qPop j) :=
  LE.of (pe_bm0 PySem.F.plainAttrs_list PySem.F.slot_list_pop PySem.F.type_list_pop mt_pop (pe_var hN hv hd hcd) hbase hline) fun σ H G Γ Q k q => by
    unfold qPop at q
    split at q
    case h_2 => exact q.elim
    rename_i xs ex
    obtain ⟨s, b, vs, e1, z, ea, hb, rs⟩ := lstAt_ok k ex
    split at q
    case h_2 => exact q.elim
    rename_i d ed
    obtain ⟨v, ev, rv⟩ := rs.get ed
    refine ⟨.ref b, ea, .inl ⟨rfl, vs, SqL.of hb⟩, b, vs, v, rfl, rfl, hb, by rw [rs.len]; exact ev, d, _, G, q, Inc.refl G, k.put e1 z ea (fun ws z => by rw [hb] at z; cases z) ⟨_, upd_same, reps_dropLast rs⟩, rv⟩
/-- (a new list).clear() -/
def qClearN (p : QN) : QE := fun Γ Q E => p Γ (fun o Γ1 => match o with
  | .lst _ => Q .non Γ1
  | _ => False) E
theorem le_clearN (hn : LN X F E o pn) (hbase : attributeBase o "clear" X.env (eval o X.env) = eval o X.env := by rfl) (hline : (apos.endLine == cpos.line) = true := by rfl) : LE X F E (.Call (.Attribute o "clear" apos) [] [] cpos) (qClearN pn) :=
  LE.of (pe_bm0 PySem.F.plainAttrs_list PySem.F.slot_list_clear PySem.F.type_list_clear mt_clear hn.pe hbase hline) fun σ H G Γ Q k q => ⟨G, Γ, _, k, q, fun w H' ⟨ob, b, Γ', G', q', i, k', e, ga, m, h0, hm⟩ => by
    subst e
    cases ob with
    | lst xs =>
      obtain ⟨vs, hb, rs⟩ := m
      refine ⟨.inl ⟨rfl, vs, SqL.of hb⟩, b, vs, rfl, rfl, hb, .non, Γ', G', q', i, ?_, rfl⟩
      exact k'.offB ga h0 hm (fun ws z => by rw [hb] at z; cases z) _
    | _ => exact q'.elim⟩
/-- x op= e, whole numbers -/
def qAug (i : Nat) (f : Int → Int → Int) (pe : QE) : QS := fun Γ P E => match Γ[i]? with
  | some (.val (.int n)) => pe Γ (fun d Γ1 => match Γ1[i]?, d with
    | some (.val (.int n')), .int m => P.nx (Γ1.set i (.val (.int (f n' m))))
    | _, _ => False) E
  | _ => False
theorem ls_aug (i : Nat) {op : Operator} {f : Int → Int → Int} {pos' : Pos} (hN : X.N.Nodup) (ho : PIp X op (ipI f)) (he : LE X F E e pe) (hi : X.N[i]? = some x := by rfl) (hx : Loc X.env.scope x := by first | exact Or.inl rfl | exact Or.inr rfl)
    (hf : X.fn x = true ∨ X.env.scope.names.lookup x = some .local := by first | exact .inl rfl | exact .inr rfl | assumption) : LS X F E (.AugAssign (.Name x pos') op e pos) (qAug i f pe) :=
  LS.of (ps_aug (i := i) hN hi hx he.pe ho) fun σ H G Γ P k q => by
    unfold qAug at q
    split at q
    case h_2 => exact q.elim
    rename_i n e1
    obtain ⟨v, ev, r⟩ := k.rep e1
    cases (show v = .int n from r)
    refine ⟨.int n, ev, G, Γ, _, k, q, fun w H' ⟨d, Γ', G', q', i1, k', r'⟩ => ?_⟩
    dsimp only at q'
    split at q'
    case h_2 => exact q'.elim
    rename_i n' m e2
    obtain ⟨v2, ev2, r2⟩ := k'.rep e2
    rw [ev] at ev2
    cases ev2
    have en : n' = n := by
      have z : V.int n = V.int n' := r2
      cases z; rfl
    subst en
    cases (show w = .int m from r')
    exact ⟨n', m, rfl, rfl, _, G', q', i1, k'.set (fun s hs => by rw [e2] at hs; cases hs; rfl) rfl⟩
end
end Q

set_option Elab.async false
set_option linter.all false
set_option maxRecDepth 100000
set_option maxHeartbeats 4000000
namespace PySem.SeqAt
open AutoSeq1 (wpAny_loadPart')
open MeetsSeq MeetsSeq2 MeetsSeq3 SeqRoads2
/-- == of two tuples whose items' == may change the state within J (statement and proof follow tuple_eqAt) -/
theorem q_tuple_eqJ {prog : Program} {w : World} (J : Shared → Prop) (l b : Addr) (items items2 : Array Value) (n n2 : Nat) (dd dd2 : Option Addr) (sl sl2 : Array (Option Value)) (e : Nat → Bool) :
    MeetsIn prog w (Builtin.«tuple.__eq__» ⟨[.ref l, .ref b], []⟩)
      (fun A R s => s.heap.get? l = some { cls := .type "tuple", dict := dd, data := .seq items n, slots := sl } ∧ s.heap.get? b = some { cls := .type "tuple", dict := dd2, data := .seq items2 n2, slots := sl2 } ∧ J s ∧
        (∀ j (h1 : j < items.size) (h2 : j < items2.size) s' (Q : Bool → Shared → Prop), J s' → (∀ s'', J s'' → Q (e j) s'') → wpAny (model prog w) A.in1 (eqBool items[j] items2[j]) Q (fun x s' => R (.error x) s') s') ∧
        ∀ s', J s' → R (.ok (.ret (.bool ((List.range (min items.size items2.size)).all e && items.size == items2.size)))) s') :=
  .of_wp fun A R s h => by
    obtain ⟨hp, g, d, tk, os⟩ := s; obtain ⟨hl, hb, hJ, he, h⟩ := h
    have f2 := AutoSeq1.sub_tuple_tuple
    have hZ : (items.toList.zip items2.toList).length = min items.size items2.size := by simp
    wp_walk using wpAny_loadPart' hl, wpAny_loadPart' hb, wpAny_forIn_list _ (fun rest b s' => b.1 = none ∧ J s' ∧ ∃ i, rest = (items.toList.zip items2.toList).drop i ∧
      ∀ s'', J s'' → R (.ok (.ret (.bool (((List.range (min items.size items2.size)).drop i).all e && items.size == items2.size)))) s'') _
    case turn =>
      rintro ⟨y, x⟩ rest b s' ⟨hb', hJ', i, hz, hR⟩
      have hlt : i < (items.toList.zip items2.toList).length := by
        rcases Nat.lt_or_ge i (items.toList.zip items2.toList).length with h' | h'
        · exact h'
        · rw [List.drop_of_length_le h'] at hz; cases hz
      have hm : i < min items.size items2.size := hZ ▸ hlt
      have h1 : i < items.size := Nat.lt_of_lt_of_le hm (Nat.min_le_left _ _)
      have h2 : i < items2.size := Nat.lt_of_lt_of_le hm (Nat.min_le_right _ _)
      rw [List.drop_eq_getElem_cons hlt] at hz
      injection hz with hyx hrest
      have hy : y = items[i] := by have := congrArg Prod.fst hyx; simpa using this
      have hx : x = items2[i] := by have := congrArg Prod.snd hyx; simpa using this
      subst hy hx
      have hd : (List.range (min items.size items2.size)).drop i = i :: (List.range (min items.size items2.size)).drop (i + 1) := by simp [List.drop_eq_getElem_cons, hm]
      rw [hd] at hR
      refine wpAny_bind (he i h1 h2 _ _ hJ' fun s'' hJ'' => ?_)
      cases hy : e i with
      | true =>
        wp_walk
        exact ⟨rfl, hJ'', i + 1, hrest, fun s3 h3 => by simpa [List.all_cons, hy] using hR s3 h3⟩
      | false =>
        wp_walk
        exact ⟨_, rfl, by simpa [List.all_cons, hy] using hR s'' hJ''⟩
    case fin =>
      rintro ⟨b1, b2⟩ s' ⟨hb', hJ', i, hz, hR⟩
      simp only at hb'
      subst hb'
      have hge : min items.size items2.size ≤ i := by
        rcases Nat.lt_or_ge i (items.toList.zip items2.toList).length with h' | h'
        · rw [List.drop_eq_getElem_cons h'] at hz; cases hz
        · exact hZ ▸ h'
      rw [List.drop_of_length_le (by simpa using hge)] at hR
      wp_walk
      exact ⟨_, rfl, by simpa [Builtin.Tuple.tupleCompareSizes] using hR s' hJ'⟩
    case h =>
      exact ⟨rfl, hJ, 0, rfl, by simpa using h⟩
theorem q_rcJ {prog : Program} {w : World} {A : Around} {s : Shared} {E : Value → Shared → Prop} {l b : Addr} {items items2 : Array Value} {e : Nat → Bool} {Q : Value → Shared → Prop} (J : Shared → Prop) (hl : s.heap.IsTuple l items) (hb : s.heap.IsTuple b items2) (hu : A.units < cLine) (hJ : J s)
    (he : ∀ j (h1 : j < items.size) (h2 : j < items2.size) s' (Q : Bool → Shared → Prop), J s' → (∀ s'', J s'' → Q (e j) s'') → wpAny (model prog w) A.in1 (eqBool items[j] items2[j]) Q E s')
    (h : ∀ s', J s' → Q (.bool ((List.range (min items.size items2.size)).all e && items.size == items2.size)) s') :
    wpAny (model prog w) A (richCompare .Eq (.ref l) (.ref b)) Q E s := by
  obtain ⟨⟨cls, dd, data, sl⟩, ho, hc, n, hd⟩ := id hl
  obtain ⟨⟨cls2, dd2, data2, sl2⟩, ho2, hc2, n2, hd2⟩ := id hb
  simp only at hc hd hc2 hd2
  subst hc hd hc2 hd2
  exact wpAny_richCompare_same_room (T := "tuple") (op := .Eq) ⟨_, ho, rfl⟩ ⟨_, ho2, rfl⟩ F.slot_tuple_eq (call_meetsIn F.slot_tuple_eq ⟨_, ho, rfl⟩ F.entry_tuple_eq (F.args_tuple_eq_2 _ _) (q_tuple_eqJ J l b items items2 n n2 dd dd2 sl sl2 e)
    ⟨ho, ho2, hJ, he, fun s' h' => show Value.bool ((List.range (min items.size items2.size)).all e && items.size == items2.size) ≠ Value.notImplemented ∧ Q (.bool ((List.range (min items.size items2.size)).all e && items.size == items2.size)) s' from ⟨(fun x => nomatch x), h s' h'⟩⟩) hu
end PySem.SeqAt
namespace Q
open PySem L2 PySem.Spec PyProof.Rows
/-! ## 27. == of tuples of own instances -/
/-- eqBool of two data gives b, whatever stands; what is read stays -/
def EqL (X : Cx) (F : Fx) (A : Around) (d e : D) (b : Bool) : Prop :=
  (∀ (pins : List (Addr × Obj)) (s : Shared) (σ : St) (H G : Hp) (Γ : Env) (x y : V) (v u : Value) (Q : Bool → Shared → Prop), Inv X pins σ H s → Ok F G H σ Γ → RelV x v → RelV y u → Rep F.toCf G d x → Rep F.toCf G e y →
    (∀ s' H' G', Inv X pins σ H' s' → Inc G G' → Ok F G' H' σ Γ → Q b s') → wpAny (model X.prog X.w) A (eqBool v u) Q X.xe s) ∧
  (∀ (pins : List (Addr × Obj)) (s : Shared) (σ : St) (H G : Hp) (Γ : Env) (v : V), Inv X pins σ H s → Ok F G H σ Γ → Rep F.toCf G d v → Rep F.toCf G e v → b = true)
section
variable {X : Cx} {F : Fx} {E : XP}
theorem takes_no : Takes X (fun _ _ _ _ => False) := fun u s' ⟨_, _, _, _, _, _, _, _, _, _, _, _, _, _, _, _, w⟩ => w.elim
/-- a def of two data that raises nothing -/
theorem run2N {c : Ct} {A : Around} {f : Addr} {pins : List (Addr × Obj)} {s : Shared} {σ : St} {G H : Hp} {Γ : Env} {x y : V} {v u : Value} {d e : D} {b : Bool} (C : CodeOk X A F.toCf f 2 [] c) (I : Inv X pins σ H s) (k : Ok F G H σ Γ) (rv : RelV x v) (ru : RelV y u) (rx : Rep F.toCf G d x) (ry : Rep F.toCf G e y)
    (h : ∀ (Q : D → List Slot → Prop) (Ex : Exn → List Slot → Prop), Q (.bl b) [.val d, .val e] → c [.val d, .val e] Q Ex) : wpAny (model X.prog X.w) A (call (.ref f) [v, u]) (EP X pins σ (fun w H' => w = .bl b ∧ ∃ G', Inc G G' ∧ Ok F G' H' σ Γ)) X.xe s := by
  have sp : spC F.toCf c [x, y] H (fun w H' => w = .bl b ∧ ∃ G', Inc G G' ∧ Ok F G' H' σ Γ) (WE (fun _ _ _ _ => False) σ) := by
    have z := sp_vals (F := F) (E := fun _ _ => False) (c := c) (ds := [d, e]) (vs := [x, y]) (Q := fun r Γ' => r = .bl b ∧ Γ' = Γ) k ⟨x, [y], rfl, rx, y, [], rfl, ry, rfl⟩ (h _ _ ⟨rfl, rfl⟩)
    obtain ⟨G1, args, s1, a1, n1, Qc, Ec, hc, hq, he⟩ := z
    refine ⟨G1, args, s1, a1, n1, Qc, Ec, hc, fun dd outs w H' G' q p a sh r => ?_, fun xx outs cls d' H' G' q p a sh r => ?_⟩
    · obtain ⟨d', Γ', G2, ⟨rfl, rfl⟩, i, kk, rr⟩ := hq dd outs w H' G' q p a sh r
      exact ⟨rr, G2, i, kk⟩
    · obtain ⟨_, _, _, _, _, z⟩ := he xx outs cls d' H' G' q p a sh r
      exact z.elim
  exact back_call (C.run pins s σ H [x, y] [v, u] [] [] _ _ takes_no I (.cons rv (.cons ru .nil)) .nil rfl rfl sp)
/-- own instances by their own == -/
theorem eq_own {A : Around} {c : Cn} {t : CmpT} {ct : Ct} {f : Addr} {d e : D} {b : Bool} (hK : F.K = X.K) (hu : A.units < cLine) (T : CmpOk F.toCf c t) (o1 : OwnCmp F.K (F.cl c) .Eq f) (C : CodeOk X A F.toCf f 2 [] ct) (hd : isC c d = true) (he : isC c e = true) (hte : t.ok e = true)
    (hct : ∀ (Q : D → List Slot → Prop) (Ex : Exn → List Slot → Prop), Q (.bl b) [.val d, .val e] → ct [.val d, .val e] Q Ex) (same : ∀ G v, Rep F.toCf G d v → Rep F.toCf G e v → b = true) : EqL X F A d e b := by
  refine ⟨fun pins s σ H G Γ x y v u Q I k rv ru rx ry hQ => ?_, fun _ _ _ _ G _ v _ _ => same G v⟩
  obtain ⟨a, ox, od, rfl, J⟩ := inst_of I k hd rx rv
  obtain ⟨a', ox', od', rfl, J'⟩ := inst_of I k he ry ru
  unfold eqBool
  refine wpAny_holding ?_
  refine wpAny_ite_split (fun hab => ?_) (fun hab => ?_)
  · have e1 : a = a' := by have := eq_of_beq hab; injection this
    subst e1
    have ex : x = .ref a := by
      cases x <;> first | (obtain ⟨t, z⟩ := rv; cases z) | (cases rv; rfl) | cases rv
    have ey : y = .ref a := by
      cases y <;> first | (obtain ⟨t, z⟩ := ru; cases z) | (cases ru; rfl) | cases ru
    subst ex
    subst ey
    have eb := same G _ rx ry
    subst eb
    exact wpAny_bind (wpAny_rule (wpAny_pure (hQ s H G I (Inc.refl G) k)))
  · obtain ⟨m, hF⟩ := I.fr
    obtain ⟨ty, h1, h2⟩ := T.get hte
    refine wpAny_bind (PySem.W.cmp_K (op := .Eq) (tb := ty) hu hF (hK ▸ I.ok.mod.kin) J (looks_ty hK I k h1 ry ru _) h2 o1.at_ o1.fn (wpAny_mono (run2N C I k rv ru rx ry hct) (fun w s' z => ?_) fun _ _ x => x))
    obtain ⟨z', H', I', rz, rfl, G', i, kk⟩ := z
    cases rz
    exact wpAny_truthy_bool (hQ s' H' G' I' i kk)
/-- the items of two tuples -/
def eqsB (f : D → D → Bool) : List D → List D → Bool
  | [], [] => true
  | x :: xs, y :: ys => f x y && eqsB f xs ys
  | _, _ => false
theorem eqsB_range {f : D → D → Bool} : ∀ {xs ys : List D}, ((List.range (min xs.length ys.length)).all (fun j => f (xs.getD j .non) (ys.getD j .non)) && xs.length == ys.length) = eqsB f xs ys
  | [], [] => rfl
  | [], _ :: _ => by simp [eqsB]
  | _ :: _, [] => by simp [eqsB]
  | x :: xs, y :: ys => by
    have ih := eqsB_range (f := f) (xs := xs) (ys := ys)
    have e : min (x :: xs).length (y :: ys).length = min xs.length ys.length + 1 := by simp only [List.length_cons]; omega
    rw [e, List.range_succ_eq_map, List.all_cons, List.all_map]
    show ((f x y && _) && _) = (f x y && eqsB f xs ys)
    rw [← ih, Bool.and_assoc]
    congr 1
    congr 1
    simp
theorem reps_same {G : Hp} {f : D → D → Bool} : ∀ {xs ys : List D} {vs : List V}, (∀ (j : Nat) d e, xs[j]? = some d → ys[j]? = some e → ∀ v, Rep F.toCf G d v → Rep F.toCf G e v → f d e = true) → Reps F.toCf G xs vs → Reps F.toCf G ys vs → eqsB f xs ys = true
  | [], [], _, _, _, _ => rfl
  | [], _ :: _, _, _, h1, h2 => by cases (show _ = [] from h1); obtain ⟨_, _, z, _⟩ := h2; cases z
  | _ :: _, [], _, _, h1, h2 => by cases (show _ = [] from h2); obtain ⟨_, _, z, _⟩ := h1; cases z
  | x :: xs, y :: ys, _, h, h1, h2 => by
    obtain ⟨v, r, rfl, a1, b1⟩ := h1
    obtain ⟨v', r', e, a2, b2⟩ := h2
    cases e
    show (f x y && eqsB f xs ys) = true
    rw [h 0 x y rfl rfl v a1 a2, reps_same (fun j d e e1 e2 => h (j + 1) d e (by simpa using e1) (by simpa using e2)) b1 b2]
    rfl
theorem rc_tup {A : Around} {f : D → D → Bool} {xs ys : List D} (hK : F.K = X.K) (hu : A.units < cLine) (hi : ∀ (j : Nat) d e, xs[j]? = some d → ys[j]? = some e → EqL X F A.in1 d e (f d e))
    {pins : List (Addr × Obj)} {s : Shared} {σ : St} {H G : Hp} {Γ : Env} {x y : V} {v u : Value} {Q : Value → Shared → Prop} (I : Inv X pins σ H s) (k : Ok F G H σ Γ) (rv : RelV x v) (ru : RelV y u) (rx : Rep F.toCf G (.tup xs) x) (ry : Rep F.toCf G (.tup ys) y)
    (hQ : ∀ s' H' G', Inv X pins σ H' s' → Inc G G' → Ok F G' H' σ Γ → Q (.bool (eqsB f xs ys)) s') : wpAny (model X.prog X.w) A (richCompare .Eq v u) Q X.xe s := by
  obtain ⟨a, vs, rfl, ga, ra⟩ := rx
  obtain ⟨b, ws, rfl, gb, rb⟩ := ry
  cases rv
  cases ru
  obtain ⟨its, r1, p1, _⟩ := I.tuple (hK ▸ k.sub.t ga)
  obtain ⟨its2, r2, p2, _⟩ := I.tuple (hK ▸ k.sub.t gb)
  have l1 : its.toArray.size = xs.length := by rw [List.size_toArray, ← r1.length, ra.len]
  have l2 : its2.toArray.size = ys.length := by rw [List.size_toArray, ← r2.length, rb.len]
  refine SeqAt.q_rcJ (e := fun j => f (xs.getD j .non) (ys.getD j .non)) (fun s' => ∃ H' G', Inv X pins σ H' s' ∧ Inc G G' ∧ Ok F G' H' σ Γ) p1 p2 hu ⟨H, G, I, Inc.refl G, k⟩ (fun j h1 h2 s' Q' ⟨H', G', I', i', k'⟩ hq => ?_) (fun s' ⟨H', G', I', i', k'⟩ => ?_)
  · have hx : xs[j]? = some xs[j] := List.getElem?_eq_getElem (by omega)
    have hy : ys[j]? = some ys[j] := List.getElem?_eq_getElem (by omega)
    obtain ⟨x1, ex, rx1⟩ := ra.get hx
    obtain ⟨y1, ey, ry1⟩ := rb.get hy
    obtain ⟨u1, eu, ru1⟩ := r1.get ex
    obtain ⟨u2, eu2, ru2⟩ := r2.get ey
    have e1 : its.toArray[j] = u1 := by
      have := (List.getElem?_eq_some_iff.mp eu).2
      simpa using this
    have e2 : its2.toArray[j] = u2 := by
      have := (List.getElem?_eq_some_iff.mp eu2).2
      simpa using this
    rw [e1, e2]
    have g1 : xs.getD j .non = xs[j] := by rw [List.getD_eq_getElem?_getD, hx]; rfl
    have g2 : ys.getD j .non = ys[j] := by rw [List.getD_eq_getElem?_getD, hy]; rfl
    rw [g1, g2] at hq
    exact (hi j _ _ hx hy).1 pins s' σ H' G' Γ x1 y1 u1 u2 Q' I' k' ru1 ru2 (rx1.inc i') (ry1.inc i') fun s2 H2 G2 I2 i2 k2 => hq s2 ⟨H2, G2, I2, i'.trans i2, k2⟩
  · rw [l1, l2, eqsB_range]
    exact hQ s' H' G' I' i' k'
theorem eq_tup {A : Around} {f : D → D → Bool} {xs ys : List D} (hK : F.K = X.K) (hu : A.units < cLine) (hi : ∀ (j : Nat) d e, xs[j]? = some d → ys[j]? = some e → EqL X F A.in1 d e (f d e)) : EqL X F A (.tup xs) (.tup ys) (eqsB f xs ys) := by
  refine ⟨fun pins s σ H G Γ x y v u Q I k rv ru rx ry hQ => ?_, fun pins s σ H G Γ v I k h1 h2 => ?_⟩
  case refine_2 =>
    obtain ⟨a, vs, rfl, ga, ra⟩ := h1
    obtain ⟨a', ws, e, gb, rb⟩ := h2
    cases e
    have ev := I.tuple_inj (hK ▸ k.sub.t ga) (hK ▸ k.sub.t gb)
    subst ev
    exact reps_same (fun j d e e1 e2 v r1 r2 => (hi j d e e1 e2).2 pins s σ H G Γ v I k r1 r2) ra rb
  have fin : eqBool v u = eqBool v u := rfl
  obtain ⟨a, vs, ex, ga, ra⟩ := id rx
  obtain ⟨a', ws, ey, gb, rb⟩ := id ry
  subst ex
  subst ey
  cases rv
  cases ru
  unfold eqBool
  refine wpAny_holding ?_
  refine wpAny_ite_split (fun hab => ?_) (fun hab => ?_)
  · have e1 : a = a' := by have := eq_of_beq hab; injection this
    subst e1
    have ev := I.tuple_inj (hK ▸ k.sub.t ga) (hK ▸ k.sub.t gb)
    subst ev
    have eb : eqsB f xs ys = true := reps_same (fun j d e e1 e2 v r1 r2 => (hi j d e e1 e2).2 pins s σ H G Γ v I k r1 r2) ra rb
    rw [eb] at hQ
    exact wpAny_bind (wpAny_rule (wpAny_pure (hQ s H G I (Inc.refl G) k)))
  · exact wpAny_bind (rc_tup hK hu hi I k (x := .ref a) (y := .ref a') rfl rfl rx ry fun s' H' G' I' i' k' => wpAny_truthy_bool (hQ s' H' G' I' i' k'))
/-- rats -/
def eqR : D → D → Bool
  | .rat p, .rat q => decide (q = p)
  | _, _ => false
def isR : D → Bool
  | .rat _ => true
  | _ => false
theorem eqR_same {G : Hp} {p q : Rat} {v : V} (h1 : Rep F.toCf G (.rat p) v) (h2 : Rep F.toCf G (.rat q) v) : decide (q = p) = true := by
  obtain ⟨a, dx, rfl, e1⟩ := h1
  obtain ⟨a', dx', e, e2⟩ := h2
  cases e
  rw [e1] at e2
  have z := Option.some.inj e2
  injection z with _ _ z3
  have z4 : p.num = q.num ∧ (p.den : Int) = (q.den : Int) := by simpa using z3
  refine decide_eq_true (Rat.ext z4.1.symm ?_)
  have := z4.2
  omega
theorem eq_rat {A : Around} {t : CmpT} {ct : Ct} {f : Addr} (hK : F.K = X.K) (hu : A.units < cLine) (T : CmpOk F.toCf .ratio t) (o1 : OwnCmp F.K (F.cl .ratio) .Eq f) (C : CodeOk X A F.toCf f 2 [] ct) (ht : ∀ q, t.ok (.rat q) = true)
    (hct : ∀ (p q : Rat) (Q : D → List Slot → Prop) (Ex : Exn → List Slot → Prop), Q (.bl (decide (q = p))) [.val (.rat p), .val (.rat q)] → ct [.val (.rat p), .val (.rat q)] Q Ex) {d e : D} (hd : isR d = true) (he : isR e = true) : EqL X F A d e (eqR d e) := by
  cases d with
  | rat p =>
    cases e with
    | rat q => exact eq_own hK hu T o1 C rfl rfl (ht q) (hct p q) fun G v => eqR_same
    | _ => cases he
  | _ => cases hd
def oEqT1 : O2 := fun d e Γ Q _ => match d, e with
  | .tup xs, .tup ys => xs.all isR = true ∧ ys.all isR = true ∧ Q (.bl (eqsB eqR xs ys)) Γ
  | _, _ => False
def rowsR : D → Bool
  | .tup xs => xs.all isR
  | _ => false
def eqT : D → D → Bool
  | .tup xs, .tup ys => eqsB eqR xs ys
  | _, _ => false
def oEqT2 : O2 := fun d e Γ Q _ => match d, e with
  | .tup xs, .tup ys => xs.all rowsR = true ∧ ys.all rowsR = true ∧ Q (.bl (eqsB eqT xs ys)) Γ
  | _, _ => False
theorem all_get {p : D → Bool} {xs : List D} {j : Nat} {d : D} (h : xs.all p = true) (e : xs[j]? = some d) : p d = true := List.all_eq_true.mp h d (List.mem_of_getElem? e)
theorem ol_eqT1 {t : CmpT} {ct : Ct} {f : Addr} {kk : Nat} (hK : F.K = X.K) (hr : Room (kk + 1) X.A) (T : CmpOk F.toCf .ratio t) (o1 : OwnCmp F.K (F.cl .ratio) .Eq f) (C : CodeOk X X.A.in1 F.toCf f 2 [] ct) (ht : ∀ q, t.ok (.rat q) = true)
    (hct : ∀ (p q : Rat) (Q : D → List Slot → Prop) (Ex : Exn → List Slot → Prop), Q (.bl (decide (q = p))) [.val (.rat p), .val (.rat q)] → ct [.val (.rat p), .val (.rat q)] Q Ex) : OpL X F E (compareOp .Eq) oEqT1 := by
  intro pins s σ H G Γ x y v u d e Q I k rv ru rx ry q
  unfold oEqT1 at q
  split at q
  · rename_i xs ys
    obtain ⟨hx, hy, q⟩ := q
    show wpAny _ _ (richCompare .Eq v u) _ _ _
    exact rc_tup hK hr.units0 (fun j d e e1 e2 => eq_rat hK hr.in1.units0 T o1 C ht hct (all_get hx e1) (all_get hy e2)) I k rv ru rx ry fun s' H' G' I' i' k' => ⟨.bl _, H', I', rfl, .bl _, Γ, G', q, i', k', rfl⟩
  · exact q.elim
theorem ol_eqT2 {t : CmpT} {ct : Ct} {f : Addr} {kk : Nat} (hK : F.K = X.K) (hr : Room (kk + 2) X.A) (T : CmpOk F.toCf .ratio t) (o1 : OwnCmp F.K (F.cl .ratio) .Eq f) (C : CodeOk X X.A.in1.in1 F.toCf f 2 [] ct) (ht : ∀ q, t.ok (.rat q) = true)
    (hct : ∀ (p q : Rat) (Q : D → List Slot → Prop) (Ex : Exn → List Slot → Prop), Q (.bl (decide (q = p))) [.val (.rat p), .val (.rat q)] → ct [.val (.rat p), .val (.rat q)] Q Ex) : OpL X F E (compareOp .Eq) oEqT2 := by
  intro pins s σ H G Γ x y v u d e Q I k rv ru rx ry q
  unfold oEqT2 at q
  split at q
  · rename_i xs ys
    obtain ⟨hx, hy, q⟩ := q
    show wpAny _ _ (richCompare .Eq v u) _ _ _
    refine rc_tup hK hr.units0 (f := eqT) (fun j d e e1 e2 => ?_) I k rv ru rx ry fun s' H' G' I' i' k' => ⟨.bl _, H', I', rfl, .bl _, Γ, G', q, i', k', rfl⟩
    have h1 := all_get hx e1
    have h2 := all_get hy e2
    cases d with
    | tup ds =>
      cases e with
      | tup es => exact eq_tup hK hr.in1.units0 fun j d e e1 e2 => eq_rat hK hr.in1.in1.units0 T o1 C ht hct (all_get h1 e1) (all_get h2 e2)
      | _ => cases h2
    | _ => cases h1
  · exact q.elim
end
end Q

set_option Elab.async false
set_option linter.all false
set_option maxRecDepth 100000
set_option maxHeartbeats 4000000
namespace Q
open PySem L2 PySem.Spec PyProof.Rows
/-! ## 28. any sequence walked; list(..) as a new thing; comparisons in a row; all, any -/
section
variable {X : Cx} {F : Fx} {E : XP} {a b c : Expr} {pa pb pc : QE} {pr : QA} {pos p0 : Pos} {tg : Expr} {es : List Expr}
def qiSeq (pa : QE) : QI := fun Γ Q E => pa Γ (fun d Γ1 => match seqD d with
  | some xs => Q xs none Γ1
  | none => False) E
theorem li_seq (hK : F.K = X.K) (ha : LE X F E a pa) : LI X F E tg a (qiSeq pa) := by
  refine ⟨fun pins s σ H G Γ Q I k h => ?_⟩
  refine thn (ha.run pins s σ H G Γ _ I k h) fun u s1 ⟨x, H1, I1, r1, d, Γ1, G1, q1, i1, k1, rp⟩ => ?_
  dsimp only at q1
  split at q1
  case h_2 => exact q1.elim
  rename_i xs ed
  cases d with
  | lst ds =>
    cases ed
    obtain ⟨c, vs, rfl, g, rs⟩ := rp
    cases r1
    obtain ⟨its, rv, p, hz⟩ := I1.list (SqL.of (k1.sub.m g))
    exact wpAny_pyIter_list p.isList (pi_one (tk := s1.toks) I1 _ (turn_list c _) ⟨_, Heap.get?_push_size _ rfl, rfl, rfl⟩ ⟨xs, none, Γ1, G1, q1, i1, k1, seqw_list g rs⟩)
  | tup ds =>
    cases ed
    obtain ⟨c, vs, rfl, g, rs⟩ := rp
    cases r1
    obtain ⟨its, rv, p, hz⟩ := I1.tuple (hK ▸ k1.sub.t g)
    exact wpAny_pyIter_tuple (show s1.heap.IsTuple c its.toArray from p) (pi_one (tk := s1.toks) I1 _ (turn_tuple c _) ⟨_, Heap.get?_push_size _ rfl, rfl, rfl⟩ ⟨xs, none, Γ1, G1, q1, i1, k1, hK ▸ seqw_tup g rs⟩)
  | str z =>
    cases ed
    cases (show x = .str z from rp)
    obtain ⟨t, rfl⟩ := r1
    have fin : FinI F G σ Q (Its z) H1 := ⟨chars z, none, Γ1, G1, q1, i1, k1, seqw_str⟩
    cases ha' : z.cps.all (· < 128)
    · exact wpAny_pyIter_wide ha' (pi_one (tk := s1.toks) I1 _ (turn_str _ z t "str_iterator" (.inr rfl)) ⟨_, Heap.get?_push_size _ rfl, rfl, rfl⟩ fin)
    · exact wpAny_pyIter_ascii ha' (pi_one (tk := s1.toks) I1 _ (turn_str _ z t "str_ascii_iterator" (.inl rfl)) ⟨_, Heap.get?_push_size _ rfl, rfl, rfl⟩ fin)
  | _ => cases ed
/-- list(x), a new thing -/
def qnList (p : QA) : QN := fun Γ Q E => p Γ (fun ds Γ1 => match ds with
  | [.lst xs] => Q (.lst xs) Γ1
  | [.tup xs] => Q (.lst xs) Γ1
  | _ => False) E
theorem ln_list (hK : F.K = X.K) (ha : LA X F E (a :: es) pr) (hm : X.mg "list" = none) (hg : Gl X "list" := by rfl) (hv : bootBuiltins "list" = some (.type "list") := by rfl)
    (he : starEach (a :: es) X.env = (false, eval a X.env) :: starEach es X.env := by rfl) (hpl : (backTo pos (starEach es X.env)).any (·.1) = false := by rfl) : LN X F E (.Call (.Name "list" p0) (a :: es) [] pos) (qnList pr) := by
  refine ⟨fun pins s σ H G Γ Q I k h => ?_⟩
  refine wpAny_Call_Name_kw (ld_blt I hg hm hv ?_ (by decide) (by decide))
  refine PyProof.Rows.callWith_type1 (thn (ha.run pos pins s σ H G Γ _ I k h) fun us s1 ⟨vs, H1, I1, r1, ds, Γ1, G1, q1, i1, k1, rp⟩ => ?_) he hpl
  refine call_list_of pins s1 σ H1 vs us _ I1 r1 ?_
  dsimp only at q1
  have fin : ∀ {xs : List D} {ws : List V} {l : Addr}, H1 l = none → Q (.lst xs) Γ1 → Reps F.toCf G1 xs ws → FinN F G σ Q (.ref l) (upd H1 l (.lst ws)) := fun {xs ws l} hl q rs =>
    ⟨.lst xs, l, Γ1, G1, q, i1, k1.new0 hl _, rfl, k1.sub.no hl, ⟨ws, upd_same, rs⟩, k1.h0 hl, not_mut k1 hl⟩
  split at q1
  · obtain ⟨v, rfl, r⟩ := reps1 rp
    obtain ⟨a, ws, rfl, g, rs⟩ := r
    exact ⟨a, ws, rfl, .inl (SqL.of (k1.sub.m g)), fun l hl => fin hl q1 rs⟩
  · obtain ⟨v, rfl, r⟩ := reps1 rp
    obtain ⟨a, ws, rfl, g, rs⟩ := r
    exact ⟨a, ws, rfl, .inr (hK ▸ k1.sub.t g), fun l hl => fin hl q1 rs⟩
  · exact q1.elim
/-- a op b op' c -/
def qChain (o o' : O2) (pa pb pc : QE) : QE := fun Γ Q E => pa Γ (fun x Γ1 => pb Γ1 (fun y Γ2 => o x y Γ2 (fun z Γ3 => match z with
  | .bl true => pc Γ3 (fun w Γ4 => o' y w Γ4 Q E) E
  | .bl false => Q (.bl false) Γ3
  | _ => False) E) E) E
theorem chain_get {d : D} {A B : Prop} (h : match d with | .bl true => A | .bl false => B | _ => False) : (d = .bl true ∧ A) ∨ (d = .bl false ∧ B) := by
  cases d with
  | bl k => cases k with
    | true => exact .inl ⟨rfl, h⟩
    | false => exact .inr ⟨rfl, h⟩
  | _ => exact h.elim
theorem le_chain {op op' : CmpOp} {o o' : O2} (ho : OpL X F E (compareOp op) o) (ho' : OpL X F E (compareOp op') o') (ha : LE X F E a pa) (hb : LE X F E b pb) (hc : LE X F E c pc)
    (hm : lastMarks [op, op'] [b, c] = false := by with_unfolding_all rfl) : LE X F E (.Compare a [op, op'] [b, c] pos) (qChain o o' pa pb pc) := by
  refine ⟨fun pins s σ H G Γ Q I k h => ?_⟩
  refine Compare_chain (thn (ha.run pins s σ H G Γ _ I k h) fun v s1 ⟨x, H1, I1, r1, d1, Γ1, G1, q1, i1, k1, p1⟩ => chain_link (thn (hb.run pins s1 σ H1 G1 Γ1 _ I1 k1 q1) fun u s2 ⟨y, H2, I2, r2, d2, Γ2, G2, q2, i2, k2, p2⟩ =>
    thn (ho pins s2 σ H2 G2 Γ2 x y v u d1 d2 _ I2 k2 r1 r2 (p1.inc i2) p2 q2) fun d s3 ⟨z, H3, I3, r3, d3, Γ3, G3, q3, i3, k3, p3⟩ => ?_)) hm
  rcases chain_get q3 with ⟨rfl, q3⟩ | ⟨rfl, q3⟩
  · cases (show z = .bl true from p3)
    cases r3
    refine wpAny_truthy_bool (ite_tt (chain_last (thn (hc.run pins s3 σ H3 G3 Γ3 _ I3 k3 q3) fun w' s4 ⟨z', H4, I4, r4, d4, Γ4, G4, q4, i4, k4, p4⟩ => ?_)))
    exact thn (ho' pins s4 σ H4 G4 Γ4 y z' u w' d2 d4 Q I4 k4 r2 r4 (p2.inc (i3.trans i4)) p4 q4) fun _ _ z => ep_inc (((i1.trans i2).trans i3).trans i4) z
  · cases (show z = .bl false from p3)
    cases r3
    exact wpAny_truthy_bool (ite_ff ⟨.bl false, H3, I3, rfl, .bl false, Γ3, G3, q3, (i1.trans i2).trans i3, k3, rfl⟩)
theorem lt_chain {op op' : CmpOp} {o o' : O2} (ho : OpL X F E (compareOp op) o) (ho' : OpL X F E (compareOp op') o') (ha : LE X F E a pa) (hb : LE X F E b pb) (hc : LE X F E c pc)
    (hm : lastMarks [op, op'] [b, c] = false := by with_unfolding_all rfl) : LT X F E (.Compare a [op, op'] [b, c] pos) (qTest (qChain o o' pa pb pc)) := by
  refine ⟨fun pins s σ H G Γ Q I k h => ?_⟩
  refine isTrue_chain (thn (ha.run pins s σ H G Γ _ I k h) fun v s1 ⟨x, H1, I1, r1, d1, Γ1, G1, q1, i1, k1, p1⟩ => test_link (thn (hb.run pins s1 σ H1 G1 Γ1 _ I1 k1 q1) fun u s2 ⟨y, H2, I2, r2, d2, Γ2, G2, q2, i2, k2, p2⟩ =>
    thn (ho pins s2 σ H2 G2 Γ2 x y v u d1 d2 _ I2 k2 r1 r2 (p1.inc i2) p2 q2) fun d s3 ⟨z, H3, I3, r3, d3, Γ3, G3, q3, i3, k3, p3⟩ => ?_)) hm
  rcases chain_get q3 with ⟨rfl, q3⟩ | ⟨rfl, q3⟩
  · cases (show z = .bl true from p3)
    cases r3
    refine wpAny_truthy_bool (ite_tt (test_last (thn (hc.run pins s3 σ H3 G3 Γ3 _ I3 k3 q3) fun w' s4 ⟨z', H4, I4, r4, d4, Γ4, G4, q4, i4, k4, p4⟩ => ?_)))
    refine thn (ho' pins s4 σ H4 G4 Γ4 y z' u w' d2 d4 _ I4 k4 r2 r4 (p2.inc (i3.trans i4)) p4 q4) fun _ _ ⟨z5, H5, I5, r5, d5, Γ5, G5, q5, i5, k5, p5⟩ => ?_
    obtain ⟨b, rfl, q5⟩ := qTest_get q5
    cases (show z5 = .bl b from p5)
    cases r5
    exact wpAny_truthy_bool ⟨H5, I5, Γ5, G5, q5, (((i1.trans i2).trans i3).trans i4).trans i5, k5⟩
  · cases (show z = .bl false from p3)
    cases r3
    exact wpAny_truthy_bool (ite_ff ⟨H3, I3, Γ3, G3, q3, (i1.trans i2).trans i3, k3⟩)
def oAll : ON := fun ds Γ Q _ => match ds with
  | [.lst xs] => ∃ bs : List Bool, xs = bs.map D.bl ∧ Q (.bl (bs.all id)) Γ
  | _ => False
def oAny : ON := fun ds Γ Q _ => match ds with
  | [.lst xs] => ∃ bs : List Bool, xs = bs.map D.bl ∧ Q (.bl (bs.any id)) Γ
  | _ => False
theorem reps_bls {G : Hp} : ∀ {bs : List Bool} {vs : List V}, Reps F.toCf G (bs.map D.bl) vs → vs = bs.map V.bl
  | [], _, h => h
  | b :: bs, _, h => by
    obtain ⟨v, r, rfl, a, c⟩ := h
    cases (show v = .bl b from a)
    rw [reps_bls c]
    rfl
theorem bl_all (hc : X.calm = true) : BlL X F E (.builtin "all") oAll := BlL.of (cr_all hc) fun σ H G Γ vs ds Q k rd q => by
  unfold oAll at q
  split at q
  · obtain ⟨v, rfl, r⟩ := reps1 rd
    obtain ⟨bs, rfl, q⟩ := q
    obtain ⟨a, ws, rfl, g, rs⟩ := r
    have e := reps_bls rs
    subst e
    exact ⟨a, bs, rfl, SqL.of (k.sub.m g), fin0 k q rfl⟩
  · exact q.elim
theorem bl_any (hc : X.calm = true) : BlL X F E (.builtin "any") oAny := BlL.of (cr_any hc) fun σ H G Γ vs ds Q k rd q => by
  unfold oAny at q
  split at q
  · obtain ⟨v, rfl, r⟩ := reps1 rd
    obtain ⟨bs, rfl, q⟩ := q
    obtain ⟨a, ws, rfl, g, rs⟩ := r
    have e := reps_bls rs
    subst e
    exact ⟨a, bs, rfl, SqL.of (k.sub.m g), fin0 k q rfl⟩
  · exact q.elim
end
end Q

set_option Elab.async false
set_option linter.all false
set_option maxRecDepth 100000
set_option maxHeartbeats 4000000
namespace Q
open PySem L2 PySem.Spec PyProof.Rows
/-! ## 29. names that hold a datum or a thing that may change; looking at what may change -/
section
variable {X : Cx} {F : Fx} {E : XP} {a e : Expr} {pa pe : QE} {pr : QH} {pos px : Pos} {tg : Expr} {es : List Expr} {x : Str}
def qVF (j : Nat) : QE := fun Γ Q E => match Γ[j]? with
  | some (.own _) => qFrz j Γ Q E
  | _ => qVar j Γ Q E
theorem le_vF (j : Nat) (hN : X.N[j]? = some x := by rfl) (hv : Vis X.env.scope x := by first | exact Or.inl rfl | exact Or.inr (Or.inl rfl) | exact Or.inr (Or.inr rfl)) (hd : (x == ("__debug__" : Str)) = false := by decide)
    (hcd : (x == ("__classdict__" : Str)) = false := by decide) : LE X F E (.Name x px) (qVF j) := ⟨fun pins s σ H G Γ Q I k h => by
  unfold qVF at h
  split at h
  · exact (le_frz (X := X) (F := F) (E := E) (px := px) j hN hv hd hcd).run pins s σ H G Γ Q I k h
  · exact (le_var (X := X) (F := F) (E := E) (pos := px) j hN hv hd hcd).run pins s σ H G Γ Q I k h⟩
def qhAny (j : Nat) (pr : QH) : QH := fun Γ Q E => match Γ[j]? with
  | some (.val d) => pr Γ (fun hs Γ2 => Q (.val d :: hs) Γ2) E
  | _ => qhSlot j pr Γ Q E
theorem lh_any (j : Nat) (hr : LH X F E es pr) (hN : X.N[j]? = some x := by rfl) (hv : Vis X.env.scope x := by first | exact Or.inl rfl | exact Or.inr (Or.inl rfl) | exact Or.inr (Or.inr rfl)) (hd : (x == ("__debug__" : Str)) = false := by decide)
    (hcd : (x == ("__classdict__" : Str)) = false := by decide) (hs : starEach (.Name x px :: es) X.env = (false, eval (.Name x px) X.env) :: starEach es X.env := by rfl) : LH X F E (.Name x px :: es) (qhAny j pr) := ⟨fun pos pins s σ H G Γ Q I k h => by
  unfold qhAny at h
  split at h
  · rename_i d e
    refine (lh_val (le_var (X := X) (F := F) (E := E) (pos := px) j hN hv hd hcd) hr hs).run pos pins s σ H G Γ Q I k ?_
    unfold qhVal qVar
    rw [e]
    exact h
  · exact (lh_slot j hr hN hv hd hcd hs).run pos pins s σ H G Γ Q I k h⟩
/-- what is walked: a datum, or a list that may change and is left as it is -/
def qiAny (j : Nat) : QI := fun Γ Q E => match Γ[j]? with
  | some (.val d) => (match seqD d with
    | some xs => Q xs none Γ
    | none => False)
  | some (.own (.lst xs)) => Q xs (some (j, .lst xs)) Γ
  | some (.bor (.lst xs)) => Q xs (some (j, .lst xs)) Γ
  | _ => False
theorem seqw_mut {G : Hp} {σ : St} {j : Nat} {xs : List D} {c : Addr} {K : PySem.W.Frag} (hc : σ[j]? = some (some (.ref c))) : SeqW F G σ (Itl K c) xs (some (j, .lst xs)) := by
  have at_ : ∀ (q : FxD) (G' H' : Hp) (σ' : St) (Γ' : Env), Ok (fbk F q) G' H' σ' Γ' → gOk (some (j, .lst xs)) σ σ' Γ' → ∃ vs, H' c = some (.lst vs) ∧ Reps F.toCf G' xs vs := fun q G' H' σ' Γ' k' g => by
    obtain ⟨g1, g2⟩ := g
    obtain ⟨s', e1, e2⟩ := bindmo g1
    obtain ⟨b, eb, _, ⟨vs, hv, rv⟩, _⟩ := k'.mut e1 e2
    rw [g2, hc] at eb
    cases eb
    exact ⟨vs, hv, rv⟩
  refine ⟨fun q i G' H' σ' Γ' i1 k' g h => ?_, fun q G' H' σ' Γ' i1 k' g => ?_, fun q i G' H' σ' Γ' x H'' i1 k' g h y => ?_⟩
  · obtain ⟨vs, hv, rv⟩ := at_ q G' H' σ' Γ' k' g
    have h1 : i < vs.length := by rw [rv.len]; exact h
    exact ⟨vs, vs[i], SqL.of hv, List.getElem?_eq_getElem h1⟩
  · obtain ⟨vs, hv, rv⟩ := at_ q G' H' σ' Γ' k' g
    exact ⟨vs, SqL.of hv, by rw [rv.len]; exact Nat.le_refl _⟩
  · obtain ⟨vs, hv, rv⟩ := at_ q G' H' σ' Γ' k' g
    obtain ⟨e, z⟩ := y
    subst e
    obtain ⟨d, ed, rd⟩ := rv.get' (z vs (SqL.of hv))
    exact ⟨d, G', ed, Inc.refl _, k', rd⟩
theorem li_any (j : Nat) (hK : F.K = X.K) (hN : X.N[j]? = some x := by rfl) (hv : Vis X.env.scope x := by first | exact Or.inl rfl | exact Or.inr (Or.inl rfl) | exact Or.inr (Or.inr rfl)) (hd : (x == ("__debug__" : Str)) = false := by decide)
    (hcd : (x == ("__classdict__" : Str)) = false := by decide) : LI X F E tg (.Name x px) (qiAny j) := ⟨fun pins s σ H G Γ Q I k h => by
  have mutc : ∀ {s0 : Slot} {xs : List D}, Γ[j]? = some s0 → s0.mo = some (.lst xs) → Q xs (some (j, .lst xs)) Γ → wpAny (model X.prog X.w) X.A (eval (.Name x px) X.env) (fun v s1 => wpAny (model X.prog X.w) X.A (pyIter v) (PIE X pins σ tg (FinI F G σ Q)) X.xe s1) X.xe s := fun {s0 xs} e1 e2 q => by
    obtain ⟨b, eb, _, ⟨vs, hv', rv⟩, _⟩ := k.mut e1 e2
    refine thn ((pe_var (X := X) (i := j) hN hv hd hcd).run pins s σ H (fun v H' => v = .ref b ∧ H' = H) I ⟨.ref b, eb, rfl, rfl⟩) fun u s1 ⟨y, H1, I1, r1, ey, eH⟩ => ?_
    subst ey
    subst eH
    cases r1
    obtain ⟨its, rv', p, hz⟩ := I1.list (SqL.of (K := X.K) hv')
    exact wpAny_pyIter_list p.isList (pi_one (tk := s1.toks) I1 _ (turn_list b _) ⟨_, Heap.get?_push_size _ rfl, rfl, rfl⟩ ⟨xs, some (j, .lst xs), Γ, G, q, Inc.refl G, k, seqw_mut eb⟩)
  unfold qiAny at h
  split at h
  · rename_i d e
    refine (li_seq (tg := tg) hK (le_var (X := X) (F := F) (E := E) (pos := px) j hN hv hd hcd)).run pins s σ H G Γ Q I k ?_
    unfold qiSeq qVar
    rw [e]
    exact h
  · rename_i xs e; exact mutc e rfl h
  · rename_i xs e; exact mutc e rfl h
  · exact h.elim⟩
/-! ### looking: what may change is seen as data, nothing is changed, an atom comes out -/
def viewS : Slot → Slot
  | .own o => .val (dMo o)
  | .bor o => .val (dMo o)
  | s => s
def viewE : Env → Env
  | [] => []
  | s :: Γ => viewS s :: viewE Γ
theorem viewE_get {Γ : Env} : ∀ {i : Nat}, (viewE Γ)[i]? = (Γ[i]?).map viewS := by
  induction Γ with
  | nil => intro i; rfl
  | cons s Γ ih =>
    intro i
    cases i with
    | zero => rfl
    | succ i => exact ih
theorem viewE_len {Γ : Env} : (viewE Γ).length = Γ.length := by
  induction Γ with
  | nil => rfl
  | cons s Γ ih => show (viewE Γ).length + 1 = _; rw [ih]; rfl
def atomD : D → Bool
  | .non => true
  | .bl _ => true
  | .int _ => true
  | .str _ => true
  | _ => false
/-- all the things that may change, told -/
theorem tellAll {G H : Hp} {Γ : Env} : ∀ {σ : St} {Γ0 : Env}, Slots F G H σ Γ0 → (mutA σ Γ0).Nodup → ∃ G', Inc G G' ∧ (∀ a o, G' a = some o → G a = some o ∨ (H a = some o ∧ a ∈ mutA σ Γ0 ∧ G a = none)) ∧ Slots F G' H σ (viewE Γ0)
  | [], [], _, _ => ⟨G, Inc.refl G, fun a o e => .inl e, trivial⟩
  | v :: σ, s :: Γ0, h, nd => by
    obtain ⟨G1, i1, f1, s1⟩ := tellAll (Γ := Γ) h.2 (nd_tail nd)
    have keep : ∀ G2, Inc G1 G2 → Slots F G2 H σ (viewE Γ0) := fun G2 i2 => by
      refine s1.step i2 (fun a ha => ?_) (fun _ _ _ q => q)
      exfalso
      revert ha
      have : ∀ {σ : St} {Γ : Env}, mutA σ (viewE Γ) = [] := by
        intro σ Γ
        induction σ generalizing Γ with
        | nil => cases Γ <;> simp [mutA, viewE]
        | cons v σ ih =>
          cases Γ with
          | nil => cases v <;> first | rfl | (rename_i w; cases w <;> rfl)
          | cons t Γ =>
            show mutA (v :: σ) (viewS t :: viewE Γ) = []
            rw [mutA_cons, ih]
            cases t <;> cases v <;> first | rfl | (rename_i w; cases w <;> rfl) | (rename_i o w; cases w <;> rfl)
      rw [this]
      simp
    have mutc : ∀ {o : MO} {a : Addr}, v = some (.ref a) → s.mo = some o → G a = none → MRep F.toCf G H o a → ∃ G', Inc G G' ∧ (∀ b u, G' b = some u → G b = some u ∨ (H b = some u ∧ b ∈ mutA (v :: σ) (s :: Γ0) ∧ G b = none)) ∧ Slots F G' H (v :: σ) (viewE (s :: Γ0)) := fun {o a} ev es ga m => by
      subst ev
      have am : a ∈ mutA (some (V.ref a) :: σ) (s :: Γ0) := mem_mutA (i := 0) rfl rfl (by rw [es]; rfl)
      have nin : a ∉ mutA σ Γ0 := by
        rw [mutA_cons] at nd
        cases s with
        | own o => exact (List.nodup_cons.mp nd).1
        | bor o => exact (List.nodup_cons.mp nd).1
        | no => cases es
        | val d => cases es
        | exc c fs => cases es
      have g1a : G1 a = none := by
        cases hq : G1 a with
        | none => rfl
        | some u =>
          rcases f1 a u hq with z | ⟨_, z, _⟩
          · rw [ga] at z; cases z
          · exact absurd z nin
      obtain ⟨u, hu, ru⟩ := mrep_tell (moD_dMo o) g1a (m.inc i1 rfl)
      refine ⟨upd G1 a u, i1.trans (Inc.new g1a), fun b w e => ?_, ?_, keep _ (Inc.new g1a)⟩
      · by_cases hb : b = a
        · subst hb
          rw [upd_same] at e
          cases e
          exact .inr ⟨hu, am, ga⟩
        · rw [upd_ne hb] at e
          rcases f1 b w e with z | ⟨z1, z2, z3⟩
          · exact .inl z
          · exact .inr ⟨z1, mutA_tail z2, z3⟩
      · cases s with
        | own o' => cases es; exact ru
        | bor o' => cases es; exact ru
        | no => cases es
        | val d => cases es
        | exc c fs => cases es
    have h1 := h.1
    cases s with
    | own o =>
      cases v with
      | none => exact h1.elim
      | some v =>
        obtain ⟨a, rfl, g, m, _⟩ := h1
        exact mutc rfl rfl g m
    | bor o =>
      cases v with
      | none => exact h1.elim
      | some v =>
        obtain ⟨a, rfl, g, m, _⟩ := h1
        exact mutc rfl rfl g m
    | no => exact ⟨G1, i1, fun a o e => (f1 a o e).imp id fun ⟨z1, z2, z3⟩ => ⟨z1, mutA_tail z2, z3⟩, by cases v <;> trivial, s1⟩
    | val d =>
      refine ⟨G1, i1, fun a o e => (f1 a o e).imp id fun ⟨z1, z2, z3⟩ => ⟨z1, mutA_tail z2, z3⟩, ?_, s1⟩
      cases v with
      | none => exact h1.elim
      | some v => exact Rep.inc i1 h1
    | exc c fs =>
      refine ⟨G1, i1, fun a o e => (f1 a o e).imp id fun ⟨z1, z2, z3⟩ => ⟨z1, mutA_tail z2, z3⟩, ?_, s1⟩
      exact SlotOk.step i1 (fun a _ z => nomatch z) (fun _ _ _ q => q) h1
  | [], _ :: _, h, _ => h.elim
  | _ :: _, [], h, _ => h.elim
theorem mutA_view : ∀ {σ : St} {Γ : Env}, mutA σ (viewE Γ) = []
  | [], Γ => by cases Γ <;> simp [mutA, viewE]
  | v :: σ, [] => by cases v <;> first | rfl | (rename_i w; cases w <;> rfl)
  | v :: σ, t :: Γ => by
    show mutA (v :: σ) (viewS t :: viewE Γ) = []
    rw [mutA_cons, mutA_view]
    cases t <;> cases v <;> first | rfl | (rename_i w; cases w <;> rfl) | (rename_i o w; cases w <;> rfl)
theorem Ok.view {G H : Hp} {σ : St} {Γ : Env} (k : Ok F G H σ Γ) : ∃ G1, Ok (fbk F ⟨G1, H, [], []⟩) G1 H σ (viewE Γ) := by
  obtain ⟨G1, i1, f1, s1⟩ := tellAll (Γ := Γ) k.slots k.nd
  refine ⟨G1, ⟨fun a o e => ?_, Inc.refl _, fun a o e => .inl e, fun a o e _ => e, fun a m => (nomatch m), ?_, by rw [mutA_view]; exact List.nodup_nil, fun i a e => by simp at e, Nat.zero_le _⟩⟩
  · rcases f1 a o e with z | ⟨z, _, _⟩
    · exact k.sub a o z
    · exact .inl z
  · refine Slots.mk s1.len fun i v s e1 e2 => ?_
    obtain ⟨v', ev, okk⟩ := s1.get e2
    rw [e1] at ev
    cases ev
    have nm : s.mo = none := by
      rw [viewE_get] at e2
      cases hg : Γ[i]? with
      | none => rw [hg] at e2; cases e2
      | some t => rw [hg] at e2; cases e2; cases t <;> rfl
    cases s with
    | own o => cases nm
    | bor o => cases nm
    | no => cases v <;> trivial
    | val d => cases v <;> exact okk
    | exc c fs => cases v <;> exact okk
/-- nothing was changed -/
theorem Ok.unview {G H G1 G2 H2 : Hp} {σ σ2 : St} {Γ Γ2 : Env} (k : Ok F G H σ Γ) (k2 : Ok (fbk F ⟨G1, H, [], []⟩) G2 H2 σ2 Γ2) : Ok F G H2 σ Γ := by
  have kp : ∀ a o, H a = some o → H2 a = some o := fun a o e => k2.frame a o e (fun m => nomatch m)
  refine ⟨fun a o e => ?_, k.g0, k.fresh, fun a o e nb => kp a o (k.frame a o e nb), fun a m => ?_, ?_, k.nd, k.pin, k.pl⟩
  · rcases k.sub a o e with z | ⟨z, ob, z2⟩
    · exact .inl (kp a o z)
    · exact .inr ⟨z, ob, kp _ _ z2⟩
  · obtain ⟨o, e⟩ := k.bor a m
    exact ⟨o, kp a o e⟩
  · refine k.slots.step (Inc.refl G) (fun a ha => ?_) (fun dd ws _ q => kp _ _ q)
    obtain ⟨⟨o, e⟩, g, _⟩ := mutA_there k.slots a ha
    exact ⟨by rw [kp a o e, e], g⟩
def qPeek (p : QE) : QE := fun Γ Q _ => p (viewE Γ) (fun d _ => atomD d = true ∧ Q d Γ) noE
def qPeekT (p : QT) : QT := fun Γ Q _ => p (viewE Γ) (fun b _ => Q b Γ) noE
theorem tk_no {q : FxD} : Takes X (wOf (fbk F q) noE) := fun u s' ⟨_, _, _, _, _, _, _, _, _, _, _, _, _, _, _, _, w⟩ => by
  obtain ⟨_, _, _, _, _, z⟩ := w
  exact z.elim
theorem le_peek (h : ∀ q : FxD, Takes X (wOf (fbk F q) noE) → LE X (fbk F q) noE e pe) : LE X F E e (qPeek pe) := ⟨fun pins s σ H G Γ Q I k q => by
  obtain ⟨G1, k1⟩ := k.view
  refine thn ((h _ tk_no).run pins s σ H G1 _ _ I k1 q) fun u s' ⟨v, H', I', r, d, Γ', G', ⟨ha, q'⟩, i, k', rp⟩ => ⟨v, H', I', r, d, Γ, G, q', Inc.refl G, k.unview k', ?_⟩
  cases d <;> first | exact rp | cases ha⟩
theorem lt_peek {tt : QT} (h : ∀ q : FxD, Takes X (wOf (fbk F q) noE) → LT X (fbk F q) noE e tt) : LT X F E e (qPeekT tt) := ⟨fun pins s σ H G Γ Q I k q => by
  obtain ⟨G1, k1⟩ := k.view
  exact thn ((h _ tk_no).run pins s σ H G1 _ _ I k1 q) fun u s' ⟨H', I', Γ', G', q', i, k'⟩ => ⟨H', I', Γ, G, q', Inc.refl G, k.unview k'⟩⟩
end
end Q

set_option Elab.async false
set_option linter.all false
set_option maxRecDepth 100000
set_option maxHeartbeats 4000000
namespace Q
open He5 (DefA fnA wf wrapB cmet_of)
open PySem L2 PySem.Spec PyProof.Rows He PySem.W
/-! ## 30. keywords in the order of the parameters -/
theorem len_ok {c : Cn} {K : Frag} (h : pMeth c "__len__" K) : OwnLen K ((cf K).cl c) (ma K (ga K (cname c)) "__len__") := ⟨h.1, h.2.1⟩
variable {P : Program} {w : World} {K : Frag} {mg : Str → Option Value} {base : Heap}
theorem FnB.kwI {d : DefA} {k : Nat} {ps ks : List Str} {c : Ct} {X : Cx} {A : Around} {n : Nat} (h : FnB P w K mg base d k ps c) (hX : X.prog = P) (hw : X.w = w) (hK : X.K = K) (hmg : X.mg = mg) (hb : X.base = base) (hA : A.frames = X.A.frames) (hr : Room k A) (hd : d.dfl = [])
    (hbd : ∀ (kV doc pm : Value) (an : Option Addr) (cdv ct : Value) (us ws : List Value), us.length = n → ws.length = ks.length → bindArgs (fnOf d.name d.qual d.params d.body d.scope .none kV doc pm an cdv ct) ⟨us, ks.zip ws⟩ = pure (ps.zip (us ++ ws))) (hn : n + ks.length = ps.length) : CodeOk X A (cf K) (d.at_ K) n ks c := by
  subst hX hw hK hmg hb
  obtain ⟨fd, F, G⟩ := h.ex
  have hdv : d.dvs X.K = [] := by unfold DefA.dvs; rw [hd]; rfl
  rw [hdv] at F
  have kb : KBn X.K fd ps n ks (fun us ws => us ++ ws) (fun vs zs => vs ++ zs) := by
    obtain ⟨oc, od, dV, kV, doc, pm, an, cdv, ct, osl, rfl, lk, hcd, hD, hKw⟩ := F.ex
    rcases hD with ⟨_, rfl⟩ | ⟨e, _⟩
    · exact ⟨fun s us ws _ l1 l2 => .of_eq (hbd kV doc pm an cdv ct us ws l1 l2), fun r1 r2 => r1.append r2⟩
    · exact absurd rfl e
  exact code_fn G hA hr kb (fun args Q E z => by rw [h.len _ _ _ z, hn]) fun vs zs H Q E _ _ q => q
theorem FnBG.kwI {d : DefA} {k : Nat} {ps ks : List Str} {c : Ct} {X : Cx} {A : Around} {n : Nat} (h : FnBG P w K mg base d k ps c) (hgd : A.guards = some []) (hX : X.prog = P) (hw : X.w = w) (hK : X.K = K) (hmg : X.mg = mg) (hb : X.base = base) (hA : A.frames = X.A.frames) (hr : Room k A) (hd : d.dfl = [])
    (hbd : ∀ (kV doc pm : Value) (an : Option Addr) (cdv ct : Value) (us ws : List Value), us.length = n → ws.length = ks.length → bindArgs (fnOf d.name d.qual d.params d.body d.scope .none kV doc pm an cdv ct) ⟨us, ks.zip ws⟩ = pure (ps.zip (us ++ ws))) (hn : n + ks.length = ps.length) : CodeOk X A (cf K) (d.at_ K) n ks c := by
  subst hX hw hK hmg hb
  obtain ⟨fd, F, G⟩ := h.ex
  have hdv : d.dvs X.K = [] := by unfold DefA.dvs; rw [hd]; rfl
  rw [hdv] at F
  have kb : KBn X.K fd ps n ks (fun us ws => us ++ ws) (fun vs zs => vs ++ zs) := by
    obtain ⟨oc, od, dV, kV, doc, pm, an, cdv, ct, osl, rfl, lk, hcd, hD, hKw⟩ := F.ex
    rcases hD with ⟨_, rfl⟩ | ⟨e, _⟩
    · exact ⟨fun s us ws _ l1 l2 => .of_eq (hbd kV doc pm an cdv ct us ws l1 l2), fun r1 r2 => r1.append r2⟩
    · exact absurd rfl e
  exact code_fnG G hgd hA hr kb (fun args Q E z => by rw [h.len _ _ _ z, hn]) fun vs zs H Q E _ _ q => q
end Q

set_option Elab.async false
set_option linter.all false
set_option maxRecDepth 100000
set_option maxHeartbeats 4000000
namespace Q
open PySem L2 PySem.Spec PyProof.Rows
/-! ## 31. l * n, l + m as new things; own things given up -/
section
variable {X : Cx} {F : Fx} {E : XP} {a b : Expr} {pa pb : QE} {pos : Pos}
theorem finN_new {G H : Hp} {σ : St} {Γ : Env} {Q : MO → Env → Prop} {ds : List D} {vs : List V} {p : Addr} (k : Ok F G H σ Γ) (hp : H p = none) (q : Q (.lst ds) Γ) (r : Reps F.toCf G ds vs) : FinN F G σ Q (.ref p) (upd H p (.lst vs)) :=
  ⟨.lst ds, p, Γ, G, q, Inc.refl G, k.new0 hp _, rfl, k.sub.no hp, ⟨vs, upd_same, r⟩, k.h0 hp, not_mut k hp⟩
def qnMul (pa pb : QE) : QN := fun Γ Q E => pa Γ (fun d Γ1 => pb Γ1 (fun e Γ2 => match d, e with
  | .lst xs, .int n => xs.length * n.toNat ≤ 100000 ∧ -100000 ≤ n ∧ n ≤ 100000 ∧ Q (.lst (List.flatten (List.replicate n.toNat xs))) Γ2
  | _, _ => False) E) E
def qnAdd (pa pb : QE) : QN := fun Γ Q E => pa Γ (fun d Γ1 => pb Γ1 (fun e Γ2 => match d, e with
  | .lst xs, .lst ys => xs.length + ys.length ≤ 100000 ∧ Q (.lst (xs ++ ys)) Γ2
  | _, _ => False) E) E
theorem ln_mul (ha : LE X F E a pa) (hb : LE X F E b pb) : LN X F E (.BinOp a .Mult b pos) (qnMul pa pb) := ⟨fun pins s σ H G Γ Q I k h => by
  refine wpAny_BinOp (thn (ha.run pins s σ H G Γ _ I k h) fun v s1 ⟨x, H1, I1, r1, d, Γ1, G1, q1, i1, k1, p1⟩ => thn (hb.run pins s1 σ H1 G1 Γ1 _ I1 k1 q1) fun u s2 ⟨y, H2, I2, r2, e, Γ2, G2, q2, i2, k2, p2⟩ => ?_)
  dsimp only at q2
  split at q2
  case h_2 => exact q2.elim
  obtain ⟨h1, h2, h3, q⟩ := q2
  obtain ⟨c, vs, rfl, sa, ra⟩ := p1.inc i2
  refine op_rep pins s2 σ H2 _ _ v u _ I2 r1 r2 ⟨c, _, vs, rfl, p2, k2.sub.m sa, by omega, by omega, ?_, fun p hp => finN_inc (i1.trans i2) (finN_new k2 hp q (reps_rep ra _))⟩
  rw [ra.len]
  exact szl h1⟩
theorem ln_add (ha : LE X F E a pa) (hb : LE X F E b pb) : LN X F E (.BinOp a .Add b pos) (qnAdd pa pb) := ⟨fun pins s σ H G Γ Q I k h => by
  refine wpAny_BinOp (thn (ha.run pins s σ H G Γ _ I k h) fun v s1 ⟨x, H1, I1, r1, d, Γ1, G1, q1, i1, k1, p1⟩ => thn (hb.run pins s1 σ H1 G1 Γ1 _ I1 k1 q1) fun u s2 ⟨y, H2, I2, r2, e, Γ2, G2, q2, i2, k2, p2⟩ => ?_)
  dsimp only at q2
  split at q2
  case h_2 => exact q2.elim
  obtain ⟨c, vs, rfl, sa, ra⟩ := p1.inc i2
  obtain ⟨c2, ws, rfl, sb, rb⟩ := p2
  refine op_cat pins s2 σ H2 _ _ v u _ I2 r1 r2 ⟨c, c2, vs, ws, rfl, rfl, k2.sub.m sa, k2.sub.m sb, ?_, fun p hp => finN_inc (i1.trans i2) (finN_new k2 hp q2.2 (ra.append rb))⟩
  rw [ra.len, rb.len]
  exact szl q2.1⟩
end
end Q

set_option Elab.async false
set_option linter.all false
set_option maxRecDepth 100000
set_option maxHeartbeats 4000000
namespace Q
open PySem L2
/-! ## 32. The pure side: comprehensions and loops by an invariant, == of plain data -/
theorem lc_inv {g : QG} {pe : QE} {vs : List Nat} {E : XP} {Q : MO → Env → Prop} {gd : Gd} {items : List D} {Γ : Env} (I : Nat → List D → Env → Prop) (hlen : items.length ≤ 100000) (hG : ∀ i acc Γ, i ≤ items.length → I i acc Γ → gM gd Γ) (h0 : I 0 [] Γ)
    (turn : ∀ (i : Nat) (d : D) (acc : List D) (Γ : Env) (Z : D → Env → Prop) (X : XP), items[i]? = some d → acc.length = i → I i acc Γ → (∀ y Γ4, I (i + 1) (acc ++ [y]) (rE Γ Γ4) → Z y Γ4) → (∀ x Γ', E x (rE Γ Γ') → X x Γ') → g d (wipeE (bE Γ) vs) fun Γ2 => pe Γ2 Z X)
    (hend : ∀ acc Γ, acc.length = items.length → I items.length acc Γ → Q (.lst acc) Γ) : qLcGo gd g qYes pe vs items [] Γ Q E := by
  have wG : ∀ {Γ : Env} {R : Prop}, gM gd Γ → R → withG gd Γ R := fun {Γ R} a b => by
    cases gd with
    | none => exact b
    | some p => exact ⟨a, b⟩
  have key : ∀ (rest : List D) (i : Nat) (acc : List D) (Γ : Env), items.drop i = rest → i ≤ items.length → acc.length = i → I i acc Γ → qLcGo gd g qYes pe vs rest acc Γ Q E := by
    intro rest
    induction rest with
    | nil =>
      intro i acc Γ e hi hl hI
      have : items.length ≤ i := by
        have := congrArg List.length e
        simp at this
        omega
      have ei : i = items.length := by omega
      subst ei
      exact wG (hG _ _ _ (Nat.le_refl _) hI) (hend acc Γ hl hI)
    | cons d rest ih =>
      intro i acc Γ e hi hl hI
      have hlt : i < items.length := by
        have := congrArg List.length e
        simp at this
        omega
      have ed : items[i]? = some d := by
        have := congrArg List.head? e
        rwa [List.head?_drop] at this
      have er : items.drop (i + 1) = rest := by
        have := congrArg List.tail e
        rwa [List.tail_drop] at this
      exact wG (hG _ _ _ hi hI) (turn i d acc Γ _ _ ed hl hI (fun y Γ4 hy => ⟨by omega, ih (i + 1) (acc ++ [y]) (rE Γ Γ4) er hlt (by simp [hl]) hy⟩) (fun x Γ' hx => hx))
  exact key items 0 [] Γ rfl (Nat.zero_le _) rfl h0
/-- .. whose items don't change anything: the item at i is f i -/
theorem lc_map {g : QG} {pe : QE} {vs : List Nat} {E : XP} {Q : MO → Env → Prop} {gd : Gd} {items : List D} {Γ : Env} (f : Nat → D) (hlen : items.length ≤ 100000) (hG : gM gd Γ)
    (turn : ∀ (i : Nat) (d : D) (Z : D → Env → Prop) (X : XP), items[i]? = some d → (∀ Γ4, rE Γ Γ4 = Γ → Z (f i) Γ4) → g d (wipeE (bE Γ) vs) fun Γ2 => pe Γ2 Z X)
    (hend : Q (.lst ((List.range items.length).map f)) Γ) : qLcGo gd g qYes pe vs items [] Γ Q E := by
  refine lc_inv (fun i acc Γ' => Γ' = Γ ∧ acc = (List.range i).map f) hlen (fun i acc Γ' _ h => by rw [h.1]; exact hG) ⟨rfl, rfl⟩ (fun i d acc Γ' Z X ed hl h hZ hX => ?_) (fun acc Γ' _ h => by rw [h.1, h.2]; exact hend)
  obtain ⟨rfl, rfl⟩ := h
  exact turn i d Z X ed fun Γ4 e4 => hZ _ _ ⟨e4, by rw [List.range_succ, List.map_append]; rfl⟩
/-- .. with a test -/
theorem lc_invF {g : QG} {tt : QT} {pe : QE} {vs : List Nat} {E : XP} {Q : MO → Env → Prop} {gd : Gd} {items : List D} {Γ : Env} (I : Nat → List D → Env → Prop) (hlen : items.length ≤ 100000) (hG : ∀ i acc Γ, i ≤ items.length → I i acc Γ → gM gd Γ) (h0 : I 0 [] Γ)
    (turn : ∀ (i : Nat) (d : D) (acc : List D) (Γ : Env) (Z : D → Env → Prop) (Z' : Env → Prop) (X : XP), items[i]? = some d → acc.length ≤ i → I i acc Γ → (∀ y Γ4, I (i + 1) (acc ++ [y]) (rE Γ Γ4) → Z y Γ4) → (∀ Γ4, I (i + 1) acc (rE Γ Γ4) → Z' Γ4) → (∀ x Γ', E x (rE Γ Γ') → X x Γ') →
      g d (wipeE (bE Γ) vs) fun Γ2 => tt Γ2 (fun b Γ3 => match b with
        | true => pe Γ3 Z X
        | false => Z' Γ3) X)
    (hend : ∀ acc Γ, acc.length ≤ items.length → I items.length acc Γ → Q (.lst acc) Γ) : qLcGo gd g tt pe vs items [] Γ Q E := by
  have wG : ∀ {Γ : Env} {R : Prop}, gM gd Γ → R → withG gd Γ R := fun {Γ R} a b => by
    cases gd with
    | none => exact b
    | some p => exact ⟨a, b⟩
  have key : ∀ (rest : List D) (i : Nat) (acc : List D) (Γ : Env), items.drop i = rest → i ≤ items.length → acc.length ≤ i → I i acc Γ → qLcGo gd g tt pe vs rest acc Γ Q E := by
    intro rest
    induction rest with
    | nil =>
      intro i acc Γ e hi hl hI
      have : items.length ≤ i := by
        have := congrArg List.length e
        simp at this
        omega
      have ei : i = items.length := by omega
      subst ei
      exact wG (hG _ _ _ (Nat.le_refl _) hI) (hend acc Γ hl hI)
    | cons d rest ih =>
      intro i acc Γ e hi hl hI
      have hlt : i < items.length := by
        have := congrArg List.length e
        simp at this
        omega
      have ed : items[i]? = some d := by
        have := congrArg List.head? e
        rwa [List.head?_drop] at this
      have er : items.drop (i + 1) = rest := by
        have := congrArg List.tail e
        rwa [List.tail_drop] at this
      exact wG (hG _ _ _ hi hI) (turn i d acc Γ _ _ _ ed hl hI (fun y Γ4 hy => ⟨by omega, ih (i + 1) (acc ++ [y]) (rE Γ Γ4) er hlt (by simp; omega) hy⟩) (fun Γ4 hy => ih (i + 1) acc (rE Γ Γ4) er hlt (by omega) hy) (fun x Γ' hx => hx))
  exact key items 0 [] Γ rfl (Nat.zero_le _) (Nat.le_refl _) h0
theorem loop_inv {g : QG} {u : QS} {E : XP} {P : PEnds} {items : List D} {Γ : Env} (I : Nat → Env → Prop) (h0 : I 0 Γ)
    (turn : ∀ (i : Nat) (d : D) (Γ : Env) (K : Env → Prop), items[i]? = some d → I i Γ → (∀ Γ', I (i + 1) Γ' → K Γ') → g d Γ fun Γ1 => u Γ1 { nx := K, ct := K, bk := P.nx, rt := P.rt } E)
    (hend : ∀ Γ, I items.length Γ → P.nx Γ) : qLoop none g u items Γ P E := by
  have key : ∀ (rest : List D) (i : Nat) (Γ : Env), items.drop i = rest → i ≤ items.length → I i Γ → qLoop none g u rest Γ P E := by
    intro rest
    induction rest with
    | nil =>
      intro i Γ e hi hI
      have : items.length ≤ i := by
        have := congrArg List.length e
        simp at this
        omega
      have ei : i = items.length := by omega
      subst ei
      exact hend Γ hI
    | cons d rest ih =>
      intro i Γ e hi hI
      have hlt : i < items.length := by
        have := congrArg List.length e
        simp at this
        omega
      have ed : items[i]? = some d := by
        have := congrArg List.head? e
        rwa [List.head?_drop] at this
      have er : items.drop (i + 1) = rest := by
        have := congrArg List.tail e
        rwa [List.tail_drop] at this
      exact turn i d Γ _ ed hI fun Γ' h => ih (i + 1) Γ' er hlt h
  exact key items 0 Γ rfl (Nat.zero_le _) h0
/-! ### plain data -/
theorem isPys_map {α : Type} (f : α → D) (h : ∀ x, isPy (f x) = true) : ∀ xs : List α, isPys (xs.map f) = true
  | [] => rfl
  | x :: xs => by show (isPy (f x) && isPys (xs.map f)) = true; rw [h, isPys_map f h xs]; rfl
theorem canLay_map {α : Type} (f : α → D) (h : ∀ x, (toPy (f x)).canLay0 = true) : ∀ xs : List α, PyData.canLayAll0 (toPys (xs.map f)) = true
  | [] => rfl
  | x :: xs => by show ((toPy (f x)).canLay0 && PyData.canLayAll0 (toPys (xs.map f))) = true; rw [h, canLay_map f h xs]; rfl
theorem depth_map {α : Type} (f : α → D) (n : Nat) (h : ∀ x, (toPy (f x)).depth ≤ n) : ∀ xs : List α, PyData.depthAll (toPys (xs.map f)) ≤ n
  | [] => Nat.zero_le _
  | x :: xs => by
    show max (toPy (f x)).depth (PyData.depthAll (toPys (xs.map f))) ≤ n
    have := h x
    have := depth_map f n h xs
    omega
theorem plain_lst {α : Type} (f : α → D) (h1 : ∀ x, isPy (f x) = true) (h2 : ∀ x, (toPy (f x)).canLay0 = true) (n : Nat) (h3 : ∀ x, (toPy (f x)).depth ≤ n) (hn : n ≤ 60) (xs : List α) : plainD (.lst (xs.map f)) = true := by
  have a := isPys_map f h1 xs
  have b := canLay_map f h2 xs
  have c := depth_map f n h3 xs
  show (isPys (xs.map f) && (PyData.canLayAll0 (toPys (xs.map f)) && decide (PyData.depthAll (toPys (xs.map f)) + 1 ≤ 64))) = true
  rw [a, b, decide_eq_true (by omega)]
  rfl
theorem eqv_map {α : Type} (f : α → D) (eqf : α → α → Bool) (h : ∀ x y, PyData.eqv (toPy (f x)) (toPy (f y)) = eqf x y) : ∀ xs ys : List α, PyData.eqvAll (toPys (xs.map f)) (toPys (ys.map f)) = (decide (xs.length = ys.length) && (xs.zip ys).all fun p => eqf p.1 p.2)
  | [], [] => rfl
  | [], _ :: _ => rfl
  | _ :: _, [] => rfl
  | x :: xs, y :: ys => by
    show (PyData.eqv (toPy (f x)) (toPy (f y)) && PyData.eqvAll (toPys (xs.map f)) (toPys (ys.map f))) = _
    rw [h, eqv_map f eqf h xs ys]
    simp only [List.length_cons, List.zip_cons_cons, List.all_cons, Nat.add_right_cancel_iff]
    cases eqf x y <;> cases decide (xs.length = ys.length) <;> simp
theorem eqv_map_dec {α : Type} [DecidableEq α] (f : α → D) (h : ∀ x y, PyData.eqv (toPy (f x)) (toPy (f y)) = decide (x = y)) : ∀ xs ys : List α, PyData.eqvAll (toPys (xs.map f)) (toPys (ys.map f)) = decide (xs = ys)
  | [], [] => rfl
  | [], _ :: _ => rfl
  | _ :: _, [] => rfl
  | x :: xs, y :: ys => by
    show (PyData.eqv (toPy (f x)) (toPy (f y)) && PyData.eqvAll (toPys (xs.map f)) (toPys (ys.map f))) = _
    rw [h, eqv_map_dec f h xs ys]
    by_cases e : x = y <;> by_cases e2 : xs = ys <;> simp [e, e2]
def lstR (qs : List Rat) : D := .lst (qs.map tupR)
theorem plain_lstR (qs : List Rat) : plainD (lstR qs) = true := plain_lst tupR (fun _ => rfl) (fun _ => rfl) 1 (fun _ => Nat.le_of_ble_eq_true rfl) (by decide) qs
theorem eqv_lstR (ps qs : List Rat) : PyData.eqv (toPy (lstR ps)) (toPy (lstR qs)) = decide (ps = qs) := eqv_map_dec tupR eqv_tupR ps qs
def rts (qs : List Rat) : List D := qs.map D.rat
theorem rts_len (qs : List Rat) : (rts qs).length = qs.length := by simp [rts]
theorem rts_isR (qs : List Rat) : (rts qs).all isR = true := by
  simp [rts, isR]
theorem eqsB_rts : ∀ (ps qs : List Rat), eqsB eqR (rts ps) (rts qs) = decide (qs = ps)
  | [], [] => rfl
  | [], _ :: _ => by simp [rts, eqsB]
  | _ :: _, [] => by simp [rts, eqsB]
  | p :: ps, q :: qs => by
    show (decide (q = p) && eqsB eqR (rts ps) (rts qs)) = _
    rw [eqsB_rts ps qs]
    by_cases e : q = p <;> by_cases e2 : qs = ps <;> simp [e, e2]
theorem rts_get {qs : List Rat} {i : Nat} {d : D} (h : (rts qs)[i]? = some d) : ∃ q, qs[i]? = some q ∧ d = .rat q := by
  unfold rts at h
  rw [List.getElem?_map] at h
  cases e : qs[i]? with
  | none => rw [e] at h; cases h
  | some q => rw [e] at h; cases h; exact ⟨q, rfl, rfl⟩
theorem atD_nat {xs : List D} {i : Int} (h : 0 ≤ i) : atD xs i = xs[i.toNat]? := by unfold atD; rw [if_pos h]
/-! sizes -/
theorem Sz.mono {n m : Nat} {q : Rat} (h : Sz n q) (l : n ≤ m) : Sz m q := ⟨h.num.mono l, h.den.mono l⟩
theorem Sz.mul {n m : Nat} {p q : Rat} (h : Sz n p) (k : Sz m q) : Sz (n + m) (p * q) := by
  rw [← mul_divInt]
  exact divInt_sz (h.num.mul k.num) (h.den.mul k.den) (fun e => by
    rcases Int.mul_eq_zero.mp e with z | z
    · exact den_ne p z
    · exact den_ne q z)
theorem Sz.add {n m : Nat} {p q : Rat} (h : Sz n p) (k : Sz m q) : Sz (n + m + 1) (p + q) := by
  rw [← add_divInt]
  refine divInt_sz (Bd.add (h.num.mul k.den) ((k.num.mul h.den).mono (by omega))) ((h.den.mul k.den).mono (by omega)) (fun e => ?_)
  rcases Int.mul_eq_zero.mp e with z | z
  · exact den_ne p z
  · exact den_ne q z
theorem Sz.sub {n m : Nat} {p q : Rat} (h : Sz n p) (k : Sz m q) : Sz (n + m + 1) (p - q) := by
  rw [← sub_divInt]
  refine divInt_sz (Bd.sub (h.num.mul k.den) ((k.num.mul h.den).mono (by omega))) ((h.den.mul k.den).mono (by omega)) (fun e => ?_)
  rcases Int.mul_eq_zero.mp e with z | z
  · exact den_ne p z
  · exact den_ne q z
theorem Sz.neg {n : Nat} {p : Rat} (h : Sz n p) : Sz n (-p) := ⟨by rw [Rat.neg_num]; exact h.num.neg, by rw [Rat.neg_den]; exact h.den⟩
theorem Sz.zero {n : Nat} (h : 1 ≤ n) : Sz n 0 := ⟨Bd.mono (n := 1) (bd_of rfl) h, Bd.mono (n := 1) (bd_of rfl) h⟩
theorem Sz.int {n : Nat} {i : Int} (h : Bd n i) (l : 1 ≤ n) : Sz n (i : Rat) := ⟨h, Bd.mono (n := 1) (bd_of rfl) l⟩
end Q

set_option Elab.async false
set_option linter.all false
set_option maxRecDepth 100000
set_option maxHeartbeats 4000000
namespace Q
open PySem L2 PySem.Spec PyProof.Rows
/-! ## 33. Texts: in, split, join, str(), int(), f-strings -/
/-- x stands in y -/
def hasT (x y : Str) : Bool := !(Builtin.Str.occurrences y x 0 y.length 1).isEmpty
def oIn : O2 := fun d e Γ Q _ => match e with
  | .str y => match d with
    | .str x => Q (.bl (hasT x y)) Γ
    | _ => False
  | .lst ys => plainD d = true ∧ plainD (.lst ys) = true ∧ Q (.bl ((toPys ys).any fun z => PyData.eqv z (toPy d))) Γ
  | _ => False
def oNotIn : O2 := fun d e Γ Q _ => match e with
  | .str y => match d with
    | .str x => Q (.bl (!hasT x y)) Γ
    | _ => False
  | .lst ys => plainD d = true ∧ plainD (.lst ys) = true ∧ Q (.bl (!(toPys ys).any fun z => PyData.eqv z (toPy d))) Γ
  | _ => False
section
variable {X : Cx} {F : Fx} {E : XP} {a b o e : Expr} {pa pb : QE} {pr : QA} {pos apos : Pos}
theorem ol_in (hK : F.K = X.K) (hu : X.A.units + 100 < cLine) : OpL X F E (compareOp .In) oIn := by
  intro pins s σ H G Γ x y v u d e Q I k rv ru rx ry q
  unfold oIn at q
  split at q
  · split at q
    · exact op_in_str pins s σ H x y v u _ I rv ru ⟨_, _, rx, ry, fin0 k q rfl⟩
    · exact q.elim
  · obtain ⟨h1, h2, q⟩ := q
    exact op_inD (X := X) (by omega) pins s σ H x y v u _ I rv ru ⟨toPy d, _, hK ▸ dp_of k.sub (plain_py h1).1 rx, hK ▸ dp_of k.sub (plain_py h2).1 ry, (plain_py h1).2, (plain_py h2).2, fin0 k q rfl⟩
  · exact q.elim
theorem ol_notIn (hK : F.K = X.K) (hu : X.A.units + 100 < cLine) : OpL X F E (compareOp .NotIn) oNotIn := by
  intro pins s σ H G Γ x y v u d e Q I k rv ru rx ry q
  unfold oNotIn at q
  split at q
  · split at q
    · exact op_notin_str pins s σ H x y v u _ I rv ru ⟨_, _, rx, ry, fin0 k q rfl⟩
    · exact q.elim
  · obtain ⟨h1, h2, q⟩ := q
    exact op_notInD (X := X) (by omega) pins s σ H x y v u _ I rv ru ⟨toPy d, _, hK ▸ dp_of k.sub (plain_py h1).1 rx, hK ▸ dp_of k.sub (plain_py h2).1 ry, (plain_py h1).2, (plain_py h2).2, fin0 k q rfl⟩
  · exact q.elim
/-- x.split(y) -/
def qnSplit (pa pb : QE) : QN := fun Γ Q E => pa Γ (fun d Γ1 => match d with
  | .str x => pb Γ1 (fun e Γ2 => match e with
    | .str y => (y.length == 0) = false ∧ x.length + 2 ≤ 100000 ∧ Q (.lst ((Txt.split x y).map D.str)) Γ2
    | _ => False) E
  | _ => False) E
theorem reps_strs {G : Hp} : ∀ ys : List Str, Reps F.toCf G (ys.map D.str) (ys.map V.str)
  | [] => rfl
  | _ :: ys => ⟨_, _, rfl, rfl, reps_strs ys⟩
theorem ln_split (ho : LE X F E o pa) (he : LE X F E e pb) (hs : starEach [e] X.env = [(false, eval e X.env)] := by rfl) (hbase : attributeBase o "split" X.env (eval o X.env) = eval o X.env := by rfl) (hline : (apos.endLine == pos.line) = true := by rfl) :
    LN X F E (.Call (.Attribute o "split" apos) [e] [] pos) (qnSplit pa pb) := ⟨fun pins s σ H G Γ Q I k h => by
  refine (pe_split ho.pe he.pe hs hbase hline).run pins s σ H _ I ?_
  refine ⟨G, Γ, _, k, h, fun w H1 ⟨d, Γ1, G1, q1, i1, k1, r1⟩ => ?_⟩
  dsimp only at q1
  split at q1
  case h_2 => exact q1.elim
  rename_i x
  cases (show w = .str x from r1)
  refine ⟨⟨_, rfl⟩, G1, Γ1, _, k1, q1, fun w2 H2 ⟨d2, Γ2, G2, q2, i2, k2, r2⟩ => ?_⟩
  dsimp only at q2
  split at q2
  case h_2 => exact q2.elim
  rename_i y
  cases (show w2 = .str y from r2)
  exact ⟨x, y, rfl, rfl, q2.1, szl q2.2.1, fun p hp => finN_inc (i1.trans i2) (finN_new k2 hp q2.2.2 (reps_strs _))⟩⟩
/-- str(i) -/
def oStr : ON := fun ds Γ Q _ => match ds with
  | [.int i] => i.natAbs.log2 < 1920 ∧ Q (.str (Str.ofString (toString i))) Γ
  | _ => False
theorem bl_str : BlL X F E (.type "str") oStr := BlL.of call_str_int fun σ H G Γ vs ds Q k rd q => by
  unfold oStr at q
  split at q
  · obtain ⟨v, rfl, r⟩ := reps1 rd
    cases r
    exact ⟨_, rfl, q.1, fin0 k q.2 rfl⟩
  · exact q.elim
/-- int(x), of a text also -/
def oIntT : ON := fun ds Γ Q _ => match ds with
  | [.int i] => Q (.int i) Γ
  | [.bl b] => Q (.int (if b then 1 else 0)) Γ
  | [.str x] => ∃ n, intText? x = some n ∧ x.length ≤ 640 ∧ Q (.int n) Γ
  | _ => False
theorem bl_intT : BlL X F E (.type "int") oIntT := BlL.of (CallR.or call_int1 call_int_str) fun σ H G Γ vs ds Q k rd q => by
  unfold oIntT at q
  split at q
  · obtain ⟨v, rfl, r⟩ := reps1 rd
    cases r
    exact .inl (.inl ⟨_, rfl, fin0 k q rfl⟩)
  · obtain ⟨v, rfl, r⟩ := reps1 rd
    cases r
    exact .inl (.inr ⟨_, rfl, fin0 k q rfl⟩)
  · obtain ⟨v, rfl, r⟩ := reps1 rd
    cases r
    obtain ⟨n, h1, h2, q⟩ := q
    exact .inr ⟨_, n, rfl, h1, h2, fin0 k q rfl⟩
  · exact q.elim
/-- {x} -/
def qFmt (pa : QE) : QE := fun Γ Q E => pa Γ (fun d Γ1 => match d with
  | .int i => i.natAbs.log2 < 1920 ∧ Q (.str (Str.ofString (toString i))) Γ1
  | .str y => y.length ≤ 100000 ∧ Q (.str y) Γ1
  | _ => False) E
theorem le_fmt (ha : LE X F E a pa) : LE X F E (.FormattedValue a (-1) none pos) (qFmt pa) := LE.of (pe_fmt ha.pe) fun σ H G Γ Q k q => ⟨G, Γ, _, k, q, fun w H' ⟨d, Γ', G', q', i, k', r⟩ => by
  dsimp only at q'
  split at q'
  · cases r
    exact .inr ⟨_, rfl, q'.1, fin_inc i (fin0 k' q'.2 rfl)⟩
  · cases r
    exact .inl ⟨_, rfl, szl q'.1, fin_inc i (fin0 k' q'.2 rfl)⟩
  · exact q'.elim⟩
/-- the parts of an f-string -/
def qJs : List QE → Str → Env → (Str → Env → Prop) → XP → Prop
  | [], acc, Γ, Q, _ => Q acc Γ
  | p :: ps, acc, Γ, Q, E => p Γ (fun d Γ1 => match d with
    | .str y => (acc ++ y).length ≤ 100000 ∧ qJs ps (acc ++ y) Γ1 Q E
    | _ => False) E
def qJoin (ps : List QE) : QE := fun Γ Q E => qJs ps Str.empty Γ (fun z Γ1 => Q (.str z) Γ1) E
inductive LJ (X : Cx) (F : Fx) (E : XP) : List Expr → List QE → Prop where
  | nil : LJ X F E [] []
  | cons {e : Expr} {p : QE} {es : List Expr} {ps : List QE} (h : LE X F E e p) (r : LJ X F E es ps) : LJ X F E (e :: es) (p :: ps)
theorem LJ.pj {es : List Expr} {ps : List QE} (h : LJ X F E es ps) : PJ X es (ps.map (tE F E)) := by
  induction h with
  | nil => exact .nil
  | cons h r ih => exact .cons h.pe ih
theorem js_go {G0 : Hp} {σ : St} {Q : Str → Env → Prop} : ∀ (ps : List QE) (acc : Str) (G H : Hp) (Γ : Env), Inc G0 G → Ok F G H σ Γ → qJs ps acc Γ Q E → tJs (ps.map (tE F E)) acc σ H fun out H1 => ∃ Γ' G', Q out Γ' ∧ Inc G0 G' ∧ Ok F G' H1 σ Γ'
  | [], acc, G, H, Γ, i, k, q => ⟨Γ, G, q, i, k⟩
  | p :: ps, acc, G, H, Γ, i, k, q => by
    refine ⟨G, Γ, _, k, q, fun w H' ⟨d, Γ', G', q', i', k', r⟩ => ?_⟩
    dsimp only at q'
    split at q'
    · cases r
      exact ⟨_, rfl, szl q'.1, js_go ps _ G' H' Γ' (i.trans i') k' q'.2⟩
    · exact q'.elim
theorem le_join {v1 v2 : Expr} {rest : List Expr} {ps : List QE} (h : LJ X F E (v1 :: v2 :: rest) ps) : LE X F E (.JoinedStr (v1 :: v2 :: rest) pos) (qJoin ps) := by
  refine ⟨fun pins s σ H G Γ Q I k q => ?_⟩
  refine thn ((pe_joined h.pj).run pins s σ H (Fin F G σ Q) I ?_) fun _ _ z => z
  have z := js_go (G0 := G) (σ := σ) (Q := fun z Γ1 => Q (.str z) Γ1) (F := F) (E := E) ps Str.empty G H Γ (Inc.refl G) k q
  have mono : ∀ (ts : List TE) (acc : Str) (H : Hp) (Q1 Q2 : Str → Hp → Prop), (∀ t ∈ ts, ∀ σ H (A B : VK), (∀ v h, A v h → B v h) → t σ H A → t σ H B) → (∀ x h, Q1 x h → Q2 x h) → tJs ts acc σ H Q1 → tJs ts acc σ H Q2 := by
    intro ts
    induction ts with
    | nil => intro acc H Q1 Q2 _ h q; exact h _ _ q
    | cons t ts ih =>
      intro acc H Q1 Q2 hm h q
      exact hm t (List.mem_cons_self ..) σ H _ _ (fun v h' ⟨y, e, l, r⟩ => ⟨y, e, l, ih _ _ _ _ (fun t ht => hm t (List.mem_cons_of_mem _ ht)) h r⟩) q
  refine mono _ _ _ _ _ (fun t ht σ H A B hab q => ?_) (fun x h ⟨Γ', G', q, i, k'⟩ => ⟨.str x, Γ', G', q, i, k', rfl⟩) z
  obtain ⟨p, _, rfl⟩ := List.mem_map.mp ht
  obtain ⟨G, Γ, Q', k, q, i⟩ := q
  exact ⟨G, Γ, Q', k, q, fun w H' z => hab _ _ (i w H' z)⟩
end
end Q

set_option Elab.async false
set_option linter.all false
set_option maxRecDepth 100000
set_option maxHeartbeats 4000000
namespace Q
open PySem L2 PySem.Spec PyProof.Rows He PySem.W
/-! ## 34. Classmethods; a class that a name stands for -/
section
variable {X : Cx} {F : Fx} {E : XP} {a o : Expr} {es : List Expr} {kws : List Keyword} {ks : List Str} {pa : QE} {pr : QA} {ph : QH} {pos p0 apos : Pos}
/-- the arguments of a call of a bound method at q -/
structure LM (X : Cx) (F : Fx) (E : XP) (args : List Expr) (kws : List Keyword) (ks : List Str) (p : QH) : Prop where
  run : ∀ (pos : Pos) (q g C : Addr) (pins : List (Addr × Obj)) (s : Shared) (σ : St) (H G : Hp) (Γ : Env) (Q : List Hd → Env → Prop) (R : Value → Shared → Prop), PySem.W.fnIn X.K g = true → X.base.get? q = none → Inv X ((q, PySem.W.methodObj (.ref g) (.ref C)) :: pins) σ H s → Ok F G H σ Γ → p Γ Q E →
    (∀ us ws vs zs s' H' hs Γ' G', Inv X ((q, PySem.W.methodObj (.ref g) (.ref C)) :: pins) σ H' s' → Vals vs us → Vals zs ws → zs.length = ks.length → Q hs Γ' → Inc G G' → Ok F G' H' σ Γ' → HdsOk F G' σ hs (vs ++ zs) → wpAny (model X.prog X.w) X.A (call (.ref q) us (ks.zip ws)) R X.xe s') →
    wpAny (model X.prog X.w) X.A (callWith pos (.ref q) [] (backTo pos (starEach args X.env)) (backToKw pos (keywordEach kws X.env))) R X.xe s
theorem lm_p (ha : LH X F E (a :: es) ph) (he : starEach (a :: es) X.env = (false, eval a X.env) :: starEach es X.env := by rfl) (hpl : ∀ pos, (backTo pos (starEach es X.env)).any (·.1) = false := by intro _; rfl) : LM X F E (a :: es) [] [] ph := ⟨fun pos q g C pins s σ H G Γ Q R hf hb I k h c => by
  refine ClX.callwith_cm I hb hf (thn (ha.run pos _ s σ H G Γ _ I k h) fun us s1 ⟨vs, H1, I1, r, hs, Γ1, G1, q1, i1, k1, hh⟩ => ⟨⟨ClX.pin_at I1, I1.kIn⟩, ?_⟩) he (hpl pos)
  exact c us [] vs [] s1 H1 hs Γ1 G1 I1 r .nil rfl q1 i1 k1 (by rw [List.append_nil]; exact hh)⟩
theorem lm_k (hr : LK X F E kws pr) (hall : ∀ pos, (backToKw pos (keywordEach kws X.env)).all (·.1.isSome) = true := by intro _; rfl) (hks : ∀ pos, (backToKw pos (keywordEach kws X.env)).filterMap (·.1) = ks := by intro _; rfl)
    (hpl : ∀ pos, ((backTo pos (starEach [] X.env)).any (·.1) || (backToKw pos (keywordEach kws X.env)).any (·.1.isNone)) = false := by intro _; rfl) (hn : ∀ Γ Q E, pr Γ Q E → pr Γ (fun ds Γ' => ds.length = ks.length ∧ Q ds Γ') E) : LM X F E [] kws ks (qHK qhNil pr) := ⟨fun pos q g C pins s σ H G Γ Q R hf hb I k h c => by
  refine PySem.W.callWith_of (P := PySem.W.MethP X.K q g (.ref C)) (hpl pos) (PySem.W.keeps_M hf) (evalArgs_kw2_nil (hall pos) ?_)
  refine thn (hr.run pos _ s σ H G Γ _ I k (hn _ _ _ h)) fun ws s1 ⟨zs, H1, I1, r, ds, Γ1, G1, ⟨l, q1⟩, i1, k1, rp⟩ => ⟨⟨ClX.pin_at I1, I1.kIn⟩, ?_⟩
  rw [hks pos]
  exact c [] ws [] zs s1 H1 _ Γ1 G1 I1 .nil r (by rw [rp.len, l]) q1 i1 k1 (hds_vals rp)⟩
def qrCls (c : Cn) : QR := fun Γ Q _ => Q (.val (.cls c)) Γ
theorem le_cm {c : Ct} {cn : Cn} {m x : Str} {p g : Addr} {mc : Value} {n : Nat} {args : List Expr} {px : Pos} {pl : Sem Bool} (C : CodeOk X X.A F.toCf g (n + 1) ks c) (hm : X.mg x = some (.ref (F.cl cn))) (R : ClX.CRead X.K (F.cl cn) mc) (M : ClX.CMet X.K (F.cl cn) mc m p g) (tk : Takes X (wOf F E)) (ha : LM X F E args kws ks ph) (hg : Gl X x := by rfl)
    (hdb : (x == ("__debug__" : Str)) = false := by decide)
    (ht : eval (.Call (.Attribute (.Name x px) m apos) args kws pos) X.env = (do
      let ov ← eval (.Name x px) X.env
      standAt apos.atName
      let (f, first) ← holding [ov] (getMethod ov m pl)
      callWith pos f first (backTo pos (starEach args X.env)) (backToKw pos (keywordEach kws X.env))) := by rfl) : LE X F E (.Call (.Attribute (.Name x px) m apos) args kws pos) (qMeth c (qrCls cn) ph) := by
  refine ⟨fun pins s σ H G Γ Q I k h => ?_⟩
  refine PySem.W.methodCall_KW (pl := pl) (ld_glob I hg hm ?_ hdb) ht
  refine ClX.getmethcm_ok I R M fun s2 I2 => ?_
  refine ha.run pos _ _ _ pins s2 σ H G Γ _ _ M.fi (ClX.base_none I (Nat.le_refl _)) I2 k h fun us ws vs zs s' H' hs Γ' G' I' r rz l q i k' hh => ?_
  have hl := call_len (hs := .val (.cls cn) :: hs) C.len q
  have hv := hds_len hh
  rw [List.length_append] at hv
  rw [List.length_cons] at hl
  have hh' : HdsOk F G' σ (.val (.cls cn) :: hs) ((.ref (F.cl cn) :: vs) ++ zs) := ⟨.ref (F.cl cn), vs ++ zs, rfl, rfl, hh⟩
  have z : wpAny (model X.prog X.w) X.A (call (.ref s.heap.objs.size) us (ks.zip ws)) (EP X ((s.heap.objs.size, PySem.W.methodObj (.ref g) (.ref (F.cl cn))) :: pins) σ (Fin F G' σ Q)) X.xe s' :=
    back_call (PySem.W.method_call (ClX.pin_at I') (C.run _ s' σ H' (.ref (F.cl cn) :: vs) (.ref (F.cl cn) :: us) zs ws _ _ tk I' (.cons rfl r) rz (by rw [List.length_cons]; omega) l (sp_call k' hh' q)))
  exact thn z fun u s2 y => ep_inc i (ClX.unpinE y)
/-- cls(..): the name stands for a class -/
def qCallV (j : Nat) (cn : Cn) (c : Ct) (p : QH) : QE := fun Γ Q E => match Γ[j]? with
  | some (.val (.cls c')) => match Nat.beq c'.ix cn.ix with
    | true => qCall c p Γ Q E
    | false => False
  | _ => False
theorem le_callV (j : Nat) {c : Ct} {cn : Cn} {n : Nat} {x : Str} {args : List Expr} (C : CodeOk X X.A F.toCf (F.cl cn) n ks c) (hk : PySem.W.keepIn X.K (.ref (F.cl cn)) = true) (tk : Takes X (wOf F E)) (ha : LC X F E args kws ks ph) (hN : X.N[j]? = some x := by rfl) (hv : Vis X.env.scope x := by first | exact Or.inl rfl | exact Or.inr (Or.inl rfl) | exact Or.inr (Or.inr rfl))
    (hd : (x == ("__debug__" : Str)) = false := by decide) (hcd : (x == ("__classdict__" : Str)) = false := by decide) : LE X F E (.Call (.Name x p0) args kws pos) (qCallV j cn c ph) := by
  refine ⟨fun pins s σ H G Γ Q I k h => ?_⟩
  unfold qCallV at h
  split at h
  case h_2 => exact h.elim
  rename_i c' ej
  split at h
  case h_2 => exact h.elim
  rename_i hc
  have e := ix_inj hc
  subst e
  obtain ⟨v, hs, rv⟩ := k.rep ej
  cases (show v = .ref (F.cl c') from rv)
  refine wpAny_Call_Name_kw (thn ((pe_var (X := X) (pos := p0) hN hv hd hcd).run pins s σ H (fun v H1 => v = .ref (F.cl c') ∧ H1 = H) I ⟨.ref (F.cl c'), hs, rfl, rfl⟩) fun u s1 ⟨v, H1, I1, r1, q1⟩ => ?_)
  obtain ⟨rfl, rfl⟩ := q1
  cases r1
  refine ha.run pos _ [] pins s1 σ _ G Γ _ _ hk I1 k h fun us ws vs zs s' H' hs Γ' G' I' r rz l q i k' hh => ?_
  have hl := call_len C.len q
  have hv := hds_len hh
  rw [List.length_append] at hv
  exact thn (back_call (C.run pins s' σ H' vs us zs ws _ _ tk I' r rz (by omega) l (sp_call k' hh q))) fun u s2 z => ep_inc i z
end
/-! ### in the head -/
open He5 (DefA fnA wf wrapB cmet_of)
abbrev pCr (c : Cn) (K : Frag) : Prop := readsIn K (ga K (cname c)) (.type "type") = true ∧ specialIn K (.ref (ga K (cname c))) "__getattribute__" = some (some (.builtin "type.__getattribute__"))
theorem pCr_ok {c : Cn} {K : Frag} (h : pCr c K) : ClX.CRead K ((cf K).cl c) (.type "type") := ⟨h.1, h.2⟩
abbrev pCm (c : Cn) (m : Str) (K : Frag) : Prop := wrapB K (ga K (cname c)) "classmethod" "classmethod.__get__" m = true ∧ fnIn K (wf K (ga K (cname c)) "classmethod" m) = true
theorem pCm_ok {c : Cn} {m : Str} {K : Frag} (h : pCm c m K) : ClX.CMet K ((cf K).cl c) (.type "type") m (ma K (ga K (cname c)) m) (wf K (ga K (cname c)) "classmethod" m) := cmet_of h.1 h.2
end Q

set_option Elab.async false
set_option linter.all false
set_option maxRecDepth 100000
set_option maxHeartbeats 4000000
namespace Q
/-! ## 35. Errors as data: made (by position, by keyword), kept, read, asked for their class -/
section
open PySem PySem.Spec PySem.HandSPX
section
variable {M : Model} {A : Around} {E : Value → Shared → Prop} {h : Heap} {g : Array GenState} {d : Drawn} {t : Nat} {os : OsState}
variable {nm q : Str} {C N : Addr} {bs bm bmB : List Value} {hdct : Bool} {sn : List Str} {sub : List Value} {ab : Bool} {col : Option Bool} {dd : Option Addr} {k0 k1 k2 k3 k5 : Option Value} {B newId initId : String}
/-- the check ahead of __new__, with one keyword -/
theorem chk_new_kw (F : ExcBaseFacts B newId initId bmB) (hT : ∀ X : String, bm.contains (.type X) = bmB.contains (.type X)) {kn : Str} {kv : Value} {Q : Unit → Shared → Prop}
    (hC : h.get? C = some (excClassObj nm q C N bs bm hdct sn sub ab col dd k0 k1 k2 k3 k5 newId)) (hq : Q () ⟨h, g, d, t, os⟩) : wpAny M A (checkBuiltinCall newId ⟨[.ref C], [(kn, kv)]⟩) Q E ⟨h, g, d, t, os⟩ := by
  have c1 : (Value.ref C :: bm).contains (.type B) = true := by rw [List.contains_cons, hT, F.hasB, Bool.or_true]
  have c2 := F.noStar
  simp only [checkBuiltinCall, F.newKind, F.newSplit, F.newRow]
  repeat (first | refine wpAny_loadPart_at hC ?_ | (refine wpAny_isSubtype_exc hC ?_; rw [c1]) | refine wpAny_staticBase_exc hC ?_ | refine wpAny_madeBy_exc hC ?_ | simp only [bne_self_eq_false, Bool.false_eq_true, if_false] | wp_step)
  exact hq
end
section
variable {prog : Program} {w : World} {A : Around} {E : Value → Shared → Prop} {R : Result → Shared → Prop} {h : Heap} {g : Array GenState} {d : Drawn} {t : Nat} {os : OsState}
variable {nm q : Str} {C N : Addr} {bs bm bmB : List Value} {hdct : Bool} {sn : List Str} {sub : List Value} {ab : Bool} {col : Option Bool} {dd : Option Addr} {k0 k1 k2 k3 k5 : Option Value} {B newId initId : String} {kn : Str} {kv : Value}
theorem new_kw (F : ExcBaseFacts B newId initId bmB) (hT : ∀ X : String, bm.contains (.type X) = bmB.contains (.type X))
    (hC : h.get? C = some (excClassObj nm q C N bs bm hdct sn sub ab col dd k0 k1 k2 k3 k5 newId))
    (hq : R (.ok (.ret (.ref (h.objs.size + 1)))) ⟨(h.push (W.kdv_tup [])).push (excO C h.objs.size), g, d, t, os⟩) :
    codeAny (model prog w) A (.builtin newId ⟨[.ref C], [(kn, kv)]⟩) R ⟨h, g, d, t, os⟩ := by
  have c0 := F.ends
  have c1 : (Value.ref C :: bm).contains (.type B) = true := by rw [List.contains_cons, hT, F.hasB, Bool.or_true]
  have c2 : (Value.ref C :: bm).contains (.type "AttributeError") = false := by rw [List.contains_cons, hT, F.noAttr]; rfl
  have c3 : (Value.ref C :: bm).contains (.type "NameError") = false := by rw [List.contains_cons, hT, F.noName]; rfl
  refine codeAny_builtinAt F.entry ?_
  unfold Builtin.«BaseException.__new__»
  refine wpAt_bind ?_
  show wpAt _ _ _ (stack >>= _) _ _ _
  refine wpAt_bind (wpAt_stack fun p below => wpAt_of_wpAny ?_)
  wp_walk
  refine wpAt_of_wpAny ?_
  rw [F.owner]
  repeat (first | with_reducible refine wpAny_madeHere_exc F.canon hC ?_ | with_reducible refine wpAny_loadPart_at hC ?_ | (with_reducible refine wpAny_isSubtype_exc hC ?_; first | rw [c1] | rw [c2] | rw [c3]) | wp_step)
  show R _ _
  rw [Heap.size_push]
  exact hq
theorem tcall_kw (F : ExcBaseFacts B newId initId bmB) (hT : ∀ X : String, bm.contains (.type X) = bmB.contains (.type X)) {fI : Addr} {Q : PySem.Fin → Shared → Prop}
    (hC : h.get? C = some (excClassObj nm q C N bs bm hdct sn sub ab col dd k0 k1 k2 k3 k5 newId))
    (hi : W.Looks (model prog w) h (typeLookup (.ref C) "__init__") (some (.ref fI))) (hb : ∀ self, W.Looks (model prog w) h (bindSpecial (.ref fI) self) (.ref fI, [self]))
    (hq : codeAny (model prog w) A (.call (.ref fI) ⟨[.ref (h.objs.size + 1)], [(kn, kv)]⟩)
      (fun r s' => match r with | .ok (.ret v) => v = .none ∧ Q (.done (.ret (.ref (h.objs.size + 1)))) s' | .ok _ => False | .error e => E e s')
      ⟨(h.push (W.kdv_tup [])).push (excO C h.objs.size), g, d, t, os⟩) :
    wpAny (model prog w) A (Builtin.«type.__call__» ⟨[.ref C], [(kn, kv)]⟩) Q E ⟨h, g, d, t, os⟩ := by
  repeat (first | with_reducible refine wpAny_loadPart_at hC ?_ | with_reducible refine wpAny_madeBy_exc hC ?_ | wp_step)
  refine codeAny_call_builtin_code (Code.quiet_builtin _ F.quiet) (chk_new_kw F hT hC ?_)
  refine new_kw F hT hC ?_
  show wpAny _ _ _ _ _ _
  have k : ∀ b o, h.get? b = some o → ((h.push (W.kdv_tup [])).push (excO C h.objs.size)).get? b = some o := fun b o e => Heap.get?_push_of_some _ (Heap.get?_push_of_some _ e)
  have hC2 := k _ _ hC
  have hget : ((h.push (W.kdv_tup [])).push (excO C h.objs.size)).get? (h.objs.size + 1) = some (excO C h.objs.size) := by heap_get
  have cC : (Value.ref C :: bm).contains (.ref C) = true := by simp
  have i1 := hi.keeps k
  have b1 := (hb (.ref (h.objs.size + 1))).keeps k
  unfold isInstance
  repeat (first | with_reducible refine wpAny_loadPart_at hget ?_ | (with_reducible refine wpAny_isSubtype_exc hC2 ?_; rw [cC]) | wp_step)
  show wpAny _ _ (typeLookup (.ref C) _) _ _ _
  refine i1.at ?_
  refine wpAny_holding (wpAny_bind (b1.at ?_))
  refine wpAny_bind (wpAny_call (codeAny_mono hq fun r s' z => ?_))
  rcases r with e | (v | _ | _ | _) <;> first | exact z | exact z.elim | skip
  obtain ⟨rfl, z⟩ := z
  first
    | exact wpAny_pure (wpAny_pure z)
    | (wp_walk; exact z)
theorem chk_type_kw {M : Model} {Q : Unit → Shared → Prop} (hC : h.get? C = some (excClassObj nm q C N bs bm hdct sn sub ab col dd k0 k1 k2 k3 k5 newId))
    (hq : Q () ⟨h, g, d, t, os⟩) : wpAny M A (checkBuiltinCall "type.__call__" ⟨[.ref C], [(kn, kv)]⟩) Q E ⟨h, g, d, t, os⟩ := by
  have f3 := tc_sub
  have ty : (⟨h, g, d, t, os⟩ : Shared).TypeIs (.ref C) "type" := ⟨_, hC, rfl⟩
  simp only [checkBuiltinCall, tc_kind, tc_split]
  repeat (any_goals (first | assumption | with_reducible refine wpAny_loadPart_at hC ?_ | with_reducible refine wpAny_onRaise ?_ | with_reducible refine wpAny_map ?_ | wp_step))
theorem call_kw (F : ExcBaseFacts B newId initId bmB) (hT : ∀ X : String, bm.contains (.type X) = bmB.contains (.type X)) {fI : Addr}
    (hC : h.get? C = some (excClassObj nm q C N bs bm hdct sn sub ab col dd k0 k1 k2 k3 k5 newId))
    (hi : W.Looks (model prog w) h (typeLookup (.ref C) "__init__") (some (.ref fI))) (hb : ∀ self, W.Looks (model prog w) h (bindSpecial (.ref fI) self) (.ref fI, [self]))
    (hq : codeAny (model prog w) (A.under (.builtin "type.__call__" ⟨[.ref C], [(kn, kv)]⟩)) (.call (.ref fI) ⟨[.ref (h.objs.size + 1)], [(kn, kv)]⟩) (W.InitBack (h.objs.size + 1) R)
      ⟨(h.push (W.kdv_tup [])).push (excO C h.objs.size), g, d, t, os⟩) :
    codeAny (model prog w) A (.call (.ref C) ⟨[], [(kn, kv)]⟩) R ⟨h, g, d, t, os⟩ := by
  have f1 := tc_lookup
  have f2 := tc_bind (.ref C)
  have hTy : (⟨h, g, d, t, os⟩ : Shared).TypeIs (.ref C) "type" := ⟨_, hC, rfl⟩
  refine codeAny_of_tree ?_
  show wpAny _ _ (callAny (.ref C) _) _ _ _
  repeat (any_goals (first | assumption | with_reducible refine wpAny_loadPart_at hC ?_ | wp_step))
  refine ⟨rfl, ?_⟩
  refine codeAny_call_builtin_at (Code.quiet_builtin _ (by decide +kernel)) entry_typeCall (chk_type_kw hC (tcall_kw F hT hC hi hb ?_))
  refine codeAny_mono hq fun r s' z => ?_
  rcases r with e | (v | _ | _ | _) <;> exact z
end
end
open PySem L2 PySem.Spec PyProof.Rows
section
variable {X : Cx} {F : Fx} {E : XP} {p pos : Pos}
def qErr0 (c : Cn) : QE := fun Γ Q _ => Q (.err c []) Γ
theorem le_err0 {c : Cn} {x : Str} {f : Addr} {fd : FuncData} {ps : List Str} {k : Nat} (T : Er0 X.prog X.w F.toCf X.mg X.base c f fd ps) (hK : F.K = X.K) (hr : Room (k + 2) X.A) (tk : Takes X (wOf F E)) (hm : X.mg x = some (.ref (F.cl c))) (hg : Gl X x := by rfl) (hdb : (x == ("__debug__" : Str)) = false := by decide) :
    LE X F E (.Call (.Name x p) [] [] pos) (qErr0 c) := by
  refine ⟨fun pins s σ H G Γ Q I k0 h => ?_⟩
  have T1 : OexC X.K (F.cl c) := hK ▸ T.o
  have iC : PySem.W.findIn X.K (.ref (F.cl c)) "__init__" = some (some (.ref f)) := hK ▸ T.i
  have tI : PySem.W.typeIn X.K (.ref f) = some (.type "function") := hK ▸ T.t
  have F1 : FnOk X.prog X.w X.K X.mg X.base (L2.CX X.prog X.w) 1 f fd ps (spE0 (F.cl c)) := hK ▸ T.fn
  have hb : Binds X.K fd ps [] := hK ▸ T.b
  have hr1 : Room (1 + 1) X.A := hr.mono (by omega)
  obtain ⟨nm, q, N, bs, bm, sn, sub, ab, col, dd, k0', k1, k2, k3, k5, hC, hbm⟩ := T1.cls
  refine wpAny_Call_Name_kw (ld_glob I hg hm ?_ hdb)
  refine PySem.W.callWith_K0 I.kIn T1.kC ?_
  show wpAny _ _ (call (.ref (F.cl c)) []) _ _ _
  obtain ⟨hp, g, dr, tks, os⟩ := s
  have hsz : hp.objs.size ≤ hp.objs.size + 1 := Nat.le_succ _
  have hn : H (hp.objs.size + 1) = none := I.hok.fresh hsz
  have hq : spE0 (F.cl c) [.ref (hp.objs.size + 1)] (upd H (hp.objs.size + 1) (exo (hp.objs.size + 1) (F.cl c) none)) (fun v H2 => v = .non ∧ H2 = upd H (hp.objs.size + 1) (exo (hp.objs.size + 1) (F.cl c) none)) (fun _ _ _ => False) := ⟨_, rfl, upd_same, rfl, rfl⟩
  have kk : ∀ b o, hp.get? b = some o → ((hp.push (PySem.W.kdv_tup [])).push (PySem.HandSPX.excO (F.cl c) hp.objs.size)).get? b = some o := fun b o e => Heap.get?_push_of_some _ (Heap.get?_push_of_some _ e)
  have hget : ((hp.push (PySem.W.kdv_tup [])).push (PySem.HandSPX.excO (F.cl c) hp.objs.size)).get? (hp.objs.size + 1) = some (PySem.HandSPX.excO (F.cl c) hp.objs.size) := by heap_get
  have I2 : Inv X pins σ (upd H (hp.objs.size + 1) (exo (hp.objs.size + 1) (F.cl c) none)) ⟨(hp.push (PySem.W.kdv_tup [])).push (PySem.HandSPX.excO (F.cl c) hp.objs.size), g, dr, tks, os⟩ :=
    I.laid (t' := tks) (a := hp.objs.size + 1) (o := exo (hp.objs.size + 1) (F.cl c) none) (h' := (hp.push (PySem.W.kdv_tup [])).push (PySem.HandSPX.excO (F.cl c) hp.objs.size)) kk hsz (exo_ok hget)
  have r2 : Vals [V.ref (hp.objs.size + 1)] [Value.ref (hp.objs.size + 1)] := .cons rfl .nil
  have hl : ([Value.ref (hp.objs.size + 1)] ++ []).length = ps.length := by
    have e := r2.length
    rw [F1.len _ _ _ _ hq] at e
    exact e.symm
  refine wpAny_call (PySem.HandSPX.call_own PySem.F.excBase_ValueError (fun Y => PySem.HandSPX.refsVE_contains Y bm hbm) (I.kIn _ _ hC) (PySem.W.looks_findIn I.kIn iC) (fun self => PySem.W.bind_fn I.kIn self tI) (Nat.zero_le _)
    (codeAny_mono (F1.run _ X.stack _ _ ⟨[Value.ref (hp.objs.size + 1)], []⟩ [Value.ref (hp.objs.size + 1)] _ _ (fun _ _ _ => False) (hr1.make (F.cl c) [] []) (I2.env0.make (F.cl c) [] []) (hb _ [Value.ref (hp.objs.size + 1)] I2.kIn hl) r2 hq) fun r s' hq' => ?_))
  cases r with
  | error er => exact pass0 tk pins σ _ _ er s' I2 hq'
  | ok fl =>
    cases fl with
    | ret u =>
      obtain ⟨v, H2, I', rv, ev, eH⟩ := I2.after hq'
      subst ev
      subst eH
      have rn := Inc.new (o := exo (hp.objs.size + 1) (F.cl c) none) (k0.sub.no hn)
      exact ⟨rv, .ref (hp.objs.size + 1), _, I', rfl, .err c [], Γ, upd G (hp.objs.size + 1) (exo (hp.objs.size + 1) (F.cl c) none), h, rn, k0.new hn _, _, rfl, .inl ⟨rfl, upd_same⟩⟩
    | next => exact False.elim hq'
    | brk => exact False.elim hq'
    | cont => exact False.elim hq'
variable {a : Expr} {pa : QE}
def qErr1 (c : Cn) (pa : QE) : QE := fun Γ Q E => pa Γ (fun d Γ1 => Q (.err c [d]) Γ1) E
theorem le_err1 {c : Cn} {x gf : Str} {f : Addr} {fd : FuncData} {ps : List Str} {k : Nat} (T : Er1 X.prog X.w F.toCf X.mg X.base c gf f fd ps) (hK : F.K = X.K) (hr : Room (k + 2) X.A) (tk : Takes X (wOf F E)) (ha : LE X F E a pa) (hm : X.mg x = some (.ref (F.cl c))) (hg : Gl X x := by rfl) (hdb : (x == ("__debug__" : Str)) = false := by decide)
    (he : starEach [a] X.env = (false, eval a X.env) :: starEach [] X.env := by rfl) (hpl : (backTo pos (starEach [] X.env)).any (·.1) = false := by rfl) :
    LE X F E (.Call (.Name x p) [a] [] pos) (qErr1 c pa) := by
  refine ⟨fun pins s σ H G Γ Q I k0 h => ?_⟩
  have T1 : OexC X.K (F.cl c) := hK ▸ T.o
  have iC : PySem.W.findIn X.K (.ref (F.cl c)) "__init__" = some (some (.ref f)) := hK ▸ T.i
  have tI : PySem.W.typeIn X.K (.ref f) = some (.type "function") := hK ▸ T.t
  have F1 : FnOk X.prog X.w X.K X.mg X.base (L2.CX X.prog X.w) 1 f fd ps (spE1 (F.cl c) gf) := hK ▸ T.fn
  have hb : Binds X.K fd ps [] := hK ▸ T.b
  have hr1 : Room (1 + 1) X.A := hr.mono (by omega)
  obtain ⟨nm, q, N, bs, bm, sn, sub, ab, col, dd, k0', k1, k2, k3, k5, hC, hbm⟩ := T1.cls
  refine wpAny_Call_Name_kw (ld_glob I hg hm ?_ hdb)
  refine PySem.W.callWith_K (h₀ := X.base) I.ok.mod.kin T1.kC (thn ((pa_cons ha.pe pa_nil he).run pos pins s σ H (fun vs H1 => ∃ y, vs = [y] ∧ Fin F G σ (fun d Γ1 => Q (.err c [d]) Γ1) y H1) I ⟨G, Γ, _, k0, h, fun w H' z => ⟨w, rfl, z⟩⟩) fun us s1 ⟨vs, H1, I1, r1, y, ey, d, Γ1, G1, q1, i1, k1', rp⟩ => ⟨I1.kIn, ?_⟩) he hpl
  subst ey
  show wpAny _ _ (call (.ref (F.cl c)) us) _ _ _
  obtain ⟨hp, g, dr, tks, os⟩ := s1
  have hsz : hp.objs.size ≤ hp.objs.size + 1 := Nat.le_succ _
  have hn : H1 (hp.objs.size + 1) = none := I1.hok.fresh hsz
  have hq : spE1 (F.cl c) gf [.ref (hp.objs.size + 1), y] (upd H1 (hp.objs.size + 1) (exo (hp.objs.size + 1) (F.cl c) none)) (fun v H2 => v = .non ∧ ∃ dx, H1 dx = none ∧ dx ≠ hp.objs.size + 1 ∧ H2 = upd (upd H1 dx (exd dx [(gf, y)])) (hp.objs.size + 1) (exo (hp.objs.size + 1) (F.cl c) (some dx))) (fun _ _ _ => False) := by
    refine ⟨_, y, rfl, upd_same, fun dx hdx ne => ⟨rfl, dx, ?_, ne, ?_⟩⟩
    · rw [upd_ne ne] at hdx
      exact hdx
    · funext b
      by_cases h1 : b = hp.objs.size + 1
      · subst h1
        rw [upd_same, upd_same]
      · rw [upd_ne h1, upd_ne h1]
        by_cases h2 : b = dx
        · subst h2
          rw [upd_same, upd_same]
        · rw [upd_ne h2, upd_ne h2, upd_ne h1]
  have kk : ∀ b o, hp.get? b = some o → ((hp.push (PySem.W.kdv_tup us)).push (PySem.HandSPX.excO (F.cl c) hp.objs.size)).get? b = some o := fun b o e => Heap.get?_push_of_some _ (Heap.get?_push_of_some _ e)
  have hget : ((hp.push (PySem.W.kdv_tup us)).push (PySem.HandSPX.excO (F.cl c) hp.objs.size)).get? (hp.objs.size + 1) = some (PySem.HandSPX.excO (F.cl c) hp.objs.size) := by heap_get
  have I2 : Inv X pins σ (upd H1 (hp.objs.size + 1) (exo (hp.objs.size + 1) (F.cl c) none)) ⟨(hp.push (PySem.W.kdv_tup us)).push (PySem.HandSPX.excO (F.cl c) hp.objs.size), g, dr, tks, os⟩ :=
    I1.laid (t' := tks) (a := hp.objs.size + 1) (o := exo (hp.objs.size + 1) (F.cl c) none) (h' := (hp.push (PySem.W.kdv_tup us)).push (PySem.HandSPX.excO (F.cl c) hp.objs.size)) kk hsz (exo_ok hget)
  have r2 : Vals (V.ref (hp.objs.size + 1) :: [y]) (Value.ref (hp.objs.size + 1) :: us) := .cons rfl r1
  have hl : (Value.ref (hp.objs.size + 1) :: us ++ []).length = ps.length := by
    have e := r2.length
    rw [F1.len _ _ _ _ hq] at e
    rw [List.append_nil]
    exact e.symm
  have hus : us.length ≤ sizeLine := by
    rw [← Paired.length r1]
    exact szl (Nat.le_of_ble_eq_true rfl)
  refine wpAny_call (PySem.HandSPX.call_own PySem.F.excBase_ValueError (fun Y => PySem.HandSPX.refsVE_contains Y bm hbm) (I1.kIn _ _ hC) (PySem.W.looks_findIn I1.kIn iC) (fun self => PySem.W.bind_fn I1.kIn self tI) hus
    (codeAny_mono (F1.run _ X.stack _ _ ⟨Value.ref (hp.objs.size + 1) :: us, []⟩ (Value.ref (hp.objs.size + 1) :: us) _ _ (fun _ _ _ => False) (hr1.make (F.cl c) us []) (I2.env0.make (F.cl c) us []) (by have z := hb _ (Value.ref (hp.objs.size + 1) :: us) I2.kIn hl; rwa [List.append_nil] at z) r2 hq) fun r s' hq' => ?_))
  cases r with
  | error er => exact pass0 tk pins σ _ _ er s' I2 hq'
  | ok fl =>
    cases fl with
    | ret u =>
      obtain ⟨v, H2, I', rv, ev, dx, hdx, ne, eH⟩ := I2.after hq'
      subst ev
      subst eH
      have ka := k1'.new hdx (exd dx [(gf, y)])
      have hn2 : upd H1 dx (exd dx [(gf, y)]) (hp.objs.size + 1) = none := by rw [upd_ne (Ne.symm ne)]; exact hn
      have kb := ka.new hn2 (exo (hp.objs.size + 1) (F.cl c) (some dx))
      have i2 := (Inc.new (o := exd dx [(gf, y)]) (k1'.sub.no hdx)).trans (Inc.new (o := exo (hp.objs.size + 1) (F.cl c) (some dx)) (ka.sub.no hn2))
      exact ⟨rv, .ref (hp.objs.size + 1), _, I', rfl, .err c [d], Γ1, _, q1, i1.trans i2, kb, _, rfl, .inr ⟨dx, [y], upd_same, by rw [upd_ne ne, upd_same, T.fl]; rfl, y, [], rfl, rp.inc i2, rfl⟩⟩
    | next => exact False.elim hq'
    | brk => exact False.elim hq'
    | cont => exact False.elim hq'
/-- C(f=x) -/
theorem le_errK {c : Cn} {x gf : Str} {f : Addr} {fd : FuncData} {ps : List Str} {k : Nat} {kp : Pos} (T : Er1 X.prog X.w F.toCf X.mg X.base c gf f fd ps) (hbk : ∀ (s : Shared) (us ws : List Value), F.K.In s.heap → us.length = 1 → ws.length = 1 → BindsTo s fd ⟨us, [gf].zip ws⟩ (ps.zip (us ++ ws))) (hK : F.K = X.K) (hr : Room (k + 2) X.A) (tk : Takes X (wOf F E)) (ha : LE X F E a pa) (hm : X.mg x = some (.ref (F.cl c))) (hg : Gl X x := by rfl) (hdb : (x == ("__debug__" : Str)) = false := by decide)
    (hall : (backToKw pos (keywordEach [⟨some gf, a, kp⟩] X.env)).all (·.1.isSome) = true := by rfl) (hks : (backToKw pos (keywordEach [⟨some gf, a, kp⟩] X.env)).filterMap (·.1) = [gf] := by rfl)
    (hpl : ((backTo pos (starEach [] X.env)).any (·.1) || (backToKw pos (keywordEach [⟨some gf, a, kp⟩] X.env)).any (·.1.isNone)) = false := by rfl) :
    LE X F E (.Call (.Name x p) [] [⟨some gf, a, kp⟩] pos) (qErr1 c pa) := by
  refine ⟨fun pins s σ H G Γ Q I k0 h => ?_⟩
  have T1 : OexC X.K (F.cl c) := hK ▸ T.o
  have iC : PySem.W.findIn X.K (.ref (F.cl c)) "__init__" = some (some (.ref f)) := hK ▸ T.i
  have tI : PySem.W.typeIn X.K (.ref f) = some (.type "function") := hK ▸ T.t
  have F1 : FnOk X.prog X.w X.K X.mg X.base (L2.CX X.prog X.w) 1 f fd ps (spE1 (F.cl c) gf) := hK ▸ T.fn
  have hr1 : Room (1 + 1) X.A := hr.mono (by omega)
  obtain ⟨nm, q, N, bs, bm, sn, sub, ab, col, dd, k0', k1, k2, k3, k5, hC, hbm⟩ := T1.cls
  refine wpAny_Call_Name_kw (ld_glob I hg hm ?_ hdb)
  refine PySem.W.callWith_KW0 (h₀ := X.base) I.ok.mod.kin T1.kC hall ?_ hpl
  refine thn ((lk_cons (nm := some gf) (kpos := kp) ha lk_nil).run pos pins s σ H G Γ (fun ds Γ1 => match ds with | [d] => Q (.err c [d]) Γ1 | _ => False) I k0 h) fun ws s1 ⟨zs, H1, I1, r1, ds, Γ1, G1, q0, i1, k1', rps⟩ => ⟨I1.kIn, ?_⟩
  obtain ⟨d, ed, q1⟩ : ∃ d, ds = [d] ∧ Q (.err c [d]) Γ1 := by
    match ds, q0 with
    | [d], q0 => exact ⟨d, rfl, q0⟩
  subst ed
  obtain ⟨y, zs', ezs, rp, ez2⟩ := rps
  cases (show zs' = [] from ez2)
  subst ezs
  obtain ⟨kv, ew, rk⟩ := vals1 r1
  subst ew
  rw [hks]
  show wpAny _ _ (call (.ref (F.cl c)) [] [(gf, kv)]) _ _ _
  obtain ⟨hp, g, dr, tks, os⟩ := s1
  have hsz : hp.objs.size ≤ hp.objs.size + 1 := Nat.le_succ _
  have hn : H1 (hp.objs.size + 1) = none := I1.hok.fresh hsz
  have hq : spE1 (F.cl c) gf [.ref (hp.objs.size + 1), y] (upd H1 (hp.objs.size + 1) (exo (hp.objs.size + 1) (F.cl c) none)) (fun v H2 => v = .non ∧ ∃ dx, H1 dx = none ∧ dx ≠ hp.objs.size + 1 ∧ H2 = upd (upd H1 dx (exd dx [(gf, y)])) (hp.objs.size + 1) (exo (hp.objs.size + 1) (F.cl c) (some dx))) (fun _ _ _ => False) := by
    refine ⟨_, y, rfl, upd_same, fun dx hdx ne => ⟨rfl, dx, ?_, ne, ?_⟩⟩
    · rw [upd_ne ne] at hdx
      exact hdx
    · funext b
      by_cases h1 : b = hp.objs.size + 1
      · subst h1
        rw [upd_same, upd_same]
      · rw [upd_ne h1, upd_ne h1]
        by_cases h2 : b = dx
        · subst h2
          rw [upd_same, upd_same]
        · rw [upd_ne h2, upd_ne h2, upd_ne h1]
  have kk : ∀ b o, hp.get? b = some o → ((hp.push (PySem.W.kdv_tup [])).push (PySem.HandSPX.excO (F.cl c) hp.objs.size)).get? b = some o := fun b o e => Heap.get?_push_of_some _ (Heap.get?_push_of_some _ e)
  have hget : ((hp.push (PySem.W.kdv_tup [])).push (PySem.HandSPX.excO (F.cl c) hp.objs.size)).get? (hp.objs.size + 1) = some (PySem.HandSPX.excO (F.cl c) hp.objs.size) := by heap_get
  have I2 : Inv X pins σ (upd H1 (hp.objs.size + 1) (exo (hp.objs.size + 1) (F.cl c) none)) ⟨(hp.push (PySem.W.kdv_tup [])).push (PySem.HandSPX.excO (F.cl c) hp.objs.size), g, dr, tks, os⟩ :=
    I1.laid (t' := tks) (a := hp.objs.size + 1) (o := exo (hp.objs.size + 1) (F.cl c) none) (h' := (hp.push (PySem.W.kdv_tup [])).push (PySem.HandSPX.excO (F.cl c) hp.objs.size)) kk hsz (exo_ok hget)
  have r2 : Vals (V.ref (hp.objs.size + 1) :: [y]) (Value.ref (hp.objs.size + 1) :: [kv]) := .cons rfl r1
  refine wpAny_call (call_kw PySem.F.excBase_ValueError (fun Y => PySem.HandSPX.refsVE_contains Y bm hbm) (I1.kIn _ _ hC) (PySem.W.looks_findIn I1.kIn iC) (fun self => PySem.W.bind_fn I1.kIn self tI)
    (codeAny_mono (F1.run _ X.stack _ _ ⟨[Value.ref (hp.objs.size + 1)], [(gf, kv)]⟩ (Value.ref (hp.objs.size + 1) :: [kv]) _ _ (fun _ _ _ => False) (hr1.make (F.cl c) [] [(gf, kv)]) (I2.env0.make (F.cl c) [] [(gf, kv)]) (hbk _ [Value.ref (hp.objs.size + 1)] [kv] (hK ▸ I2.kIn) rfl rfl) r2 hq) fun r s' hq' => ?_))
  cases r with
  | error er => exact pass0 tk pins σ _ _ er s' I2 hq'
  | ok fl =>
    cases fl with
    | ret u =>
      obtain ⟨v, H2, I', rv, ev, dx, hdx, ne, eH⟩ := I2.after hq'
      subst ev
      subst eH
      have ka := k1'.new hdx (exd dx [(gf, y)])
      have hn2 : upd H1 dx (exd dx [(gf, y)]) (hp.objs.size + 1) = none := by rw [upd_ne (Ne.symm ne)]; exact hn
      have kb := ka.new hn2 (exo (hp.objs.size + 1) (F.cl c) (some dx))
      have i2 := (Inc.new (o := exd dx [(gf, y)]) (k1'.sub.no hdx)).trans (Inc.new (o := exo (hp.objs.size + 1) (F.cl c) (some dx)) (ka.sub.no hn2))
      exact ⟨rv, .ref (hp.objs.size + 1), _, I', rfl, .err c [d], Γ1, _, q1, i1.trans i2, kb, _, rfl, .inr ⟨dx, [y], upd_same, by rw [upd_ne ne, upd_same, T.fl]; rfl, y, [], rfl, rp.inc i2, rfl⟩⟩
    | next => exact False.elim hq'
    | brk => exact False.elim hq'
    | cont => exact False.elim hq'

/-! ### its field -/
def oErrF (c : Cn) (n : Nat) : O1 := fun d Γ Q _ => match d with
  | .err c' fs => match Nat.beq c'.ix c.ix, fs[n]? with
    | true, some z => Q z Γ
    | _, _ => False
  | _ => False
theorem le_errF (c : Cn) (n : Nat) {f : Str} (hK : F.K = X.K) (T : XfC F.K (F.cl c)) (hno : PySem.W.findIn F.K (.ref (F.cl c)) f = some none) (ha : LE X F E a pa) (hf : c.fields[n]? = some f := by rfl) (hb : attributeBase a f X.env (eval a X.env) = eval a X.env := by rfl) :
    LE X F E (.Attribute a f pos) (qUn (oErrF c n) pa) := by
  refine ⟨fun pins s σ H G Γ Q I k h => ?_⟩
  refine attr_of hb (thn (ha.run pins s σ H G Γ _ I k h) fun u s1 ⟨x, H1, I1, r1, d, Γ1, G1, q1, i1, k1, rp⟩ => ?_)
  dsimp only [oErrF] at q1
  split at q1
  · rename_i c' fs
    split at q1
    · rename_i z e1 e2
      have e3 := ix_inj e1
      subst e3
      obtain ⟨b, rfl, q⟩ := rp
      cases (show u = Value.ref b from r1)
      rcases q with ⟨q, _⟩ | ⟨dx, vs, g1, g2, rs⟩
      · subst q; cases e2
      · have hb1 : H1 b = some (exo b (F.cl c') (some dx)) := by
          rcases k1.sub _ _ g1 with e | ⟨e, _⟩
          · exact e
          · cases e
        have hb2 : H1 dx = some (exd dx (c'.fields.zip vs)) := by
          rcases k1.sub _ _ g2 with e | ⟨e, _⟩
          · exact e
          · cases e
        obtain ⟨t1, o1⟩ := exo_at I1.hok hb1
        obtain ⟨mA, hns, hrr⟩ := exd_at I1.hok hb2
        obtain ⟨od, ho, hl⟩ := lookIn_ns hns
        obtain ⟨v, e6, r6⟩ := rs.get e2
        obtain ⟨w, hw, rw'⟩ := RelO.some_of (v := v) (o := mA f) (by rw [← e6, ← zip_look (fields_nd _) hf]; exact hrr f)
        have J : PySem.W.InstAt s1.heap b _ (F.cl c') (some od) := ⟨o1, rfl, rfl, ho⟩
        exact HandSPX.exc_get I1.kIn J (hK ▸ T.ga) (hK ▸ T.gg) (hK ▸ T.exC) (PySem.W.findObj_own (hK ▸ T.hdC) (hK ▸ hno) rfl (by rw [hl, hw])) (handed_of rw') ⟨v, H1, I1.tok _, rw', z, Γ1, G1, q1, i1, k1, r6⟩
    · exact q1.elim
  · exact q1.elim
/-! ### its class -/
/-- what an error class says of __class__, whatever dict its instances have -/
theorem cls_any {K : PySem.W.Frag} {D : Addr} {od : Option Obj} (C : ExcC K D) : PySem.W.findObj K D od "__class__" = some (.bind (.builtin "getset_descriptor.__get__") (.builtin "object.__class__")) := by
  obtain ⟨cd, hc, _⟩ := PySem.W.any_some C.hd
  unfold PySem.W.findObj
  rw [hc, Option.bind_some, C.ha, Option.bind_some]
  simp [C.hn, C.ht]
theorem cls_read {K : PySem.W.Frag} {x D : Addr} {ox : Obj} {od : Option Obj} {prog : Program} {w : World} {A : Around} {E : Value → Shared → Prop} {Q : Option Value → Shared → Prop} {s : Shared} (C : ExcC K D) (Y : K.In s.heap) (I : PySem.W.InstAt s.heap x ox D od) (h : Q (some (.ref D)) { s with toks := s.toks + 1 }) : wpAny (model prog w) A (getAttr? (.ref x) "__class__") Q E s := by
  obtain ⟨hp, g, d, t, os⟩ := s
  have l0 := I.type (M := model prog w)
  have l1 := PySem.W.looks_findIn (M := model prog w) Y C.hg
  have l2 := PySem.W.looks_findIn (M := model prog w) Y C.hk
  have l3 := PySem.W.looks_find (M := model prog w) Y I (cls_any C)
  have sb : PySem.W.Looks (model prog w) hp (isInstance (.ref x) (.type "BaseException")) true := l0.andThen (PySem.W.looks_subIn Y C.hs)
  have x0 : (false && onTheHeap (Value.builtin "BaseException.__getattribute__")) = false := rfl
  have x2 : (Value.builtin "BaseException.__getattribute__" == Value.builtin "object.__getattribute__") = false := by decide +kernel
  have x1 : (onTheHeap (Value.ref D) && Value.builtin "BaseException.__getattribute__" == Value.builtin "object.__getattribute__") = false := by rw [x2]; rfl
  unfold getAttr? getAttrBy? getAttrBy
  refine wpAny_bind (wpAny_mkText (wpAny_bind (wpAny_attempt (wpAny_holding (wpAny_bind (l0.at (wpAny_bind (l1.at ?_))))))))
  show wpAny _ _ (if (onTheHeap (Value.ref D) && Value.builtin "BaseException.__getattribute__" == Value.builtin "object.__getattribute__") = true then _ else _) _ _ _
  rw [x1, if_neg Bool.false_ne_true]
  unfold getAttrByItsOwn hookBefore
  refine wpAny_bind ?_
  rw [if_pos (show onTheHeap (Value.ref D) = true from rfl)]
  refine l2.at ?_
  refine wpAny_bind (wpAny_attempt (wpAny_holding ?_))
  unfold callGetattribute
  rw [x0, if_neg Bool.false_ne_true]
  unfold boundAndCalled
  rw [PySem.F.excAttr_ValueError.ga.bind (.ref x)]
  refine wpAny_bind (wpAny_pure ?_)
  show wpAny _ _ (call (.builtin "BaseException.__getattribute__") [.ref x, .str "__class__" t]) _ _ _
  refine wpAny_call (codeAny_call_builtin PySem.F.excAttr_ValueError.ga.plain PySem.F.entry_bexc_ga ?_)
  refine @PySem.W.check_slot (model prog w) _ _ ⟨hp, g, d, t + 1, os⟩ "BaseException.__getattribute__" "BaseException" "__getattribute__" (.ref x) [.str "__class__" t] [] _ (by decide +kernel) (by decide +kernel) sb (PySem.F.args_bexc_ga (.ref x) (.str "__class__" t)) ?_
  unfold Builtin.«object.__getattribute__»
  refine wpAny_bind (wpAny_of_eq (a := ((Value.ref x : Value), [Value.str "__class__" t])) (by first | rfl | (simp only [slotArgs]; rfl)) ?_)
  refine wpAny_bind (wpAny_pure (wpAny_bind (l0.at (wpAny_bind (l3.at ?_)))))
  show wpAny _ _ (holding [Value.builtin "object.__class__"] (call (.builtin "getset_descriptor.__get__") [.builtin "object.__class__", .ref x, .ref D]) >>= ret) _ _ _
  refine wpAny_bind (wpAny_holding (wpAny_call (PySem.W.class_get (s := ⟨hp, g, d, t + 1, os⟩) (ox := ox) (od := od) Y I C.hm ?_)))
  refine wpAny_pure ?_
  show wpAny _ _ (handedOut (.ref D)) _ _ _
  rw [PySem.W.handedOut_of (v := .ref D) rfl]
  first
    | exact wpAny_pure (wpAny_pure h)
    | exact wpAny_pure h
    | exact wpAny_pure (wpAny_bind (wpAny_pure (wpAny_pure h)))
theorem kitx_err {K : PySem.W.Frag} {x D : Addr} {ox : Obj} {od : Option Obj} (C : ExcC K D) : PySem.W.KitX K (.ref x) (.ref D) (fun h => PySem.W.InstAt h x ox D od) := by
  have Z := PySem.W.handS_kitx_exc (x := x) (ox := ox) C.hg C.hk C.hs C.hd C.ha C.hn C.ht C.hm
  refine ⟨fun _ _ _ I => I.type, fun M h Y _ => ?_, fun h tp dd its n sl Y htp => Z.ne h tp dd its n sl Y htp, fun Y I k => cls_read C Y I k⟩
  obtain ⟨cd, hc, _⟩ := PySem.W.any_some C.hd
  unfold PySem.W.clsIn at hc
  split at hc
  · rename_i c' d' cd' sl' ho
    intro A' Q' E' s' k q
    unfold isType loadHead
    exact wpAny_bind (wpAny_loadPart (k _ _ (Y _ _ ho)) (wpAny_pure q))
  · cases hc
def oIsaE (t : List (Cn × Bool)) : O1 := fun d Γ Q _ => match d with
  | .err c _ => match lookC t c with
    | some b => Q (.bl b) Γ
    | none => False
  | _ => False
/-- isinstance(a, c), a an error -/
theorem le_isE {ce : Expr} {cv : V} {cu : Value} {t : List (Cn × Bool)} (T : ∀ p ∈ t, PySem.W.kitOne F.K (.ref (F.cl p.1)) cu = some p.2 ∧ ExcC F.K (F.cl p.1)) (hK : F.K = X.K) (hc : PE X ce (tC cv)) (hcv : ∀ u, RelV cv u → u = cu) (ha : LE X F E a pa) (hm : X.mg "isinstance" = none) (hg : Gl X "isinstance" := by rfl)
    (hv : bootBuiltins "isinstance" = some (.builtin "isinstance") := by rfl) (he : starEach [a, ce] X.env = (false, eval a X.env) :: starEach [ce] X.env := by rfl) (he2 : starEach [ce] X.env = (false, eval ce X.env) :: starEach [] X.env := by rfl) (hpl : (backTo pos (starEach [ce] X.env)).any (·.1) = false := by rfl) :
    LE X F E (.Call (.Name "isinstance" p) [a, ce] [] pos) (qUn (oIsaE t) pa) := by
  have R : CallR X (.builtin "isinstance") (fun xs H Q => ∃ (b : Addr) (c : Cn) (dx : Option Addr) (r : Bool), xs = [.ref b, cv] ∧ H b = some (exo b (F.cl c) dx) ∧ (∀ d, dx = some d → ∃ fs, H d = some (exd d fs)) ∧ PySem.W.kitOne F.K (.ref (F.cl c)) cu = some r ∧ ExcC F.K (F.cl c) ∧ Q (.bl r) H) := by
    intro pins s σ H xs us Q I r h
    obtain ⟨b, c, dx, rr, rfl, hb, hd, e1, e2, q⟩ := h
    cases r with
    | cons rx rs =>
      cases rs with
      | cons rt rs =>
        cases rs
        cases rx
        have ec := hcv _ rt
        subst ec
        obtain ⟨t1, o1⟩ := exo_at I.hok hb
        have J : ∃ od, PySem.W.InstAt s.heap b ({ cls := .ref (F.cl c), dict := dx, data := .fields #[.ref t1, .none, .none, .none, .bool false, .none] } : Obj) (F.cl c) od := by
          cases dx with
          | none => exact ⟨none, o1, rfl, rfl, trivial⟩
          | some d =>
            obtain ⟨fs, hf⟩ := hd d rfl
            obtain ⟨mA, hns, _⟩ := exd_at I.hok hf
            obtain ⟨od, ho, _⟩ := lookIn_ns hns
            exact ⟨some od, o1, rfl, rfl, ho⟩
        obtain ⟨od, J⟩ := J
        exact PySem.W.kia_one (kitx_err (hK ▸ e2)) I.kIn J (hK ▸ e1) (fun z => nomatch z) fun tk => ⟨.bl rr, H, I.kept (t' := tk) fun _ _ z => z, rfl, q⟩
  refine LE.of (pe_callB R hg hm hv (pa_cons ha.pe (pa_cons hc pa_nil he2) he) (by decide) (by decide) he hpl) fun σ H G Γ Q k q => ⟨G, Γ, _, k, q, fun w H' ⟨d, Γ', G', q', i, k', r⟩ => ?_⟩
  dsimp only [oIsaE] at q'
  split at q'
  · rename_i c fs
    split at q'
    · rename_i b e
      obtain ⟨e1, e2⟩ := T _ (lookC_mem e)
      obtain ⟨a, rfl, g⟩ := r
      have sb : ∀ {p : Addr} {P : Heap → Prop}, G' p = some (.ext P) → H' p = some (.ext P) := fun {p P} z => by
        rcases k'.sub _ _ z with e | ⟨e, _⟩
        · exact e
        · cases e
      rcases g with ⟨_, g⟩ | ⟨dx, vs, g1, g2, _⟩
      · exact ⟨a, c, none, b, rfl, sb g, (fun _ z => by cases z), e1, e2, fin_inc i (fin0 k' q' rfl)⟩
      · exact ⟨a, c, some dx, b, rfl, sb g1, (fun _ z => by cases z; exact ⟨_, sb g2⟩), e1, e2, fin_inc i (fin0 k' q' rfl)⟩
    · exact q'.elim
  · exact q'.elim
end
/-! ### facts of the head -/
section
open He PySem.W
abbrev pExc (c : Cn) (K : Frag) : Prop := findIn K (.ref (ga K (cname c))) "__class__" = some (some (.builtin "object.__class__")) ∧ specialIn K (.builtin "object.__class__") "__get__" = some (some (.builtin "getset_descriptor.__get__")) ∧ takesIn K (.builtin "object.__class__") = some true ∧ mroIn K (ga K (cname c)) (.type "object") = some true
theorem pExc_ok {c : Cn} {K : Frag} (h : pErr c K) (h2 : pExc c K) : ExcC K ((cf K).cl c) := ⟨h.2.2.2.2.2.2.2.1, h.2.2.2.2.2.2.2.2.1, h.2.2.1, h.2.2.2.2.2.2.2.2.2, h2.1, h2.2.1, h2.2.2.1, h2.2.2.2⟩
abbrev pIsE (u : Cu) (t : List (Cn × Bool)) (K : Frag) : Prop := (t.all fun p => decide (kitOne K (.ref (ga K (cname p.1))) (u.v K) = some p.2)) = true
theorem isE_ok {u : Cu} {t : List (Cn × Bool)} {K : Frag} (h : pIsE u t K) (hd : ∀ p ∈ t, ExcC K ((cf K).cl p.1)) : ∀ p ∈ t, kitOne K (.ref ((cf K).cl p.1)) (u.v K) = some p.2 ∧ ExcC K ((cf K).cl p.1) :=
  fun p m => ⟨of_decide_eq_true (List.all_eq_true.mp h p m), hd p m⟩
end
end Q

set_option Elab.async false
set_option linter.all false
set_option maxRecDepth 100000
set_option maxHeartbeats 4000000
namespace Q
open PySem L2 PySem.Spec PyProof.Rows
/-! ## 36. Dict displays of plain values; repr of a dict -/
/-- the value of k in a dict of data -/
def getD (kvs : List (Key × D)) (k : Key) : Option D := (kvs.find? fun p => decide (p.1 = k)).map (·.2)
/-- d[k] = x -/
def putD (kvs : List (Key × D)) (k : Key) (x : D) : List (Key × D) := if (kvs.any fun p => decide (p.1 = k)) then kvs.map (fun p => if p.1 = k then (p.1, x) else p) else kvs ++ [(k, x)]
def mergeD (kvs more : List (Key × D)) : List (Key × D) := more.foldl (fun acc kv => putD acc kv.1 kv.2) kvs
theorem RepK.keys {F : Cf} {G : Hp} : ∀ {ds : List (Key × D)} {ws : List (Key × V)}, RepK F G ds ws → ws.map (·.1) = ds.map (·.1)
  | [], _, h => by cases (show _ = [] from h); rfl
  | (k, d) :: ds, _, h => by
    obtain ⟨v, r, rfl, _, b⟩ := h
    rw [List.map_cons, List.map_cons, RepK.keys b]
theorem RepK.len {F : Cf} {G : Hp} {ds : List (Key × D)} {ws : List (Key × V)} (h : RepK F G ds ws) : ws.length = ds.length := by
  have e := congrArg List.length h.keys
  rwa [List.length_map, List.length_map] at e
theorem RepK.get {F : Cf} {G : Hp} (k : Key) : ∀ {ds : List (Key × D)} {ws : List (Key × V)}, RepK F G ds ws → (getD ds k = none ∧ valV ws k = none) ∨ ∃ d v, getD ds k = some d ∧ valV ws k = some v ∧ Rep F G d v
  | [], _, h => by cases (show _ = [] from h); exact .inl ⟨rfl, rfl⟩
  | (k', d) :: ds, _, h => by
    obtain ⟨v, r, rfl, a, b⟩ := h
    by_cases e : k' = k
    · exact .inr ⟨d, v, by simp [getD, e], valV_pos (p := (k', v)) e, a⟩
    · have ih := RepK.get k b
      have e1 : getD ((k', d) :: ds) k = getD ds k := by simp [getD, List.find?_cons, e]
      have e2 := valV_neg (p := (k', v)) (r := r) (k := k) e
      rw [e1, e2]
      exact ih
theorem RepK.any {F : Cf} {G : Hp} (k : Key) : ∀ {ds : List (Key × D)} {ws : List (Key × V)}, RepK F G ds ws → (ws.any fun p => decide (p.1 = k)) = (ds.any fun p => decide (p.1 = k))
  | [], _, h => by cases (show _ = [] from h); rfl
  | (k', d) :: ds, _, h => by
    obtain ⟨v, r, rfl, a, b⟩ := h
    rw [List.any_cons, List.any_cons, RepK.any k b]
theorem RepK.repl {F : Cf} {G : Hp} (k : Key) {x : D} {u : V} (rx : Rep F G x u) : ∀ {ds : List (Key × D)} {ws : List (Key × V)}, RepK F G ds ws → RepK F G (ds.map fun p => if p.1 = k then (p.1, x) else p) (ws.map fun p => if p.1 = k then (p.1, u) else p)
  | [], _, h => by cases (show _ = [] from h); exact rfl
  | (k', d) :: ds, _, h => by
    obtain ⟨v, r, rfl, a, b⟩ := h
    by_cases e : k' = k
    · simp only [List.map_cons, if_pos e]
      exact ⟨u, _, rfl, rx, RepK.repl k rx b⟩
    · simp only [List.map_cons, if_neg e]
      exact ⟨v, _, rfl, a, RepK.repl k rx b⟩
theorem RepK.snoc {F : Cf} {G : Hp} (k : Key) {x : D} {u : V} (rx : Rep F G x u) : ∀ {ds : List (Key × D)} {ws : List (Key × V)}, RepK F G ds ws → RepK F G (ds ++ [(k, x)]) (ws ++ [(k, u)])
  | [], _, h => by cases (show _ = [] from h); exact ⟨u, [], rfl, rx, rfl⟩
  | (k', d) :: ds, _, h => by
    obtain ⟨v, r, rfl, a, b⟩ := h
    exact ⟨v, _, rfl, a, RepK.snoc k rx b⟩
theorem RepK.put {F : Cf} {G : Hp} (k : Key) {x : D} {u : V} (rx : Rep F G x u) {ds : List (Key × D)} {ws : List (Key × V)} (h : RepK F G ds ws) : RepK F G (putD ds k x) (putK ws k u) := by
  unfold putD putK
  have e := h.any k
  by_cases c : (ds.any fun p => decide (p.1 = k)) = true
  · rw [if_pos c, if_pos (e.trans c)]
    exact h.repl k rx
  · rw [if_neg c, if_neg (fun z => c (e.symm.trans z))]
    exact h.snoc k rx
theorem RepK.merge {F : Cf} {G : Hp} : ∀ {more : List (Key × D)} {ms : List (Key × V)} {ds : List (Key × D)} {ws : List (Key × V)}, RepK F G more ms → RepK F G ds ws → RepK F G (mergeD ds more) (mergeK ws ms)
  | [], _, _, _, h, r => by cases (show _ = [] from h); exact r
  | (k, d) :: more, _, ds, ws, h, r => by
    obtain ⟨v, q, rfl, a, b⟩ := h
    exact RepK.merge (more := more) (ms := q) (ds := putD ds k d) (ws := putK ws k v) b (r.put k a)
/-- a datum as a key -/
def keyD : D → Option Key
  | .int i => some (.inl i)
  | .str x => some (.inr x)
  | _ => none
theorem keyD_rep {F : Cf} {G : Hp} {d : D} {k : Key} {v : V} (e : keyD d = some k) (r : Rep F G d v) : v = kV k := by
  cases d with
  | int i => cases e; exact r
  | str x => cases e; exact r
  | _ => cases e
/-! ### values that are just looked up -/
abbrev VQ := Env → Option D
structure LV (X : Cx) (F : Fx) (e : Expr) (q : VQ) : Prop where
  ex : ∃ f : St → Option V, PE X e (fun σ H Q => ∃ v, f σ = some v ∧ Q v H) ∧ ∀ G H σ Γ d, Ok F G H σ Γ → q Γ = some d → ∃ v, f σ = some v ∧ Rep F.toCf G d v
section
variable {X : Cx} {F : Fx} {E : XP} {p pos : Pos} {a : Expr} {pa : QE}
def vC (d : D) : VQ := fun _ => some d
def vV (i : Nat) : VQ := fun Γ => match Γ[i]? with
  | some (.val d) => some d
  | _ => none
theorem lv_int {i j pos} : LV X F (.Constant (.int i) j pos) (vC (.int i)) := ⟨fun _ => some (.int i), ⟨fun pins s σ H Q I ⟨v, e, q⟩ => by cases e; exact pe_int.run pins s σ H Q I q⟩, fun G H σ Γ d _ e => by cases e; exact ⟨_, rfl, rfl⟩⟩
theorem lv_bl {i j pos} : LV X F (.Constant (.bool i) j pos) (vC (.bl i)) := ⟨fun _ => some (.bl i), ⟨fun pins s σ H Q I ⟨v, e, q⟩ => by cases e; exact pe_bl.run pins s σ H Q I q⟩, fun G H σ Γ d _ e => by cases e; exact ⟨_, rfl, rfl⟩⟩
theorem lv_str {i j pos} : LV X F (.Constant (.str i) j pos) (vC (.str i)) := ⟨fun _ => some (.str i), ⟨fun pins s σ H Q I ⟨v, e, q⟩ => by cases e; exact pe_str.run pins s σ H Q I q⟩, fun G H σ Γ d _ e => by cases e; exact ⟨_, rfl, rfl⟩⟩
theorem lv_non {j pos} : LV X F (.Constant .none j pos) (vC .non) := ⟨fun _ => some .non, ⟨fun pins s σ H Q I ⟨v, e, q⟩ => by cases e; exact pe_non.run pins s σ H Q I q⟩, fun G H σ Γ d _ e => by cases e; exact ⟨_, rfl, rfl⟩⟩
theorem lv_var (i : Nat) {x : Str} {pos : Pos} (hN : X.N[i]? = some x := by rfl) (hv : Vis X.env.scope x := by first | exact Or.inl rfl | exact Or.inr (Or.inl rfl) | exact Or.inr (Or.inr rfl)) (hd : (x == ("__debug__" : Str)) = false := by decide)
    (hcd : (x == ("__classdict__" : Str)) = false := by decide) : LV X F (.Name x pos) (vV i) := by
  refine ⟨fun σ => (σ[i]?).getD none, ⟨fun pins s σ H Q I ⟨v, e, q⟩ => (pe_var (X := X) (i := i) hN hv hd hcd).run pins s σ H Q I ⟨v, ?_, q⟩⟩, fun G H σ Γ d k e => ?_⟩
  · dsimp only at e
    cases h : σ[i]? with
    | none => rw [h] at e; cases e
    | some z => rw [h] at e; rw [← e]; rfl
  · unfold vV at e
    split at e
    · rename_i d' hd
      cases e
      obtain ⟨v, ev, r⟩ := k.rep hd
      exact ⟨v, by show (σ[i]?).getD none = _; rw [ev]; rfl, r⟩
    · cases e
/-- the pairs of a display -/
def vPairs (Γ : Env) : List (VQ × VQ) → Option (List (Key × D))
  | [] => some []
  | (qk, qv) :: r => match qk Γ, qv Γ, vPairs Γ r with
    | some dk, some dv, some m => match keyD dk with
      | some k => some ((k, dv) :: m)
      | none => none
    | _, _, _ => none
inductive LPs (X : Cx) (F : Fx) : List (Option Expr) → List Expr → List (VQ × VQ) → Prop
  | nil : LPs X F [] [] []
  | cons {k v : Expr} {ks : List (Option Expr)} {vs : List Expr} {qk qv : VQ} {r : List (VQ × VQ)} : LV X F k qk → LV X F v qv → LPs X F ks vs r → LPs X F (some k :: ks) (v :: vs) ((qk, qv) :: r)
theorem vPairs_inv {Γ : Env} {qk qv : VQ} {r : List (VQ × VQ)} {m : List (Key × D)} (h : vPairs Γ ((qk, qv) :: r) = some m) : ∃ dk dv k m', qk Γ = some dk ∧ qv Γ = some dv ∧ keyD dk = some k ∧ vPairs Γ r = some m' ∧ m = (k, dv) :: m' := by
  unfold vPairs at h
  split at h
  · rename_i dk dv m' e1 e2 e3
    split at h
    · rename_i k e4
      cases h
      exact ⟨dk, dv, k, m', e1, e2, e4, e3, rfl⟩
    · cases h
  · cases h
theorem LPs.pps {keys : List (Option Expr)} {values : List Expr} {r : List (VQ × VQ)} (h : LPs X F keys values r) : ∃ trs, PPs X pos keys values trs ∧ keys.all (·.isSome) = true ∧ keys.length = values.length ∧ keys.length = r.length ∧
    ∀ G H σ Γ kvs, Ok F G H σ Γ → vPairs Γ r = some kvs → ∃ ws, RepK F.toCf G kvs ws ∧ kvs.length = r.length ∧ ∀ (Q : List (V × V) → Hp → Prop), Q (ws.map fun kv => (kV kv.1, kv.2)) H → tPairs trs σ H Q := by
  induction h with
  | nil => exact ⟨[], pps_nil, rfl, rfl, rfl, fun G H σ Γ kvs _ e => by cases e; exact ⟨[], rfl, rfl, fun Q q => q⟩⟩
  | cons hk hv hr ih =>
    obtain ⟨trs, P, h1, h2, h3, h4⟩ := ih
    obtain ⟨fk, pk, rk⟩ := hk.ex
    obtain ⟨fv, pv, rv⟩ := hv.ex
    refine ⟨_ :: trs, pps_cons pk pv P, by simpa using h1, by simpa using h2, by simpa using h3, fun G H σ Γ kvs k e => ?_⟩
    obtain ⟨dk, dv, ky, m', e1, e2, e3, e4, rfl⟩ := vPairs_inv e
    obtain ⟨vk, f1, r1⟩ := rk G H σ Γ dk k e1
    obtain ⟨vv, f2, r2⟩ := rv G H σ Γ dv k e2
    obtain ⟨ws, r3, l3, q3⟩ := h4 G H σ Γ m' k e4
    have ek := keyD_rep e3 r1
    subst ek
    exact ⟨(ky, vv) :: ws, ⟨vv, ws, rfl, r2, r3⟩, by simpa using l3, fun Q q => ⟨_, f1, _, f2, q3 _ q⟩⟩
def qDisp (r : List (VQ × VQ)) : QE := fun Γ Q _ => match vPairs Γ r with
  | some kvs => Q (.dic (mergeD [] kvs)) Γ
  | none => False
/-- {k: v, ..}, the keys and values just looked up -/
theorem le_disp {keys : List (Option Expr)} {values : List Expr} {r : List (VQ × VQ)} (h : LPs X F keys values r) (h0 : keys ≠ []) (h15 : keys.length ≤ 15) : LE X F E (.Dict keys values pos) (qDisp r) := by
  obtain ⟨trs, P, h1, h2, h3, h4⟩ := h.pps (pos := pos)
  refine LE.of (pe_disp P h1 h2 h0 h15) fun σ H G Γ Q k q => fun b hb => ?_
  dsimp only [qDisp] at q
  split at q
  · rename_i kvs e
    obtain ⟨ws, r1, l1, q1⟩ := h4 G _ σ Γ kvs (k.new0 hb (.dK [])) e
    refine q1 _ ⟨upd_same, ws, rfl, by rw [r1.len]; omega, ?_⟩
    have eH : upd (upd H b (.dK [])) b (.dK (mergeK [] ws)) = upd H b (.dK (mergeK [] ws)) := by
      funext z
      by_cases hz : z = b
      · subst hz; rw [upd_same, upd_same]
      · rw [upd_ne hz, upd_ne hz, upd_ne hz]
    rw [eH]
    have gn := k.sub.no hb
    exact ⟨_, Γ, upd G b (.dK (mergeK [] ws)), q, Inc.new gn, k.new hb _, b, _, rfl, upd_same, (RepK.merge r1 (show RepK F.toCf G [] [] from rfl)).inc (Inc.new gn)⟩
  · exact q.elim
/-- repr, of a dict with one text, an int at it, too -/
def oRepr2 : ON := fun ds Γ Q E => match ds with
  | [.dic [(.inr x, .int i)]] => ((PyData.dict [(.str x, .int i)]).showable = true ∧ (PyData.dict [(.str x, .int i)]).depth ≤ 50 ∧ (PyData.dict [(.str x, .int i)]).shown.length ≤ sizeLine) ∧ Q (.str (PyData.dict [(.str x, .int i)]).shown) Γ
  | ds => oRepr ds Γ Q E
theorem bl_repr2 (hK : F.K = X.K) (hr : X.A.units + 100 < cLine) (hg : X.A.guards = some []) : BlL X F E (.builtin "repr") oRepr2 := by
  intro pins s σ H G Γ vs us ds Q I k rv rd q
  unfold oRepr2 at q
  split at q
  · rename_i x i
    obtain ⟨v, rfl, r⟩ := reps1 rd
    obtain ⟨u, rfl, ru⟩ := vals1 rv
    obtain ⟨b, ws, rfl, g, rk⟩ := r
    obtain ⟨v1, w1, rfl, r1, r2⟩ := rk
    cases (show w1 = [] from r2)
    cases (show v1 = V.int i from r1)
    cases (show u = Value.ref b from ru)
    have e : Rd H b (.dK [(.inr x, .int i)]) := by
      rcases k.sub _ _ g with e | ⟨_, ob, e⟩
      · exact .inl e
      · exact .inr ⟨ob, e⟩
    obtain ⟨z, hs, vs, kv, o, es, ep, h1, h2, h3, _, h5, _⟩ := dk_rd I.hok e
    cases kv with
    | cons c1 c2 =>
      cases c2
      obtain ⟨e1, e2⟩ := c1
      obtain ⟨t, e2⟩ := (show ∃ t, _ = Value.int i t from e2)
      obtain ⟨⟨c1, c2, c3⟩, hq⟩ := q
      have hes : ∃ t2 hh, es.toList = [⟨hh, .str x t2, .int i t⟩] := by
        generalize es.toList = el at h5
        cases h5 with
        | @cons en _ _ _ a1 a3 a2 =>
          have a2' := a2
          generalize hz : ([] : List (Key × Value)) = zl at a2'
          cases a2' with
          | cons _ _ _ => cases hz
          | nil =>
            rw [← e1] at a1
            rcases keyIs_shape (show keyIs (.inr x) en.key = true from a1) with ⟨_, _, q1, _⟩ | ⟨y, t2, q1, q2⟩
            · cases q1
            · cases q1
              obtain ⟨hh, kk, vv⟩ := en
              dsimp only at q2 a3
              exact ⟨t2, hh, by rw [q2, a3, e2]⟩
      obtain ⟨t2, hh, hes⟩ := hes
      refine repr_of_reads' (d := .dict [(.str x, .int i)]) (as := b :: ([] ++ []) ++ ([] ++ [])) (.dict (as := [] ++ []) (bs := [] ++ []) h1 h2.1 h3 (by rw [hes]; exact .cons (.str _ _) .nil) (by rw [hes]; exact .cons (.int _ _) .nil)) c1 (fun _ m => ?_) hg (by omega) (fun _ _ z => z) (fun h' u tk hk => ⟨.str _, H, I.kept hk, ⟨_, rfl⟩, fin0 k hq rfl⟩) c3
      have : sysModules = b := by simpa using m
      rw [this] at hs
      simp at hs
  · exact bl_repr hK hr hg pins s σ H G Γ vs us _ Q I k rv rd q
end
/-! ### errors that are made by keyword -/
def Er1K (P : Program) (w : World) (Fc : Cf) (mg : Str → Option Value) (base : Heap) (c : Cn) (g : Str) (f : Addr) (fd : FuncData) (ps : List Str) : Prop :=
  Er1 P w Fc mg base c g f fd ps ∧ ∀ (s : Shared) (us ws : List Value), Fc.K.In s.heap → us.length = 1 → ws.length = 1 → BindsTo s fd ⟨us, [g].zip ws⟩ (ps.zip (us ++ ws))
open He PySem.W in
theorem err_kb {K : PySem.W.Frag} {x qual g : Str} {params : Arguments} {body : List Stmt} {scope : Scope} {kws : List (Str × V)} {f : Addr} {fd : FuncData} {ps : List Str} (F : FunD K x qual params body scope [] kws f fd)
    (hbd : ∀ (kV doc pm : Value) (an : Option Addr) (cdv ct : Value) (us ws : List Value), us.length = 1 → ws.length = 1 → bindArgs (fnOf x qual params body scope .none kV doc pm an cdv ct) ⟨us, [g].zip ws⟩ = pure (ps.zip (us ++ ws))) :
    ∀ (s : Shared) (us ws : List Value), K.In s.heap → us.length = 1 → ws.length = 1 → BindsTo s fd ⟨us, [g].zip ws⟩ (ps.zip (us ++ ws)) := by
  obtain ⟨oc, od, dV, kV, doc, pm, an, cdv, ct, osl, rfl, lk, hcd, hD, hKw⟩ := F.ex
  rcases hD with ⟨_, rfl⟩ | ⟨e, _⟩
  · exact fun s us ws _ l1 l2 => .of_eq (hbd kV doc pm an cdv ct us ws l1 l2)
  · exact absurd rfl e
end Q

set_option Elab.async false
set_option linter.all false
set_option maxRecDepth 100000
set_option maxHeartbeats 4000000
namespace K01
open PySem L2 PySem.Spec PyProof.Rows He PySem.W Q
abbrev PR : Program := PySem.Challenge.pw_filterorders_k01_errors
def top (i : Nat) : Stmt := PR.main.body.getD i (.Pass ⟨0, 0, 0, 0⟩)
def meth (i j : Nat) : Stmt := match top i with
  | .ClassDef _ _ _ b _ _ _ _ _ _ _ => b.getD j (.Pass ⟨0, 0, 0, 0⟩)
  | s => s

def isa_bool : IsaT := { bl := true }
def cmt : CmpT := { blt := true, own := [] }
def errL : List Cn := [.byZero, .badNumber, .badText, .zeroPolynomial, .badRoot, .badStretch, .badRow, .badTable, .noLine, .unlikeTables, .badBeam, .notFilter, .notMirror, .badCounts, .badAnswer, .badShare, .never, .badLine, .clash, .nothingToUndo, .nothingToRedo]
def isE_ByZero : List (Cn × Bool) := errL.map (fun c => (c, Nat.beq c.ix Cn.byZero.ix))
def isE_BadNumber : List (Cn × Bool) := errL.map (fun c => (c, Nat.beq c.ix Cn.badNumber.ix))
def isE_BadText : List (Cn × Bool) := errL.map (fun c => (c, Nat.beq c.ix Cn.badText.ix))
def isE_ZeroPolynomial : List (Cn × Bool) := errL.map (fun c => (c, Nat.beq c.ix Cn.zeroPolynomial.ix))
def isE_BadRoot : List (Cn × Bool) := errL.map (fun c => (c, Nat.beq c.ix Cn.badRoot.ix))
def isE_BadStretch : List (Cn × Bool) := errL.map (fun c => (c, Nat.beq c.ix Cn.badStretch.ix))
def isE_BadRow : List (Cn × Bool) := errL.map (fun c => (c, Nat.beq c.ix Cn.badRow.ix))
def isE_BadTable : List (Cn × Bool) := errL.map (fun c => (c, Nat.beq c.ix Cn.badTable.ix))
def isE_NoLine : List (Cn × Bool) := errL.map (fun c => (c, Nat.beq c.ix Cn.noLine.ix))
def isE_UnlikeTables : List (Cn × Bool) := errL.map (fun c => (c, Nat.beq c.ix Cn.unlikeTables.ix))
def isE_BadBeam : List (Cn × Bool) := errL.map (fun c => (c, Nat.beq c.ix Cn.badBeam.ix))
def isE_NotFilter : List (Cn × Bool) := errL.map (fun c => (c, Nat.beq c.ix Cn.notFilter.ix))
def isE_NotMirror : List (Cn × Bool) := errL.map (fun c => (c, Nat.beq c.ix Cn.notMirror.ix))
def isE_BadCounts : List (Cn × Bool) := errL.map (fun c => (c, Nat.beq c.ix Cn.badCounts.ix))
def isE_BadAnswer : List (Cn × Bool) := errL.map (fun c => (c, Nat.beq c.ix Cn.badAnswer.ix))
def isE_BadShare : List (Cn × Bool) := errL.map (fun c => (c, Nat.beq c.ix Cn.badShare.ix))
def isE_Never : List (Cn × Bool) := errL.map (fun c => (c, Nat.beq c.ix Cn.never.ix))
def isE_BadLine : List (Cn × Bool) := errL.map (fun c => (c, Nat.beq c.ix Cn.badLine.ix))
def isE_Clash : List (Cn × Bool) := errL.map (fun c => (c, Nat.beq c.ix Cn.clash.ix))
def isE_NothingToUndo : List (Cn × Bool) := errL.map (fun c => (c, Nat.beq c.ix Cn.nothingToUndo.ix))
def isE_NothingToRedo : List (Cn × Bool) := errL.map (fun c => (c, Nat.beq c.ix Cn.nothingToRedo.ix))
def isE_FilterError : List (Cn × Bool) := errL.map (fun c => (c, true))
def isE_ValueError : List (Cn × Bool) := errL.map (fun c => (c, true))
structure Wd (K : Frag) (mg : Str → Option Value) : Prop where
  f_isinstance : mg "isinstance" = none
  f_int : mg "int" = none
  f_bool : mg "bool" = none
  f_abs : mg "abs" = none
  f_len : mg "len" = none
  f_range : mg "range" = none
  f_repr : mg "repr" = none
  f_ValueError : mg "ValueError" = none
  g__law_cell : mg "_law_cell" = some (.ref (ga K "_law_cell"))
  g__law_box : mg "_law_box" = some (.ref (ga K "_law_box"))
  g__law_take : mg "_law_take" = some (.ref (ga K "_law_take"))
  g__law_same : mg "_law_same" = some (.ref (ga K "_law_same"))
  g__law_kinds : mg "_law_kinds" = some (.ref (ga K "_law_kinds"))
  g__law_bases : mg "_law_bases" = some (.ref (ga K "_law_bases"))
  g_law : mg "law" = some (.ref (ga K "law"))
  g_FilterError : mg "FilterError" = some (.ref (ga K "FilterError"))
  g_ByZero : mg "ByZero" = some (.ref (ga K "ByZero"))
  g_BadNumber : mg "BadNumber" = some (.ref (ga K "BadNumber"))
  g_BadText : mg "BadText" = some (.ref (ga K "BadText"))
  g_ZeroPolynomial : mg "ZeroPolynomial" = some (.ref (ga K "ZeroPolynomial"))
  g_BadRoot : mg "BadRoot" = some (.ref (ga K "BadRoot"))
  g_BadStretch : mg "BadStretch" = some (.ref (ga K "BadStretch"))
  g_BadRow : mg "BadRow" = some (.ref (ga K "BadRow"))
  g_BadTable : mg "BadTable" = some (.ref (ga K "BadTable"))
  g_NoLine : mg "NoLine" = some (.ref (ga K "NoLine"))
  g_UnlikeTables : mg "UnlikeTables" = some (.ref (ga K "UnlikeTables"))
  g_BadBeam : mg "BadBeam" = some (.ref (ga K "BadBeam"))
  g_NotFilter : mg "NotFilter" = some (.ref (ga K "NotFilter"))
  g_NotMirror : mg "NotMirror" = some (.ref (ga K "NotMirror"))
  g_BadCounts : mg "BadCounts" = some (.ref (ga K "BadCounts"))
  g_BadAnswer : mg "BadAnswer" = some (.ref (ga K "BadAnswer"))
  g_BadShare : mg "BadShare" = some (.ref (ga K "BadShare"))
  g_Never : mg "Never" = some (.ref (ga K "Never"))
  g_BadLine : mg "BadLine" = some (.ref (ga K "BadLine"))
  g_Clash : mg "Clash" = some (.ref (ga K "Clash"))
  g_NothingToUndo : mg "NothingToUndo" = some (.ref (ga K "NothingToUndo"))
  g_NothingToRedo : mg "NothingToRedo" = some (.ref (ga K "NothingToRedo"))
  i_bool : pIsa [.ty "bool"] isa_bool K
  iE_ByZero : pIsE (.own .byZero) isE_ByZero K
  iE_BadNumber : pIsE (.own .badNumber) isE_BadNumber K
  iE_BadText : pIsE (.own .badText) isE_BadText K
  iE_ZeroPolynomial : pIsE (.own .zeroPolynomial) isE_ZeroPolynomial K
  iE_BadRoot : pIsE (.own .badRoot) isE_BadRoot K
  iE_BadStretch : pIsE (.own .badStretch) isE_BadStretch K
  iE_BadRow : pIsE (.own .badRow) isE_BadRow K
  iE_BadTable : pIsE (.own .badTable) isE_BadTable K
  iE_NoLine : pIsE (.own .noLine) isE_NoLine K
  iE_UnlikeTables : pIsE (.own .unlikeTables) isE_UnlikeTables K
  iE_BadBeam : pIsE (.own .badBeam) isE_BadBeam K
  iE_NotFilter : pIsE (.own .notFilter) isE_NotFilter K
  iE_NotMirror : pIsE (.own .notMirror) isE_NotMirror K
  iE_BadCounts : pIsE (.own .badCounts) isE_BadCounts K
  iE_BadAnswer : pIsE (.own .badAnswer) isE_BadAnswer K
  iE_BadShare : pIsE (.own .badShare) isE_BadShare K
  iE_Never : pIsE (.own .never) isE_Never K
  iE_BadLine : pIsE (.own .badLine) isE_BadLine K
  iE_Clash : pIsE (.own .clash) isE_Clash K
  iE_NothingToUndo : pIsE (.own .nothingToUndo) isE_NothingToUndo K
  iE_NothingToRedo : pIsE (.own .nothingToRedo) isE_NothingToRedo K
  iE_FilterError : pIsE (.own .filterError) isE_FilterError K
  iE_ValueError : pIsE (.ty "ValueError") isE_ValueError K
  xc_ByZero : pExc .byZero K
  xc_BadNumber : pExc .badNumber K
  xc_BadText : pExc .badText K
  xc_ZeroPolynomial : pExc .zeroPolynomial K
  xc_BadRoot : pExc .badRoot K
  xc_BadStretch : pExc .badStretch K
  xc_BadRow : pExc .badRow K
  xc_BadTable : pExc .badTable K
  xc_NoLine : pExc .noLine K
  xc_UnlikeTables : pExc .unlikeTables K
  xc_BadBeam : pExc .badBeam K
  xc_NotFilter : pExc .notFilter K
  xc_NotMirror : pExc .notMirror K
  xc_BadCounts : pExc .badCounts K
  xc_BadAnswer : pExc .badAnswer K
  xc_BadShare : pExc .badShare K
  xc_Never : pExc .never K
  xc_BadLine : pExc .badLine K
  xc_Clash : pExc .clash K
  xc_NothingToUndo : pExc .nothingToUndo K
  xc_NothingToRedo : pExc .nothingToRedo K
  errB : pErrB K
  e_ByZero : pErr .byZero K
  e_BadNumber : pErr .badNumber K
  no_BadNumber_given : pNo .badNumber "given" K
  e_BadText : pErr .badText K
  e_ZeroPolynomial : pErr .zeroPolynomial K
  e_BadRoot : pErr .badRoot K
  e_BadStretch : pErr .badStretch K
  e_BadRow : pErr .badRow K
  no_BadRow_row : pNo .badRow "row" K
  e_BadTable : pErr .badTable K
  e_NoLine : pErr .noLine K
  no_NoLine_name : pNo .noLine "name" K
  e_UnlikeTables : pErr .unlikeTables K
  e_BadBeam : pErr .badBeam K
  e_NotFilter : pErr .notFilter K
  e_NotMirror : pErr .notMirror K
  e_BadCounts : pErr .badCounts K
  e_BadAnswer : pErr .badAnswer K
  no_BadAnswer_answer : pNo .badAnswer "answer" K
  e_BadShare : pErr .badShare K
  no_BadShare_given : pNo .badShare "given" K
  e_Never : pErr .never K
  no_Never_answer : pNo .never "answer" K
  e_BadLine : pErr .badLine K
  no_BadLine_line : pNo .badLine "line" K
  e_Clash : pErr .clash K
  e_NothingToUndo : pErr .nothingToUndo K
  e_NothingToRedo : pErr .nothingToRedo K
theorem Wd.exs {K : Frag} {mg : Str → Option Value} (W : Wd K mg) {t : List (Cn × Bool)} (ht : t.map (·.1) = errL) : ∀ p ∈ t, ExcC K ((cf K).cl p.1) := fun p m => by
  have h : p.1 ∈ errL := by rw [← ht]; exact List.mem_map_of_mem m
  simp only [errL, List.mem_cons, List.not_mem_nil, or_false] at h
  rcases h with h | h | h | h | h | h | h | h | h | h | h | h | h | h | h | h | h | h | h | h | h
  · rw [h]; exact pExc_ok W.e_ByZero W.xc_ByZero
  · rw [h]; exact pExc_ok W.e_BadNumber W.xc_BadNumber
  · rw [h]; exact pExc_ok W.e_BadText W.xc_BadText
  · rw [h]; exact pExc_ok W.e_ZeroPolynomial W.xc_ZeroPolynomial
  · rw [h]; exact pExc_ok W.e_BadRoot W.xc_BadRoot
  · rw [h]; exact pExc_ok W.e_BadStretch W.xc_BadStretch
  · rw [h]; exact pExc_ok W.e_BadRow W.xc_BadRow
  · rw [h]; exact pExc_ok W.e_BadTable W.xc_BadTable
  · rw [h]; exact pExc_ok W.e_NoLine W.xc_NoLine
  · rw [h]; exact pExc_ok W.e_UnlikeTables W.xc_UnlikeTables
  · rw [h]; exact pExc_ok W.e_BadBeam W.xc_BadBeam
  · rw [h]; exact pExc_ok W.e_NotFilter W.xc_NotFilter
  · rw [h]; exact pExc_ok W.e_NotMirror W.xc_NotMirror
  · rw [h]; exact pExc_ok W.e_BadCounts W.xc_BadCounts
  · rw [h]; exact pExc_ok W.e_BadAnswer W.xc_BadAnswer
  · rw [h]; exact pExc_ok W.e_BadShare W.xc_BadShare
  · rw [h]; exact pExc_ok W.e_Never W.xc_Never
  · rw [h]; exact pExc_ok W.e_BadLine W.xc_BadLine
  · rw [h]; exact pExc_ok W.e_Clash W.xc_Clash
  · rw [h]; exact pExc_ok W.e_NothingToUndo W.xc_NothingToUndo
  · rw [h]; exact pExc_ok W.e_NothingToRedo W.xc_NothingToRedo
theorem Wd.isc_bool {K : Frag} {mg : Str → Option Value} (W : Wd K mg) : ∀ p ∈ isa_bool.own, pCls p.1 K := fun p m => by
  simp [isa_bool] at m
abbrev s_ByZero_uinitu : Stmt := (meth 2 0)
def d_ByZero_uinitu : He5.DefA := ⟨fun K => fAd K ("ByZero", some "__init__"), "__init__", "ByZero.__init__", defArgs s_ByZero_uinitu, defBody s_ByZero_uinitu, defScope s_ByZero_uinitu, [], []⟩
abbrev s_BadNumber_uinitu : Stmt := (meth 3 0)
def d_BadNumber_uinitu : He5.DefA := ⟨fun K => fAd K ("BadNumber", some "__init__"), "__init__", "BadNumber.__init__", defArgs s_BadNumber_uinitu, defBody s_BadNumber_uinitu, defScope s_BadNumber_uinitu, [], []⟩
abbrev s_BadText_uinitu : Stmt := (meth 4 0)
def d_BadText_uinitu : He5.DefA := ⟨fun K => fAd K ("BadText", some "__init__"), "__init__", "BadText.__init__", defArgs s_BadText_uinitu, defBody s_BadText_uinitu, defScope s_BadText_uinitu, [], []⟩
abbrev s_ZeroPolynomial_uinitu : Stmt := (meth 5 0)
def d_ZeroPolynomial_uinitu : He5.DefA := ⟨fun K => fAd K ("ZeroPolynomial", some "__init__"), "__init__", "ZeroPolynomial.__init__", defArgs s_ZeroPolynomial_uinitu, defBody s_ZeroPolynomial_uinitu, defScope s_ZeroPolynomial_uinitu, [], []⟩
abbrev s_BadRoot_uinitu : Stmt := (meth 6 0)
def d_BadRoot_uinitu : He5.DefA := ⟨fun K => fAd K ("BadRoot", some "__init__"), "__init__", "BadRoot.__init__", defArgs s_BadRoot_uinitu, defBody s_BadRoot_uinitu, defScope s_BadRoot_uinitu, [], []⟩
abbrev s_BadStretch_uinitu : Stmt := (meth 7 0)
def d_BadStretch_uinitu : He5.DefA := ⟨fun K => fAd K ("BadStretch", some "__init__"), "__init__", "BadStretch.__init__", defArgs s_BadStretch_uinitu, defBody s_BadStretch_uinitu, defScope s_BadStretch_uinitu, [], []⟩
abbrev s_BadRow_uinitu : Stmt := (meth 8 0)
def d_BadRow_uinitu : He5.DefA := ⟨fun K => fAd K ("BadRow", some "__init__"), "__init__", "BadRow.__init__", defArgs s_BadRow_uinitu, defBody s_BadRow_uinitu, defScope s_BadRow_uinitu, [], []⟩
abbrev s_BadTable_uinitu : Stmt := (meth 9 0)
def d_BadTable_uinitu : He5.DefA := ⟨fun K => fAd K ("BadTable", some "__init__"), "__init__", "BadTable.__init__", defArgs s_BadTable_uinitu, defBody s_BadTable_uinitu, defScope s_BadTable_uinitu, [], []⟩
abbrev s_NoLine_uinitu : Stmt := (meth 10 0)
def d_NoLine_uinitu : He5.DefA := ⟨fun K => fAd K ("NoLine", some "__init__"), "__init__", "NoLine.__init__", defArgs s_NoLine_uinitu, defBody s_NoLine_uinitu, defScope s_NoLine_uinitu, [], []⟩
abbrev s_UnlikeTables_uinitu : Stmt := (meth 11 0)
def d_UnlikeTables_uinitu : He5.DefA := ⟨fun K => fAd K ("UnlikeTables", some "__init__"), "__init__", "UnlikeTables.__init__", defArgs s_UnlikeTables_uinitu, defBody s_UnlikeTables_uinitu, defScope s_UnlikeTables_uinitu, [], []⟩
abbrev s_BadBeam_uinitu : Stmt := (meth 12 0)
def d_BadBeam_uinitu : He5.DefA := ⟨fun K => fAd K ("BadBeam", some "__init__"), "__init__", "BadBeam.__init__", defArgs s_BadBeam_uinitu, defBody s_BadBeam_uinitu, defScope s_BadBeam_uinitu, [], []⟩
abbrev s_NotFilter_uinitu : Stmt := (meth 13 0)
def d_NotFilter_uinitu : He5.DefA := ⟨fun K => fAd K ("NotFilter", some "__init__"), "__init__", "NotFilter.__init__", defArgs s_NotFilter_uinitu, defBody s_NotFilter_uinitu, defScope s_NotFilter_uinitu, [], []⟩
abbrev s_NotMirror_uinitu : Stmt := (meth 14 0)
def d_NotMirror_uinitu : He5.DefA := ⟨fun K => fAd K ("NotMirror", some "__init__"), "__init__", "NotMirror.__init__", defArgs s_NotMirror_uinitu, defBody s_NotMirror_uinitu, defScope s_NotMirror_uinitu, [], []⟩
abbrev s_BadCounts_uinitu : Stmt := (meth 15 0)
def d_BadCounts_uinitu : He5.DefA := ⟨fun K => fAd K ("BadCounts", some "__init__"), "__init__", "BadCounts.__init__", defArgs s_BadCounts_uinitu, defBody s_BadCounts_uinitu, defScope s_BadCounts_uinitu, [], []⟩
abbrev s_BadAnswer_uinitu : Stmt := (meth 16 0)
def d_BadAnswer_uinitu : He5.DefA := ⟨fun K => fAd K ("BadAnswer", some "__init__"), "__init__", "BadAnswer.__init__", defArgs s_BadAnswer_uinitu, defBody s_BadAnswer_uinitu, defScope s_BadAnswer_uinitu, [], []⟩
abbrev s_BadShare_uinitu : Stmt := (meth 17 0)
def d_BadShare_uinitu : He5.DefA := ⟨fun K => fAd K ("BadShare", some "__init__"), "__init__", "BadShare.__init__", defArgs s_BadShare_uinitu, defBody s_BadShare_uinitu, defScope s_BadShare_uinitu, [], []⟩
abbrev s_Never_uinitu : Stmt := (meth 18 0)
def d_Never_uinitu : He5.DefA := ⟨fun K => fAd K ("Never", some "__init__"), "__init__", "Never.__init__", defArgs s_Never_uinitu, defBody s_Never_uinitu, defScope s_Never_uinitu, [], []⟩
abbrev s_BadLine_uinitu : Stmt := (meth 19 0)
def d_BadLine_uinitu : He5.DefA := ⟨fun K => fAd K ("BadLine", some "__init__"), "__init__", "BadLine.__init__", defArgs s_BadLine_uinitu, defBody s_BadLine_uinitu, defScope s_BadLine_uinitu, [], []⟩
abbrev s_Clash_uinitu : Stmt := (meth 20 0)
def d_Clash_uinitu : He5.DefA := ⟨fun K => fAd K ("Clash", some "__init__"), "__init__", "Clash.__init__", defArgs s_Clash_uinitu, defBody s_Clash_uinitu, defScope s_Clash_uinitu, [], []⟩
abbrev s_NothingToUndo_uinitu : Stmt := (meth 21 0)
def d_NothingToUndo_uinitu : He5.DefA := ⟨fun K => fAd K ("NothingToUndo", some "__init__"), "__init__", "NothingToUndo.__init__", defArgs s_NothingToUndo_uinitu, defBody s_NothingToUndo_uinitu, defScope s_NothingToUndo_uinitu, [], []⟩
abbrev s_NothingToRedo_uinitu : Stmt := (meth 22 0)
def d_NothingToRedo_uinitu : He5.DefA := ⟨fun K => fAd K ("NothingToRedo", some "__init__"), "__init__", "NothingToRedo.__init__", defArgs s_NothingToRedo_uinitu, defBody s_NothingToRedo_uinitu, defScope s_NothingToRedo_uinitu, [], []⟩
abbrev s__law_cell : Stmt := (top 24)
def d__law_cell : He5.DefA := ⟨fun K => fAd K ("_law_cell", none), "_law_cell", "_law_cell", defArgs s__law_cell, defBody s__law_cell, defScope s__law_cell, [], []⟩
abbrev N__law_cell : List Str := ["_law_script", "_law_k"]
abbrev ps__law_cell : List Str := ["_law_script", "_law_k"]
theorem sc__law_cell : FnScope N__law_cell ps__law_cell d__law_cell.scope := ⟨rfl, rfl, rfl, by decide +kernel, rfl, by decide +kernel, by decide +kernel⟩
theorem bd__law_cell : ∀ (kV doc pm : Value) (an : Option Addr) (cdv ct : Value) (us : List Value), us.length = ps__law_cell.length → bindArgs (fnOf d__law_cell.name d__law_cell.qual d__law_cell.params d__law_cell.body d__law_cell.scope .none kV doc pm an cdv ct) ⟨us, []⟩ = pure (ps__law_cell.zip us) := fun _ _ _ _ _ _ us hl => match us, hl with | [_, _], _ => rfl
def c__law_cell : Ct := fun args Q _ => ∃ (ns : List Int) (k : Int), args = [.val (.scr ns), .val (.int k)] ∧ 0 ≤ k ∧ Q (.int (ns.getD k.toNat 0)) args
def r__law_cell : QS := (qRet (qIf (qTest (qBin oLt (qVar 1) (qB oLen (qCons (qVar 0) qNil)))) (qIxM 0 (qVar 1)) (qC (.int 0))))
theorem len__law_cell : ∀ args Q E, c__law_cell args Q E → args.length = ps__law_cell.length := by
  rintro args Q E ⟨_, _, rfl, _⟩
  rfl
theorem pure__law_cell : ∀ args Q E, c__law_cell args Q E → r__law_cell (startE N__law_cell.length args) (endsC args Q) (exnC args E) := by
  rintro args Q E ⟨ns, k, rfl, h0, hq⟩
  show (match decide (k < (ns.length : Int)) with | true => _ | false => _)
  by_cases h : k < (ns.length : Int)
  · rw [decide_eq_true h]
    have hl : k.toNat < ns.length := by omega
    refine ⟨.int (ns.getD k.toNat 0), ?_, hq⟩
    unfold atD
    rw [if_pos h0, List.getElem?_map, List.getElem?_eq_getElem hl, List.getD_eq_getElem?_getD, List.getElem?_eq_getElem hl]
    rfl
  · rw [decide_eq_false h]
    have e : ns.getD k.toNat 0 = 0 := by
      rw [List.getD_eq_getElem?_getD, List.getElem?_eq_none (by omega)]
      rfl
    rw [e] at hq
    exact hq
theorem ok__law_cell {P : Program} {w : World} {K : Frag} {mg : Str → Option Value} {base : Heap} (W : Wd K mg) (Fn : ∃ fd, FunD K d__law_cell.name d__law_cell.qual d__law_cell.params d__law_cell.body d__law_cell.scope (d__law_cell.dvs K) (d__law_cell.kws K) (d__law_cell.at_ K) fd) : FnB P w K mg base d__law_cell 2 ps__law_cell c__law_cell := by
  refine FnB.of (N := N__law_cell) (r := r__law_cell) Fn sc__law_cell len__law_cell pure__law_cell ?_
  intro f cdv A outer s H E0 hr G0 H0 B pin xa xd xc E tk hp
  have sc := sc__law_cell
  have hu := roomU hr
  exact (lss_one (ls_ret (le_if (lt_cmp ol_lt (le_var 1) (le_b (bl_len rfl) (la_cons (le_var 0) la_nil) W.f_len)) (le_ixM 0 rfl (le_var 1)) le_int)))
abbrev s__law_box : Stmt := (top 25)
def d__law_box : He5.DefA := ⟨fun K => fAd K ("_law_box", none), "_law_box", "_law_box", defArgs s__law_box, defBody s__law_box, defScope s__law_box, [], []⟩
abbrev N__law_box : List Str := ["_law_script", "_law_k"]
abbrev ps__law_box : List Str := ["_law_script", "_law_k"]
theorem sc__law_box : FnScope N__law_box ps__law_box d__law_box.scope := ⟨rfl, rfl, rfl, by decide +kernel, rfl, by decide +kernel, by decide +kernel⟩
theorem bd__law_box : ∀ (kV doc pm : Value) (an : Option Addr) (cdv ct : Value) (us : List Value), us.length = ps__law_box.length → bindArgs (fnOf d__law_box.name d__law_box.qual d__law_box.params d__law_box.body d__law_box.scope .none kV doc pm an cdv ct) ⟨us, []⟩ = pure (ps__law_box.zip us) := fun _ _ _ _ _ _ us hl => match us, hl with | [_, _], _ => rfl
def c__law_box : Ct := fun args Q _ => ∃ (ns : List Int) (k : Int), args = [.val (.scr ns), .val (.int k)] ∧ 0 ≤ k ∧ Bd 100 k ∧ ∀ a : Int, 0 ≤ a → Q (.fr (.lst [.int a, .int 0, .int (40503 * k + 911)])) args
def r__law_box : QS := (qRetN (qnLst (qCons (qB oAbs (qCons (qB oInt (qCons (qCall c__law_cell (qhVal (qVar 0) (qhVal (qVar 1) qhNil))) qNil)) qNil)) (qCons (qC (.int 0)) (qCons (qBin oAdd (qBin oMul (qC (.int 40503)) (qVar 1)) (qC (.int 911))) qNil)))))
theorem len__law_box : ∀ args Q E, c__law_box args Q E → args.length = ps__law_box.length := by
  rintro args Q E ⟨_, _, rfl, _⟩
  rfl
theorem pure__law_box : ∀ args Q E, c__law_box args Q E → r__law_box (startE N__law_box.length args) (endsC args Q) (exnC args E) := by
  rintro args Q E ⟨ns, k, rfl, h0, hk, hq⟩
  refine ⟨ns, k, rfl, h0, mul_ok (n := 100) (bd_of (by decide)) hk (by decide), Nat.le_of_ble_eq_true rfl, ?_⟩
  refine hq _ ?_
  split <;> omega
theorem ok__law_box {P : Program} {w : World} {K : Frag} {mg : Str → Option Value} {base : Heap} (W : Wd K mg) (Fn : ∃ fd, FunD K d__law_box.name d__law_box.qual d__law_box.params d__law_box.body d__law_box.scope (d__law_box.dvs K) (d__law_box.kws K) (d__law_box.at_ K) fd) (h__law_cell : FnB P w K mg base d__law_cell 2 ps__law_cell c__law_cell) : FnB P w K mg base d__law_box 5 ps__law_box c__law_box := by
  refine FnB.of (N := N__law_box) (r := r__law_box) Fn sc__law_box len__law_box pure__law_box ?_
  intro f cdv A outer s H E0 hr G0 H0 B pin xa xd xc E tk hp
  have sc := sc__law_box
  have hu := roomU hr
  exact (lss_one (ls_retN (ln_lst (la_cons (le_b bl_abs (la_cons (le_bty bl_int (la_cons (le_callC (h__law_cell.all rfl rfl rfl rfl rfl rfl (hr.mono (by decide : 2 ≤ 4)) rfl rfl bd__law_cell) W.g__law_cell h__law_cell.kp tk (lc_p (lh_val (le_var 0) (lh_val (le_var 1) lh_nil)))) la_nil) W.f_int) la_nil) W.f_abs) (la_cons le_int (la_cons (le_bin ol_add (le_bin ol_mul le_int (le_var 1)) le_int) la_nil))))))
abbrev s__law_take : Stmt := (top 26)
def d__law_take : He5.DefA := ⟨fun K => fAd K ("_law_take", none), "_law_take", "_law_take", defArgs s__law_take, defBody s__law_take, defScope s__law_take, [], []⟩
abbrev N__law_take : List Str := ["_law_box_here", "_law_many", "_law_digit", "_law_mixed"]
abbrev ps__law_take : List Str := ["_law_box_here", "_law_many"]
theorem sc__law_take : FnScope N__law_take ps__law_take d__law_take.scope := ⟨rfl, rfl, rfl, by decide +kernel, rfl, by decide +kernel, by decide +kernel⟩
theorem bd__law_take : ∀ (kV doc pm : Value) (an : Option Addr) (cdv ct : Value) (us : List Value), us.length = ps__law_take.length → bindArgs (fnOf d__law_take.name d__law_take.qual d__law_take.params d__law_take.body d__law_take.scope .none kV doc pm an cdv ct) ⟨us, []⟩ = pure (ps__law_take.zip us) := fun _ _ _ _ _ _ us hl => match us, hl with | [_, _], _ => rfl
structure BoxOk (a b c : Int) : Prop where
  ha : 0 ≤ a
  hb : 0 ≤ b
  hb2 : b < 1000000
  hc : 0 ≤ c
  hc2 : c < 1000000000
def boxD (a b c : Int) : Slot := .bor (.lst [.int a, .int b, .int c])
def c__law_take : Ct := fun args Q _ => ∃ a b c m : Int, args = [boxD a b c, .val (.int m)] ∧ BoxOk a b c ∧ 0 < m ∧ Bd 8000 m ∧ ∀ r a' b' : Int, 0 ≤ r → r < m → 0 ≤ a' → 0 ≤ b' → b' ≤ b + 1 → Q (.int r) [boxD a' b' c, .val (.int m)]
def r__law_take : QS := (qSeq (qIfS (qTest (qBin oGe (qIxM 0 (qC (.int 0))) (qBin oPow (qC (.int 10)) (qC (.int 18))))) (qSeq (qSet 2 (qBin oMod (qB oInt (qCons (qIxM 0 (qC (.int 0))) qNil)) (qVar 1)))
    (qSeq (qSetIx 0 (qBin oDiv (qIxM 0 (qC (.int 0))) (qVar 1)) (qC (.int 0)))
    (qRet (qVar 2)))) qNx)
    (qSeq (qSetIx 0 (qBin oAdd (qIxM 0 (qC (.int 1))) (qC (.int 1))) (qC (.int 1)))
    (qSeq (qSet 3 (qBin oMod (qBin oPow (qB oInt (qCons (qBin oAdd (qBin oAdd (qBin oMul (qBin oAdd (qIxM 0 (qC (.int 0))) (qC (.int 7))) (qC (.int 69069))) (qBin oMul (qIxM 0 (qC (.int 1))) (qC (.int 40692)))) (qIxM 0 (qC (.int 2)))) qNil)) (qC (.int 3))) (qC (.int 2147483647))))
    (qSeq (qSet 3 (qBin oMod (qBin oPow (qB oInt (qCons (qBin oAdd (qVar 3) (qBin oMul (qIxM 0 (qC (.int 1))) (qC (.int 17389)))) qNil)) (qC (.int 3))) (qC (.int 2147483399))))
    (qRet (qBin oMod (qB oInt (qCons (qBin oDiv (qVar 3) (qC (.int 64))) qNil)) (qVar 1)))))))
theorem len__law_take : ∀ args Q E, c__law_take args Q E → args.length = ps__law_take.length := by
  rintro args Q E ⟨_, _, _, _, rfl, _⟩
  rfl
theorem pure__law_take : ∀ args Q E, c__law_take args Q E → r__law_take (startE N__law_take.length args) (endsC args Q) (exnC args E) := by
  rintro args Q E ⟨a, b, c, m, rfl, hb, hm, hm2, hq⟩
  refine ⟨_, rfl, ⟨by decide, by decide⟩, ?_⟩
  show (match decide ((10 : Int) ^ (18 : Int).toNat ≤ a) with | true => _ | false => _)
  have e18 : (10 : Int) ^ (18 : Int).toNat = 1000000000000000000 := by decide
  by_cases h : (10 : Int) ^ (18 : Int).toNat ≤ a
  · rw [decide_eq_true h]
    refine ⟨_, rfl, by omega, _, rfl, div_ok (by omega) (hm2.mono (by decide)), by decide, ?_⟩
    exact hq (a.fmod m) (a.fdiv m) b (Int.fmod_nonneg_of_pos _ hm) (Int.fmod_lt_of_pos _ hm) (Int.fdiv_nonneg hb.ha (by omega)) hb.hb (by omega)
  · rw [decide_eq_false h]
    have h' : a < 1000000000000000000 := by omega
    have ha := hb.ha
    have hb1 := hb.hb
    have hb2 := hb.hb2
    have hc1 := hb.hc
    have hc2 := hb.hc2
    have bd : ∀ z : Int, 0 ≤ z → z < 2 ^ 200 → Bd 200 z := fun z h1 h2 => by
      unfold Bd
      omega
    have p1 : Bd 200 ((a + 7) * 69069 + (b + 1) * 40692 + c) := bd _ (by omega) (by omega)
    have e1 := Int.fmod_nonneg_of_pos (((a + 7) * 69069 + (b + 1) * 40692 + c) ^ 3) (show (0 : Int) < 2147483647 by decide)
    have e2 := Int.fmod_lt_of_pos (((a + 7) * 69069 + (b + 1) * 40692 + c) ^ 3) (show (0 : Int) < 2147483647 by decide)
    refine ⟨_, rfl, by decide, _, rfl, mul_ok (n := 200) (m := 200) (bd _ (by omega) (by omega)) (bd _ (by decide) (by decide)) (by decide), _, rfl, mul_ok (n := 200) (m := 200) (bd _ (by omega) (by omega)) (bd _ (by decide) (by decide)) (by decide), _, rfl, pow3_ok p1 (by decide), by decide, _, rfl, mul_ok (n := 200) (m := 200) (bd _ (by omega) (by omega)) (bd _ (by decide) (by decide)) (by decide), ?_⟩
    have p2 : Bd 200 ((((a + 7) * 69069 + (b + 1) * 40692 + c) ^ 3).fmod 2147483647 + (b + 1) * 17389) := bd _ (by omega) (by omega)
    refine ⟨pow3_ok p2 (by decide), by decide, div_ok (by decide) (bd_of (by decide)), by omega, ?_⟩
    exact hq _ a (b + 1) (Int.fmod_nonneg_of_pos _ hm) (Int.fmod_lt_of_pos _ hm) ha (by omega) (by omega)
theorem ok__law_take {P : Program} {w : World} {K : Frag} {mg : Str → Option Value} {base : Heap} (W : Wd K mg) (Fn : ∃ fd, FunD K d__law_take.name d__law_take.qual d__law_take.params d__law_take.body d__law_take.scope (d__law_take.dvs K) (d__law_take.kws K) (d__law_take.at_ K) fd) : FnB P w K mg base d__law_take 2 ps__law_take c__law_take := by
  refine FnB.of (N := N__law_take) (r := r__law_take) Fn sc__law_take len__law_take pure__law_take ?_
  intro f cdv A outer s H E0 hr G0 H0 B pin xa xd xc E tk hp
  have sc := sc__law_take
  have hu := roomU hr
  exact (lss_cons (ls_if (lt_cmp ol_ge (le_ixM 0 rfl le_int) (le_bin ol_pow le_int le_int)) (lss_cons (ls_set 2 sc.nd (le_bin ol_mod (le_bty bl_int (la_cons (le_ixM 0 rfl le_int) la_nil) W.f_int) (le_var 1)))
    (lss_cons (ls_setIx 0 (le_bin ol_div (le_ixM 0 rfl le_int) (le_var 1)) le_int)
    (lss_one (ls_ret (le_var 2))))) lss_nil)
    (lss_cons (ls_setIx 0 (le_bin ol_add (le_ixM 0 rfl le_int) le_int) le_int)
    (lss_cons (ls_set 3 sc.nd (le_bin ol_mod (le_bin ol_pow (le_bty bl_int (la_cons (le_bin ol_add (le_bin ol_add (le_bin ol_mul (le_bin ol_add (le_ixM 0 rfl le_int) le_int) le_int) (le_bin ol_mul (le_ixM 0 rfl le_int) le_int)) (le_ixM 0 rfl le_int)) la_nil) W.f_int) le_int) le_int))
    (lss_cons (ls_set 3 sc.nd (le_bin ol_mod (le_bin ol_pow (le_bty bl_int (la_cons (le_bin ol_add (le_var 3) (le_bin ol_mul (le_ixM 0 rfl le_int) le_int)) la_nil) W.f_int) le_int) le_int))
    (lss_one (ls_ret (le_bin ol_mod (le_bty bl_int (la_cons (le_bin ol_div (le_var 3) le_int) la_nil) W.f_int) (le_var 1))))))))
abbrev s__law_same : Stmt := (top 27)
def d__law_same : He5.DefA := ⟨fun K => fAd K ("_law_same", none), "_law_same", "_law_same", defArgs s__law_same, defBody s__law_same, defScope s__law_same, [], []⟩
abbrev N__law_same : List Str := ["_law_one", "_law_other"]
abbrev ps__law_same : List Str := ["_law_one", "_law_other"]
theorem sc__law_same : FnScope N__law_same ps__law_same d__law_same.scope := ⟨rfl, rfl, rfl, by decide +kernel, rfl, by decide +kernel, by decide +kernel⟩
theorem bd__law_same : ∀ (kV doc pm : Value) (an : Option Addr) (cdv ct : Value) (us : List Value), us.length = ps__law_same.length → bindArgs (fnOf d__law_same.name d__law_same.qual d__law_same.params d__law_same.body d__law_same.scope .none kV doc pm an cdv ct) ⟨us, []⟩ = pure (ps__law_same.zip us) := fun _ _ _ _ _ _ us hl => match us, hl with | [_, _], _ => rfl
def listA : List D := [.str "p", .int 0, .non, .int (-3), .tup [.int 1, .int 2], .lst [.str "x"], .bl true]
def listB : List D := [.dic [(.inr "k", .int 1)], .int (10 ^ 30), .str "", .tup [.str "q"], .bl false]
def c__law_same : Ct := fun args Q _ => ∃ d, args = [.val d, .val d] ∧ d ∈ listA ++ listB ∧ Q (.bl true) args
def r__law_same : QS := (qRet (qAndV (qBin oEq (qB oRepr2 (qCons (qVar 0) qNil)) (qB oRepr2 (qCons (qVar 1) qNil))) (qBin oEq (qUn (oIsa isa_bool) (qVar 0)) (qUn (oIsa isa_bool) (qVar 1)))))
/-- how a datum is shown -/
structure Shw (d : D) (s : Str) (b : Bool) : Prop where
  r : ∀ Γ Q E, Q (.str s) Γ → oRepr2 [d] Γ Q E
  p : plainD (.str s) = true
  i : isa_bool.ans d = some b
theorem eqv_selfS (s : Str) : PyData.eqv (toPy (.str s)) (toPy (.str s)) = true := by
  show decide _ = true
  exact decide_eq_true rfl
theorem isa_of {t : IsaT} {d : D} {b : Bool} (h : t.ans d = some b) {Γ : Q.Env} {Q : D → Q.Env → Prop} {E : XP} (q : Q (.bl b) Γ) : oIsa t d Γ Q E := by
  unfold oIsa
  rw [h]
  exact q
theorem same_of {d : D} {s : Str} {b : Bool} (h : Shw d s b) {Q : D → List Slot → Prop} {E : Exn → List Slot → Prop} (hq : Q (.bl true) [.val d, .val d]) : r__law_same (startE N__law_same.length [.val d, .val d]) (endsC [.val d, .val d] Q) (exnC [.val d, .val d] E) := by
  have hr := h.r
  have hi : ∀ Γ Q E, Q (.bl b) Γ → oIsa isa_bool d Γ Q E := fun Γ Q E q => isa_of h.i q
  unfold r__law_same
  generalize oRepr2 = oR at hr ⊢
  generalize oIsa isa_bool = oI at hi ⊢
  show oR [d] _ _ _
  refine hr _ _ _ ?_
  show oR [d] _ _ _
  refine hr _ _ _ ?_
  refine ⟨h.p, h.p, ?_⟩
  rw [eqv_selfS]
  show oI d _ _ _
  refine hi _ _ _ ?_
  show oI d _ _ _
  refine hi _ _ _ ?_
  refine ⟨rfl, rfl, ?_⟩
  have e : PyData.eqv (toPy (.bl b)) (toPy (.bl b)) = true := by cases b <;> rfl
  rw [e]
  exact hq
theorem shw_all : ∀ d ∈ listA ++ listB, ∃ s b, Shw d s b := by
  intro d hd
  simp only [listA, listB, List.cons_append, List.nil_append, List.mem_cons, List.not_mem_nil, or_false] at hd
  rcases hd with rfl | rfl | rfl | rfl | rfl | rfl | rfl | rfl | rfl | rfl | rfl | rfl
  · exact ⟨_, _, fun Γ Q E q => ⟨by decide +kernel, q⟩, by decide +kernel, rfl⟩
  · exact ⟨_, _, fun Γ Q E q => ⟨by decide +kernel, q⟩, by decide +kernel, rfl⟩
  · exact ⟨_, _, fun Γ Q E q => q, by decide +kernel, rfl⟩
  · exact ⟨_, _, fun Γ Q E q => ⟨by decide +kernel, q⟩, by decide +kernel, rfl⟩
  · exact ⟨_, _, fun Γ Q E q => ⟨by decide +kernel, q⟩, by decide +kernel, rfl⟩
  · exact ⟨_, _, fun Γ Q E q => ⟨by decide +kernel, q⟩, by decide +kernel, rfl⟩
  · exact ⟨_, _, fun Γ Q E q => q, by decide +kernel, rfl⟩
  · exact ⟨_, _, fun Γ Q E q => ⟨by decide +kernel, q⟩, by decide +kernel, rfl⟩
  · exact ⟨_, _, fun Γ Q E q => ⟨by decide +kernel, q⟩, by decide +kernel, rfl⟩
  · exact ⟨_, _, fun Γ Q E q => ⟨by decide +kernel, q⟩, by decide +kernel, rfl⟩
  · exact ⟨_, _, fun Γ Q E q => ⟨by decide +kernel, q⟩, by decide +kernel, rfl⟩
  · exact ⟨_, _, fun Γ Q E q => q, by decide +kernel, rfl⟩
theorem len__law_same : ∀ args Q E, c__law_same args Q E → args.length = ps__law_same.length := by
  rintro args Q E ⟨_, rfl, _⟩
  rfl
theorem pure__law_same : ∀ args Q E, c__law_same args Q E → r__law_same (startE N__law_same.length args) (endsC args Q) (exnC args E) := by
  rintro args Q E ⟨d, rfl, hd, hq⟩
  obtain ⟨s, b, h⟩ := shw_all d hd
  exact same_of h hq
theorem ok__law_same {P : Program} {w : World} {K : Frag} {mg : Str → Option Value} {base : Heap} (W : Wd K mg) (Fn : ∃ fd, FunD K d__law_same.name d__law_same.qual d__law_same.params d__law_same.body d__law_same.scope (d__law_same.dvs K) (d__law_same.kws K) (d__law_same.at_ K) fd) : FnBG P w K mg base d__law_same 2 ps__law_same c__law_same := by
  refine FnBG.of (N := N__law_same) (r := r__law_same) Fn sc__law_same len__law_same pure__law_same ?_
  intro f cdv A outer s H E0 hr hgd G0 H0 B pin xa xd xc E tk hp
  have sc := sc__law_same
  have hu := roomU hr
  exact (lss_one (ls_ret (le_and (le_cmp (ol_eq rfl hr) (le_b (bl_repr2 rfl hu hgd) (la_cons (le_var 0) la_nil) W.f_repr) (le_b (bl_repr2 rfl hu hgd) (la_cons (le_var 1) la_nil) W.f_repr)) (le_one (le_cmp (ol_eq rfl hr) (le_isi (isa_ok W.i_bool W.isc_bool) rfl (pe_bltn (v := .ty "bool") (u := .type "bool") rfl W.f_bool rfl rfl) (.ty _) (le_var 0) W.f_isinstance) (le_isi (isa_ok W.i_bool W.isc_bool) rfl (pe_bltn (v := .ty "bool") (u := .type "bool") rfl W.f_bool rfl rfl) (.ty _) (le_var 1) W.f_isinstance))))))
abbrev s__law_kinds : Stmt := (top 28)
def d__law_kinds : He5.DefA := ⟨fun K => fAd K ("_law_kinds", none), "_law_kinds", "_law_kinds", defArgs s__law_kinds, defBody s__law_kinds, defScope s__law_kinds, [], []⟩
abbrev N__law_kinds : List Str := ["_law_e", "_law_found", "_law_bit"]
abbrev ps__law_kinds : List Str := ["_law_e"]
theorem sc__law_kinds : FnScope N__law_kinds ps__law_kinds d__law_kinds.scope := ⟨rfl, rfl, rfl, by decide +kernel, rfl, by decide +kernel, by decide +kernel⟩
theorem bd__law_kinds : ∀ (kV doc pm : Value) (an : Option Addr) (cdv ct : Value) (us : List Value), us.length = ps__law_kinds.length → bindArgs (fnOf d__law_kinds.name d__law_kinds.qual d__law_kinds.params d__law_kinds.body d__law_kinds.scope .none kV doc pm an cdv ct) ⟨us, []⟩ = pure (ps__law_kinds.zip us) := fun _ _ _ _ _ _ us hl => match us, hl with | [_], _ => rfl
def c__law_kinds : Ct := fun args Q _ => ∃ c fs, args = [.val (.err c fs)] ∧ c ∈ errL ∧ Q (.int 1) args
def r__law_kinds_ret : QS := (qRet (qB oLen (qCons (qTell (qnLc (qiSeq (qVar 1)) (gV 2) (qTest (qVar 2)) (qVar 2) [2])) qNil)))
def r__law_kinds : QS := (qSeq (qSet 1 (qLst (qCons (qUn (oIsaE isE_BadAnswer) (qVar 0)) (qCons (qUn (oIsaE isE_BadBeam) (qVar 0)) (qCons (qUn (oIsaE isE_BadCounts) (qVar 0)) qNil)))))
    (qSeq (qSet 1 (qBin oAdd (qVar 1) (qLst (qCons (qUn (oIsaE isE_BadLine) (qVar 0)) (qCons (qUn (oIsaE isE_BadNumber) (qVar 0)) (qCons (qUn (oIsaE isE_BadRoot) (qVar 0)) qNil))))))
    (qSeq (qSet 1 (qBin oAdd (qVar 1) (qLst (qCons (qUn (oIsaE isE_BadRow) (qVar 0)) (qCons (qUn (oIsaE isE_BadShare) (qVar 0)) (qCons (qUn (oIsaE isE_BadStretch) (qVar 0)) qNil))))))
    (qSeq (qSet 1 (qBin oAdd (qVar 1) (qLst (qCons (qUn (oIsaE isE_BadTable) (qVar 0)) (qCons (qUn (oIsaE isE_BadText) (qVar 0)) (qCons (qUn (oIsaE isE_ByZero) (qVar 0)) qNil))))))
    (qSeq (qSet 1 (qBin oAdd (qVar 1) (qLst (qCons (qUn (oIsaE isE_Clash) (qVar 0)) (qCons (qUn (oIsaE isE_Never) (qVar 0)) (qCons (qUn (oIsaE isE_NoLine) (qVar 0)) qNil))))))
    (qSeq (qSet 1 (qBin oAdd (qVar 1) (qLst (qCons (qUn (oIsaE isE_NotFilter) (qVar 0)) (qCons (qUn (oIsaE isE_NothingToRedo) (qVar 0)) (qCons (qUn (oIsaE isE_NothingToUndo) (qVar 0)) qNil))))))
    (qSeq (qSet 1 (qBin oAdd (qVar 1) (qLst (qCons (qUn (oIsaE isE_NotMirror) (qVar 0)) (qCons (qUn (oIsaE isE_UnlikeTables) (qVar 0)) (qCons (qUn (oIsaE isE_ZeroPolynomial) (qVar 0)) qNil))))))
    r__law_kinds_ret)))))))
theorem lookC_map (f : Cn → Bool) {c : Cn} : ∀ (l : List Cn), c ∈ l → lookC (l.map fun x => (x, f x)) c = some (f c)
  | [], h => by cases h
  | a :: l, h => by
    show (match Nat.beq a.ix c.ix with | true => some (f a) | false => lookC (l.map fun x => (x, f x)) c) = _
    cases e : Nat.beq a.ix c.ix with
    | true => rw [ix_inj e]
    | false =>
      refine lookC_map f l ?_
      rcases List.mem_cons.mp h with q | q
      · subst q
        rw [Nat.beq_refl] at e
        cases e
      · exact q
theorem isE_of {t : List (Cn × Bool)} {c : Cn} {fs : List D} {b : Bool} (h : lookC t c = some b) {Γ : Q.Env} {Q : D → Q.Env → Prop} {E : XP} (q : Q (.bl b) Γ) : oIsaE t (.err c fs) Γ Q E := by
  show (match lookC t c with | some b => Q (.bl b) Γ | none => False)
  rw [h]
  exact q
theorem lk_BadAnswer {c : Cn} (h : c ∈ errL) : lookC isE_BadAnswer c = some (Nat.beq c.ix Cn.badAnswer.ix) := lookC_map _ errL h
theorem lk_BadBeam {c : Cn} (h : c ∈ errL) : lookC isE_BadBeam c = some (Nat.beq c.ix Cn.badBeam.ix) := lookC_map _ errL h
theorem lk_BadCounts {c : Cn} (h : c ∈ errL) : lookC isE_BadCounts c = some (Nat.beq c.ix Cn.badCounts.ix) := lookC_map _ errL h
theorem lk_BadLine {c : Cn} (h : c ∈ errL) : lookC isE_BadLine c = some (Nat.beq c.ix Cn.badLine.ix) := lookC_map _ errL h
theorem lk_BadNumber {c : Cn} (h : c ∈ errL) : lookC isE_BadNumber c = some (Nat.beq c.ix Cn.badNumber.ix) := lookC_map _ errL h
theorem lk_BadRoot {c : Cn} (h : c ∈ errL) : lookC isE_BadRoot c = some (Nat.beq c.ix Cn.badRoot.ix) := lookC_map _ errL h
theorem lk_BadRow {c : Cn} (h : c ∈ errL) : lookC isE_BadRow c = some (Nat.beq c.ix Cn.badRow.ix) := lookC_map _ errL h
theorem lk_BadShare {c : Cn} (h : c ∈ errL) : lookC isE_BadShare c = some (Nat.beq c.ix Cn.badShare.ix) := lookC_map _ errL h
theorem lk_BadStretch {c : Cn} (h : c ∈ errL) : lookC isE_BadStretch c = some (Nat.beq c.ix Cn.badStretch.ix) := lookC_map _ errL h
theorem lk_BadTable {c : Cn} (h : c ∈ errL) : lookC isE_BadTable c = some (Nat.beq c.ix Cn.badTable.ix) := lookC_map _ errL h
theorem lk_BadText {c : Cn} (h : c ∈ errL) : lookC isE_BadText c = some (Nat.beq c.ix Cn.badText.ix) := lookC_map _ errL h
theorem lk_ByZero {c : Cn} (h : c ∈ errL) : lookC isE_ByZero c = some (Nat.beq c.ix Cn.byZero.ix) := lookC_map _ errL h
theorem lk_Clash {c : Cn} (h : c ∈ errL) : lookC isE_Clash c = some (Nat.beq c.ix Cn.clash.ix) := lookC_map _ errL h
theorem lk_Never {c : Cn} (h : c ∈ errL) : lookC isE_Never c = some (Nat.beq c.ix Cn.never.ix) := lookC_map _ errL h
theorem lk_NoLine {c : Cn} (h : c ∈ errL) : lookC isE_NoLine c = some (Nat.beq c.ix Cn.noLine.ix) := lookC_map _ errL h
theorem lk_NotFilter {c : Cn} (h : c ∈ errL) : lookC isE_NotFilter c = some (Nat.beq c.ix Cn.notFilter.ix) := lookC_map _ errL h
theorem lk_NothingToRedo {c : Cn} (h : c ∈ errL) : lookC isE_NothingToRedo c = some (Nat.beq c.ix Cn.nothingToRedo.ix) := lookC_map _ errL h
theorem lk_NothingToUndo {c : Cn} (h : c ∈ errL) : lookC isE_NothingToUndo c = some (Nat.beq c.ix Cn.nothingToUndo.ix) := lookC_map _ errL h
theorem lk_NotMirror {c : Cn} (h : c ∈ errL) : lookC isE_NotMirror c = some (Nat.beq c.ix Cn.notMirror.ix) := lookC_map _ errL h
theorem lk_UnlikeTables {c : Cn} (h : c ∈ errL) : lookC isE_UnlikeTables c = some (Nat.beq c.ix Cn.unlikeTables.ix) := lookC_map _ errL h
theorem lk_ZeroPolynomial {c : Cn} (h : c ∈ errL) : lookC isE_ZeroPolynomial c = some (Nat.beq c.ix Cn.zeroPolynomial.ix) := lookC_map _ errL h
theorem kinds_one {c : Cn} (h : c ∈ errL) : ((([Nat.beq c.ix Cn.badAnswer.ix, Nat.beq c.ix Cn.badBeam.ix, Nat.beq c.ix Cn.badCounts.ix, Nat.beq c.ix Cn.badLine.ix, Nat.beq c.ix Cn.badNumber.ix, Nat.beq c.ix Cn.badRoot.ix, Nat.beq c.ix Cn.badRow.ix, Nat.beq c.ix Cn.badShare.ix, Nat.beq c.ix Cn.badStretch.ix, Nat.beq c.ix Cn.badTable.ix, Nat.beq c.ix Cn.badText.ix, Nat.beq c.ix Cn.byZero.ix, Nat.beq c.ix Cn.clash.ix, Nat.beq c.ix Cn.never.ix, Nat.beq c.ix Cn.noLine.ix, Nat.beq c.ix Cn.notFilter.ix, Nat.beq c.ix Cn.nothingToRedo.ix, Nat.beq c.ix Cn.nothingToUndo.ix, Nat.beq c.ix Cn.notMirror.ix, Nat.beq c.ix Cn.unlikeTables.ix, Nat.beq c.ix Cn.zeroPolynomial.ix] : List Bool).filter id).length : Nat) = 1 := by
  simp only [errL, List.mem_cons, List.not_mem_nil, or_false] at h
  rcases h with rfl | rfl | rfl | rfl | rfl | rfl | rfl | rfl | rfl | rfl | rfl | rfl | rfl | rfl | rfl | rfl | rfl | rfl | rfl | rfl | rfl <;> rfl
theorem kinds_ret (bs : List Bool) (e : D) (hl : bs.length ≤ 1000) (P : PEnds) (E : XP) (hq : P.rt (.int ((bs.filter id).length : Nat)) [.val e, .val (.lst (bs.map D.bl)), .no]) : r__law_kinds_ret [.val e, .val (.lst (bs.map D.bl)), .no] P E := by
  refine lc_invF (fun i acc Γ => Γ = [.val e, .val (.lst (bs.map D.bl)), .no] ∧ acc = ((bs.take i).filter id).map D.bl) (by rw [List.length_map]; omega) (fun _ _ _ _ _ => trivial) ⟨rfl, by simp⟩ ?_ ?_
  · rintro i d acc Γ Z Z' X ed hl ⟨rfl, rfl⟩ hZ hZ' hX
    rw [List.getElem?_map] at ed
    cases hb : bs[i]? with
    | none => rw [hb] at ed; cases ed
    | some b =>
      rw [hb] at ed
      cases ed
      have et : bs.take (i + 1) = bs.take i ++ [b] := by
        rw [List.take_add_one, hb]
        rfl
      cases b with
      | true => exact hZ _ _ ⟨rfl, by rw [et, List.filter_append, List.map_append]; rfl⟩
      | false => exact hZ' _ ⟨rfl, by rw [et, List.filter_append, List.map_append]; simp⟩
  · rintro acc Γ hl ⟨rfl, rfl⟩
    rw [List.length_map, List.take_length]
    have : (((bs.filter id).map D.bl).length : Int) = ((bs.filter id).length : Nat) := by rw [List.length_map]
    show P.rt (.int (((bs.filter id).map D.bl).length : Int)) _
    rw [this]
    exact hq
theorem len__law_kinds : ∀ args Q E, c__law_kinds args Q E → args.length = ps__law_kinds.length := by
  rintro args Q E ⟨_, _, rfl, _⟩
  rfl
theorem pure__law_kinds : ∀ args Q E, c__law_kinds args Q E → r__law_kinds (startE N__law_kinds.length args) (endsC args Q) (exnC args E) := by
  rintro args Q E ⟨c, fs, rfl, hc, hq⟩
  unfold r__law_kinds
  have hi_BadAnswer : ∀ Γ Q E, Q (.bl (Nat.beq c.ix Cn.badAnswer.ix)) Γ → oIsaE isE_BadAnswer (.err c fs) Γ Q E := fun Γ Q E q => isE_of (lk_BadAnswer hc) q
  generalize oIsaE isE_BadAnswer = o_BadAnswer at hi_BadAnswer ⊢
  have hi_BadBeam : ∀ Γ Q E, Q (.bl (Nat.beq c.ix Cn.badBeam.ix)) Γ → oIsaE isE_BadBeam (.err c fs) Γ Q E := fun Γ Q E q => isE_of (lk_BadBeam hc) q
  generalize oIsaE isE_BadBeam = o_BadBeam at hi_BadBeam ⊢
  have hi_BadCounts : ∀ Γ Q E, Q (.bl (Nat.beq c.ix Cn.badCounts.ix)) Γ → oIsaE isE_BadCounts (.err c fs) Γ Q E := fun Γ Q E q => isE_of (lk_BadCounts hc) q
  generalize oIsaE isE_BadCounts = o_BadCounts at hi_BadCounts ⊢
  have hi_BadLine : ∀ Γ Q E, Q (.bl (Nat.beq c.ix Cn.badLine.ix)) Γ → oIsaE isE_BadLine (.err c fs) Γ Q E := fun Γ Q E q => isE_of (lk_BadLine hc) q
  generalize oIsaE isE_BadLine = o_BadLine at hi_BadLine ⊢
  have hi_BadNumber : ∀ Γ Q E, Q (.bl (Nat.beq c.ix Cn.badNumber.ix)) Γ → oIsaE isE_BadNumber (.err c fs) Γ Q E := fun Γ Q E q => isE_of (lk_BadNumber hc) q
  generalize oIsaE isE_BadNumber = o_BadNumber at hi_BadNumber ⊢
  have hi_BadRoot : ∀ Γ Q E, Q (.bl (Nat.beq c.ix Cn.badRoot.ix)) Γ → oIsaE isE_BadRoot (.err c fs) Γ Q E := fun Γ Q E q => isE_of (lk_BadRoot hc) q
  generalize oIsaE isE_BadRoot = o_BadRoot at hi_BadRoot ⊢
  have hi_BadRow : ∀ Γ Q E, Q (.bl (Nat.beq c.ix Cn.badRow.ix)) Γ → oIsaE isE_BadRow (.err c fs) Γ Q E := fun Γ Q E q => isE_of (lk_BadRow hc) q
  generalize oIsaE isE_BadRow = o_BadRow at hi_BadRow ⊢
  have hi_BadShare : ∀ Γ Q E, Q (.bl (Nat.beq c.ix Cn.badShare.ix)) Γ → oIsaE isE_BadShare (.err c fs) Γ Q E := fun Γ Q E q => isE_of (lk_BadShare hc) q
  generalize oIsaE isE_BadShare = o_BadShare at hi_BadShare ⊢
  have hi_BadStretch : ∀ Γ Q E, Q (.bl (Nat.beq c.ix Cn.badStretch.ix)) Γ → oIsaE isE_BadStretch (.err c fs) Γ Q E := fun Γ Q E q => isE_of (lk_BadStretch hc) q
  generalize oIsaE isE_BadStretch = o_BadStretch at hi_BadStretch ⊢
  have hi_BadTable : ∀ Γ Q E, Q (.bl (Nat.beq c.ix Cn.badTable.ix)) Γ → oIsaE isE_BadTable (.err c fs) Γ Q E := fun Γ Q E q => isE_of (lk_BadTable hc) q
  generalize oIsaE isE_BadTable = o_BadTable at hi_BadTable ⊢
  have hi_BadText : ∀ Γ Q E, Q (.bl (Nat.beq c.ix Cn.badText.ix)) Γ → oIsaE isE_BadText (.err c fs) Γ Q E := fun Γ Q E q => isE_of (lk_BadText hc) q
  generalize oIsaE isE_BadText = o_BadText at hi_BadText ⊢
  have hi_ByZero : ∀ Γ Q E, Q (.bl (Nat.beq c.ix Cn.byZero.ix)) Γ → oIsaE isE_ByZero (.err c fs) Γ Q E := fun Γ Q E q => isE_of (lk_ByZero hc) q
  generalize oIsaE isE_ByZero = o_ByZero at hi_ByZero ⊢
  have hi_Clash : ∀ Γ Q E, Q (.bl (Nat.beq c.ix Cn.clash.ix)) Γ → oIsaE isE_Clash (.err c fs) Γ Q E := fun Γ Q E q => isE_of (lk_Clash hc) q
  generalize oIsaE isE_Clash = o_Clash at hi_Clash ⊢
  have hi_Never : ∀ Γ Q E, Q (.bl (Nat.beq c.ix Cn.never.ix)) Γ → oIsaE isE_Never (.err c fs) Γ Q E := fun Γ Q E q => isE_of (lk_Never hc) q
  generalize oIsaE isE_Never = o_Never at hi_Never ⊢
  have hi_NoLine : ∀ Γ Q E, Q (.bl (Nat.beq c.ix Cn.noLine.ix)) Γ → oIsaE isE_NoLine (.err c fs) Γ Q E := fun Γ Q E q => isE_of (lk_NoLine hc) q
  generalize oIsaE isE_NoLine = o_NoLine at hi_NoLine ⊢
  have hi_NotFilter : ∀ Γ Q E, Q (.bl (Nat.beq c.ix Cn.notFilter.ix)) Γ → oIsaE isE_NotFilter (.err c fs) Γ Q E := fun Γ Q E q => isE_of (lk_NotFilter hc) q
  generalize oIsaE isE_NotFilter = o_NotFilter at hi_NotFilter ⊢
  have hi_NothingToRedo : ∀ Γ Q E, Q (.bl (Nat.beq c.ix Cn.nothingToRedo.ix)) Γ → oIsaE isE_NothingToRedo (.err c fs) Γ Q E := fun Γ Q E q => isE_of (lk_NothingToRedo hc) q
  generalize oIsaE isE_NothingToRedo = o_NothingToRedo at hi_NothingToRedo ⊢
  have hi_NothingToUndo : ∀ Γ Q E, Q (.bl (Nat.beq c.ix Cn.nothingToUndo.ix)) Γ → oIsaE isE_NothingToUndo (.err c fs) Γ Q E := fun Γ Q E q => isE_of (lk_NothingToUndo hc) q
  generalize oIsaE isE_NothingToUndo = o_NothingToUndo at hi_NothingToUndo ⊢
  have hi_NotMirror : ∀ Γ Q E, Q (.bl (Nat.beq c.ix Cn.notMirror.ix)) Γ → oIsaE isE_NotMirror (.err c fs) Γ Q E := fun Γ Q E q => isE_of (lk_NotMirror hc) q
  generalize oIsaE isE_NotMirror = o_NotMirror at hi_NotMirror ⊢
  have hi_UnlikeTables : ∀ Γ Q E, Q (.bl (Nat.beq c.ix Cn.unlikeTables.ix)) Γ → oIsaE isE_UnlikeTables (.err c fs) Γ Q E := fun Γ Q E q => isE_of (lk_UnlikeTables hc) q
  generalize oIsaE isE_UnlikeTables = o_UnlikeTables at hi_UnlikeTables ⊢
  have hi_ZeroPolynomial : ∀ Γ Q E, Q (.bl (Nat.beq c.ix Cn.zeroPolynomial.ix)) Γ → oIsaE isE_ZeroPolynomial (.err c fs) Γ Q E := fun Γ Q E q => isE_of (lk_ZeroPolynomial hc) q
  generalize oIsaE isE_ZeroPolynomial = o_ZeroPolynomial at hi_ZeroPolynomial ⊢
  show o_BadAnswer (.err c fs) _ _ _
  refine hi_BadAnswer _ _ _ ?_
  show o_BadBeam (.err c fs) _ _ _
  refine hi_BadBeam _ _ _ ?_
  show o_BadCounts (.err c fs) _ _ _
  refine hi_BadCounts _ _ _ ?_
  refine ⟨Nat.le_of_ble_eq_true rfl, ?_⟩
  show o_BadLine (.err c fs) _ _ _
  refine hi_BadLine _ _ _ ?_
  show o_BadNumber (.err c fs) _ _ _
  refine hi_BadNumber _ _ _ ?_
  show o_BadRoot (.err c fs) _ _ _
  refine hi_BadRoot _ _ _ ?_
  refine ⟨Nat.le_of_ble_eq_true rfl, ?_⟩
  refine ⟨Nat.le_of_ble_eq_true rfl, ?_⟩
  show o_BadRow (.err c fs) _ _ _
  refine hi_BadRow _ _ _ ?_
  show o_BadShare (.err c fs) _ _ _
  refine hi_BadShare _ _ _ ?_
  show o_BadStretch (.err c fs) _ _ _
  refine hi_BadStretch _ _ _ ?_
  refine ⟨Nat.le_of_ble_eq_true rfl, ?_⟩
  refine ⟨Nat.le_of_ble_eq_true rfl, ?_⟩
  show o_BadTable (.err c fs) _ _ _
  refine hi_BadTable _ _ _ ?_
  show o_BadText (.err c fs) _ _ _
  refine hi_BadText _ _ _ ?_
  show o_ByZero (.err c fs) _ _ _
  refine hi_ByZero _ _ _ ?_
  refine ⟨Nat.le_of_ble_eq_true rfl, ?_⟩
  refine ⟨Nat.le_of_ble_eq_true rfl, ?_⟩
  show o_Clash (.err c fs) _ _ _
  refine hi_Clash _ _ _ ?_
  show o_Never (.err c fs) _ _ _
  refine hi_Never _ _ _ ?_
  show o_NoLine (.err c fs) _ _ _
  refine hi_NoLine _ _ _ ?_
  refine ⟨Nat.le_of_ble_eq_true rfl, ?_⟩
  refine ⟨Nat.le_of_ble_eq_true rfl, ?_⟩
  show o_NotFilter (.err c fs) _ _ _
  refine hi_NotFilter _ _ _ ?_
  show o_NothingToRedo (.err c fs) _ _ _
  refine hi_NothingToRedo _ _ _ ?_
  show o_NothingToUndo (.err c fs) _ _ _
  refine hi_NothingToUndo _ _ _ ?_
  refine ⟨Nat.le_of_ble_eq_true rfl, ?_⟩
  refine ⟨Nat.le_of_ble_eq_true rfl, ?_⟩
  show o_NotMirror (.err c fs) _ _ _
  refine hi_NotMirror _ _ _ ?_
  show o_UnlikeTables (.err c fs) _ _ _
  refine hi_UnlikeTables _ _ _ ?_
  show o_ZeroPolynomial (.err c fs) _ _ _
  refine hi_ZeroPolynomial _ _ _ ?_
  refine ⟨Nat.le_of_ble_eq_true rfl, ?_⟩
  refine ⟨Nat.le_of_ble_eq_true rfl, ?_⟩
  refine kinds_ret [Nat.beq c.ix Cn.badAnswer.ix, Nat.beq c.ix Cn.badBeam.ix, Nat.beq c.ix Cn.badCounts.ix, Nat.beq c.ix Cn.badLine.ix, Nat.beq c.ix Cn.badNumber.ix, Nat.beq c.ix Cn.badRoot.ix, Nat.beq c.ix Cn.badRow.ix, Nat.beq c.ix Cn.badShare.ix, Nat.beq c.ix Cn.badStretch.ix, Nat.beq c.ix Cn.badTable.ix, Nat.beq c.ix Cn.badText.ix, Nat.beq c.ix Cn.byZero.ix, Nat.beq c.ix Cn.clash.ix, Nat.beq c.ix Cn.never.ix, Nat.beq c.ix Cn.noLine.ix, Nat.beq c.ix Cn.notFilter.ix, Nat.beq c.ix Cn.nothingToRedo.ix, Nat.beq c.ix Cn.nothingToUndo.ix, Nat.beq c.ix Cn.notMirror.ix, Nat.beq c.ix Cn.unlikeTables.ix, Nat.beq c.ix Cn.zeroPolynomial.ix] _ (Nat.le_of_ble_eq_true rfl) _ _ ?_
  rw [kinds_one hc]
  exact hq
theorem ok__law_kinds {P : Program} {w : World} {K : Frag} {mg : Str → Option Value} {base : Heap} (W : Wd K mg) (Fn : ∃ fd, FunD K d__law_kinds.name d__law_kinds.qual d__law_kinds.params d__law_kinds.body d__law_kinds.scope (d__law_kinds.dvs K) (d__law_kinds.kws K) (d__law_kinds.at_ K) fd) : FnB P w K mg base d__law_kinds 2 ps__law_kinds c__law_kinds := by
  refine FnB.of (N := N__law_kinds) (r := r__law_kinds) Fn sc__law_kinds len__law_kinds pure__law_kinds ?_
  intro f cdv A outer s H E0 hr G0 H0 B pin xa xd xc E tk hp
  have sc := sc__law_kinds
  have hu := roomU hr
  exact (lss_cons (ls_set 1 sc.nd (le_lst (la_cons (le_isE (isE_ok W.iE_BadAnswer (W.exs (by rfl))) rfl (pe_glob (v := .ref (ga _ "BadAnswer")) rfl W.g_BadAnswer rfl) (fun _ h => h) (le_var 0) W.f_isinstance) (la_cons (le_isE (isE_ok W.iE_BadBeam (W.exs (by rfl))) rfl (pe_glob (v := .ref (ga _ "BadBeam")) rfl W.g_BadBeam rfl) (fun _ h => h) (le_var 0) W.f_isinstance) (la_cons (le_isE (isE_ok W.iE_BadCounts (W.exs (by rfl))) rfl (pe_glob (v := .ref (ga _ "BadCounts")) rfl W.g_BadCounts rfl) (fun _ h => h) (le_var 0) W.f_isinstance) la_nil)))))
    (lss_cons (ls_set 1 sc.nd (le_bin ol_add (le_var 1) (le_lst (la_cons (le_isE (isE_ok W.iE_BadLine (W.exs (by rfl))) rfl (pe_glob (v := .ref (ga _ "BadLine")) rfl W.g_BadLine rfl) (fun _ h => h) (le_var 0) W.f_isinstance) (la_cons (le_isE (isE_ok W.iE_BadNumber (W.exs (by rfl))) rfl (pe_glob (v := .ref (ga _ "BadNumber")) rfl W.g_BadNumber rfl) (fun _ h => h) (le_var 0) W.f_isinstance) (la_cons (le_isE (isE_ok W.iE_BadRoot (W.exs (by rfl))) rfl (pe_glob (v := .ref (ga _ "BadRoot")) rfl W.g_BadRoot rfl) (fun _ h => h) (le_var 0) W.f_isinstance) la_nil))))))
    (lss_cons (ls_set 1 sc.nd (le_bin ol_add (le_var 1) (le_lst (la_cons (le_isE (isE_ok W.iE_BadRow (W.exs (by rfl))) rfl (pe_glob (v := .ref (ga _ "BadRow")) rfl W.g_BadRow rfl) (fun _ h => h) (le_var 0) W.f_isinstance) (la_cons (le_isE (isE_ok W.iE_BadShare (W.exs (by rfl))) rfl (pe_glob (v := .ref (ga _ "BadShare")) rfl W.g_BadShare rfl) (fun _ h => h) (le_var 0) W.f_isinstance) (la_cons (le_isE (isE_ok W.iE_BadStretch (W.exs (by rfl))) rfl (pe_glob (v := .ref (ga _ "BadStretch")) rfl W.g_BadStretch rfl) (fun _ h => h) (le_var 0) W.f_isinstance) la_nil))))))
    (lss_cons (ls_set 1 sc.nd (le_bin ol_add (le_var 1) (le_lst (la_cons (le_isE (isE_ok W.iE_BadTable (W.exs (by rfl))) rfl (pe_glob (v := .ref (ga _ "BadTable")) rfl W.g_BadTable rfl) (fun _ h => h) (le_var 0) W.f_isinstance) (la_cons (le_isE (isE_ok W.iE_BadText (W.exs (by rfl))) rfl (pe_glob (v := .ref (ga _ "BadText")) rfl W.g_BadText rfl) (fun _ h => h) (le_var 0) W.f_isinstance) (la_cons (le_isE (isE_ok W.iE_ByZero (W.exs (by rfl))) rfl (pe_glob (v := .ref (ga _ "ByZero")) rfl W.g_ByZero rfl) (fun _ h => h) (le_var 0) W.f_isinstance) la_nil))))))
    (lss_cons (ls_set 1 sc.nd (le_bin ol_add (le_var 1) (le_lst (la_cons (le_isE (isE_ok W.iE_Clash (W.exs (by rfl))) rfl (pe_glob (v := .ref (ga _ "Clash")) rfl W.g_Clash rfl) (fun _ h => h) (le_var 0) W.f_isinstance) (la_cons (le_isE (isE_ok W.iE_Never (W.exs (by rfl))) rfl (pe_glob (v := .ref (ga _ "Never")) rfl W.g_Never rfl) (fun _ h => h) (le_var 0) W.f_isinstance) (la_cons (le_isE (isE_ok W.iE_NoLine (W.exs (by rfl))) rfl (pe_glob (v := .ref (ga _ "NoLine")) rfl W.g_NoLine rfl) (fun _ h => h) (le_var 0) W.f_isinstance) la_nil))))))
    (lss_cons (ls_set 1 sc.nd (le_bin ol_add (le_var 1) (le_lst (la_cons (le_isE (isE_ok W.iE_NotFilter (W.exs (by rfl))) rfl (pe_glob (v := .ref (ga _ "NotFilter")) rfl W.g_NotFilter rfl) (fun _ h => h) (le_var 0) W.f_isinstance) (la_cons (le_isE (isE_ok W.iE_NothingToRedo (W.exs (by rfl))) rfl (pe_glob (v := .ref (ga _ "NothingToRedo")) rfl W.g_NothingToRedo rfl) (fun _ h => h) (le_var 0) W.f_isinstance) (la_cons (le_isE (isE_ok W.iE_NothingToUndo (W.exs (by rfl))) rfl (pe_glob (v := .ref (ga _ "NothingToUndo")) rfl W.g_NothingToUndo rfl) (fun _ h => h) (le_var 0) W.f_isinstance) la_nil))))))
    (lss_cons (ls_set 1 sc.nd (le_bin ol_add (le_var 1) (le_lst (la_cons (le_isE (isE_ok W.iE_NotMirror (W.exs (by rfl))) rfl (pe_glob (v := .ref (ga _ "NotMirror")) rfl W.g_NotMirror rfl) (fun _ h => h) (le_var 0) W.f_isinstance) (la_cons (le_isE (isE_ok W.iE_UnlikeTables (W.exs (by rfl))) rfl (pe_glob (v := .ref (ga _ "UnlikeTables")) rfl W.g_UnlikeTables rfl) (fun _ h => h) (le_var 0) W.f_isinstance) (la_cons (le_isE (isE_ok W.iE_ZeroPolynomial (W.exs (by rfl))) rfl (pe_glob (v := .ref (ga _ "ZeroPolynomial")) rfl W.g_ZeroPolynomial rfl) (fun _ h => h) (le_var 0) W.f_isinstance) la_nil))))))
    (lss_one (ls_ret (le_b (bl_len rfl) (la_cons (le_tell (ln_lc [("_law_bit", 2)] rfl sc.nd (Tk.def tk) (li_seq rfl (le_var 1)) (blkOk_by (by kernel_rfl)) (fun b q => (lgv_name 2 sc.nd)) (fun b q E' tk => (lts_one (lt_val (le_var 2)))) (fun b q E' tk => (le_var 2)))) la_nil) W.f_len))))))))))
end K01

set_option Elab.async false
set_option linter.all false
set_option maxRecDepth 100000
set_option maxHeartbeats 4000000
namespace K01
open PySem L2 PySem.Spec PyProof.Rows He PySem.W Q
abbrev s__law_bases : Stmt := (top 29)
def d__law_bases : He5.DefA := ⟨fun K => fAd K ("_law_bases", none), "_law_bases", "_law_bases", defArgs s__law_bases, defBody s__law_bases, defScope s__law_bases, [], []⟩
abbrev N__law_bases : List Str := ["_law_made", "_law_bad", "_law_e"]
abbrev ps__law_bases : List Str := []
theorem sc__law_bases : FnScope N__law_bases ps__law_bases d__law_bases.scope := ⟨rfl, rfl, rfl, by decide +kernel, rfl, by decide +kernel, by decide +kernel⟩
theorem bd__law_bases : ∀ (kV doc pm : Value) (an : Option Addr) (cdv ct : Value) (us : List Value), us.length = ps__law_bases.length → bindArgs (fnOf d__law_bases.name d__law_bases.qual d__law_bases.params d__law_bases.body d__law_bases.scope .none kV doc pm an cdv ct) ⟨us, []⟩ = pure (ps__law_bases.zip us) := fun _ _ _ _ _ _ us hl => match us, hl with | [], _ => rfl
def c__law_bases : Ct := fun args Q _ => args = [] ∧ Q (.bl true) args
def r__law_bases_ret : QS := (qRet (qAndV (qBin oEq (qVar 1) (qLst qNil)) (qBin oEq (qTell (qnLc (qiSeq (qVar 0)) (gV 2) (qTest (qBin oNe (qCall c__law_kinds (qhVal (qVar 2) qhNil)) (qC (.int 1)))) (qVar 2) [2])) (qLst qNil))))
def r__law_bases_bad : QS := (qSeq (qSet 1 (qTell (qnLc (qiSeq (qVar 0)) (gV 2) (qOr (qNot (qTest (qUn (oIsaE isE_FilterError) (qVar 2)))) (qNot (qTest (qUn (oIsaE isE_ValueError) (qVar 2))))) (qVar 2) [2])))
    r__law_bases_ret)
def r__law_bases_b2 : QS := (qSeq (qSet 0 (qBin oAdd (qVar 0) (qLst (qCons (qErr1 .badShare (qC (.int 2))) (qCons (qErr1 .never (qC (.str "p"))) (qCons (qErr1 .badLine (qC (.int 1))) (qCons (qErr0 .clash) (qCons (qErr0 .nothingToUndo) (qCons (qErr0 .nothingToRedo) qNil)))))))))
    r__law_bases_bad)
def r__law_bases_b1 : QS := (qSeq (qSet 0 (qBin oAdd (qVar 0) (qLst (qCons (qErr1 .noLine (qC (.str "x"))) (qCons (qErr0 .unlikeTables) (qCons (qErr0 .badBeam) (qCons (qErr0 .notFilter) (qCons (qErr0 .notMirror) (qCons (qErr0 .badCounts) (qCons (qErr1 .badAnswer (qC (.str "x"))) qNil))))))))))
    r__law_bases_b2)
def r__law_bases : QS := (qSeq (qSet 0 (qLst (qCons (qErr0 .byZero) (qCons (qErr1 .badNumber (qC (.str "x"))) (qCons (qErr0 .badText) (qCons (qErr0 .zeroPolynomial) (qCons (qErr0 .badRoot) (qCons (qErr0 .badStretch) (qCons (qErr1 .badRow (qC (.str "x"))) (qCons (qErr0 .badTable) qNil))))))))))
    r__law_bases_b1)
theorem bases_ret (ds : List D) (hd : ∀ d ∈ ds, ∃ c fs, d = .err c fs ∧ c ∈ errL) (hl : ds.length ≤ 1000) (P : PEnds) (E : XP) (hq : ∀ Γ, P.rt (.bl true) Γ) : r__law_bases_ret [.val (.lst ds), .val (.lst []), .no] P E := by
  refine ⟨Nat.le_of_ble_eq_true rfl, rfl, rfl, ?_⟩
  refine lc_invF (fun i acc Γ => Γ = [.val (.lst ds), .val (.lst []), .no] ∧ acc = []) (by omega) (fun _ _ _ _ _ => trivial) ⟨rfl, rfl⟩ ?_ ?_
  · rintro i d acc Γ Z Z' X ed hl ⟨rfl, rfl⟩ hZ hZ' hX
    obtain ⟨c, fs, rfl, hc⟩ := hd d (List.mem_of_getElem? ed)
    exact ⟨c, fs, rfl, hc, rfl, rfl, hZ' _ ⟨rfl, rfl⟩⟩
  · rintro acc Γ hl ⟨rfl, rfl⟩
    exact ⟨Nat.le_of_ble_eq_true rfl, rfl, rfl, hq _⟩
theorem lk_FilterError {c : Cn} (h : c ∈ errL) : lookC isE_FilterError c = some true := lookC_map (fun _ => true) errL h
theorem lk_ValueError {c : Cn} (h : c ∈ errL) : lookC isE_ValueError c = some true := lookC_map (fun _ => true) errL h
theorem bases_bad (ds : List D) (hd : ∀ d ∈ ds, ∃ c fs, d = .err c fs ∧ c ∈ errL) (hl : ds.length ≤ 1000) (P : PEnds) (E : XP) (hq : ∀ Γ, P.rt (.bl true) Γ) : r__law_bases_bad [.val (.lst ds), .no, .no] P E := by
  have h1 : ∀ c fs, c ∈ errL → ∀ Γ Q E, Q (.bl true) Γ → oIsaE isE_FilterError (.err c fs) Γ Q E := fun c fs hc Γ Q E q => isE_of (lk_FilterError hc) q
  have h2 : ∀ c fs, c ∈ errL → ∀ Γ Q E, Q (.bl true) Γ → oIsaE isE_ValueError (.err c fs) Γ Q E := fun c fs hc Γ Q E q => isE_of (lk_ValueError hc) q
  have h3 := bases_ret ds hd hl P E hq
  unfold r__law_bases_bad
  generalize oIsaE isE_FilterError = o1 at h1 ⊢
  generalize oIsaE isE_ValueError = o2 at h2 ⊢
  refine lc_invF (fun i acc Γ => Γ = [.val (.lst ds), .no, .no] ∧ acc = []) (by omega) (fun _ _ _ _ _ => trivial) ⟨rfl, rfl⟩ ?_ ?_
  · rintro i d acc Γ Z Z' X ed hl ⟨rfl, rfl⟩ hZ hZ' hX
    obtain ⟨c, fs, rfl, hc⟩ := hd d (List.mem_of_getElem? ed)
    show o1 (.err c fs) _ _ _
    refine h1 c fs hc _ _ _ ?_
    show o2 (.err c fs) _ _ _
    refine h2 c fs hc _ _ _ ?_
    exact hZ' _ ⟨rfl, rfl⟩
  · rintro acc Γ hl ⟨rfl, rfl⟩
    exact h3
def made1 : List D := [.err .byZero [], .err .badNumber [.str "x"], .err .badText [], .err .zeroPolynomial [], .err .badRoot [], .err .badStretch [], .err .badRow [.str "x"], .err .badTable []]
def made2 : List D := [.err .noLine [.str "x"], .err .unlikeTables [], .err .badBeam [], .err .notFilter [], .err .notMirror [], .err .badCounts [], .err .badAnswer [.str "x"]]
def made3 : List D := [.err .badShare [.int 2], .err .never [.str "p"], .err .badLine [.int 1], .err .clash [], .err .nothingToUndo [], .err .nothingToRedo []]
def eOk (ds : List D) : Prop := ∀ d ∈ ds, ∃ c fs, d = .err c fs ∧ c ∈ errL
theorem eOk_app {xs ys : List D} (h1 : eOk xs) (h2 : eOk ys) : eOk (xs ++ ys) := fun d hd => (List.mem_append.mp hd).elim (h1 d) (h2 d)
theorem made1_ok : eOk made1 := by
  intro d hd
  simp only [made1, List.mem_cons, List.not_mem_nil, or_false] at hd
  rcases hd with rfl | rfl | rfl | rfl | rfl | rfl | rfl | rfl <;> exact ⟨_, _, rfl, by simp [errL]⟩
theorem made2_ok : eOk made2 := by
  intro d hd
  simp only [made2, List.mem_cons, List.not_mem_nil, or_false] at hd
  rcases hd with rfl | rfl | rfl | rfl | rfl | rfl | rfl <;> exact ⟨_, _, rfl, by simp [errL]⟩
theorem made3_ok : eOk made3 := by
  intro d hd
  simp only [made3, List.mem_cons, List.not_mem_nil, or_false] at hd
  rcases hd with rfl | rfl | rfl | rfl | rfl | rfl <;> exact ⟨_, _, rfl, by simp [errL]⟩
theorem bases_b2 (xs : List D) (hx : eOk xs) (hl : xs.length ≤ 20) (P : PEnds) (E : XP) (hq : ∀ Γ, P.rt (.bl true) Γ) : r__law_bases_b2 [.val (.lst xs), .no, .no] P E := by
  have hb : r__law_bases_bad [.val (.lst (xs ++ made3)), .no, .no] P E := bases_bad (xs ++ made3) (eOk_app hx made3_ok) (by rw [List.length_append]; have : made3.length = 6 := rfl; omega) P E hq
  unfold r__law_bases_b2
  generalize r__law_bases_bad = rb at hb ⊢
  have h3 : xs.length + made3.length ≤ 100000 := by have : made3.length = 6 := rfl; omega
  exact ⟨Nat.le_of_ble_eq_true rfl, h3, hb⟩
theorem bases_b1 (xs : List D) (hx : eOk xs) (hl : xs.length ≤ 10) (P : PEnds) (E : XP) (hq : ∀ Γ, P.rt (.bl true) Γ) : r__law_bases_b1 [.val (.lst xs), .no, .no] P E := by
  have hb : r__law_bases_b2 [.val (.lst (xs ++ made2)), .no, .no] P E := bases_b2 (xs ++ made2) (eOk_app hx made2_ok) (by rw [List.length_append]; have : made2.length = 7 := rfl; omega) P E hq
  unfold r__law_bases_b1
  generalize r__law_bases_b2 = rb at hb ⊢
  have h3 : xs.length + made2.length ≤ 100000 := by have : made2.length = 7 := rfl; omega
  exact ⟨Nat.le_of_ble_eq_true rfl, h3, hb⟩
theorem bases_all {Q : D → List Slot → Prop} {E : Exn → List Slot → Prop} (hq : Q (.bl true) []) : r__law_bases (startE N__law_bases.length []) (endsC [] Q) (exnC [] E) := by
  have hb : r__law_bases_b1 [.val (.lst made1), .no, .no] (endsC [] Q) (exnC [] E) := bases_b1 made1 made1_ok (Nat.le_of_ble_eq_true rfl) _ _ fun Γ => by show Q (.bl true) (outsOf [] Γ); cases Γ <;> exact hq
  unfold r__law_bases
  generalize r__law_bases_b1 = rb at hb ⊢
  exact ⟨Nat.le_of_ble_eq_true rfl, hb⟩
theorem len__law_bases : ∀ args Q E, c__law_bases args Q E → args.length = ps__law_bases.length := by
  rintro args Q E ⟨rfl, _⟩
  rfl
theorem pure__law_bases : ∀ args Q E, c__law_bases args Q E → r__law_bases (startE N__law_bases.length args) (endsC args Q) (exnC args E) := by
  rintro args Q E ⟨rfl, hq⟩
  exact bases_all hq
theorem ok__law_bases {P : Program} {w : World} {K : Frag} {mg : Str → Option Value} {base : Heap} (W : Wd K mg) (Fn : ∃ fd, FunD K d__law_bases.name d__law_bases.qual d__law_bases.params d__law_bases.body d__law_bases.scope (d__law_bases.dvs K) (d__law_bases.kws K) (d__law_bases.at_ K) fd) (h__law_kinds : FnB P w K mg base d__law_kinds 2 ps__law_kinds c__law_kinds) (e_ByZero : ∃ fd, Er0 P w (cf K) mg base .byZero (d_ByZero_uinitu.at_ K) fd ["self"]) (e_BadNumber : ∃ fd, Er1K P w (cf K) mg base .badNumber "given" (d_BadNumber_uinitu.at_ K) fd ["self", "given"]) (e_BadText : ∃ fd, Er0 P w (cf K) mg base .badText (d_BadText_uinitu.at_ K) fd ["self"]) (e_ZeroPolynomial : ∃ fd, Er0 P w (cf K) mg base .zeroPolynomial (d_ZeroPolynomial_uinitu.at_ K) fd ["self"]) (e_BadRoot : ∃ fd, Er0 P w (cf K) mg base .badRoot (d_BadRoot_uinitu.at_ K) fd ["self"]) (e_BadStretch : ∃ fd, Er0 P w (cf K) mg base .badStretch (d_BadStretch_uinitu.at_ K) fd ["self"]) (e_BadRow : ∃ fd, Er1K P w (cf K) mg base .badRow "row" (d_BadRow_uinitu.at_ K) fd ["self", "row"]) (e_BadTable : ∃ fd, Er0 P w (cf K) mg base .badTable (d_BadTable_uinitu.at_ K) fd ["self"]) (e_NoLine : ∃ fd, Er1K P w (cf K) mg base .noLine "name" (d_NoLine_uinitu.at_ K) fd ["self", "name"]) (e_UnlikeTables : ∃ fd, Er0 P w (cf K) mg base .unlikeTables (d_UnlikeTables_uinitu.at_ K) fd ["self"]) (e_BadBeam : ∃ fd, Er0 P w (cf K) mg base .badBeam (d_BadBeam_uinitu.at_ K) fd ["self"]) (e_NotFilter : ∃ fd, Er0 P w (cf K) mg base .notFilter (d_NotFilter_uinitu.at_ K) fd ["self"]) (e_NotMirror : ∃ fd, Er0 P w (cf K) mg base .notMirror (d_NotMirror_uinitu.at_ K) fd ["self"]) (e_BadCounts : ∃ fd, Er0 P w (cf K) mg base .badCounts (d_BadCounts_uinitu.at_ K) fd ["self"]) (e_BadAnswer : ∃ fd, Er1K P w (cf K) mg base .badAnswer "answer" (d_BadAnswer_uinitu.at_ K) fd ["self", "answer"]) (e_BadShare : ∃ fd, Er1K P w (cf K) mg base .badShare "given" (d_BadShare_uinitu.at_ K) fd ["self", "given"]) (e_Never : ∃ fd, Er1K P w (cf K) mg base .never "answer" (d_Never_uinitu.at_ K) fd ["self", "answer"]) (e_BadLine : ∃ fd, Er1K P w (cf K) mg base .badLine "line" (d_BadLine_uinitu.at_ K) fd ["self", "line"]) (e_Clash : ∃ fd, Er0 P w (cf K) mg base .clash (d_Clash_uinitu.at_ K) fd ["self"]) (e_NothingToUndo : ∃ fd, Er0 P w (cf K) mg base .nothingToUndo (d_NothingToUndo_uinitu.at_ K) fd ["self"]) (e_NothingToRedo : ∃ fd, Er0 P w (cf K) mg base .nothingToRedo (d_NothingToRedo_uinitu.at_ K) fd ["self"]) : FnB P w K mg base d__law_bases 5 ps__law_bases c__law_bases := by
  obtain ⟨fd_ByZero, e_ByZero⟩ := e_ByZero
  obtain ⟨fd_BadNumber, e_BadNumber, kb_BadNumber⟩ := e_BadNumber
  obtain ⟨fd_BadText, e_BadText⟩ := e_BadText
  obtain ⟨fd_ZeroPolynomial, e_ZeroPolynomial⟩ := e_ZeroPolynomial
  obtain ⟨fd_BadRoot, e_BadRoot⟩ := e_BadRoot
  obtain ⟨fd_BadStretch, e_BadStretch⟩ := e_BadStretch
  obtain ⟨fd_BadRow, e_BadRow, kb_BadRow⟩ := e_BadRow
  obtain ⟨fd_BadTable, e_BadTable⟩ := e_BadTable
  obtain ⟨fd_NoLine, e_NoLine, kb_NoLine⟩ := e_NoLine
  obtain ⟨fd_UnlikeTables, e_UnlikeTables⟩ := e_UnlikeTables
  obtain ⟨fd_BadBeam, e_BadBeam⟩ := e_BadBeam
  obtain ⟨fd_NotFilter, e_NotFilter⟩ := e_NotFilter
  obtain ⟨fd_NotMirror, e_NotMirror⟩ := e_NotMirror
  obtain ⟨fd_BadCounts, e_BadCounts⟩ := e_BadCounts
  obtain ⟨fd_BadAnswer, e_BadAnswer, kb_BadAnswer⟩ := e_BadAnswer
  obtain ⟨fd_BadShare, e_BadShare, kb_BadShare⟩ := e_BadShare
  obtain ⟨fd_Never, e_Never, kb_Never⟩ := e_Never
  obtain ⟨fd_BadLine, e_BadLine, kb_BadLine⟩ := e_BadLine
  obtain ⟨fd_Clash, e_Clash⟩ := e_Clash
  obtain ⟨fd_NothingToUndo, e_NothingToUndo⟩ := e_NothingToUndo
  obtain ⟨fd_NothingToRedo, e_NothingToRedo⟩ := e_NothingToRedo
  refine FnB.of (N := N__law_bases) (r := r__law_bases) Fn sc__law_bases len__law_bases pure__law_bases ?_
  intro f cdv A outer s H E0 hr G0 H0 B pin xa xd xc E tk hp
  have sc := sc__law_bases
  have hu := roomU hr
  exact (lss_cons (ls_set 0 sc.nd (le_lst (la_cons (le_err0 e_ByZero rfl (hr.mono (by decide : 0 + 2 ≤ 4)) tk W.g_ByZero) (la_cons (le_err1 e_BadNumber rfl (hr.mono (by decide : 0 + 2 ≤ 4)) tk le_str W.g_BadNumber) (la_cons (le_err0 e_BadText rfl (hr.mono (by decide : 0 + 2 ≤ 4)) tk W.g_BadText) (la_cons (le_err0 e_ZeroPolynomial rfl (hr.mono (by decide : 0 + 2 ≤ 4)) tk W.g_ZeroPolynomial) (la_cons (le_err0 e_BadRoot rfl (hr.mono (by decide : 0 + 2 ≤ 4)) tk W.g_BadRoot) (la_cons (le_err0 e_BadStretch rfl (hr.mono (by decide : 0 + 2 ≤ 4)) tk W.g_BadStretch) (la_cons (le_err1 e_BadRow rfl (hr.mono (by decide : 0 + 2 ≤ 4)) tk le_str W.g_BadRow) (la_cons (le_err0 e_BadTable rfl (hr.mono (by decide : 0 + 2 ≤ 4)) tk W.g_BadTable) la_nil))))))))))
    (lss_cons (ls_set 0 sc.nd (le_bin ol_add (le_var 0) (le_lst (la_cons (le_err1 e_NoLine rfl (hr.mono (by decide : 0 + 2 ≤ 4)) tk le_str W.g_NoLine) (la_cons (le_err0 e_UnlikeTables rfl (hr.mono (by decide : 0 + 2 ≤ 4)) tk W.g_UnlikeTables) (la_cons (le_err0 e_BadBeam rfl (hr.mono (by decide : 0 + 2 ≤ 4)) tk W.g_BadBeam) (la_cons (le_err0 e_NotFilter rfl (hr.mono (by decide : 0 + 2 ≤ 4)) tk W.g_NotFilter) (la_cons (le_err0 e_NotMirror rfl (hr.mono (by decide : 0 + 2 ≤ 4)) tk W.g_NotMirror) (la_cons (le_err0 e_BadCounts rfl (hr.mono (by decide : 0 + 2 ≤ 4)) tk W.g_BadCounts) (la_cons (le_err1 e_BadAnswer rfl (hr.mono (by decide : 0 + 2 ≤ 4)) tk le_str W.g_BadAnswer) la_nil))))))))))
    (lss_cons (ls_set 0 sc.nd (le_bin ol_add (le_var 0) (le_lst (la_cons (le_err1 e_BadShare rfl (hr.mono (by decide : 0 + 2 ≤ 4)) tk le_int W.g_BadShare) (la_cons (le_err1 e_Never rfl (hr.mono (by decide : 0 + 2 ≤ 4)) tk le_str W.g_Never) (la_cons (le_err1 e_BadLine rfl (hr.mono (by decide : 0 + 2 ≤ 4)) tk le_int W.g_BadLine) (la_cons (le_err0 e_Clash rfl (hr.mono (by decide : 0 + 2 ≤ 4)) tk W.g_Clash) (la_cons (le_err0 e_NothingToUndo rfl (hr.mono (by decide : 0 + 2 ≤ 4)) tk W.g_NothingToUndo) (la_cons (le_err0 e_NothingToRedo rfl (hr.mono (by decide : 0 + 2 ≤ 4)) tk W.g_NothingToRedo) la_nil)))))))))
    (lss_cons (ls_setLc [("_law_e", 2)] 1 rfl sc.nd (Tk.def tk) (li_seq rfl (le_var 0)) (blkOk_by (by kernel_rfl)) (fun b q => (lgv_name 2 sc.nd)) (fun b q E' tk => (lts_one (LW.lt (lw_or (lt_not (lt_val (le_isE (isE_ok W.iE_FilterError (W.exs (by rfl))) rfl (pe_glob (v := .ref (ga _ "FilterError")) rfl W.g_FilterError rfl) (fun _ h => h) (le_var 2) W.f_isinstance))) (lw_or1 (lt_not (lt_val (le_isE (isE_ok W.iE_ValueError (W.exs (by rfl))) rfl (pe_bltn (v := .ty "ValueError") (u := .type "ValueError") rfl W.f_ValueError rfl rfl) (fun _ h => h) (le_var 2) W.f_isinstance)))))))) (fun b q E' tk => (le_var 2)))
    (lss_one (ls_ret (le_and (le_cmp (ol_eq rfl hr) (le_var 1) (le_lst la_nil)) (le_one (le_cmp (ol_eq rfl hr) (le_tell (ln_lc [("_law_e", 2)] rfl sc.nd (Tk.def tk) (li_seq rfl (le_var 0)) (blkOk_by (by kernel_rfl)) (fun b q => (lgv_name 2 sc.nd)) (fun b q E' tk => (lts_one (lt_cmp (ol_ne rfl hr) (le_callC (h__law_kinds.all rfl rfl rfl rfl rfl rfl (hr.mono (by decide : 2 ≤ 4)) rfl rfl bd__law_kinds) W.g__law_kinds h__law_kinds.kp tk.t (lc_p (lh_val (le_var 2) lh_nil))) le_int))) (fun b q E' tk => (le_var 2)))) (le_lst la_nil))))))))))
end K01

set_option Elab.async false
set_option linter.all false
set_option maxRecDepth 100000
set_option maxHeartbeats 4000000
namespace K01
open PySem L2 PySem.Spec PyProof.Rows He PySem.W Q
abbrev s_law : Stmt := (top 30)
def d_law : He5.DefA := ⟨fun K => fAd K ("law", none), "law", "law", defArgs s_law, defBody s_law, defScope s_law, [], []⟩
abbrev N_law : List Str := ["_law_script", "_law_box_here", "_law_a", "_law_b", "_law_kept", "_law_more", "_law_k", "_law_passed"]
abbrev ps_law : List Str := ["_law_script"]
theorem sc_law : FnScope N_law ps_law d_law.scope := ⟨rfl, rfl, rfl, by decide +kernel, rfl, by decide +kernel, by decide +kernel⟩
theorem bd_law : ∀ (kV doc pm : Value) (an : Option Addr) (cdv ct : Value) (us : List Value), us.length = ps_law.length → bindArgs (fnOf d_law.name d_law.qual d_law.params d_law.body d_law.scope .none kV doc pm an cdv ct) ⟨us, []⟩ = pure (ps_law.zip us) := fun _ _ _ _ _ _ us hl => match us, hl with | [_], _ => rfl
def c_law : Ct := lawC 63
def r_law_loop : QS := (qSeq (qFor (qRng1 (qC (.int 7))) (gV 6) (qSeq (qSet 7 (qIf (qTest (qBin oEq (qBin oMod (qVar 6) (qC (.int 2))) (qC (.int 0)))) (qVar 2) (qVar 3)))
    (qIfS (qOr (qNot (qTest (qCall c__law_same (qhVal (qBin oIx (qVar 4) (qVar 6)) (qhVal (qVar 7) qhNil))))) (qNot (qTest (qCall c__law_same (qhVal (qBin oIx (qVar 5) (qVar 6)) (qhVal (qVar 7) qhNil)))))) (qRet (qC (.bl false))) qNx)))
    (qRet (qCall c__law_bases qhNil)))
def r_law_kept : QS := (qSeq (qSet 4 (qLst (qCons (qUn (oErrF .badNumber 0) (qErr1 .badNumber (qVar 2))) (qCons (qUn (oErrF .badRow 0) (qErr1 .badRow (qVar 3))) (qCons (qUn (oErrF .noLine 0) (qErr1 .noLine (qVar 2))) (qCons (qUn (oErrF .badAnswer 0) (qErr1 .badAnswer (qVar 3))) (qCons (qUn (oErrF .badShare 0) (qErr1 .badShare (qVar 2))) qNil)))))))
    (qSeq (qSet 4 (qBin oAdd (qVar 4) (qLst (qCons (qUn (oErrF .never 0) (qErr1 .never (qVar 3))) (qCons (qUn (oErrF .badLine 0) (qErr1 .badLine (qVar 2))) qNil)))))
    (qSeq (qSet 5 (qLst (qCons (qUn (oErrF .badNumber 0) (qErr1 .badNumber (qVar 2))) (qCons (qUn (oErrF .badRow 0) (qErr1 .badRow (qVar 3))) (qCons (qUn (oErrF .noLine 0) (qErr1 .noLine (qVar 2))) (qCons (qUn (oErrF .badAnswer 0) (qErr1 .badAnswer (qVar 3))) qNil))))))
    (qSeq (qSet 5 (qBin oAdd (qVar 5) (qLst (qCons (qUn (oErrF .badShare 0) (qErr1 .badShare (qVar 2))) (qCons (qUn (oErrF .never 0) (qErr1 .never (qVar 3))) (qCons (qUn (oErrF .badLine 0) (qErr1 .badLine (qVar 2))) qNil))))))
    r_law_loop))))
def r_law : QS := (qSeq (qSetN 1 (qnCall c__law_box (qhVal (qVar 0) (qhVal (qC (.int 0)) qhNil))))
    (qSeq (qSet 2 (qBin oIx (qLst (qCons (qC (.str "p")) (qCons (qC (.int 0)) (qCons (qC .non) (qCons (qUn oNeg (qC (.int 3))) (qCons (qTup (qCons (qC (.int 1)) (qCons (qC (.int 2)) qNil))) (qCons (qLst (qCons (qC (.str "x")) qNil)) (qCons (qC (.bl true)) qNil)))))))) (qCall c__law_take (qhAny 1 (qhVal (qC (.int 7)) qhNil)))))
    (qSeq (qSet 3 (qBin oIx (qLst (qCons (qDisp [(vC (.str "k"), vC (.int 1))]) (qCons (qBin oPow (qC (.int 10)) (qC (.int 30))) (qCons (qC (.str "")) (qCons (qTup (qCons (qC (.str "q")) qNil)) (qCons (qC (.bl false)) qNil)))))) (qCall c__law_take (qhAny 1 (qhVal (qC (.int 5)) qhNil)))))
    r_law_kept)))
theorem bd8 {m : Int} (h1 : 0 < m) (h2 : m < 1000) : Bd 8000 m := by
  have : Bd 10 m := by
    unfold Bd
    omega
  exact this.mono (by decide)
theorem BoxOk.next {a b c a' b' : Int} (h : BoxOk a b c) (h1 : 0 ≤ a') (h2 : 0 ≤ b') (h3 : b' < 1000000) : BoxOk a' b' c := ⟨h1, h2, h3, h.hc, h.hc2⟩
theorem pickA {r : Int} (h0 : 0 ≤ r) (h1 : r < 7) : ∃ d, atD listA r = some d ∧ d ∈ listA := by
  have : r = 0 ∨ r = 1 ∨ r = 2 ∨ r = 3 ∨ r = 4 ∨ r = 5 ∨ r = 6 := by omega
  rcases this with rfl | rfl | rfl | rfl | rfl | rfl | rfl <;> exact ⟨_, rfl, by simp [listA]⟩
theorem pickB {r : Int} (h0 : 0 ≤ r) (h1 : r < 5) : ∃ d, atD listB r = some d ∧ d ∈ listB := by
  have : r = 0 ∨ r = 1 ∨ r = 2 ∨ r = 3 ∨ r = 4 := by omega
  rcases this with rfl | rfl | rfl | rfl | rfl <;> exact ⟨_, rfl, by simp [listB]⟩
theorem law_loop (s0 : D) (o : MO) (a b : D) (ha : a ∈ listA ++ listB) (hb : b ∈ listA ++ listB) (P : PEnds) (E : XP) (hq : ∀ Γ, Γ[0]? = some (.val s0) → P.rt (.bl true) Γ) : r_law_loop [.val s0, .own o, .val a, .val b, .val (.lst [a, b, a, b, a, b, a]), .val (.lst [a, b, a, b, a, b, a]), .no, .no] P E := by
  refine ⟨by decide, by decide, ?_⟩
  refine loop_inv (fun i Γ => ∃ s6 s7 : Slot, Γ = [.val s0, .own o, .val a, .val b, .val (.lst [a, b, a, b, a, b, a]), .val (.lst [a, b, a, b, a, b, a]), s6, s7] ∧ s6.mo = none ∧ s7.mo = none) ⟨.no, .no, rfl, rfl, rfl⟩ ?_ ?_
  · rintro i d Γ K ed ⟨s6, s7, rfl, m6, m7⟩ hK
    have hi : i < 7 := by
      have := (List.getElem?_eq_some_iff.mp ed).1
      simpa using this
    have key : ∀ (k : Int) (x : D), x ∈ listA ++ listB → d = .int k → True := fun _ _ _ _ => trivial
    cases s6 with
    | own _ => cases m6
    | bor _ => cases m6
    | _ =>
      cases s7 with
      | own _ => cases m7
      | bor _ => cases m7
      | _ =>
        have : i = 0 ∨ i = 1 ∨ i = 2 ∨ i = 3 ∨ i = 4 ∨ i = 5 ∨ i = 6 := by omega
        rcases this with rfl | rfl | rfl | rfl | rfl | rfl | rfl
        all_goals
          cases ed
          first
            | exact ⟨by decide, rfl, rfl, _, rfl, a, rfl, ha, _, rfl, a, rfl, ha, hK _ ⟨_, _, rfl, rfl, rfl⟩⟩
            | exact ⟨by decide, rfl, rfl, _, rfl, b, rfl, hb, _, rfl, b, rfl, hb, hK _ ⟨_, _, rfl, rfl, rfl⟩⟩
  · rintro Γ ⟨s6, s7, rfl, m6, m7⟩
    exact ⟨rfl, hq _ rfl⟩
theorem len_law : ∀ args Q E, c_law args Q E → args.length = ps_law.length := by
  rintro args Q E ⟨_, rfl, _⟩
  rfl
theorem pure_law : ∀ args Q E, c_law args Q E → r_law (startE N_law.length args) (endsC args Q) (exnC args E) := by
  rintro args Q E ⟨ns, rfl, hl, hq⟩
  refine ⟨ns, 0, rfl, by decide, bd_of (by decide), fun a ha => ?_⟩
  have hb0 : BoxOk a 0 (40503 * 0 + 911) := ⟨ha, by decide, by decide, by decide, by decide⟩
  refine ⟨Nat.le_of_ble_eq_true rfl, Nat.le_of_ble_eq_true rfl, Nat.le_of_ble_eq_true rfl, a, 0, 40503 * 0 + 911, 7, rfl, hb0, by decide, bd8 (by decide) (by decide), fun r a1 b1 g1 g2 g3 g4 g5 => ?_⟩
  obtain ⟨x, hx, mx⟩ := pickA g1 g2
  refine ⟨x, hx, ?_⟩
  refine ⟨⟨by decide, by decide⟩, Nat.le_of_ble_eq_true rfl, Nat.le_of_ble_eq_true rfl, a1, b1, 40503 * 0 + 911, 5, rfl, hb0.next g3 g4 (by omega), by decide, bd8 (by decide) (by decide), fun r2 a2 b2 k1 k2 k3 k4 k5 => ?_⟩
  obtain ⟨y, hy, my⟩ := pickB k1 k2
  refine ⟨y, hy, ?_⟩
  refine ⟨Nat.le_of_ble_eq_true rfl, Nat.le_of_ble_eq_true rfl, Nat.le_of_ble_eq_true rfl, Nat.le_of_ble_eq_true rfl, Nat.le_of_ble_eq_true rfl, Nat.le_of_ble_eq_true rfl, ?_⟩
  refine law_loop (.scr ns) _ x y (List.mem_append_left _ mx) (List.mem_append_right _ my) _ _ fun Γ hΓ => ?_
  show Q (.bl true) (outsOf [.val (.scr ns)] Γ)
  cases Γ with
  | nil => cases hΓ
  | cons s Γ =>
    cases hΓ
    cases Γ <;> exact hq
theorem ok_law {P : Program} {w : World} {K : Frag} {mg : Str → Option Value} {base : Heap} (W : Wd K mg) (Fn : ∃ fd, FunD K d_law.name d_law.qual d_law.params d_law.body d_law.scope (d_law.dvs K) (d_law.kws K) (d_law.at_ K) fd) (h__law_box : FnB P w K mg base d__law_box 5 ps__law_box c__law_box) (h__law_take : FnB P w K mg base d__law_take 2 ps__law_take c__law_take) (h__law_same : FnBG P w K mg base d__law_same 2 ps__law_same c__law_same) (h__law_bases : FnB P w K mg base d__law_bases 5 ps__law_bases c__law_bases) (e_BadNumber : ∃ fd, Er1K P w (cf K) mg base .badNumber "given" (d_BadNumber_uinitu.at_ K) fd ["self", "given"]) (e_BadRow : ∃ fd, Er1K P w (cf K) mg base .badRow "row" (d_BadRow_uinitu.at_ K) fd ["self", "row"]) (e_NoLine : ∃ fd, Er1K P w (cf K) mg base .noLine "name" (d_NoLine_uinitu.at_ K) fd ["self", "name"]) (e_BadAnswer : ∃ fd, Er1K P w (cf K) mg base .badAnswer "answer" (d_BadAnswer_uinitu.at_ K) fd ["self", "answer"]) (e_BadShare : ∃ fd, Er1K P w (cf K) mg base .badShare "given" (d_BadShare_uinitu.at_ K) fd ["self", "given"]) (e_Never : ∃ fd, Er1K P w (cf K) mg base .never "answer" (d_Never_uinitu.at_ K) fd ["self", "answer"]) (e_BadLine : ∃ fd, Er1K P w (cf K) mg base .badLine "line" (d_BadLine_uinitu.at_ K) fd ["self", "line"]) : FnBG P w K mg base d_law 8 ps_law c_law := by
  obtain ⟨fd_BadNumber, e_BadNumber, kb_BadNumber⟩ := e_BadNumber
  obtain ⟨fd_BadRow, e_BadRow, kb_BadRow⟩ := e_BadRow
  obtain ⟨fd_NoLine, e_NoLine, kb_NoLine⟩ := e_NoLine
  obtain ⟨fd_BadAnswer, e_BadAnswer, kb_BadAnswer⟩ := e_BadAnswer
  obtain ⟨fd_BadShare, e_BadShare, kb_BadShare⟩ := e_BadShare
  obtain ⟨fd_Never, e_Never, kb_Never⟩ := e_Never
  obtain ⟨fd_BadLine, e_BadLine, kb_BadLine⟩ := e_BadLine
  refine FnBG.of (N := N_law) (r := r_law) Fn sc_law len_law pure_law ?_
  intro f cdv A outer s H E0 hr hgd G0 H0 B pin xa xd xc E tk hp
  have sc := sc_law
  have hu := roomU hr
  exact (lss_cons (ls_setN 1 sc.nd (ln_call (h__law_box.all rfl rfl rfl rfl rfl rfl (hr.mono (by decide : 5 ≤ 7)) rfl rfl bd__law_box) W.g__law_box h__law_box.kp tk (lc_p (lh_val (le_var 0) (lh_val le_int lh_nil)))))
    (lss_cons (ls_set 2 sc.nd (le_ix (il_ix rfl) (le_lst (la_cons le_str (la_cons le_int (la_cons le_non (la_cons (le_un ul_neg le_int) (la_cons (le_tup (la_cons le_int (la_cons le_int la_nil))) (la_cons (le_lst (la_cons le_str la_nil)) (la_cons le_bl la_nil)))))))) (le_callC (h__law_take.all rfl rfl rfl rfl rfl rfl (hr.mono (by decide : 2 ≤ 7)) rfl rfl bd__law_take) W.g__law_take h__law_take.kp tk (lc_p (lh_any 1 (lh_val le_int lh_nil))))))
    (lss_cons (ls_set 3 sc.nd (le_ix (il_ix rfl) (le_lst (la_cons (le_disp (.cons lv_str lv_int .nil) (List.cons_ne_nil _ _) (by decide)) (la_cons (le_bin ol_pow le_int le_int) (la_cons le_str (la_cons (le_tup (la_cons le_str la_nil)) (la_cons le_bl la_nil)))))) (le_callC (h__law_take.all rfl rfl rfl rfl rfl rfl (hr.mono (by decide : 2 ≤ 7)) rfl rfl bd__law_take) W.g__law_take h__law_take.kp tk (lc_p (lh_any 1 (lh_val le_int lh_nil))))))
    (lss_cons (ls_set 4 sc.nd (le_lst (la_cons (le_errF .badNumber 0 rfl (pErr_x W.e_BadNumber) W.no_BadNumber_given (le_err1 e_BadNumber rfl (hr.mono (by decide : 0 + 2 ≤ 7)) tk (le_var 2) W.g_BadNumber)) (la_cons (le_errF .badRow 0 rfl (pErr_x W.e_BadRow) W.no_BadRow_row (le_err1 e_BadRow rfl (hr.mono (by decide : 0 + 2 ≤ 7)) tk (le_var 3) W.g_BadRow)) (la_cons (le_errF .noLine 0 rfl (pErr_x W.e_NoLine) W.no_NoLine_name (le_err1 e_NoLine rfl (hr.mono (by decide : 0 + 2 ≤ 7)) tk (le_var 2) W.g_NoLine)) (la_cons (le_errF .badAnswer 0 rfl (pErr_x W.e_BadAnswer) W.no_BadAnswer_answer (le_err1 e_BadAnswer rfl (hr.mono (by decide : 0 + 2 ≤ 7)) tk (le_var 3) W.g_BadAnswer)) (la_cons (le_errF .badShare 0 rfl (pErr_x W.e_BadShare) W.no_BadShare_given (le_err1 e_BadShare rfl (hr.mono (by decide : 0 + 2 ≤ 7)) tk (le_var 2) W.g_BadShare)) la_nil)))))))
    (lss_cons (ls_set 4 sc.nd (le_bin ol_add (le_var 4) (le_lst (la_cons (le_errF .never 0 rfl (pErr_x W.e_Never) W.no_Never_answer (le_err1 e_Never rfl (hr.mono (by decide : 0 + 2 ≤ 7)) tk (le_var 3) W.g_Never)) (la_cons (le_errF .badLine 0 rfl (pErr_x W.e_BadLine) W.no_BadLine_line (le_err1 e_BadLine rfl (hr.mono (by decide : 0 + 2 ≤ 7)) tk (le_var 2) W.g_BadLine)) la_nil)))))
    (lss_cons (ls_set 5 sc.nd (le_lst (la_cons (le_errF .badNumber 0 rfl (pErr_x W.e_BadNumber) W.no_BadNumber_given (le_errK e_BadNumber kb_BadNumber rfl (hr.mono (by decide : 0 + 2 ≤ 7)) tk (le_var 2) W.g_BadNumber)) (la_cons (le_errF .badRow 0 rfl (pErr_x W.e_BadRow) W.no_BadRow_row (le_errK e_BadRow kb_BadRow rfl (hr.mono (by decide : 0 + 2 ≤ 7)) tk (le_var 3) W.g_BadRow)) (la_cons (le_errF .noLine 0 rfl (pErr_x W.e_NoLine) W.no_NoLine_name (le_errK e_NoLine kb_NoLine rfl (hr.mono (by decide : 0 + 2 ≤ 7)) tk (le_var 2) W.g_NoLine)) (la_cons (le_errF .badAnswer 0 rfl (pErr_x W.e_BadAnswer) W.no_BadAnswer_answer (le_errK e_BadAnswer kb_BadAnswer rfl (hr.mono (by decide : 0 + 2 ≤ 7)) tk (le_var 3) W.g_BadAnswer)) la_nil))))))
    (lss_cons (ls_set 5 sc.nd (le_bin ol_add (le_var 5) (le_lst (la_cons (le_errF .badShare 0 rfl (pErr_x W.e_BadShare) W.no_BadShare_given (le_errK e_BadShare kb_BadShare rfl (hr.mono (by decide : 0 + 2 ≤ 7)) tk (le_var 2) W.g_BadShare)) (la_cons (le_errF .never 0 rfl (pErr_x W.e_Never) W.no_Never_answer (le_errK e_Never kb_Never rfl (hr.mono (by decide : 0 + 2 ≤ 7)) tk (le_var 3) W.g_Never)) (la_cons (le_errF .badLine 0 rfl (pErr_x W.e_BadLine) W.no_BadLine_line (le_errK e_BadLine kb_BadLine rfl (hr.mono (by decide : 0 + 2 ≤ 7)) tk (le_var 2) W.g_BadLine)) la_nil))))))
    (lss_cons (ls_for hp rfl (li_rng1 W.f_range le_int) (lg_name 6 sc.nd) (lss_cons (ls_set 7 sc.nd (le_if (lt_cmp (ol_eq rfl hr) (le_bin ol_mod (le_var 6) le_int) le_int) (le_var 2) (le_var 3)))
    (lss_one (ls_if (LW.lt (lw_or (lt_not (lt_val (le_callC (h__law_same.all hgd rfl rfl rfl rfl rfl rfl (hr.mono (by decide : 2 ≤ 7)) rfl rfl bd__law_same) W.g__law_same h__law_same.kp tk (lc_p (lh_val (le_ix (il_ix rfl) (le_var 4) (le_var 6)) (lh_val (le_var 7) lh_nil)))))) (lw_or1 (lt_not (lt_val (le_callC (h__law_same.all hgd rfl rfl rfl rfl rfl rfl (hr.mono (by decide : 2 ≤ 7)) rfl rfl bd__law_same) W.g__law_same h__law_same.kp tk (lc_p (lh_val (le_ix (il_ix rfl) (le_var 5) (le_var 6)) (lh_val (le_var 7) lh_nil))))))))) (lss_one (ls_ret le_bl)) lss_nil))))
    (lss_one (ls_ret (le_callC (h__law_bases.all rfl rfl rfl rfl rfl rfl (hr.mono (by decide : 5 ≤ 7)) rfl rfl bd__law_bases) W.g__law_bases h__law_bases.kp tk lc_0)))))))))))
end K01

set_option Elab.async false
set_option linter.all false
set_option maxRecDepth 100000
set_option maxHeartbeats 4000000
set_option maxHeartbeats 0
namespace K01
open PySem L2 PySem.Spec PyProof.Rows He PySem.W Q
def fn : List He5.DefA := [d__law_cell, d__law_box, d__law_take, d__law_same, d__law_kinds, d__law_bases, d_law, d_ByZero_uinitu, d_BadNumber_uinitu, d_BadText_uinitu, d_ZeroPolynomial_uinitu, d_BadRoot_uinitu, d_BadStretch_uinitu, d_BadRow_uinitu, d_BadTable_uinitu, d_NoLine_uinitu, d_UnlikeTables_uinitu, d_BadBeam_uinitu, d_NotFilter_uinitu, d_NotMirror_uinitu, d_BadCounts_uinitu, d_BadAnswer_uinitu, d_BadShare_uinitu, d_Never_uinitu, d_BadLine_uinitu, d_Clash_uinitu, d_NothingToUndo_uinitu, d_NothingToRedo_uinitu]
def fa : List DP := [dp (pFree "isinstance"),
  dp (pFree "int"),
  dp (pFree "bool"),
  dp (pFree "abs"),
  dp (pFree "len"),
  dp (pFree "range"),
  dp (pFree "repr"),
  dp (pFree "ValueError"),
  dp (pGlo "_law_cell"),
  dp (pGlo "_law_box"),
  dp (pGlo "_law_take"),
  dp (pGlo "_law_same"),
  dp (pGlo "_law_kinds"),
  dp (pGlo "_law_bases"),
  dp (pGlo "law"),
  dp (pGlo "FilterError"),
  dp (pGlo "ByZero"),
  dp (pGlo "BadNumber"),
  dp (pGlo "BadText"),
  dp (pGlo "ZeroPolynomial"),
  dp (pGlo "BadRoot"),
  dp (pGlo "BadStretch"),
  dp (pGlo "BadRow"),
  dp (pGlo "BadTable"),
  dp (pGlo "NoLine"),
  dp (pGlo "UnlikeTables"),
  dp (pGlo "BadBeam"),
  dp (pGlo "NotFilter"),
  dp (pGlo "NotMirror"),
  dp (pGlo "BadCounts"),
  dp (pGlo "BadAnswer"),
  dp (pGlo "BadShare"),
  dp (pGlo "Never"),
  dp (pGlo "BadLine"),
  dp (pGlo "Clash"),
  dp (pGlo "NothingToUndo"),
  dp (pGlo "NothingToRedo"),
  dp (pIsa [.ty "bool"] isa_bool),
  dp (pIsE (.own .byZero) isE_ByZero),
  dp (pIsE (.own .badNumber) isE_BadNumber),
  dp (pIsE (.own .badText) isE_BadText),
  dp (pIsE (.own .zeroPolynomial) isE_ZeroPolynomial),
  dp (pIsE (.own .badRoot) isE_BadRoot),
  dp (pIsE (.own .badStretch) isE_BadStretch),
  dp (pIsE (.own .badRow) isE_BadRow),
  dp (pIsE (.own .badTable) isE_BadTable),
  dp (pIsE (.own .noLine) isE_NoLine),
  dp (pIsE (.own .unlikeTables) isE_UnlikeTables),
  dp (pIsE (.own .badBeam) isE_BadBeam),
  dp (pIsE (.own .notFilter) isE_NotFilter),
  dp (pIsE (.own .notMirror) isE_NotMirror),
  dp (pIsE (.own .badCounts) isE_BadCounts),
  dp (pIsE (.own .badAnswer) isE_BadAnswer),
  dp (pIsE (.own .badShare) isE_BadShare),
  dp (pIsE (.own .never) isE_Never),
  dp (pIsE (.own .badLine) isE_BadLine),
  dp (pIsE (.own .clash) isE_Clash),
  dp (pIsE (.own .nothingToUndo) isE_NothingToUndo),
  dp (pIsE (.own .nothingToRedo) isE_NothingToRedo),
  dp (pIsE (.own .filterError) isE_FilterError),
  dp (pIsE (.ty "ValueError") isE_ValueError),
  dp (pExc .byZero),
  dp (pExc .badNumber),
  dp (pExc .badText),
  dp (pExc .zeroPolynomial),
  dp (pExc .badRoot),
  dp (pExc .badStretch),
  dp (pExc .badRow),
  dp (pExc .badTable),
  dp (pExc .noLine),
  dp (pExc .unlikeTables),
  dp (pExc .badBeam),
  dp (pExc .notFilter),
  dp (pExc .notMirror),
  dp (pExc .badCounts),
  dp (pExc .badAnswer),
  dp (pExc .badShare),
  dp (pExc .never),
  dp (pExc .badLine),
  dp (pExc .clash),
  dp (pExc .nothingToUndo),
  dp (pExc .nothingToRedo),
  dp (pErrB),
  dp (pErr .byZero),
  dp (pErr .badNumber),
  dp (pNo .badNumber "given"),
  dp (pErr .badText),
  dp (pErr .zeroPolynomial),
  dp (pErr .badRoot),
  dp (pErr .badStretch),
  dp (pErr .badRow),
  dp (pNo .badRow "row"),
  dp (pErr .badTable),
  dp (pErr .noLine),
  dp (pNo .noLine "name"),
  dp (pErr .unlikeTables),
  dp (pErr .badBeam),
  dp (pErr .notFilter),
  dp (pErr .notMirror),
  dp (pErr .badCounts),
  dp (pErr .badAnswer),
  dp (pNo .badAnswer "answer"),
  dp (pErr .badShare),
  dp (pNo .badShare "given"),
  dp (pErr .never),
  dp (pNo .never "answer"),
  dp (pErr .badLine),
  dp (pNo .badLine "line"),
  dp (pErr .clash),
  dp (pErr .nothingToUndo),
  dp (pErr .nothingToRedo)]
abbrev R : PySem.W.OpenRow := PySem.W.OpenLaw.row PySem.Challenge.rw_filterorders_k01_errors
abbrev hk : PySem.W.Hook := hookQ 5 fa fn
def ob (s : PySem.W.SharedT) : AlD := obsQG 5 fa fn (HandSHeadRun.getT s)
theorem ob_eq (s : PySem.W.SharedT) : ob s = hk.obs s.abs := obsQG_eq (HandSHeadRun.getT_eq s)
def loose : List Str := "FilterError" :: "ByZero" :: "BadNumber" :: "BadText" :: "ZeroPolynomial" :: "BadRoot" :: "BadStretch" :: "BadRow" :: "BadTable" :: "NoLine" :: "UnlikeTables" :: "BadBeam" :: "NotFilter" :: "NotMirror" :: "BadCounts" :: "BadAnswer" :: "BadShare" :: "Never" :: "BadLine" :: "Clash" :: "NothingToUndo" :: "NothingToRedo" :: "_law_cell" :: "_law_box" :: "_law_take" :: "_law_same" :: "_law_kinds" :: "_law_bases" :: []
theorem run (w : World) : HandSHeadRun.RunEq R (PySem.W.view R.prog [30]) hk ob 6000 loose w := by
  intro os
  kernel_rfl
theorem wd {K : Frag} {h : Heap} {mg : Str → Option Value} (X : K.In h) (G : h.Ns mainGlobals mg) (c : SaysQ fa fn K) : Wd K mg where
  f_isinstance := mk_free X G (c.fact 0)
  f_int := mk_free X G (c.fact 1)
  f_bool := mk_free X G (c.fact 2)
  f_abs := mk_free X G (c.fact 3)
  f_len := mk_free X G (c.fact 4)
  f_range := mk_free X G (c.fact 5)
  f_repr := mk_free X G (c.fact 6)
  f_ValueError := mk_free X G (c.fact 7)
  g__law_cell := mk_glo X G (c.fact 8)
  g__law_box := mk_glo X G (c.fact 9)
  g__law_take := mk_glo X G (c.fact 10)
  g__law_same := mk_glo X G (c.fact 11)
  g__law_kinds := mk_glo X G (c.fact 12)
  g__law_bases := mk_glo X G (c.fact 13)
  g_law := mk_glo X G (c.fact 14)
  g_FilterError := mk_glo X G (c.fact 15)
  g_ByZero := mk_glo X G (c.fact 16)
  g_BadNumber := mk_glo X G (c.fact 17)
  g_BadText := mk_glo X G (c.fact 18)
  g_ZeroPolynomial := mk_glo X G (c.fact 19)
  g_BadRoot := mk_glo X G (c.fact 20)
  g_BadStretch := mk_glo X G (c.fact 21)
  g_BadRow := mk_glo X G (c.fact 22)
  g_BadTable := mk_glo X G (c.fact 23)
  g_NoLine := mk_glo X G (c.fact 24)
  g_UnlikeTables := mk_glo X G (c.fact 25)
  g_BadBeam := mk_glo X G (c.fact 26)
  g_NotFilter := mk_glo X G (c.fact 27)
  g_NotMirror := mk_glo X G (c.fact 28)
  g_BadCounts := mk_glo X G (c.fact 29)
  g_BadAnswer := mk_glo X G (c.fact 30)
  g_BadShare := mk_glo X G (c.fact 31)
  g_Never := mk_glo X G (c.fact 32)
  g_BadLine := mk_glo X G (c.fact 33)
  g_Clash := mk_glo X G (c.fact 34)
  g_NothingToUndo := mk_glo X G (c.fact 35)
  g_NothingToRedo := mk_glo X G (c.fact 36)
  i_bool := c.fact 37
  iE_ByZero := c.fact 38
  iE_BadNumber := c.fact 39
  iE_BadText := c.fact 40
  iE_ZeroPolynomial := c.fact 41
  iE_BadRoot := c.fact 42
  iE_BadStretch := c.fact 43
  iE_BadRow := c.fact 44
  iE_BadTable := c.fact 45
  iE_NoLine := c.fact 46
  iE_UnlikeTables := c.fact 47
  iE_BadBeam := c.fact 48
  iE_NotFilter := c.fact 49
  iE_NotMirror := c.fact 50
  iE_BadCounts := c.fact 51
  iE_BadAnswer := c.fact 52
  iE_BadShare := c.fact 53
  iE_Never := c.fact 54
  iE_BadLine := c.fact 55
  iE_Clash := c.fact 56
  iE_NothingToUndo := c.fact 57
  iE_NothingToRedo := c.fact 58
  iE_FilterError := c.fact 59
  iE_ValueError := c.fact 60
  xc_ByZero := c.fact 61
  xc_BadNumber := c.fact 62
  xc_BadText := c.fact 63
  xc_ZeroPolynomial := c.fact 64
  xc_BadRoot := c.fact 65
  xc_BadStretch := c.fact 66
  xc_BadRow := c.fact 67
  xc_BadTable := c.fact 68
  xc_NoLine := c.fact 69
  xc_UnlikeTables := c.fact 70
  xc_BadBeam := c.fact 71
  xc_NotFilter := c.fact 72
  xc_NotMirror := c.fact 73
  xc_BadCounts := c.fact 74
  xc_BadAnswer := c.fact 75
  xc_BadShare := c.fact 76
  xc_Never := c.fact 77
  xc_BadLine := c.fact 78
  xc_Clash := c.fact 79
  xc_NothingToUndo := c.fact 80
  xc_NothingToRedo := c.fact 81
  errB := c.fact 82
  e_ByZero := c.fact 83
  e_BadNumber := c.fact 84
  no_BadNumber_given := c.fact 85
  e_BadText := c.fact 86
  e_ZeroPolynomial := c.fact 87
  e_BadRoot := c.fact 88
  e_BadStretch := c.fact 89
  e_BadRow := c.fact 90
  no_BadRow_row := c.fact 91
  e_BadTable := c.fact 92
  e_NoLine := c.fact 93
  no_NoLine_name := c.fact 94
  e_UnlikeTables := c.fact 95
  e_BadBeam := c.fact 96
  e_NotFilter := c.fact 97
  e_NotMirror := c.fact 98
  e_BadCounts := c.fact 99
  e_BadAnswer := c.fact 100
  no_BadAnswer_answer := c.fact 101
  e_BadShare := c.fact 102
  no_BadShare_given := c.fact 103
  e_Never := c.fact 104
  no_Never_answer := c.fact 105
  e_BadLine := c.fact 106
  no_BadLine_line := c.fact 107
  e_Clash := c.fact 108
  e_NothingToUndo := c.fact 109
  e_NothingToRedo := c.fact 110
theorem er_ByZero {P : Program} {w : World} {K : Frag} {mg : Str → Option Value} {base : Heap} (W : Wd K mg) (Fn : ∃ fd, FunD K d_ByZero_uinitu.name d_ByZero_uinitu.qual d_ByZero_uinitu.params d_ByZero_uinitu.body d_ByZero_uinitu.scope (d_ByZero_uinitu.dvs K) (d_ByZero_uinitu.kws K) (d_ByZero_uinitu.at_ K) fd) : ∃ fd, Er0 P w (cf K) mg base .byZero (d_ByZero_uinitu.at_ K) fd ["self"] := by
  obtain ⟨fd, F⟩ := Fn
  refine ⟨fd, pErr_o W.e_ByZero, W.e_ByZero.2.2.2.2.2.1, W.e_ByZero.2.2.2.2.2.2.1, FunD.bindsN (ps := ["self"]) F fun _ _ _ _ _ _ us hl => match us, hl with | [_], _ => rfl, ?_⟩
  exact err_fn0 F (fun _ => ⟨_, rfl⟩) ⟨rfl, rfl, rfl, by decide +kernel, rfl, by decide +kernel, by decide +kernel⟩ (pErrB_ok W.errB) (pErr_o W.e_ByZero) W.g_FilterError rfl rfl
theorem er_BadNumber {P : Program} {w : World} {K : Frag} {mg : Str → Option Value} {base : Heap} (W : Wd K mg) (Fn : ∃ fd, FunD K d_BadNumber_uinitu.name d_BadNumber_uinitu.qual d_BadNumber_uinitu.params d_BadNumber_uinitu.body d_BadNumber_uinitu.scope (d_BadNumber_uinitu.dvs K) (d_BadNumber_uinitu.kws K) (d_BadNumber_uinitu.at_ K) fd) : ∃ fd, Er1K P w (cf K) mg base .badNumber "given" (d_BadNumber_uinitu.at_ K) fd ["self", "given"] := by
  obtain ⟨fd, F⟩ := Fn
  refine ⟨fd, ⟨pErr_o W.e_BadNumber, W.e_BadNumber.2.2.2.2.2.1, W.e_BadNumber.2.2.2.2.2.2.1, FunD.bindsN (ps := ["self", "given"]) F fun _ _ _ _ _ _ us hl => match us, hl with | [_, _], _ => rfl, rfl, ?_⟩, err_kb F fun _ _ _ _ _ _ us ws h1 h2 => match us, ws, h1, h2 with | [_], [_], _, _ => rfl⟩
  exact err_fn1 F (fun _ => ⟨_, rfl⟩) ⟨rfl, rfl, rfl, by decide +kernel, rfl, by decide +kernel, by decide +kernel⟩ (pErrB_ok W.errB) (pErr_o W.e_BadNumber) W.g_FilterError rfl rfl rfl (by decide) (by decide) W.no_BadNumber_given
theorem er_BadText {P : Program} {w : World} {K : Frag} {mg : Str → Option Value} {base : Heap} (W : Wd K mg) (Fn : ∃ fd, FunD K d_BadText_uinitu.name d_BadText_uinitu.qual d_BadText_uinitu.params d_BadText_uinitu.body d_BadText_uinitu.scope (d_BadText_uinitu.dvs K) (d_BadText_uinitu.kws K) (d_BadText_uinitu.at_ K) fd) : ∃ fd, Er0 P w (cf K) mg base .badText (d_BadText_uinitu.at_ K) fd ["self"] := by
  obtain ⟨fd, F⟩ := Fn
  refine ⟨fd, pErr_o W.e_BadText, W.e_BadText.2.2.2.2.2.1, W.e_BadText.2.2.2.2.2.2.1, FunD.bindsN (ps := ["self"]) F fun _ _ _ _ _ _ us hl => match us, hl with | [_], _ => rfl, ?_⟩
  exact err_fn0 F (fun _ => ⟨_, rfl⟩) ⟨rfl, rfl, rfl, by decide +kernel, rfl, by decide +kernel, by decide +kernel⟩ (pErrB_ok W.errB) (pErr_o W.e_BadText) W.g_FilterError rfl rfl
theorem er_ZeroPolynomial {P : Program} {w : World} {K : Frag} {mg : Str → Option Value} {base : Heap} (W : Wd K mg) (Fn : ∃ fd, FunD K d_ZeroPolynomial_uinitu.name d_ZeroPolynomial_uinitu.qual d_ZeroPolynomial_uinitu.params d_ZeroPolynomial_uinitu.body d_ZeroPolynomial_uinitu.scope (d_ZeroPolynomial_uinitu.dvs K) (d_ZeroPolynomial_uinitu.kws K) (d_ZeroPolynomial_uinitu.at_ K) fd) : ∃ fd, Er0 P w (cf K) mg base .zeroPolynomial (d_ZeroPolynomial_uinitu.at_ K) fd ["self"] := by
  obtain ⟨fd, F⟩ := Fn
  refine ⟨fd, pErr_o W.e_ZeroPolynomial, W.e_ZeroPolynomial.2.2.2.2.2.1, W.e_ZeroPolynomial.2.2.2.2.2.2.1, FunD.bindsN (ps := ["self"]) F fun _ _ _ _ _ _ us hl => match us, hl with | [_], _ => rfl, ?_⟩
  exact err_fn0 F (fun _ => ⟨_, rfl⟩) ⟨rfl, rfl, rfl, by decide +kernel, rfl, by decide +kernel, by decide +kernel⟩ (pErrB_ok W.errB) (pErr_o W.e_ZeroPolynomial) W.g_FilterError rfl rfl
theorem er_BadRoot {P : Program} {w : World} {K : Frag} {mg : Str → Option Value} {base : Heap} (W : Wd K mg) (Fn : ∃ fd, FunD K d_BadRoot_uinitu.name d_BadRoot_uinitu.qual d_BadRoot_uinitu.params d_BadRoot_uinitu.body d_BadRoot_uinitu.scope (d_BadRoot_uinitu.dvs K) (d_BadRoot_uinitu.kws K) (d_BadRoot_uinitu.at_ K) fd) : ∃ fd, Er0 P w (cf K) mg base .badRoot (d_BadRoot_uinitu.at_ K) fd ["self"] := by
  obtain ⟨fd, F⟩ := Fn
  refine ⟨fd, pErr_o W.e_BadRoot, W.e_BadRoot.2.2.2.2.2.1, W.e_BadRoot.2.2.2.2.2.2.1, FunD.bindsN (ps := ["self"]) F fun _ _ _ _ _ _ us hl => match us, hl with | [_], _ => rfl, ?_⟩
  exact err_fn0 F (fun _ => ⟨_, rfl⟩) ⟨rfl, rfl, rfl, by decide +kernel, rfl, by decide +kernel, by decide +kernel⟩ (pErrB_ok W.errB) (pErr_o W.e_BadRoot) W.g_FilterError rfl rfl
theorem er_BadStretch {P : Program} {w : World} {K : Frag} {mg : Str → Option Value} {base : Heap} (W : Wd K mg) (Fn : ∃ fd, FunD K d_BadStretch_uinitu.name d_BadStretch_uinitu.qual d_BadStretch_uinitu.params d_BadStretch_uinitu.body d_BadStretch_uinitu.scope (d_BadStretch_uinitu.dvs K) (d_BadStretch_uinitu.kws K) (d_BadStretch_uinitu.at_ K) fd) : ∃ fd, Er0 P w (cf K) mg base .badStretch (d_BadStretch_uinitu.at_ K) fd ["self"] := by
  obtain ⟨fd, F⟩ := Fn
  refine ⟨fd, pErr_o W.e_BadStretch, W.e_BadStretch.2.2.2.2.2.1, W.e_BadStretch.2.2.2.2.2.2.1, FunD.bindsN (ps := ["self"]) F fun _ _ _ _ _ _ us hl => match us, hl with | [_], _ => rfl, ?_⟩
  exact err_fn0 F (fun _ => ⟨_, rfl⟩) ⟨rfl, rfl, rfl, by decide +kernel, rfl, by decide +kernel, by decide +kernel⟩ (pErrB_ok W.errB) (pErr_o W.e_BadStretch) W.g_FilterError rfl rfl
theorem er_BadRow {P : Program} {w : World} {K : Frag} {mg : Str → Option Value} {base : Heap} (W : Wd K mg) (Fn : ∃ fd, FunD K d_BadRow_uinitu.name d_BadRow_uinitu.qual d_BadRow_uinitu.params d_BadRow_uinitu.body d_BadRow_uinitu.scope (d_BadRow_uinitu.dvs K) (d_BadRow_uinitu.kws K) (d_BadRow_uinitu.at_ K) fd) : ∃ fd, Er1K P w (cf K) mg base .badRow "row" (d_BadRow_uinitu.at_ K) fd ["self", "row"] := by
  obtain ⟨fd, F⟩ := Fn
  refine ⟨fd, ⟨pErr_o W.e_BadRow, W.e_BadRow.2.2.2.2.2.1, W.e_BadRow.2.2.2.2.2.2.1, FunD.bindsN (ps := ["self", "row"]) F fun _ _ _ _ _ _ us hl => match us, hl with | [_, _], _ => rfl, rfl, ?_⟩, err_kb F fun _ _ _ _ _ _ us ws h1 h2 => match us, ws, h1, h2 with | [_], [_], _, _ => rfl⟩
  exact err_fn1 F (fun _ => ⟨_, rfl⟩) ⟨rfl, rfl, rfl, by decide +kernel, rfl, by decide +kernel, by decide +kernel⟩ (pErrB_ok W.errB) (pErr_o W.e_BadRow) W.g_FilterError rfl rfl rfl (by decide) (by decide) W.no_BadRow_row
theorem er_BadTable {P : Program} {w : World} {K : Frag} {mg : Str → Option Value} {base : Heap} (W : Wd K mg) (Fn : ∃ fd, FunD K d_BadTable_uinitu.name d_BadTable_uinitu.qual d_BadTable_uinitu.params d_BadTable_uinitu.body d_BadTable_uinitu.scope (d_BadTable_uinitu.dvs K) (d_BadTable_uinitu.kws K) (d_BadTable_uinitu.at_ K) fd) : ∃ fd, Er0 P w (cf K) mg base .badTable (d_BadTable_uinitu.at_ K) fd ["self"] := by
  obtain ⟨fd, F⟩ := Fn
  refine ⟨fd, pErr_o W.e_BadTable, W.e_BadTable.2.2.2.2.2.1, W.e_BadTable.2.2.2.2.2.2.1, FunD.bindsN (ps := ["self"]) F fun _ _ _ _ _ _ us hl => match us, hl with | [_], _ => rfl, ?_⟩
  exact err_fn0 F (fun _ => ⟨_, rfl⟩) ⟨rfl, rfl, rfl, by decide +kernel, rfl, by decide +kernel, by decide +kernel⟩ (pErrB_ok W.errB) (pErr_o W.e_BadTable) W.g_FilterError rfl rfl
theorem er_NoLine {P : Program} {w : World} {K : Frag} {mg : Str → Option Value} {base : Heap} (W : Wd K mg) (Fn : ∃ fd, FunD K d_NoLine_uinitu.name d_NoLine_uinitu.qual d_NoLine_uinitu.params d_NoLine_uinitu.body d_NoLine_uinitu.scope (d_NoLine_uinitu.dvs K) (d_NoLine_uinitu.kws K) (d_NoLine_uinitu.at_ K) fd) : ∃ fd, Er1K P w (cf K) mg base .noLine "name" (d_NoLine_uinitu.at_ K) fd ["self", "name"] := by
  obtain ⟨fd, F⟩ := Fn
  refine ⟨fd, ⟨pErr_o W.e_NoLine, W.e_NoLine.2.2.2.2.2.1, W.e_NoLine.2.2.2.2.2.2.1, FunD.bindsN (ps := ["self", "name"]) F fun _ _ _ _ _ _ us hl => match us, hl with | [_, _], _ => rfl, rfl, ?_⟩, err_kb F fun _ _ _ _ _ _ us ws h1 h2 => match us, ws, h1, h2 with | [_], [_], _, _ => rfl⟩
  exact err_fn1 F (fun _ => ⟨_, rfl⟩) ⟨rfl, rfl, rfl, by decide +kernel, rfl, by decide +kernel, by decide +kernel⟩ (pErrB_ok W.errB) (pErr_o W.e_NoLine) W.g_FilterError rfl rfl rfl (by decide) (by decide) W.no_NoLine_name
theorem er_UnlikeTables {P : Program} {w : World} {K : Frag} {mg : Str → Option Value} {base : Heap} (W : Wd K mg) (Fn : ∃ fd, FunD K d_UnlikeTables_uinitu.name d_UnlikeTables_uinitu.qual d_UnlikeTables_uinitu.params d_UnlikeTables_uinitu.body d_UnlikeTables_uinitu.scope (d_UnlikeTables_uinitu.dvs K) (d_UnlikeTables_uinitu.kws K) (d_UnlikeTables_uinitu.at_ K) fd) : ∃ fd, Er0 P w (cf K) mg base .unlikeTables (d_UnlikeTables_uinitu.at_ K) fd ["self"] := by
  obtain ⟨fd, F⟩ := Fn
  refine ⟨fd, pErr_o W.e_UnlikeTables, W.e_UnlikeTables.2.2.2.2.2.1, W.e_UnlikeTables.2.2.2.2.2.2.1, FunD.bindsN (ps := ["self"]) F fun _ _ _ _ _ _ us hl => match us, hl with | [_], _ => rfl, ?_⟩
  exact err_fn0 F (fun _ => ⟨_, rfl⟩) ⟨rfl, rfl, rfl, by decide +kernel, rfl, by decide +kernel, by decide +kernel⟩ (pErrB_ok W.errB) (pErr_o W.e_UnlikeTables) W.g_FilterError rfl rfl
theorem er_BadBeam {P : Program} {w : World} {K : Frag} {mg : Str → Option Value} {base : Heap} (W : Wd K mg) (Fn : ∃ fd, FunD K d_BadBeam_uinitu.name d_BadBeam_uinitu.qual d_BadBeam_uinitu.params d_BadBeam_uinitu.body d_BadBeam_uinitu.scope (d_BadBeam_uinitu.dvs K) (d_BadBeam_uinitu.kws K) (d_BadBeam_uinitu.at_ K) fd) : ∃ fd, Er0 P w (cf K) mg base .badBeam (d_BadBeam_uinitu.at_ K) fd ["self"] := by
  obtain ⟨fd, F⟩ := Fn
  refine ⟨fd, pErr_o W.e_BadBeam, W.e_BadBeam.2.2.2.2.2.1, W.e_BadBeam.2.2.2.2.2.2.1, FunD.bindsN (ps := ["self"]) F fun _ _ _ _ _ _ us hl => match us, hl with | [_], _ => rfl, ?_⟩
  exact err_fn0 F (fun _ => ⟨_, rfl⟩) ⟨rfl, rfl, rfl, by decide +kernel, rfl, by decide +kernel, by decide +kernel⟩ (pErrB_ok W.errB) (pErr_o W.e_BadBeam) W.g_FilterError rfl rfl
theorem er_NotFilter {P : Program} {w : World} {K : Frag} {mg : Str → Option Value} {base : Heap} (W : Wd K mg) (Fn : ∃ fd, FunD K d_NotFilter_uinitu.name d_NotFilter_uinitu.qual d_NotFilter_uinitu.params d_NotFilter_uinitu.body d_NotFilter_uinitu.scope (d_NotFilter_uinitu.dvs K) (d_NotFilter_uinitu.kws K) (d_NotFilter_uinitu.at_ K) fd) : ∃ fd, Er0 P w (cf K) mg base .notFilter (d_NotFilter_uinitu.at_ K) fd ["self"] := by
  obtain ⟨fd, F⟩ := Fn
  refine ⟨fd, pErr_o W.e_NotFilter, W.e_NotFilter.2.2.2.2.2.1, W.e_NotFilter.2.2.2.2.2.2.1, FunD.bindsN (ps := ["self"]) F fun _ _ _ _ _ _ us hl => match us, hl with | [_], _ => rfl, ?_⟩
  exact err_fn0 F (fun _ => ⟨_, rfl⟩) ⟨rfl, rfl, rfl, by decide +kernel, rfl, by decide +kernel, by decide +kernel⟩ (pErrB_ok W.errB) (pErr_o W.e_NotFilter) W.g_FilterError rfl rfl
theorem er_NotMirror {P : Program} {w : World} {K : Frag} {mg : Str → Option Value} {base : Heap} (W : Wd K mg) (Fn : ∃ fd, FunD K d_NotMirror_uinitu.name d_NotMirror_uinitu.qual d_NotMirror_uinitu.params d_NotMirror_uinitu.body d_NotMirror_uinitu.scope (d_NotMirror_uinitu.dvs K) (d_NotMirror_uinitu.kws K) (d_NotMirror_uinitu.at_ K) fd) : ∃ fd, Er0 P w (cf K) mg base .notMirror (d_NotMirror_uinitu.at_ K) fd ["self"] := by
  obtain ⟨fd, F⟩ := Fn
  refine ⟨fd, pErr_o W.e_NotMirror, W.e_NotMirror.2.2.2.2.2.1, W.e_NotMirror.2.2.2.2.2.2.1, FunD.bindsN (ps := ["self"]) F fun _ _ _ _ _ _ us hl => match us, hl with | [_], _ => rfl, ?_⟩
  exact err_fn0 F (fun _ => ⟨_, rfl⟩) ⟨rfl, rfl, rfl, by decide +kernel, rfl, by decide +kernel, by decide +kernel⟩ (pErrB_ok W.errB) (pErr_o W.e_NotMirror) W.g_FilterError rfl rfl
theorem er_BadCounts {P : Program} {w : World} {K : Frag} {mg : Str → Option Value} {base : Heap} (W : Wd K mg) (Fn : ∃ fd, FunD K d_BadCounts_uinitu.name d_BadCounts_uinitu.qual d_BadCounts_uinitu.params d_BadCounts_uinitu.body d_BadCounts_uinitu.scope (d_BadCounts_uinitu.dvs K) (d_BadCounts_uinitu.kws K) (d_BadCounts_uinitu.at_ K) fd) : ∃ fd, Er0 P w (cf K) mg base .badCounts (d_BadCounts_uinitu.at_ K) fd ["self"] := by
  obtain ⟨fd, F⟩ := Fn
  refine ⟨fd, pErr_o W.e_BadCounts, W.e_BadCounts.2.2.2.2.2.1, W.e_BadCounts.2.2.2.2.2.2.1, FunD.bindsN (ps := ["self"]) F fun _ _ _ _ _ _ us hl => match us, hl with | [_], _ => rfl, ?_⟩
  exact err_fn0 F (fun _ => ⟨_, rfl⟩) ⟨rfl, rfl, rfl, by decide +kernel, rfl, by decide +kernel, by decide +kernel⟩ (pErrB_ok W.errB) (pErr_o W.e_BadCounts) W.g_FilterError rfl rfl
theorem er_BadAnswer {P : Program} {w : World} {K : Frag} {mg : Str → Option Value} {base : Heap} (W : Wd K mg) (Fn : ∃ fd, FunD K d_BadAnswer_uinitu.name d_BadAnswer_uinitu.qual d_BadAnswer_uinitu.params d_BadAnswer_uinitu.body d_BadAnswer_uinitu.scope (d_BadAnswer_uinitu.dvs K) (d_BadAnswer_uinitu.kws K) (d_BadAnswer_uinitu.at_ K) fd) : ∃ fd, Er1K P w (cf K) mg base .badAnswer "answer" (d_BadAnswer_uinitu.at_ K) fd ["self", "answer"] := by
  obtain ⟨fd, F⟩ := Fn
  refine ⟨fd, ⟨pErr_o W.e_BadAnswer, W.e_BadAnswer.2.2.2.2.2.1, W.e_BadAnswer.2.2.2.2.2.2.1, FunD.bindsN (ps := ["self", "answer"]) F fun _ _ _ _ _ _ us hl => match us, hl with | [_, _], _ => rfl, rfl, ?_⟩, err_kb F fun _ _ _ _ _ _ us ws h1 h2 => match us, ws, h1, h2 with | [_], [_], _, _ => rfl⟩
  exact err_fn1 F (fun _ => ⟨_, rfl⟩) ⟨rfl, rfl, rfl, by decide +kernel, rfl, by decide +kernel, by decide +kernel⟩ (pErrB_ok W.errB) (pErr_o W.e_BadAnswer) W.g_FilterError rfl rfl rfl (by decide) (by decide) W.no_BadAnswer_answer
theorem er_BadShare {P : Program} {w : World} {K : Frag} {mg : Str → Option Value} {base : Heap} (W : Wd K mg) (Fn : ∃ fd, FunD K d_BadShare_uinitu.name d_BadShare_uinitu.qual d_BadShare_uinitu.params d_BadShare_uinitu.body d_BadShare_uinitu.scope (d_BadShare_uinitu.dvs K) (d_BadShare_uinitu.kws K) (d_BadShare_uinitu.at_ K) fd) : ∃ fd, Er1K P w (cf K) mg base .badShare "given" (d_BadShare_uinitu.at_ K) fd ["self", "given"] := by
  obtain ⟨fd, F⟩ := Fn
  refine ⟨fd, ⟨pErr_o W.e_BadShare, W.e_BadShare.2.2.2.2.2.1, W.e_BadShare.2.2.2.2.2.2.1, FunD.bindsN (ps := ["self", "given"]) F fun _ _ _ _ _ _ us hl => match us, hl with | [_, _], _ => rfl, rfl, ?_⟩, err_kb F fun _ _ _ _ _ _ us ws h1 h2 => match us, ws, h1, h2 with | [_], [_], _, _ => rfl⟩
  exact err_fn1 F (fun _ => ⟨_, rfl⟩) ⟨rfl, rfl, rfl, by decide +kernel, rfl, by decide +kernel, by decide +kernel⟩ (pErrB_ok W.errB) (pErr_o W.e_BadShare) W.g_FilterError rfl rfl rfl (by decide) (by decide) W.no_BadShare_given
theorem er_Never {P : Program} {w : World} {K : Frag} {mg : Str → Option Value} {base : Heap} (W : Wd K mg) (Fn : ∃ fd, FunD K d_Never_uinitu.name d_Never_uinitu.qual d_Never_uinitu.params d_Never_uinitu.body d_Never_uinitu.scope (d_Never_uinitu.dvs K) (d_Never_uinitu.kws K) (d_Never_uinitu.at_ K) fd) : ∃ fd, Er1K P w (cf K) mg base .never "answer" (d_Never_uinitu.at_ K) fd ["self", "answer"] := by
  obtain ⟨fd, F⟩ := Fn
  refine ⟨fd, ⟨pErr_o W.e_Never, W.e_Never.2.2.2.2.2.1, W.e_Never.2.2.2.2.2.2.1, FunD.bindsN (ps := ["self", "answer"]) F fun _ _ _ _ _ _ us hl => match us, hl with | [_, _], _ => rfl, rfl, ?_⟩, err_kb F fun _ _ _ _ _ _ us ws h1 h2 => match us, ws, h1, h2 with | [_], [_], _, _ => rfl⟩
  exact err_fn1 F (fun _ => ⟨_, rfl⟩) ⟨rfl, rfl, rfl, by decide +kernel, rfl, by decide +kernel, by decide +kernel⟩ (pErrB_ok W.errB) (pErr_o W.e_Never) W.g_FilterError rfl rfl rfl (by decide) (by decide) W.no_Never_answer
theorem er_BadLine {P : Program} {w : World} {K : Frag} {mg : Str → Option Value} {base : Heap} (W : Wd K mg) (Fn : ∃ fd, FunD K d_BadLine_uinitu.name d_BadLine_uinitu.qual d_BadLine_uinitu.params d_BadLine_uinitu.body d_BadLine_uinitu.scope (d_BadLine_uinitu.dvs K) (d_BadLine_uinitu.kws K) (d_BadLine_uinitu.at_ K) fd) : ∃ fd, Er1K P w (cf K) mg base .badLine "line" (d_BadLine_uinitu.at_ K) fd ["self", "line"] := by
  obtain ⟨fd, F⟩ := Fn
  refine ⟨fd, ⟨pErr_o W.e_BadLine, W.e_BadLine.2.2.2.2.2.1, W.e_BadLine.2.2.2.2.2.2.1, FunD.bindsN (ps := ["self", "line"]) F fun _ _ _ _ _ _ us hl => match us, hl with | [_, _], _ => rfl, rfl, ?_⟩, err_kb F fun _ _ _ _ _ _ us ws h1 h2 => match us, ws, h1, h2 with | [_], [_], _, _ => rfl⟩
  exact err_fn1 F (fun _ => ⟨_, rfl⟩) ⟨rfl, rfl, rfl, by decide +kernel, rfl, by decide +kernel, by decide +kernel⟩ (pErrB_ok W.errB) (pErr_o W.e_BadLine) W.g_FilterError rfl rfl rfl (by decide) (by decide) W.no_BadLine_line
theorem er_Clash {P : Program} {w : World} {K : Frag} {mg : Str → Option Value} {base : Heap} (W : Wd K mg) (Fn : ∃ fd, FunD K d_Clash_uinitu.name d_Clash_uinitu.qual d_Clash_uinitu.params d_Clash_uinitu.body d_Clash_uinitu.scope (d_Clash_uinitu.dvs K) (d_Clash_uinitu.kws K) (d_Clash_uinitu.at_ K) fd) : ∃ fd, Er0 P w (cf K) mg base .clash (d_Clash_uinitu.at_ K) fd ["self"] := by
  obtain ⟨fd, F⟩ := Fn
  refine ⟨fd, pErr_o W.e_Clash, W.e_Clash.2.2.2.2.2.1, W.e_Clash.2.2.2.2.2.2.1, FunD.bindsN (ps := ["self"]) F fun _ _ _ _ _ _ us hl => match us, hl with | [_], _ => rfl, ?_⟩
  exact err_fn0 F (fun _ => ⟨_, rfl⟩) ⟨rfl, rfl, rfl, by decide +kernel, rfl, by decide +kernel, by decide +kernel⟩ (pErrB_ok W.errB) (pErr_o W.e_Clash) W.g_FilterError rfl rfl
theorem er_NothingToUndo {P : Program} {w : World} {K : Frag} {mg : Str → Option Value} {base : Heap} (W : Wd K mg) (Fn : ∃ fd, FunD K d_NothingToUndo_uinitu.name d_NothingToUndo_uinitu.qual d_NothingToUndo_uinitu.params d_NothingToUndo_uinitu.body d_NothingToUndo_uinitu.scope (d_NothingToUndo_uinitu.dvs K) (d_NothingToUndo_uinitu.kws K) (d_NothingToUndo_uinitu.at_ K) fd) : ∃ fd, Er0 P w (cf K) mg base .nothingToUndo (d_NothingToUndo_uinitu.at_ K) fd ["self"] := by
  obtain ⟨fd, F⟩ := Fn
  refine ⟨fd, pErr_o W.e_NothingToUndo, W.e_NothingToUndo.2.2.2.2.2.1, W.e_NothingToUndo.2.2.2.2.2.2.1, FunD.bindsN (ps := ["self"]) F fun _ _ _ _ _ _ us hl => match us, hl with | [_], _ => rfl, ?_⟩
  exact err_fn0 F (fun _ => ⟨_, rfl⟩) ⟨rfl, rfl, rfl, by decide +kernel, rfl, by decide +kernel, by decide +kernel⟩ (pErrB_ok W.errB) (pErr_o W.e_NothingToUndo) W.g_FilterError rfl rfl
theorem er_NothingToRedo {P : Program} {w : World} {K : Frag} {mg : Str → Option Value} {base : Heap} (W : Wd K mg) (Fn : ∃ fd, FunD K d_NothingToRedo_uinitu.name d_NothingToRedo_uinitu.qual d_NothingToRedo_uinitu.params d_NothingToRedo_uinitu.body d_NothingToRedo_uinitu.scope (d_NothingToRedo_uinitu.dvs K) (d_NothingToRedo_uinitu.kws K) (d_NothingToRedo_uinitu.at_ K) fd) : ∃ fd, Er0 P w (cf K) mg base .nothingToRedo (d_NothingToRedo_uinitu.at_ K) fd ["self"] := by
  obtain ⟨fd, F⟩ := Fn
  refine ⟨fd, pErr_o W.e_NothingToRedo, W.e_NothingToRedo.2.2.2.2.2.1, W.e_NothingToRedo.2.2.2.2.2.2.1, FunD.bindsN (ps := ["self"]) F fun _ _ _ _ _ _ us hl => match us, hl with | [_], _ => rfl, ?_⟩
  exact err_fn0 F (fun _ => ⟨_, rfl⟩) ⟨rfl, rfl, rfl, by decide +kernel, rfl, by decide +kernel, by decide +kernel⟩ (pErrB_ok W.errB) (pErr_o W.e_NothingToRedo) W.g_FilterError rfl rfl
theorem all_ok {P : Program} {w : World} {K : Frag} {mg : Str → Option Value} {base : Heap} (W : Wd K mg) (c : SaysQ fa fn K) : FnBG P w K mg base d_law 8 ps_law c_law := by
  have e_ByZero := er_ByZero (P := P) (w := w) (base := base) W (c.def_ 7 (d := d_ByZero_uinitu) rfl)
  have e_BadNumber := er_BadNumber (P := P) (w := w) (base := base) W (c.def_ 8 (d := d_BadNumber_uinitu) rfl)
  have e_BadText := er_BadText (P := P) (w := w) (base := base) W (c.def_ 9 (d := d_BadText_uinitu) rfl)
  have e_ZeroPolynomial := er_ZeroPolynomial (P := P) (w := w) (base := base) W (c.def_ 10 (d := d_ZeroPolynomial_uinitu) rfl)
  have e_BadRoot := er_BadRoot (P := P) (w := w) (base := base) W (c.def_ 11 (d := d_BadRoot_uinitu) rfl)
  have e_BadStretch := er_BadStretch (P := P) (w := w) (base := base) W (c.def_ 12 (d := d_BadStretch_uinitu) rfl)
  have e_BadRow := er_BadRow (P := P) (w := w) (base := base) W (c.def_ 13 (d := d_BadRow_uinitu) rfl)
  have e_BadTable := er_BadTable (P := P) (w := w) (base := base) W (c.def_ 14 (d := d_BadTable_uinitu) rfl)
  have e_NoLine := er_NoLine (P := P) (w := w) (base := base) W (c.def_ 15 (d := d_NoLine_uinitu) rfl)
  have e_UnlikeTables := er_UnlikeTables (P := P) (w := w) (base := base) W (c.def_ 16 (d := d_UnlikeTables_uinitu) rfl)
  have e_BadBeam := er_BadBeam (P := P) (w := w) (base := base) W (c.def_ 17 (d := d_BadBeam_uinitu) rfl)
  have e_NotFilter := er_NotFilter (P := P) (w := w) (base := base) W (c.def_ 18 (d := d_NotFilter_uinitu) rfl)
  have e_NotMirror := er_NotMirror (P := P) (w := w) (base := base) W (c.def_ 19 (d := d_NotMirror_uinitu) rfl)
  have e_BadCounts := er_BadCounts (P := P) (w := w) (base := base) W (c.def_ 20 (d := d_BadCounts_uinitu) rfl)
  have e_BadAnswer := er_BadAnswer (P := P) (w := w) (base := base) W (c.def_ 21 (d := d_BadAnswer_uinitu) rfl)
  have e_BadShare := er_BadShare (P := P) (w := w) (base := base) W (c.def_ 22 (d := d_BadShare_uinitu) rfl)
  have e_Never := er_Never (P := P) (w := w) (base := base) W (c.def_ 23 (d := d_Never_uinitu) rfl)
  have e_BadLine := er_BadLine (P := P) (w := w) (base := base) W (c.def_ 24 (d := d_BadLine_uinitu) rfl)
  have e_Clash := er_Clash (P := P) (w := w) (base := base) W (c.def_ 25 (d := d_Clash_uinitu) rfl)
  have e_NothingToUndo := er_NothingToUndo (P := P) (w := w) (base := base) W (c.def_ 26 (d := d_NothingToUndo_uinitu) rfl)
  have e_NothingToRedo := er_NothingToRedo (P := P) (w := w) (base := base) W (c.def_ 27 (d := d_NothingToRedo_uinitu) rfl)
  have h__law_cell := ok__law_cell (P := P) (w := w) (base := base) W (c.def_ 0 (d := d__law_cell) rfl)
  have h__law_box := ok__law_box (P := P) (w := w) (base := base) W (c.def_ 1 (d := d__law_box) rfl) h__law_cell
  have h__law_take := ok__law_take (P := P) (w := w) (base := base) W (c.def_ 2 (d := d__law_take) rfl)
  have h__law_same := ok__law_same (P := P) (w := w) (base := base) W (c.def_ 3 (d := d__law_same) rfl)
  have h__law_kinds := ok__law_kinds (P := P) (w := w) (base := base) W (c.def_ 4 (d := d__law_kinds) rfl)
  have h__law_bases := ok__law_bases (P := P) (w := w) (base := base) W (c.def_ 5 (d := d__law_bases) rfl) h__law_kinds e_ByZero e_BadNumber e_BadText e_ZeroPolynomial e_BadRoot e_BadStretch e_BadRow e_BadTable e_NoLine e_UnlikeTables e_BadBeam e_NotFilter e_NotMirror e_BadCounts e_BadAnswer e_BadShare e_Never e_BadLine e_Clash e_NothingToUndo e_NothingToRedo
  have h_law := ok_law (P := P) (w := w) (base := base) W (c.def_ 6 (d := d_law) rfl) h__law_box h__law_take h__law_same h__law_bases e_BadNumber e_BadRow e_NoLine e_BadAnswer e_BadShare e_Never e_BadLine
  exact h_law
end K01
open PySem PySem.W PySem.Calls PyProof.Rows
theorem PySem.Challenge.cw_filterorders_k01_errors_holds : PySem.Challenge.rw_filterorders_k01_errors.Holds := by
  w_on; o_law
  refine HandSHeadRun.head_any (r := OpenLaw.row PySem.Challenge.rw_filterorders_k01_errors) (q := view (OpenLaw.row PySem.Challenge.rw_filterorders_k01_errors).prog [30]) (H := K01.hk) (ob := K01.ob) (M := 6000) (loose := K01.loose) (d := HandSHeadRun.topDef (OpenLaw.row PySem.Challenge.rw_filterorders_k01_errors).prog 30) (kwd := []) K01.ob_eq
    (by kernel_rfl) (fun s => by kernel_rfl) K01.run (by kernel_rfl) (by kernel_rfl) (by kernel_rfl) (by rfl) (by first | assumption | decide +kernel) (by decide +kernel) ⟨rfl, rfl, rfl, rfl, rfl, by decide +kernel⟩ ?hw ?hc
  case hw => w_witness2
  case hc =>
    refine Q.endG (l := PySem.Challenge.rw_filterorders_k01_errors) (n := 63) (k := 8) (x := "_law_script") rfl (by decide) (by kernel_rfl) ⟨rfl, by decide, by decide⟩ ?F
    intro w mg fa h Y G hmg0
    obtain ⟨K, KX, c⟩ := Y
    have W := K01.wd KX G c
    have en : (HandSHeadRun.topDef (OpenLaw.row PySem.Challenge.rw_filterorders_k01_errors).prog 30).name = ("law" : PySem.Str) := by kernel_rfl
    rw [en] at hmg0
    have ea := hmg0.symm.trans W.g_law
    cases ea
    obtain ⟨fd, F⟩ := c.def_ 6 (d := K01.d_law) rfl
    have hb := L2.FunD.bindsA (ps := K01.ps_law) F K01.bd_law
    refine ⟨K, fd, KX, fun s u => hb s [u] rfl, fun base _ _ => ?_⟩
    obtain ⟨fd2, F2, G2⟩ := (K01.all_ok (P := PySem.Challenge.rw_filterorders_k01_errors.prog) (w := w) (base := base) W c).ex
    exact Q.same_fd F F2 ▸ G2
