import PyProof.Rows.All
import Wide.All
import OpenK.AllK
import Wide.FinOn
import HandS.ForMost
import HandS.ForExc
import HandS.CallSlots
import HandS.ExcInit
import HandS.Wide
import HandS.WideBits
import HandS.SlotsOwn
import HandS.Defaults
import HandS.MakeKw
import HandS.MakeKwOnly
import KE.KOpsOwn
import HandS.IsInst
import PyProof.InstNe
import HandS.ExcField
import HandS.TryOnly
import HandS.Words
import HandS.Head2
import HandS.HeadEnd
import HandS.HeadHook2
import HandS.HeadNt
import PyProof.ReprRoads
import HandS.Comp
import HandS.Iter
import HandS.Walk
import KE.GoesEnum
import KE.GoesMore
import KE.GoesZip
import HandS.TupAny
import HandS.Style
import PyProof.MeetsIn
import HandS.Text
import HandS.FStr
import HandS.Deep
import HandS.ExcIs
import HandS.Star
import PyProof.Tail
import PyProof.StrOps2
import HandS.Conv
import HandS.SortKw
import HandS.Finally
import KE.SortKeyHeap
import HandS.DictComp
import KE.GoesComp2
import HandS.DictEq
import HandS.Exc
import HandS.RaiseMore
import KE.KDictCopyH
import HandS.TryMany
import KE.IntTextLaws
import PySem.Challenge.RW_filterorders_k06_divided_polynomials
set_option Elab.async false
set_option linter.all false
set_option maxRecDepth 100000
set_option maxHeartbeats 4000000
namespace Q
abbrev St := L2.St
open PySem L2
/-- the classes of the program, the errors among them -/
inductive Cn where
  | ratio | poly | root | formula | table | facts | desk | trial
  | filterError | byZero | badNumber | badText | zeroPolynomial | badRoot | badStretch | badRow | badTable | noLine | unlikeTables | badBeam | notFilter | notMirror
  | badCounts | badAnswer | badShare | never | badLine | clash | nothingToUndo | nothingToRedo
  deriving DecidableEq
/-- their fields, in the order in which they are stored -/
def Cn.fields : Cn → List Str
  | .ratio => ["top", "bottom"]
  | .poly => ["kept"]
  | .root => ["low", "high", "polynomial"]
  | .formula => ["form"]
  | .table => ["kept"]
  | .facts => ["nothing", "never_negative", "not_nothing", "somewhere_negative"]
  | .desk => ["tables", "beams", "made", "spot"]
  | .trial => ["held_desk", "made", "beams", "spot"]
  | .badNumber => ["given"]
  | .badShare => ["given"]
  | .badRow => ["row"]
  | .noLine => ["name"]
  | .badAnswer => ["answer"]
  | .never => ["answer"]
  | .badLine => ["line"]
  | _ => []
inductive D where
  | non | bl (b : Bool) | int (i : Int) | str (x : Str) | rat (q : Rat) | cls (c : Cn) | scr (ns : List Int)
  | lst (xs : List D) | tup (xs : List D) | dic (kvs : List (Key × D)) | ins (c : Cn) (fs : List D) | err (c : Cn) (fs : List D) | fr (d : D) | raw (ks : List D) | rws (ds : List D)
structure Cf where
  K : PySem.W.Frag
  cl : Cn → Addr
mutual
def Rep (F : Cf) (G : Hp) : D → V → Prop
  | .non, v => v = .non
  | .bl b, v => v = .bl b
  | .int i, v => v = .int i
  | .str x, v => v = .str x
  | .rat q, v => ∃ a dx, v = .ref a ∧ G a = some (.ins (F.cl .ratio) dx [("top", .int q.num), ("bottom", .int (q.den : Int))])
  | .cls c, v => v = .ref (F.cl c)
  | .scr ns, v => ∃ a, v = .ref a ∧ SqL F.K G a (ns.map V.int)
  | .lst ds, v => ∃ a vs, v = .ref a ∧ G a = some (.lst vs) ∧ Reps F G ds vs
  | .tup ds, v => ∃ a vs, v = .ref a ∧ SqT F.K G a vs ∧ Reps F G ds vs
  | .dic kvs, v => ∃ a ob ws, v = .ref a ∧ G a = some (.frz ob (.dK ws)) ∧ RepK F G kvs ws
  | .ins c ds, v => ∃ a dx vs, v = .ref a ∧ G a = some (.ins (F.cl c) dx (c.fields.zip vs)) ∧ Reps F G ds vs
  | .err c ds, v => ∃ a, v = .ref a ∧ ((ds = [] ∧ G a = some (exo a (F.cl c) none)) ∨ ∃ dx vs, G a = some (exo a (F.cl c) (some dx)) ∧ G dx = some (exd dx (c.fields.zip vs)) ∧ Reps F G ds vs)
  | .fr _, _ => False
  | .rws _, _ => False
  | .raw ks, v => ∃ a ob es ep vs, v = .ref a ∧ G a = some (.frz ob (.ext fun _ => True)) ∧ (a == sysModules) = false ∧ ob.ExactDict ∧ ob.data = .dict es ep ∧ Vals vs (es.toList.map (·.key)) ∧ Reps F G ks vs
def Reps (F : Cf) (G : Hp) : List D → List V → Prop
  | [], vs => vs = []
  | d :: ds, vs => ∃ v r, vs = v :: r ∧ Rep F G d v ∧ Reps F G ds r
def RepK (F : Cf) (G : Hp) : List (Key × D) → List (Key × V) → Prop
  | [], vs => vs = []
  | (k, d) :: ds, vs => ∃ v r, vs = (k, v) :: r ∧ Rep F G d v ∧ RepK F G ds r
end
/-- G is part of G' -/
def Inc (G G' : Hp) : Prop := ∀ a o, G a = some o → G' a = some o
theorem Inc.refl (G : Hp) : Inc G G := fun _ _ h => h
theorem Inc.trans {G G1 G2 : Hp} (a : Inc G G1) (b : Inc G1 G2) : Inc G G2 := fun x o h => b x o (a x o h)
theorem Inc.new {G : Hp} {p : Addr} {o : HO} (h : G p = none) : Inc G (upd G p o) := fun a u e => by
  rw [upd_ne (ne_of_none e h)]
  exact e
theorem rd_inc {G G' : Hp} {a : Addr} {u : HO} (i : Inc G G') (h : Rd G a u) : Rd G' a u := by
  rcases h with h | ⟨o, h⟩
  · exact .inl (i _ _ h)
  · exact .inr ⟨o, i _ _ h⟩
theorem sqL_inc {K : PySem.W.Frag} {G G' : Hp} {a : Addr} {vs : List V} (i : Inc G G') (h : SqL K G a vs) : SqL K G' a vs := by
  rcases h with h | h
  · exact .inl (rd_inc i h)
  · exact .inr h
theorem sqT_inc {K : PySem.W.Frag} {G G' : Hp} {a : Addr} {vs : List V} (i : Inc G G') (h : SqT K G a vs) : SqT K G' a vs := by
  rcases h with h | h
  · exact .inl (rd_inc i h)
  · exact .inr h
mutual
theorem Rep.inc {F : Cf} {G G' : Hp} (i : Inc G G') : ∀ {d : D} {v : V}, Rep F G d v → Rep F G' d v
  | .non, _, h => h
  | .bl _, _, h => h
  | .int _, _, h => h
  | .str _, _, h => h
  | .rat _, _, h => let ⟨a, dx, e, s⟩ := h; ⟨a, dx, e, i _ _ s⟩
  | .cls _, _, h => h
  | .scr _, _, h => let ⟨a, e, s⟩ := h; ⟨a, e, sqL_inc i s⟩
  | .lst _, _, h => let ⟨a, vs, e, s, r⟩ := h; ⟨a, vs, e, i _ _ s, Reps.inc i r⟩
  | .tup _, _, h => let ⟨a, vs, e, s, r⟩ := h; ⟨a, vs, e, sqT_inc i s, Reps.inc i r⟩
  | .dic _, _, h => let ⟨a, ob, ws, e, s, r⟩ := h; ⟨a, ob, ws, e, i _ _ s, RepK.inc i r⟩
  | .ins _ _, _, h => let ⟨a, dx, ws, e, s, r⟩ := h; ⟨a, dx, ws, e, i _ _ s, Reps.inc i r⟩
  | .err _ _, _, h => by
    obtain ⟨a, e, q⟩ := h
    refine ⟨a, e, ?_⟩
    rcases q with ⟨q, s⟩ | ⟨dx, vs, s, t, r⟩
    · exact .inl ⟨q, i _ _ s⟩
    · exact .inr ⟨dx, vs, i _ _ s, i _ _ t, Reps.inc i r⟩
  | .fr _, _, h => h
  | .rws _, _, h => h
  | .raw _, _, h => let ⟨a, ob, es, ep, vs, e, s, q1, q2, q3, q4, r⟩ := h; ⟨a, ob, es, ep, vs, e, i _ _ s, q1, q2, q3, q4, Reps.inc i r⟩
theorem Reps.inc {F : Cf} {G G' : Hp} (i : Inc G G') : ∀ {ds : List D} {vs : List V}, Reps F G ds vs → Reps F G' ds vs
  | [], _, h => h
  | _ :: _, _, h => let ⟨v, r, e, a, b⟩ := h; ⟨v, r, e, Rep.inc i a, Reps.inc i b⟩
theorem RepK.inc {F : Cf} {G G' : Hp} (i : Inc G G') : ∀ {ds : List (Key × D)} {vs : List (Key × V)}, RepK F G ds vs → RepK F G' ds vs
  | [], _, h => h
  | (_, _) :: _, _, h => let ⟨v, r, e, a, b⟩ := h; ⟨v, r, e, Rep.inc i a, RepK.inc i b⟩
end
theorem Reps.len {F : Cf} {G : Hp} : ∀ {ds : List D} {vs : List V}, Reps F G ds vs → vs.length = ds.length
  | [], _, h => by cases (show _ = [] from h); rfl
  | _ :: ds, _, h => by
    obtain ⟨v, r, rfl, _, b⟩ := h
    rw [List.length_cons, List.length_cons, Reps.len b]
theorem Reps.get {F : Cf} {G : Hp} : ∀ {ds : List D} {vs : List V} {i : Nat} {d : D}, Reps F G ds vs → ds[i]? = some d → ∃ v, vs[i]? = some v ∧ Rep F G d v
  | [], _, _, _, _, e => by simp at e
  | d :: ds, _, 0, x, h, e => by
    obtain ⟨v, r, rfl, a, _⟩ := h
    simp at e
    subst e
    exact ⟨v, rfl, a⟩
  | _ :: ds, _, i + 1, x, h, e => by
    obtain ⟨v, r, rfl, _, b⟩ := h
    obtain ⟨u, e1, r1⟩ := Reps.get (i := i) b (by simpa using e)
    exact ⟨u, by simpa using e1, r1⟩
theorem Reps.get' {F : Cf} {G : Hp} : ∀ {ds : List D} {vs : List V} {i : Nat} {v : V}, Reps F G ds vs → vs[i]? = some v → ∃ d, ds[i]? = some d ∧ Rep F G d v
  | [], _, _, _, h, e => by cases (show _ = [] from h); simp at e
  | d :: ds, _, 0, x, h, e => by
    obtain ⟨v, r, rfl, a, _⟩ := h
    simp at e
    subst e
    exact ⟨d, rfl, a⟩
  | _ :: ds, _, i + 1, x, h, e => by
    obtain ⟨v, r, rfl, _, b⟩ := h
    obtain ⟨u, e1, r1⟩ := Reps.get' (i := i) b (by simpa using e)
    exact ⟨u, by simpa using e1, r1⟩
theorem Reps.append {F : Cf} {G : Hp} : ∀ {ds es : List D} {vs ws : List V}, Reps F G ds vs → Reps F G es ws → Reps F G (ds ++ es) (vs ++ ws)
  | [], _, _, _, h, k => by cases (show _ = [] from h); exact k
  | _ :: ds, _, _, _, h, k => by
    obtain ⟨v, r, rfl, a, b⟩ := h
    exact ⟨v, _, rfl, a, Reps.append b k⟩
theorem Reps.one {F : Cf} {G : Hp} {d : D} {v : V} (h : Rep F G d v) : Reps F G [d] [v] := ⟨v, [], rfl, h, rfl⟩
theorem Reps.set {F : Cf} {G : Hp} {x : D} {u : V} (hx : Rep F G x u) : ∀ {ds : List D} {vs : List V} (i : Nat), Reps F G ds vs → Reps F G (ds.set i x) (vs.set i u)
  | [], _, _, h => by cases (show _ = [] from h); exact rfl
  | _ :: _, _, 0, h => by
    obtain ⟨v, r, rfl, a, b⟩ := h
    exact ⟨u, r, rfl, hx, b⟩
  | _ :: _, _, i + 1, h => by
    obtain ⟨v, r, rfl, a, b⟩ := h
    exact ⟨v, _, rfl, a, Reps.set hx i b⟩
theorem Reps.take {F : Cf} {G : Hp} : ∀ {ds : List D} {vs : List V} (n : Nat), Reps F G ds vs → Reps F G (ds.take n) (vs.take n)
  | _, _, 0, _ => by simp [Reps]
  | [], _, _ + 1, h => by cases (show _ = [] from h); exact rfl
  | _ :: _, _, n + 1, h => by
    obtain ⟨v, r, rfl, a, b⟩ := h
    exact ⟨v, _, rfl, a, Reps.take n b⟩
theorem Reps.drop {F : Cf} {G : Hp} : ∀ {ds : List D} {vs : List V} (n : Nat), Reps F G ds vs → Reps F G (ds.drop n) (vs.drop n)
  | _, _, 0, h => h
  | [], _, _ + 1, h => by cases (show _ = [] from h); exact rfl
  | _ :: _, _, n + 1, h => by
    obtain ⟨v, r, rfl, a, b⟩ := h
    exact Reps.drop n b
/-- what may be locked -/
def canF : HO → Bool
  | _ => false
/-- what G says may be read in H -/
def Sub (G H : Hp) : Prop := ∀ a o, G a = some o → H a = some o ∨ (canF o = true ∧ ∃ ob, H a = some (.frz ob o))
theorem Sub.rd {G H : Hp} (s : Sub G H) {a : Addr} {u : HO} (h : Rd G a u) : Rd H a u := by
  rcases h with h | ⟨o, h⟩
  · rcases s _ _ h with e | ⟨_, ob, e⟩
    · exact .inl e
    · exact .inr ⟨ob, e⟩
  · rcases s _ _ h with e | ⟨z, _⟩
    · exact .inr ⟨o, e⟩
    · cases z
theorem Sub.l {K : PySem.W.Frag} {G H : Hp} (s : Sub G H) {a : Addr} {vs : List V} (h : SqL K G a vs) : SqL K H a vs := by
  rcases h with h | h
  · exact .inl (s.rd h)
  · exact .inr h
theorem Sub.t {K : PySem.W.Frag} {G H : Hp} (s : Sub G H) {a : Addr} {vs : List V} (h : SqT K G a vs) : SqT K H a vs := by
  rcases h with h | h
  · exact .inl (s.rd h)
  · exact .inr h
theorem Sub.i {G H : Hp} (s : Sub G H) {a C dx : Addr} {fs : List (Str × V)} (h : G a = some (.ins C dx fs)) : H a = some (.ins C dx fs) := by
  rcases s _ _ h with e | ⟨z, _⟩
  · exact e
  · cases z
theorem Sub.ex {G H : Hp} (s : Sub G H) {a : Addr} {o : HO} (h : G a = some o) : ∃ u, H a = some u := by
  rcases s _ _ h with e | ⟨_, ob, e⟩
  · exact ⟨_, e⟩
  · exact ⟨_, e⟩
theorem Sub.no {G H : Hp} (s : Sub G H) {a : Addr} (h : H a = none) : G a = none := by
  cases e : G a with
  | none => rfl
  | some o =>
    obtain ⟨u, q⟩ := s.ex e
    rw [q] at h
    cases h
theorem Sub.m {G H : Hp} (s : Sub G H) {a : Addr} {vs : List V} (h : G a = some (.lst vs)) : H a = some (.lst vs) := by
  rcases s _ _ h with e | ⟨z, _⟩
  · exact e
  · cases z
/-- a new thing, told -/
theorem Sub.new {G H : Hp} (s : Sub G H) {p : Addr} (hp : H p = none) (o : HO) : Sub (upd G p o) (upd H p o) := fun a u e => by
  by_cases h : a = p
  · subst h
    rw [upd_same] at e ⊢
    exact .inl e
  · rw [upd_ne h] at e ⊢
    exact s a u e
/-- something that G does not tell of is changed -/
theorem Sub.off {G H : Hp} (s : Sub G H) {p : Addr} (hp : G p = none) (o : HO) : Sub G (upd H p o) := fun a u e => by
  rw [upd_ne (ne_of_none e hp)]
  exact s a u e
/-- a thing that may change: a list, a dict, an instance -/
inductive MO where
  | lst (xs : List D) | dic (lk : Option Obj) (kvs : List (Key × D)) | ins (c : Cn) (fs : List D)
/-- locked or not -/
def lkO (lk : Option Obj) (o : HO) : HO := match lk with
  | none => o
  | some ob => .frz ob o
/-- a slot: not told; a datum; a changing thing of one's own; a changing thing that was handed in; the exception that is handled -/
inductive Slot where
  | no | val (d : D) | own (o : MO) | bor (o : MO) | exc (c : Cn) (fs : List D)
abbrev Env := List Slot
def Slot.mo : Slot → Option MO
  | .own o => some o
  | .bor o => some o
  | _ => none
def MRep (F : Cf) (G H : Hp) : MO → Addr → Prop
  | .lst ds, a => ∃ vs, H a = some (.lst vs) ∧ Reps F G ds vs
  | .dic lk kvs, a => ∃ ws, H a = some (lkO lk (.dK ws)) ∧ RepK F G kvs ws
  | .ins c ds, a => ∃ dx vs, H a = some (.ins (F.cl c) dx (c.fields.zip vs)) ∧ Reps F G ds vs
theorem MRep.ex {F : Cf} {G H : Hp} {o : MO} {a : Addr} (h : MRep F G H o a) : ∃ u, H a = some u := by
  cases o with
  | lst ds => obtain ⟨vs, e, _⟩ := h; exact ⟨_, e⟩
  | dic lk ds => obtain ⟨vs, e, _⟩ := h; exact ⟨_, e⟩
  | ins c ds => obtain ⟨dx, vs, e, _⟩ := h; exact ⟨_, e⟩
theorem MRep.inc {F : Cf} {G G' H H' : Hp} {o : MO} {a : Addr} (i : Inc G G') (e : H' a = H a) (h : MRep F G H o a) : MRep F G' H' o a := by
  cases o with
  | lst ds => obtain ⟨vs, q, r⟩ := h; exact ⟨vs, e.trans q, r.inc i⟩
  | dic lk ds => obtain ⟨vs, q, r⟩ := h; exact ⟨vs, e.trans q, r.inc i⟩
  | ins c ds => obtain ⟨dx, vs, q, r⟩ := h; exact ⟨dx, vs, e.trans q, r.inc i⟩
/-- a thing that may change, as a datum -/
def moD : D → Option MO
  | .lst xs => some (.lst xs)
  | .dic xs => some (.dic none xs)
  | .ins c xs => some (.ins c xs)
  | _ => none
/-- the datum of a result: a new thing that nobody knows is that thing -/
def unfr : D → D
  | .fr d => d
  | .rws ds => .lst ds
  | d => d
/-- lists at addresses -/
def RwsA (F : Cf) (G H : Hp) : List Addr → List (List D) → Prop
  | [], xss => xss = []
  | a :: as, xss => ∃ xs r, xss = xs :: r ∧ (∃ ws, H a = some (.lst ws) ∧ Reps F G xs ws) ∧ RwsA F G H as r
/-- a result: a datum, or a new thing that nobody knows yet, or new rows that nobody knows -/
def RepR (F : Cf) (H0 G H : Hp) : D → V → Prop
  | .fr d, v => ∃ o a, moD d = some o ∧ v = .ref a ∧ G a = none ∧ MRep F G H o a ∧ H0 a = none
  | .rws ds, v => ∃ a as xss, ds = xss.map D.lst ∧ v = .ref a ∧ (a :: as).Nodup ∧ (∀ b ∈ a :: as, G b = none ∧ H0 b = none) ∧ H a = some (.lst (as.map V.ref)) ∧ RwsA F G H as xss
  | d, v => Rep F G d v
theorem RepR.of {F : Cf} {H0 G H : Hp} {d : D} {v : V} (h : Rep F G d v) : RepR F H0 G H d v := by
  cases d <;> first | exact h | exact h.elim
/-- the frame of a body: what stood at its entry, what of it may change; the exception that is handled, its own dict -/
structure Fx extends Cf where
  G0 : Hp
  H0 : Hp
  B : List Addr
  pin : List (Option Addr)
  xa : Addr := 0
  xd : Option Addr := none
  xc : Cn := .byZero
def SlotOk (F : Fx) (G H : Hp) : Option V → Slot → Prop
  | _, .no => True
  | some v, .val d => Rep F.toCf G d v
  | some v, .own o => ∃ a, v = .ref a ∧ G a = none ∧ MRep F.toCf G H o a ∧ F.H0 a = none
  | some v, .bor o => ∃ a, v = .ref a ∧ G a = none ∧ MRep F.toCf G H o a ∧ a ∈ F.B
  | some v, .exc c fs => v = .ref F.xa ∧ c = F.xc ∧ (fs = [] ∨ ∃ dd vs, F.xd = some dd ∧ H dd = some (.xd (c.fields.zip vs)) ∧ Reps F.toCf G fs vs)
  | none, _ => False
def Slots (F : Fx) (G H : Hp) : St → Env → Prop
  | [], [] => True
  | v :: σ, s :: Γ => SlotOk F G H v s ∧ Slots F G H σ Γ
  | _, _ => False
/-- the addresses of the slots that may change -/
def mutA : St → Env → List Addr
  | some (.ref a) :: σ, .own _ :: Γ => a :: mutA σ Γ
  | some (.ref a) :: σ, .bor _ :: Γ => a :: mutA σ Γ
  | _ :: σ, _ :: Γ => mutA σ Γ
  | _, _ => []
structure Ok (F : Fx) (G H : Hp) (σ : St) (Γ : Env) : Prop where
  sub : Sub G H
  g0 : Inc F.G0 G
  fresh : ∀ a o, G a = some o → F.G0 a = some o ∨ F.H0 a = none
  frame : ∀ a o, F.H0 a = some o → a ∉ F.B → H a = some o
  bor : ∀ a, a ∈ F.B → ∃ o, H a = some o
  slots : Slots F G H σ Γ
  nd : (mutA σ Γ).Nodup
  pin : ∀ (i : Nat) (a : Addr), F.pin[i]? = some (some a) → σ[i]? = some (some (V.ref a)) ∧ ∃ o, Γ[i]? = some (Slot.bor o)
  pl : F.pin.length ≤ Γ.length
section
variable {F : Fx} {G G' H H' : Hp} {σ : St} {Γ : Env}
theorem Slots.get : ∀ {σ : St} {Γ : Env} {i : Nat} {s : Slot}, Slots F G H σ Γ → Γ[i]? = some s → ∃ v, σ[i]? = some v ∧ SlotOk F G H v s
  | [], [], _, _, _, e => by simp at e
  | v :: σ, t :: Γ, 0, s, h, e => by
    simp at e
    subst e
    exact ⟨v, rfl, h.1⟩
  | v :: σ, t :: Γ, i + 1, s, h, e => by
    obtain ⟨u, e1, r⟩ := Slots.get (i := i) h.2 (by simpa using e)
    exact ⟨u, by simpa using e1, r⟩
  | [], _ :: _, _, _, h, _ => h.elim
  | _ :: _, [], _, _, h, _ => h.elim
theorem Slots.len : ∀ {σ : St} {Γ : Env}, Slots F G H σ Γ → σ.length = Γ.length
  | [], [], _ => rfl
  | _ :: _, _ :: _, h => by rw [List.length_cons, List.length_cons, Slots.len h.2]
  | [], _ :: _, h => h.elim
  | _ :: _, [], h => h.elim
theorem Slots.set {v : Option V} {s : Slot} (hv : SlotOk F G H v s) : ∀ {σ : St} {Γ : Env} (i : Nat), Slots F G H σ Γ → Slots F G H (σ.set i v) (Γ.set i s)
  | [], [], _, h => h
  | _ :: _, _ :: _, 0, h => ⟨hv, h.2⟩
  | _ :: _, _ :: _, i + 1, h => ⟨h.1, Slots.set hv i h.2⟩
  | [], _ :: _, _, h => h.elim
  | _ :: _, [], _, h => h.elim
/-- the new state agrees at all the changing things -/
theorem SlotOk.step {v : Option V} {s : Slot} (i : Inc G G') (hm : ∀ a, v = some (.ref a) → s.mo.isSome = true → H' a = H a ∧ G' a = none) (hd : ∀ dd ws, F.xd = some dd → H dd = some (.xd ws) → H' dd = some (.xd ws)) (h : SlotOk F G H v s) : SlotOk F G' H' v s := by
  cases s with
  | no => trivial
  | val d =>
    cases v with
    | none => exact h.elim
    | some v => exact Rep.inc i h
  | own o =>
    cases v with
    | none => exact h.elim
    | some v =>
      obtain ⟨a, rfl, g, m, z⟩ := h
      obtain ⟨e1, e2⟩ := hm a rfl rfl
      exact ⟨a, rfl, e2, m.inc i e1, z⟩
  | bor o =>
    cases v with
    | none => exact h.elim
    | some v =>
      obtain ⟨a, rfl, g, m, z⟩ := h
      obtain ⟨e1, e2⟩ := hm a rfl rfl
      exact ⟨a, rfl, e2, m.inc i e1, z⟩
  | exc c fs =>
    cases v with
    | none => exact h.elim
    | some v =>
      obtain ⟨a, b, r⟩ := h
      refine ⟨a, b, ?_⟩
      rcases r with r | ⟨dd, ws, e, q, r⟩
      · exact .inl r
      · exact .inr ⟨dd, ws, e, hd dd _ e q, r.inc i⟩
theorem mem_mutA : ∀ {σ : St} {Γ : Env} {i : Nat} {a : Addr} {s : Slot}, σ[i]? = some (some (.ref a)) → Γ[i]? = some s → s.mo.isSome = true → a ∈ mutA σ Γ
  | [], _, _, _, _, e, _, _ => by simp at e
  | _ :: _, [], _, _, _, _, e, _ => by simp at e
  | v :: σ, t :: Γ, 0, a, s, e1, e2, z => by
    simp at e1 e2
    subst e1; subst e2
    cases t with
    | own o => simp [mutA]
    | bor o => simp [mutA]
    | no => cases z
    | val d => cases z
    | exc c fs => cases z
  | v :: σ, t :: Γ, i + 1, a, s, e1, e2, z => by
    have ih := mem_mutA (σ := σ) (Γ := Γ) (i := i) (a := a) (s := s) (by simpa using e1) (by simpa using e2) z
    unfold mutA
    split
    · exact List.mem_cons_of_mem _ (by rename_i h1 h2; cases h1; cases h2; exact ih)
    · exact List.mem_cons_of_mem _ (by rename_i h1 h2; cases h1; cases h2; exact ih)
    · rename_i h1 h2; cases h1; cases h2; exact ih
    · rename_i hh
      exact absurd rfl (hh v σ t Γ rfl)
theorem Slots.step : ∀ {σ : St} {Γ : Env}, Inc G G' → (∀ a, a ∈ mutA σ Γ → H' a = H a ∧ G' a = none) → (∀ dd ws, F.xd = some dd → H dd = some (.xd ws) → H' dd = some (.xd ws)) → Slots F G H σ Γ → Slots F G' H' σ Γ := by
  intro σ Γ i hm hd h
  have key : ∀ (n : Nat) (σ1 : St) (Γ1 : Env), Slots F G H σ1 Γ1 → (∀ a, a ∈ mutA σ1 Γ1 → H' a = H a ∧ G' a = none) → Slots F G' H' σ1 Γ1 := by
    intro n σ1
    induction σ1 with
    | nil => intro Γ1 h1 _; cases Γ1 with
      | nil => trivial
      | cons _ _ => exact h1.elim
    | cons v σ1 ih =>
      intro Γ1 h1 h2
      cases Γ1 with
      | nil => exact h1.elim
      | cons s Γ1 =>
        refine ⟨SlotOk.step i (fun a e z => h2 a ?_) hd h1.1, ih Γ1 h1.2 fun a ha => h2 a ?_⟩
        · exact mem_mutA (i := 0) (s := s) (by simp [e]) (by simp) z
        · unfold mutA
          split
          · exact List.mem_cons_of_mem _ (by rename_i q1 q2; cases q1; cases q2; exact ha)
          · exact List.mem_cons_of_mem _ (by rename_i q1 q2; cases q1; cases q2; exact ha)
          · rename_i q1 q2; cases q1; cases q2; exact ha
          · rename_i hh
            exact absurd rfl (hh v σ1 s Γ1 rfl)
  exact key 0 σ Γ h hm
theorem mutA_there : ∀ {σ : St} {Γ : Env}, Slots F G H σ Γ → ∀ a, a ∈ mutA σ Γ → (∃ o, H a = some o) ∧ G a = none ∧ (F.H0 a = none ∨ a ∈ F.B)
  | [], [], _, a, ha => by simp [mutA] at ha
  | v :: σ, s :: Γ, h, a, ha => by
    unfold mutA at ha
    split at ha
    · rename_i q1 q2
      cases q1; cases q2
      rcases List.mem_cons.mp ha with e | e
      · obtain ⟨b, eb, g, m, z⟩ := h.1
        cases eb
        subst e
        exact ⟨m.ex, g, .inl z⟩
      · exact mutA_there h.2 a e
    · rename_i q1 q2
      cases q1; cases q2
      rcases List.mem_cons.mp ha with e | e
      · obtain ⟨b, eb, g, m, z⟩ := h.1
        cases eb
        subst e
        exact ⟨m.ex, g, .inr z⟩
      · exact mutA_there h.2 a e
    · rename_i q1 q2
      cases q1; cases q2
      exact mutA_there h.2 a ha
    · simp at ha
  | [], _ :: _, h, _, _ => h.elim
  | _ :: _, [], h, _, _ => h.elim
theorem Ok.h0 (k : Ok F G H σ Γ) {p : Addr} (hp : H p = none) : F.H0 p = none := by
  cases e : F.H0 p with
  | none => rfl
  | some o =>
    by_cases hb : p ∈ F.B
    · obtain ⟨u, q⟩ := k.bor p hb
      rw [q] at hp
      cases hp
    · rw [k.frame p o e hb] at hp
      cases hp
/-- a new thing, told -/
theorem Ok.new (k : Ok F G H σ Γ) {p : Addr} (hp : H p = none) (o : HO) : Ok F (upd G p o) (upd H p o) σ Γ where
  sub := k.sub.new hp o
  g0 := k.g0.trans (Inc.new (k.sub.no hp))
  fresh := fun a u e => by
    by_cases h : a = p
    · subst h
      exact .inr (k.h0 hp)
    · rw [upd_ne h] at e
      exact k.fresh a u e
  frame := fun a u e hb => by rw [upd_ne (ne_of_none (k.frame a u e hb) hp)]; exact k.frame a u e hb
  bor := fun a ha => by
    obtain ⟨u, q⟩ := k.bor a ha
    exact ⟨u, by rw [upd_ne (ne_of_none q hp)]; exact q⟩
  slots := k.slots.step (Inc.new (k.sub.no hp)) (fun a ha => by
    obtain ⟨⟨u, q⟩, g, _⟩ := mutA_there k.slots a ha
    rw [upd_ne (ne_of_none q hp), upd_ne (ne_of_none q hp)]
    exact ⟨rfl, g⟩) (fun dd ws _ q => by rw [upd_ne (ne_of_none q hp)]; exact q)
  nd := k.nd
  pin := k.pin
  pl := k.pl
/-- a new thing, not told -/
theorem Ok.new0 (k : Ok F G H σ Γ) {p : Addr} (hp : H p = none) (o : HO) : Ok F G (upd H p o) σ Γ where
  sub := k.sub.off (k.sub.no hp) o
  g0 := k.g0
  fresh := k.fresh
  frame := fun a u e hb => by rw [upd_ne (ne_of_none (k.frame a u e hb) hp)]; exact k.frame a u e hb
  bor := fun a ha => by
    obtain ⟨u, q⟩ := k.bor a ha
    exact ⟨u, by rw [upd_ne (ne_of_none q hp)]; exact q⟩
  slots := k.slots.step (Inc.refl G) (fun a ha => by
    obtain ⟨⟨u, q⟩, g, _⟩ := mutA_there k.slots a ha
    rw [upd_ne (ne_of_none q hp)]
    exact ⟨rfl, g⟩) (fun dd ws _ q => by rw [upd_ne (ne_of_none q hp)]; exact q)
  nd := k.nd
  pin := k.pin
  pl := k.pl
/-- something that nobody knows is changed -/
theorem Ok.off (k : Ok F G H σ Γ) {p : Addr} (gp : G p = none) (hp : F.H0 p = none) (hb : p ∉ F.B) (hm : p ∉ mutA σ Γ) (hd : ∀ ws, H p ≠ some (.xd ws)) (o : HO) : Ok F G (upd H p o) σ Γ where
  sub := k.sub.off gp o
  g0 := k.g0
  fresh := k.fresh
  frame := fun a u e hb => by rw [upd_ne (ne_of_none e hp)]; exact k.frame a u e hb
  bor := fun a ha => by
    obtain ⟨u, q⟩ := k.bor a ha
    exact ⟨u, by rw [upd_ne (show a ≠ p from fun z => hb (z ▸ ha))]; exact q⟩
  slots := k.slots.step (Inc.refl G) (fun a ha => by
    obtain ⟨⟨u, q⟩, g, _⟩ := mutA_there k.slots a ha
    rw [upd_ne (show a ≠ p from fun z => hm (z ▸ ha))]
    exact ⟨rfl, g⟩) (fun dd ws e q => by rw [upd_ne (show dd ≠ p from fun z => hd ws (z ▸ q))]; exact q)
  nd := k.nd
  pin := k.pin
  pl := k.pl
theorem Ok.offB (k : Ok F G H σ Γ) {p : Addr} (gp : G p = none) (hp : F.H0 p = none) (hm : p ∉ mutA σ Γ) (hd : ∀ ws, H p ≠ some (.xd ws)) (o : HO) : Ok F G (upd H p o) σ Γ where
  sub := k.sub.off gp o
  g0 := k.g0
  fresh := k.fresh
  frame := fun a u e hb => by rw [upd_ne (ne_of_none e hp)]; exact k.frame a u e hb
  bor := fun a ha => by
    by_cases z : a = p
    · subst z; exact ⟨o, upd_same⟩
    · rw [upd_ne z]; exact k.bor a ha
  slots := k.slots.step (Inc.refl G) (fun a ha => by
    obtain ⟨⟨u, q⟩, g, _⟩ := mutA_there k.slots a ha
    rw [upd_ne (show a ≠ p from fun z => hm (z ▸ ha))]
    exact ⟨rfl, g⟩) (fun dd ws e q => by rw [upd_ne (show dd ≠ p from fun z => hd ws (z ▸ q))]; exact q)
  nd := k.nd
  pin := k.pin
  pl := k.pl
/-- something new is told from now on -/
theorem Ok.tell (k : Ok F G H σ Γ) {a : Addr} {o : HO} (ha : H a = some o) (ga : G a = none) (h0 : F.H0 a = none) (hm : a ∉ mutA σ Γ) : Ok F (upd G a o) H σ Γ where
  sub := fun b u e => by
    by_cases h : b = a
    · subst h
      rw [upd_same] at e
      cases e
      exact .inl ha
    · rw [upd_ne h] at e
      exact k.sub b u e
  g0 := k.g0.trans (Inc.new ga)
  fresh := fun b u e => by
    by_cases h : b = a
    · subst h
      exact .inr h0
    · rw [upd_ne h] at e
      exact k.fresh b u e
  frame := k.frame
  bor := k.bor
  slots := k.slots.step (Inc.new ga) (fun b hb => by
    obtain ⟨_, g, _⟩ := mutA_there k.slots b hb
    rw [upd_ne (show b ≠ a from fun z => hm (z ▸ hb))]
    exact ⟨rfl, g⟩) (fun dd ws _ q => q)
  nd := k.nd
  pin := k.pin
  pl := k.pl
/-- .. and is a datum -/
theorem mrep_tellD {F : Cf} {G H : Hp} {lk : Option Obj} {kvs : List (Key × D)} {a : Addr} (ga : G a = none) (m : MRep F G H (.dic lk kvs) a) : ∃ ws, H a = some (lkO lk (.dK ws)) ∧ ∀ ob, Rep F (upd G a (.frz ob (.dK ws))) (.dic kvs) (.ref a) := by
  obtain ⟨ws, e, r⟩ := m
  exact ⟨ws, e, fun ob => ⟨a, ob, ws, rfl, upd_same, r.inc (Inc.new ga)⟩⟩
theorem mrep_tell {F : Cf} {G H : Hp} {d : D} {o : MO} {a : Addr} (hd : moD d = some o) (hn : ∀ kvs, d ≠ .dic kvs) (ga : G a = none) (m : MRep F G H o a) : ∃ u, H a = some u ∧ Rep F (upd G a u) d (.ref a) := by
  cases d with
  | lst xs => cases hd; obtain ⟨vs, e, r⟩ := m; exact ⟨_, e, a, vs, rfl, upd_same, r.inc (Inc.new ga)⟩
  | dic xs => exact absurd rfl (hn xs)
  | ins c xs => cases hd; obtain ⟨dx, vs, e, r⟩ := m; exact ⟨_, e, a, dx, vs, rfl, upd_same, r.inc (Inc.new ga)⟩
  | _ => cases hd
theorem Ok.rep (k : Ok F G H σ Γ) {i : Nat} {d : D} (h : Γ[i]? = some (.val d)) : ∃ v, σ[i]? = some (some v) ∧ Rep F.toCf G d v := by
  obtain ⟨v, e, r⟩ := k.slots.get h
  cases v with
  | none => exact r.elim
  | some v => exact ⟨v, e, r⟩
/-- the slot's thing that may change -/
theorem Ok.mut (k : Ok F G H σ Γ) {i : Nat} {s : Slot} {o : MO} (h : Γ[i]? = some s) (hs : s.mo = some o) : ∃ a, σ[i]? = some (some (.ref a)) ∧ G a = none ∧ MRep F.toCf G H o a ∧ (F.H0 a = none ∨ a ∈ F.B) := by
  obtain ⟨v, e, r⟩ := k.slots.get h
  cases s with
  | own o' =>
    cases hs
    cases v with
    | none => exact r.elim
    | some v =>
      obtain ⟨a, rfl, g, m, z⟩ := r
      exact ⟨a, e, g, m, .inl z⟩
  | bor o' =>
    cases hs
    cases v with
    | none => exact r.elim
    | some v =>
      obtain ⟨a, rfl, g, m, z⟩ := r
      exact ⟨a, e, g, m, .inr z⟩
  | no => cases hs
  | val d => cases hs
  | exc c fs => cases hs
/-- not a thing that may change -/
def nomut (Γ : Env) (i : Nat) : Prop := ∀ s, Γ[i]? = some s → s.mo = none
theorem mutA_set : ∀ {σ : St} {Γ : Env} {i : Nat} {v : Option V} {s : Slot}, nomut Γ i → s.mo = none → mutA (σ.set i v) (Γ.set i s) = mutA σ Γ
  | [], [], _, _, _, _, _ => rfl
  | [], _ :: _, _, _, _, _, _ => by simp [mutA]
  | _ :: _, [], _, _, _, _, _ => by simp [mutA]
  | u :: σ, t :: Γ, 0, v, s, n, z => by
    have ht : t.mo = none := n t rfl
    show mutA (v :: σ) (s :: Γ) = mutA (u :: σ) (t :: Γ)
    have one : ∀ (u : Option V) (t : Slot), t.mo = none → mutA (u :: σ) (t :: Γ) = mutA σ Γ := by
      intro u t ht
      cases t with
      | own o => cases ht
      | bor o => cases ht
      | no => simp [mutA]
      | val d => simp [mutA]
      | exc c fs => simp [mutA]
    rw [one v s z, one u t ht]
  | u :: σ, t :: Γ, i + 1, v, s, n, z => by
    have ih := mutA_set (σ := σ) (Γ := Γ) (i := i) (v := v) (s := s) (fun s hs => n s (by simpa using hs)) z
    show mutA (u :: σ.set i v) (t :: Γ.set i s) = mutA (u :: σ) (t :: Γ)
    cases t with
    | own o =>
      cases u with
      | none => simp [mutA, ih]
      | some w => cases w <;> simp [mutA, ih]
    | bor o =>
      cases u with
      | none => simp [mutA, ih]
      | some w => cases w <;> simp [mutA, ih]
    | no => simp [mutA, ih]
    | val d => simp [mutA, ih]
    | exc c fs => simp [mutA, ih]
theorem Ok.setS (k : Ok F G H σ Γ) {i : Nat} {v : Option V} {s : Slot} (n : nomut Γ i) (z : s.mo = none) (h : SlotOk F G H v s) : Ok F G H (σ.set i v) (Γ.set i s) :=
  by
  refine ⟨k.sub, k.g0, k.fresh, k.frame, k.bor, k.slots.set h i, by rw [mutA_set n z]; exact k.nd, fun j a e => ?_, by rw [List.length_set]; exact k.pl⟩
  obtain ⟨e1, o, e2⟩ := k.pin j a e
  have hj : i ≠ j := fun q => by
    subst q
    cases n _ e2
  rw [List.getElem?_set_ne hj, List.getElem?_set_ne hj]
  exact ⟨e1, o, e2⟩
/-- x = a datum -/
theorem Ok.set (k : Ok F G H σ Γ) {i : Nat} {v : V} {d : D} (n : nomut Γ i) (h : Rep F.toCf G d v) : Ok F G H (σ.set i (some v)) (Γ.set i (.val d)) := k.setS n rfl h
theorem Ok.unset (k : Ok F G H σ Γ) {i : Nat} {v : Option V} (n : nomut Γ i) : Ok F G H (σ.set i v) (Γ.set i .no) := k.setS n rfl (by cases v <;> trivial)
end
end Q
set_option Elab.async false
set_option linter.all false
set_option maxRecDepth 100000
set_option maxHeartbeats 4000000
namespace Q
open PySem L2 PySem.Spec PyProof.Rows
structure Exn where
  c : Cn
  fs : List D
def XRep (F : Cf) (G H : Hp) (x : Exn) (cls : Value) (dd : Option Addr) : Prop :=
  cls = .ref (F.cl x.c) ∧ (x.fs = [] ∨ ∃ a vs, dd = some a ∧ H a = some (.xd (x.c.fields.zip vs)) ∧ Reps F G x.fs vs)
abbrev XP := Exn → Env → Prop
abbrev QE := Env → (D → Env → Prop) → XP → Prop
abbrev QT := Env → (Bool → Env → Prop) → XP → Prop
abbrev QA := Env → (List D → Env → Prop) → XP → Prop
structure PEnds where
  nx : Env → Prop
  rt : D → Env → Prop
  bk : Env → Prop := fun _ => False
  ct : Env → Prop := fun _ => False
abbrev QS := Env → PEnds → XP → Prop
/-- what is wished of an exception, by the frame -/
def wOf (F : Fx) (E : XP) : WX := fun cls d σ H => ∃ G Γ x, Ok F G H σ Γ ∧ XRep F.toCf G H x cls d ∧ E x Γ
def Fin (F : Fx) (G : Hp) (σ : St) (Q : D → Env → Prop) : VK := fun w H' => ∃ d Γ' G', Q d Γ' ∧ Inc G G' ∧ Ok F G' H' σ Γ' ∧ Rep F.toCf G' d w
def FinT (F : Fx) (G : Hp) (σ : St) (Q : Bool → Env → Prop) : Bool → Hp → Prop := fun b H' => ∃ Γ' G', Q b Γ' ∧ Inc G G' ∧ Ok F G' H' σ Γ'
def FinA (F : Fx) (G : Hp) (σ : St) (Q : List D → Env → Prop) : List V → Hp → Prop := fun ws H' => ∃ ds Γ' G', Q ds Γ' ∧ Inc G G' ∧ Ok F G' H' σ Γ' ∧ Reps F.toCf G' ds ws
def endsOf (F : Fx) (G : Hp) (P : PEnds) : Ends where
  nx := fun σ' H' => ∃ Γ' G', P.nx Γ' ∧ Inc G G' ∧ Ok F G' H' σ' Γ'
  rt := fun v H' => ∃ d Γ' G' σ', P.rt d Γ' ∧ Inc G G' ∧ Ok F G' H' σ' Γ' ∧ RepR F.toCf F.H0 G' H' d v
  bk := fun σ' H' => ∃ Γ' G', P.bk Γ' ∧ Inc G G' ∧ Ok F G' H' σ' Γ'
  ct := fun σ' H' => ∃ Γ' G', P.ct Γ' ∧ Inc G G' ∧ Ok F G' H' σ' Γ'
structure LE (X : Cx) (F : Fx) (E : XP) (e : Expr) (p : QE) : Prop where
  run : ∀ (pins : List (Addr × Obj)) (s : Shared) (σ : St) (H G : Hp) (Γ : Env) (Q : D → Env → Prop), Inv X pins σ H s → Ok F G H σ Γ → p Γ Q E →
    wpAny (model X.prog X.w) X.A (eval e X.env) (EP X pins σ (Fin F G σ Q)) X.xe s
structure LT (X : Cx) (F : Fx) (E : XP) (e : Expr) (p : QT) : Prop where
  run : ∀ (pins : List (Addr × Obj)) (s : Shared) (σ : St) (H G : Hp) (Γ : Env) (Q : Bool → Env → Prop), Inv X pins σ H s → Ok F G H σ Γ → p Γ Q E →
    wpAny (model X.prog X.w) X.A (isTrue e X.env (eval e X.env)) (TP X pins σ (FinT F G σ Q)) X.xe s
/-- a test whatever its whole is -/
structure LW (X : Cx) (F : Fx) (E : XP) (e : Expr) (p : QT) : Prop where
  run : ∀ (whole : Sem Value) (pins : List (Addr × Obj)) (s : Shared) (σ : St) (H G : Hp) (Γ : Env) (Q : Bool → Env → Prop), Inv X pins σ H s → Ok F G H σ Γ → p Γ Q E →
    wpAny (model X.prog X.w) X.A (isTrue e X.env whole) (TP X pins σ (FinT F G σ Q)) X.xe s
structure LA (X : Cx) (F : Fx) (E : XP) (es : List Expr) (p : QA) : Prop where
  run : ∀ (pos : Pos) (pins : List (Addr × Obj)) (s : Shared) (σ : St) (H G : Hp) (Γ : Env) (Q : List D → Env → Prop), Inv X pins σ H s → Ok F G H σ Γ → p Γ Q E →
    wpAny (model X.prog X.w) X.A (spliced (backTo pos (starEach es X.env))) (AP X pins σ (FinA F G σ Q)) X.xe s
structure LS (X : Cx) (F : Fx) (E : XP) (st : Stmt) (p : QS) : Prop where
  run : ∀ (pins : List (Addr × Obj)) (s : Shared) (σ : St) (H G : Hp) (Γ : Env) (P : PEnds), Inv X pins σ H s → Ok F G H σ Γ → p Γ P E →
    wpAny (model X.prog X.w) X.A (exec st X.env) (SP X pins (endsOf F G P)) X.xe s
structure LSs (X : Cx) (F : Fx) (E : XP) (st : List Stmt) (p : QS) : Prop where
  run : ∀ (pins : List (Addr × Obj)) (s : Shared) (σ : St) (H G : Hp) (Γ : Env) (P : PEnds), Inv X pins σ H s → Ok F G H σ Γ → p Γ P E →
    wpAny (model X.prog X.w) X.A (execs st X.env) (SP X pins (endsOf F G P)) X.xe s
theorem LW.lt {X : Cx} {F : Fx} {E : XP} {e : Expr} {p : QT} (h : LW X F E e p) : LT X F E e p := ⟨h.run _⟩
def tE (F : Fx) (E : XP) (p : QE) : TE := fun σ H K => ∃ G Γ Q, Ok F G H σ Γ ∧ p Γ Q E ∧ ∀ w H', Fin F G σ Q w H' → K w H'
def tT (F : Fx) (E : XP) (p : QT) : TT := fun σ H K => ∃ G Γ Q, Ok F G H σ Γ ∧ p Γ Q E ∧ ∀ b H', FinT F G σ Q b H' → K b H'
def tA (F : Fx) (E : XP) (p : QA) : TA := fun σ H K => ∃ G Γ Q, Ok F G H σ Γ ∧ p Γ Q E ∧ ∀ ws H', FinA F G σ Q ws H' → K ws H'
def tS (F : Fx) (E : XP) (p : QS) : TS := fun D σ H => ∃ G Γ P, Ok F G H σ Γ ∧ p Γ P E ∧ (∀ σ' H', (endsOf F G P).nx σ' H' → D.nx σ' H') ∧ (∀ v H', (endsOf F G P).rt v H' → D.rt v H') ∧
  (∀ σ' H', (endsOf F G P).bk σ' H' → D.bk σ' H') ∧ (∀ σ' H', (endsOf F G P).ct σ' H' → D.ct σ' H')
section
variable {X : Cx} {F : Fx} {E : XP}
theorem sp_imp {pins : List (Addr × Obj)} {D D' : Ends} {f : Flow} {s : Shared} (h : SP X pins D f s) (h1 : ∀ σ H, D.nx σ H → D'.nx σ H) (h2 : ∀ v H, D.rt v H → D'.rt v H) (h3 : ∀ σ H, D.bk σ H → D'.bk σ H) (h4 : ∀ σ H, D.ct σ H → D'.ct σ H) : SP X pins D' f s := by
  cases f with
  | next => obtain ⟨σ, H, I, q⟩ := h; exact ⟨σ, H, I, h1 _ _ q⟩
  | brk => obtain ⟨σ, H, I, q⟩ := h; exact ⟨σ, H, I, h3 _ _ q⟩
  | cont => obtain ⟨σ, H, I, q⟩ := h; exact ⟨σ, H, I, h4 _ _ q⟩
  | ret u => obtain ⟨v, σ, H, I, r, q⟩ := h; exact ⟨v, σ, H, I, r, h2 _ _ q⟩
theorem LE.pe {e : Expr} {p : QE} (h : LE X F E e p) : PE X e (tE F E p) := ⟨fun pins s σ H K I ⟨G, Γ, Q, k, q, i⟩ =>
  thn (h.run pins s σ H G Γ Q I k q) fun u s' ⟨v, H', I', r, z⟩ => ⟨v, H', I', r, i v H' z⟩⟩
theorem LE.of {e : Expr} {p : QE} {t : TE} (h : PE X e t) (i : ∀ σ H G Γ Q, Ok F G H σ Γ → p Γ Q E → t σ H (Fin F G σ Q)) : LE X F E e p := ⟨fun pins s σ H G Γ Q I k q => h.run pins s σ H _ I (i σ H G Γ Q k q)⟩
theorem LT.pt {e : Expr} {p : QT} (h : LT X F E e p) : PT X e (tT F E p) := ⟨fun pins s σ H K I ⟨G, Γ, Q, k, q, i⟩ =>
  thn (h.run pins s σ H G Γ Q I k q) fun u s' ⟨H', I', z⟩ => ⟨H', I', i u H' z⟩⟩
theorem LT.of {e : Expr} {p : QT} {t : TT} (h : PT X e t) (i : ∀ σ H G Γ Q, Ok F G H σ Γ → p Γ Q E → t σ H (FinT F G σ Q)) : LT X F E e p := ⟨fun pins s σ H G Γ Q I k q => h.run pins s σ H _ I (i σ H G Γ Q k q)⟩
theorem LA.pa {es : List Expr} {p : QA} (h : LA X F E es p) : PA X es (tA F E p) := ⟨fun pos pins s σ H K I ⟨G, Γ, Q, k, q, i⟩ =>
  thn (h.run pos pins s σ H G Γ Q I k q) fun u s' ⟨v, H', I', r, z⟩ => ⟨v, H', I', r, i v H' z⟩⟩
theorem LS.ps {st : Stmt} {p : QS} (h : LS X F E st p) : PS X st (tS F E p) := ⟨fun pins s σ H D I ⟨G, Γ, P, k, q, i1, i2, i3, i4⟩ =>
  thn (h.run pins s σ H G Γ P I k q) fun f s' z => sp_imp z i1 i2 i3 i4⟩
theorem LSs.ps {st : List Stmt} {p : QS} (h : LSs X F E st p) : PSs X st (tS F E p) := ⟨fun pins s σ H D I ⟨G, Γ, P, k, q, i1, i2, i3, i4⟩ =>
  thn (h.run pins s σ H G Γ P I k q) fun f s' z => sp_imp z i1 i2 i3 i4⟩
theorem LS.of {st : Stmt} {p : QS} {t : TS} (h : PS X st t) (i : ∀ σ H G Γ P, Ok F G H σ Γ → p Γ P E → t (endsOf F G P) σ H) : LS X F E st p := ⟨fun pins s σ H G Γ P I k q => h.run pins s σ H _ I (i σ H G Γ P k q)⟩
/-- the ends seen from a larger ground -/
theorem ends_inc {G G' : Hp} {P : PEnds} (i : Inc G G') {pins : List (Addr × Obj)} {f : Flow} {s : Shared} (h : SP X pins (endsOf F G' P) f s) : SP X pins (endsOf F G P) f s :=
  sp_imp h (fun σ H ⟨Γ, G2, a, b, c⟩ => ⟨Γ, G2, a, i.trans b, c⟩) (fun v H ⟨d, Γ, G2, σ, a, b, c⟩ => ⟨d, Γ, G2, σ, a, i.trans b, c⟩) (fun σ H ⟨Γ, G2, a, b, c⟩ => ⟨Γ, G2, a, i.trans b, c⟩) (fun σ H ⟨Γ, G2, a, b, c⟩ => ⟨Γ, G2, a, i.trans b, c⟩)
def qVar (i : Nat) : QE := fun Γ Q _ => match Γ[i]? with
  | some (.val d) => Q d Γ
  | _ => False
def qC (d : D) : QE := fun Γ Q _ => Q d Γ
theorem qVar_get {i : Nat} {Γ : Env} {Q : D → Env → Prop} {E : XP} (h : qVar i Γ Q E) : ∃ d, Γ[i]? = some (.val d) ∧ Q d Γ := by
  unfold qVar at h
  split at h
  · rename_i d e; exact ⟨d, e, h⟩
  · exact h.elim
theorem le_var (i : Nat) {x : Str} {pos : Pos} (hN : X.N[i]? = some x := by rfl) (hv : Vis X.env.scope x := by first | exact Or.inl rfl | exact Or.inr (Or.inl rfl) | exact Or.inr (Or.inr rfl)) (hd : (x == ("__debug__" : Str)) = false := by decide)
    (hcd : (x == ("__classdict__" : Str)) = false := by decide) : LE X F E (.Name x pos) (qVar i) :=
  LE.of (pe_var hN hv hd hcd) fun σ H G Γ Q k q => by
    obtain ⟨d, e, q⟩ := qVar_get q
    obtain ⟨v, ev, r⟩ := k.rep e
    exact ⟨v, ev, d, Γ, G, q, Inc.refl G, k, r⟩
theorem le_int {i j pos} : LE X F E (.Constant (.int i) j pos) (qC (.int i)) := LE.of pe_int fun σ H G Γ Q k q => ⟨_, Γ, G, q, Inc.refl G, k, rfl⟩
theorem le_bl {i j pos} : LE X F E (.Constant (.bool i) j pos) (qC (.bl i)) := LE.of pe_bl fun σ H G Γ Q k q => ⟨_, Γ, G, q, Inc.refl G, k, rfl⟩
theorem le_non {j pos} : LE X F E (.Constant .none j pos) (qC .non) := LE.of pe_non fun σ H G Γ Q k q => ⟨_, Γ, G, q, Inc.refl G, k, rfl⟩
abbrev O2 := D → D → Env → (D → Env → Prop) → XP → Prop
abbrev O1 := D → Env → (D → Env → Prop) → XP → Prop
def OpL (X : Cx) (F : Fx) (E : XP) (f : Value → Value → Sem Value) (o : O2) : Prop :=
  ∀ (pins : List (Addr × Obj)) (s : Shared) (σ : St) (H G : Hp) (Γ : Env) (x y : V) (v u : Value) (d e : D) (Q : D → Env → Prop), Inv X pins σ H s → Ok F G H σ Γ → RelV x v → RelV y u → Rep F.toCf G d x → Rep F.toCf G e y → o d e Γ Q E →
    wpAny (model X.prog X.w) X.A (f v u) (EP X pins σ (Fin F G σ Q)) X.xe s
def UnL (X : Cx) (F : Fx) (E : XP) (f : Value → Sem Value) (o : O1) : Prop :=
  ∀ (pins : List (Addr × Obj)) (s : Shared) (σ : St) (H G : Hp) (Γ : Env) (x : V) (v : Value) (d : D) (Q : D → Env → Prop), Inv X pins σ H s → Ok F G H σ Γ → RelV x v → Rep F.toCf G d x → o d Γ Q E →
    wpAny (model X.prog X.w) X.A (f v) (EP X pins σ (Fin F G σ Q)) X.xe s
theorem OpL.of {f : Value → Value → Sem Value} {o : O2} {r : R2} (h : OpR X f r) (i : ∀ σ H G Γ x y d e Q, Ok F G H σ Γ → Rep F.toCf G d x → Rep F.toCf G e y → o d e Γ Q E → r x y H (Fin F G σ Q)) : OpL X F E f o :=
  fun pins s σ H G Γ x y v u d e Q I k rv ru rx ry q => h pins s σ H x y v u _ I rv ru (i σ H G Γ x y d e Q k rx ry q)
theorem UnL.of {f : Value → Sem Value} {o : O1} {r : V → Hp → VK → Prop} (h : UnR X f r) (i : ∀ σ H G Γ x d Q, Ok F G H σ Γ → Rep F.toCf G d x → o d Γ Q E → r x H (Fin F G σ Q)) : UnL X F E f o :=
  fun pins s σ H G Γ x v d Q I k rv rx q => h pins s σ H x v _ I rv (i σ H G Γ x d Q k rx q)
variable {a b c : Expr} {pa pb pc : QE} {pos : Pos}
def qBin (o : O2) (pa pb : QE) : QE := fun Γ Q E => pa Γ (fun d Γ1 => pb Γ1 (fun e Γ2 => o d e Γ2 Q E) E) E
def qUn (o : O1) (pa : QE) : QE := fun Γ Q E => pa Γ (fun d Γ1 => o d Γ1 Q E) E
theorem lift2 (ha : LE X F E a pa) (hb : LE X F E b pb) {f : Value → Value → Sem Value} {o : O2} (ho : OpL X F E f o) {pins : List (Addr × Obj)} {s : Shared} {σ : St} {H G : Hp} {Γ : Env} {Q : D → Env → Prop} (I : Inv X pins σ H s) (k : Ok F G H σ Γ) (q : qBin o pa pb Γ Q E) :
    wpAny (model X.prog X.w) X.A (eval a X.env) (fun v s₁ => wpAny (model X.prog X.w) X.A (eval b X.env) (fun u s₂ => wpAny (model X.prog X.w) X.A (f v u) (EP X pins σ (Fin F G σ Q)) X.xe s₂) X.xe s₁) X.xe s := by
  refine thn (ha.run pins s σ H G Γ _ I k q) fun v s1 ⟨x, H1, I1, r1, d, Γ1, G1, q1, i1, k1, rp1⟩ => ?_
  refine thn (hb.run pins s1 σ H1 G1 Γ1 _ I1 k1 q1) fun u s2 ⟨y, H2, I2, r2, e, Γ2, G2, q2, i2, k2, rp2⟩ => ?_
  exact thn (ho pins s2 σ H2 G2 Γ2 x y v u d e Q I2 k2 r1 r2 (rp1.inc i2) rp2 q2) fun w s3 ⟨z, H3, I3, r3, c, Γ3, G3, q3, i3, k3, rp3⟩ => ⟨z, H3, I3, r3, c, Γ3, G3, q3, (i1.trans i2).trans i3, k3, rp3⟩
theorem le_bin {op : Operator} {o : O2} (ho : OpL X F E (binaryOp op) o) (ha : LE X F E a pa) (hb : LE X F E b pb) : LE X F E (.BinOp a op b pos) (qBin o pa pb) :=
  ⟨fun pins s σ H G Γ Q I k h => wpAny_BinOp (lift2 ha hb ho I k h)⟩
theorem le_un {op : UnaryOp} {o : O1} (ho : UnL X F E (unaryOp op) o) (ha : LE X F E a pa) : LE X F E (.UnaryOp op a pos) (qUn o pa) :=
  ⟨fun pins s σ H G Γ Q I k h => UnaryOp_ (thn (ha.run pins s σ H G Γ _ I k h) fun v s1 ⟨x, H1, I1, r1, d, Γ1, G1, q1, i1, k1, rp1⟩ =>
    thn (ho pins s1 σ H1 G1 Γ1 x v d Q I1 k1 r1 rp1 q1) fun w s3 ⟨z, H3, I3, r3, c, Γ3, G3, q3, i3, k3, rp3⟩ => ⟨z, H3, I3, r3, c, Γ3, G3, q3, i1.trans i3, k3, rp3⟩)⟩
theorem le_cmp {op : CmpOp} {o : O2} (ho : OpL X F E (compareOp op) o) (ha : LE X F E a pa) (hb : LE X F E b pb) (hm : behindInMarks op b = false := by first | exact nomark _ | with_unfolding_all rfl) : LE X F E (.Compare a [op] [b] pos) (qBin o pa pb) :=
  ⟨fun pins s σ H G Γ Q I k h => wpAny_Compare1 (lift2 ha hb ho I k h) hm⟩
/-- a value as a test: a truth value -/
def qTest (p : QE) : QT := fun Γ Q E => p Γ (fun d Γ1 => match d with
  | .bl b => Q b Γ1
  | _ => False) E
theorem qTest_get {d : D} {Q : Bool → Env → Prop} {Γ : Env} (h : (match d with | .bl b => Q b Γ | _ => False)) : ∃ b, d = .bl b ∧ Q b Γ := by
  cases d with
  | bl b => exact ⟨b, rfl, h⟩
  | _ => exact h.elim
theorem lt_cmp {op : CmpOp} {o : O2} (ho : OpL X F E (compareOp op) o) (ha : LE X F E a pa) (hb : LE X F E b pb) (hm : behindInMarks op b = false := by first | exact nomark _ | with_unfolding_all rfl) : LT X F E (.Compare a [op] [b] pos) (qTest (qBin o pa pb)) := by
  refine ⟨fun pins s σ H G Γ Q I k h => ?_⟩
  refine wpAny_isTrue_Compare1 (thn (lift2 ha hb ho I k h) fun v s1 h1 => thn h1 fun u s2 h2 => thn h2 fun c s3 ⟨x, H1, I1, r1, d, Γ1, G1, q1, i1, k1, rp1⟩ => ?_) hm
  obtain ⟨b, rfl, q⟩ := qTest_get q1
  cases (show x = .bl b from rp1)
  cases r1
  exact wpAny_truthy_bool ⟨H1, I1, Γ1, G1, q, i1, k1⟩
theorem lt_val (h : LE X F E a pa) (he : ∀ whole, isTrue a X.env whole = (do let v ← whole; standAt a.pos; holding [v] (truthy v)) := by intro _; rfl) : LT X F E a (qTest pa) := by
  refine ⟨fun pins s σ H G Γ Q I k hw => ?_⟩
  refine isTrue_plain (thn (h.run pins s σ H G Γ _ I k hw) fun v s1 ⟨x, H1, I1, r1, d, Γ1, G1, q1, i1, k1, rp1⟩ => ?_) (he _)
  obtain ⟨b, rfl, q⟩ := qTest_get q1
  cases (show x = .bl b from rp1)
  cases r1
  exact wpAny_truthy_bool ⟨H1, I1, Γ1, G1, q, i1, k1⟩
variable {ta tb : QT} {rest : List Expr}
def qAnd (t u : QT) : QT := fun Γ Q E => t Γ (fun c Γ1 => match c with
  | true => u Γ1 Q E
  | false => Q false Γ1) E
def qOr (t u : QT) : QT := fun Γ Q E => t Γ (fun c Γ1 => match c with
  | true => Q true Γ1
  | false => u Γ1 Q E) E
def qNot (t : QT) : QT := fun Γ Q E => t Γ (fun c Γ1 => Q (!c) Γ1) E
theorem lw_and1 (ha : LT X F E a ta) : LW X F E (.BoolOp .And [a] pos) ta := by
  refine ⟨fun wh pins s σ H G Γ Q I k h => ?_⟩
  refine isTrue_and (thn (ha.run pins s σ H G Γ Q I k h) fun c s1 e => ?_)
  cases c with
  | true => exact isTrue_and_nil e
  | false => exact e
theorem lw_or1 (ha : LT X F E a ta) : LW X F E (.BoolOp .Or [a] pos) ta := by
  refine ⟨fun wh pins s σ H G Γ Q I k h => ?_⟩
  refine isTrue_or (thn (ha.run pins s σ H G Γ Q I k h) fun c s1 e => ?_)
  cases c with
  | false => exact isTrue_or_nil e
  | true => exact e
theorem finT_inc {G G' : Hp} {σ : St} {Q : Bool → Env → Prop} {b : Bool} {H : Hp} (i : Inc G G') (h : FinT F G' σ Q b H) : FinT F G σ Q b H := let ⟨Γ, G2, a, c, d⟩ := h; ⟨Γ, G2, a, i.trans c, d⟩
theorem fin_inc {G G' : Hp} {σ : St} {Q : D → Env → Prop} {b : V} {H : Hp} (i : Inc G G') (h : Fin F G' σ Q b H) : Fin F G σ Q b H := let ⟨d, Γ, G2, a, c, e⟩ := h; ⟨d, Γ, G2, a, i.trans c, e⟩
theorem tp_inc {G G' : Hp} {σ : St} {Q : Bool → Env → Prop} {pins : List (Addr × Obj)} {b : Bool} {s : Shared} (i : Inc G G') (h : TP X pins σ (FinT F G' σ Q) b s) : TP X pins σ (FinT F G σ Q) b s := let ⟨H, I, q⟩ := h; ⟨H, I, finT_inc i q⟩
theorem ep_inc {G G' : Hp} {σ : St} {Q : D → Env → Prop} {pins : List (Addr × Obj)} {u : Value} {s : Shared} (i : Inc G G') (h : EP X pins σ (Fin F G' σ Q) u s) : EP X pins σ (Fin F G σ Q) u s := let ⟨v, H, I, r, q⟩ := h; ⟨v, H, I, r, fin_inc i q⟩
/-- .. a dict locked first -/
def FinL (F : Fx) (G : Hp) (σ : St) (Q : D → Env → Prop) : VK := fun w H' => Fin F G σ Q w H' ∨ ∃ a ws, H' a = some (.dK ws) ∧ ∀ ob, Fin F G σ Q w (upd H' a (.frz ob (.dK ws)))
theorem ep_lock {G : Hp} {σ : St} {Q : D → Env → Prop} {pins : List (Addr × Obj)} {u : Value} {s : Shared} (h : EP X pins σ (FinL F G σ Q) u s) : EP X pins σ (Fin F G σ Q) u s := by
  obtain ⟨v, H, I, r, q | ⟨a, ws, e, q⟩⟩ := h
  · exact ⟨v, H, I, r, q⟩
  · obtain ⟨ob, I'⟩ := I.lock e trivial
    exact ⟨v, _, I', r, q ob⟩
theorem LE.ofL {e : Expr} {p : QE} {t : TE} (h : PE X e t) (i : ∀ σ H G Γ Q, Ok F G H σ Γ → p Γ Q E → t σ H (FinL F G σ Q)) : LE X F E e p := ⟨fun pins s σ H G Γ Q I k q => thn (h.run pins s σ H _ I (i σ H G Γ Q k q)) fun _ _ z => ep_lock z⟩
theorem lw_and (ha : LT X F E a ta) (hb : LW X F E (.BoolOp .And (b :: rest) pos) tb) : LW X F E (.BoolOp .And (a :: b :: rest) pos) (qAnd ta tb) := by
  refine ⟨fun wh pins s σ H G Γ Q I k h => ?_⟩
  refine isTrue_and (thn (ha.run pins s σ H G Γ _ I k h) fun c s1 ⟨H1, I1, Γ1, G1, q1, i1, k1⟩ => ?_)
  cases c with
  | true => exact thn (hb.run wh pins s1 σ H1 G1 Γ1 Q I1 k1 q1) fun c s2 z => tp_inc i1 z
  | false => exact ⟨H1, I1, Γ1, G1, q1, i1, k1⟩
theorem lw_or (ha : LT X F E a ta) (hb : LW X F E (.BoolOp .Or (b :: rest) pos) tb) : LW X F E (.BoolOp .Or (a :: b :: rest) pos) (qOr ta tb) := by
  refine ⟨fun wh pins s σ H G Γ Q I k h => ?_⟩
  refine isTrue_or (thn (ha.run pins s σ H G Γ _ I k h) fun c s1 ⟨H1, I1, Γ1, G1, q1, i1, k1⟩ => ?_)
  cases c with
  | true => exact ⟨H1, I1, Γ1, G1, q1, i1, k1⟩
  | false => exact thn (hb.run wh pins s1 σ H1 G1 Γ1 Q I1 k1 q1) fun c s2 z => tp_inc i1 z
theorem lt_not (ha : LT X F E a ta) : LT X F E (.UnaryOp .Not a pos) (qNot ta) :=
  ⟨fun pins s σ H G Γ Q I k h => isTrue_not (thn (ha.run pins s σ H G Γ _ I k h) fun c s1 ⟨H1, I1, Γ1, G1, q1, i1, k1⟩ => ⟨H1, I1, Γ1, G1, q1, i1, k1⟩)⟩
/-- .. as values -/
def qAndV (pa pb : QE) : QE := fun Γ Q E => pa Γ (fun d Γ1 => match d with
  | .bl true => pb Γ1 Q E
  | .bl false => Q (.bl false) Γ1
  | _ => False) E
def qNotV (pa : QE) : QE := fun Γ Q E => pa Γ (fun d Γ1 => match d with
  | .bl b => Q (.bl (!b)) Γ1
  | _ => False) E
theorem le_one {op} (h : LE X F E a pa) : LE X F E (.BoolOp op [a] pos) pa := ⟨fun pins s σ H G Γ Q I k hw => BoolOp_one (h.run pins s σ H G Γ Q I k hw)⟩
theorem le_and (ha : LE X F E a pa) (hb : LE X F E (.BoolOp .And (b :: rest) pos) pb) : LE X F E (.BoolOp .And (a :: b :: rest) pos) (qAndV pa pb) := by
  refine ⟨fun pins s σ H G Γ Q I k h => ?_⟩
  refine BoolOp_and (thn (ha.run pins s σ H G Γ _ I k h) fun v s1 ⟨x, H1, I1, r1, d, Γ1, G1, q1, i1, k1, rp1⟩ => ?_)
  cases d with
  | bl c =>
    cases (show x = .bl c from rp1)
    cases r1
    refine wpAny_truthy_bool ?_
    cases c with
    | true => exact thn (hb.run pins s1 σ H1 G1 Γ1 Q I1 k1 q1) fun c s2 z => ep_inc i1 z
    | false => exact ⟨.bl false, H1, I1, rfl, _, Γ1, G1, q1, i1, k1, rfl⟩
  | _ => exact q1.elim
theorem le_not (ha : LE X F E a pa) : LE X F E (.UnaryOp .Not a pos) (qNotV pa) := by
  refine ⟨fun pins s σ H G Γ Q I k h => ?_⟩
  refine UnaryOp_ (thn (ha.run pins s σ H G Γ _ I k h) fun v s1 ⟨x, H1, I1, r1, d, Γ1, G1, q1, i1, k1, rp1⟩ => ?_)
  cases d with
  | bl c =>
    cases (show x = .bl c from rp1)
    cases r1
    exact not_of (wpAny_truthy_bool ⟨.bl (!c), H1, I1, rfl, _, Γ1, G1, q1, i1, k1, rfl⟩)
  | _ => exact q1.elim
def qIf (t : QT) (pa pb : QE) : QE := fun Γ Q E => t Γ (fun c Γ1 => match c with
  | true => pa Γ1 Q E
  | false => pb Γ1 Q E) E
theorem le_if {c : Expr} (hc : LT X F E c ta) (ha : LE X F E a pa) (hb : LE X F E b pb) : LE X F E (.IfExp c a b pos) (qIf ta pa pb) := by
  refine ⟨fun pins s σ H G Γ Q I k h => ?_⟩
  refine wpAny_IfExp (thn (hc.run pins s σ H G Γ _ I k h) fun d s1 ⟨H1, I1, Γ1, G1, q1, i1, k1⟩ => ?_)
  cases d with
  | true => exact thn (ha.run pins s1 σ H1 G1 Γ1 Q I1 k1 q1) fun c s2 z => ep_inc i1 z
  | false => exact thn (hb.run pins s1 σ H1 G1 Γ1 Q I1 k1 q1) fun c s2 z => ep_inc i1 z
def qNil : QA := fun Γ Q _ => Q [] Γ
def qCons (pa : QE) (pr : QA) : QA := fun Γ Q E => pa Γ (fun d Γ1 => pr Γ1 (fun ds Γ2 => Q (d :: ds) Γ2) E) E
theorem la_nil : LA X F E [] qNil := ⟨fun _ _ _ _ H G Γ Q I k h => Calls.spliced_nil ⟨[], H, I, .nil, [], Γ, G, h, Inc.refl G, k, rfl⟩⟩
theorem la_cons {es : List Expr} {pr : QA} (ha : LE X F E a pa) (hr : LA X F E es pr) (hs : starEach (a :: es) X.env = (false, eval a X.env) :: starEach es X.env := by rfl) : LA X F E (a :: es) (qCons pa pr) := by
  refine ⟨fun pos pins s σ H G Γ Q I k h => ?_⟩
  rw [hs]
  show wpAny _ _ (spliced ((false, eval a X.env) :: backTo pos (starEach es X.env))) _ _ s
  refine Calls.spliced_cons (thn (ha.run pins s σ H G Γ _ I k h) fun u s1 ⟨x, H1, I1, r1, d, Γ1, G1, q1, i1, k1, rp1⟩ => ?_)
  exact thn (hr.run pos pins s1 σ H1 G1 Γ1 _ I1 k1 q1) fun us s2 ⟨xs, H2, I2, r2, ds, Γ2, G2, q2, i2, k2, rp2⟩ => ⟨x :: xs, H2, I2, .cons r1 r2, d :: ds, Γ2, G2, q2, i1.trans i2, k2, x, xs, rfl, rp1.inc i2, rp2⟩
def qTup (p : QA) : QE := fun Γ Q E => p Γ (fun ds Γ1 => ds.length ≤ 100000 ∧ Q (.tup ds) Γ1) E
def qLst (p : QA) : QE := fun Γ Q E => p Γ (fun ds Γ1 => ds.length ≤ 100000 ∧ Q (.lst ds) Γ1) E
theorem szl {n : Nat} (h : n ≤ 100000) : n ≤ sizeLine := Nat.le_trans h (by decide)
theorem szlt {n : Nat} (h : n < 100000) : n < sizeLine := Nat.lt_of_lt_of_le h (by decide)
theorem le_tup {es : List Expr} {p : QA} {x1} (h : LA X F E es p) : LE X F E (.Tuple es x1 pos) (qTup p) :=
  LE.of (pe_tup h.pa) fun σ H G Γ Q k q => ⟨G, Γ, _, k, q, fun ws H' ⟨ds, Γ', G', ⟨hl, q'⟩, i, k', r⟩ => ⟨by rw [r.len]; exact szl hl, fun p hp =>
    ⟨_, Γ', upd G' p (.tup ws), q', i.trans (Inc.new (k'.sub.no hp)), k'.new hp _, p, ws, rfl, SqT.of upd_same, r.inc (Inc.new (k'.sub.no hp))⟩⟩⟩
theorem le_lst {es : List Expr} {p : QA} (h : LA X F E es p) : LE X F E (.List es pos) (qLst p) :=
  LE.of (pe_lst h.pa) fun σ H G Γ Q k q => ⟨G, Γ, _, k, q, fun ws H' ⟨ds, Γ', G', ⟨hl, q'⟩, i, k', r⟩ => ⟨by rw [r.len]; exact szl hl, fun p hp =>
    ⟨_, Γ', upd G' p (.lst ws), q', i.trans (Inc.new (k'.sub.no hp)), k'.new hp _, p, ws, rfl, upd_same, r.inc (Inc.new (k'.sub.no hp))⟩⟩⟩
end
end Q
set_option Elab.async false
set_option linter.all false
set_option maxRecDepth 100000
set_option maxHeartbeats 4000000
namespace Q
open PySem L2 PySem.Spec PyProof.Rows
mutual
def toPy : D → PyData
  | .non => .none
  | .bl b => .bool b
  | .int i => .int i
  | .str x => .str x
  | .lst xs => .list (toPys xs)
  | .tup xs => .tuple (toPys xs)
  | .rat _ => .none
  | .cls _ => .none
  | .scr _ => .none
  | .dic _ => .none
  | .ins _ _ => .none
  | .err _ _ => .none
  | .fr _ => .none
  | .raw _ => .none
  | .rws _ => .none
def toPys : List D → List PyData
  | [] => []
  | x :: xs => toPy x :: toPys xs
end
mutual
def isPy : D → Bool
  | .non => true
  | .bl _ => true
  | .int _ => true
  | .str _ => true
  | .lst xs => isPys xs
  | .tup xs => isPys xs
  | .rat _ => false
  | .cls _ => false
  | .scr _ => false
  | .dic _ => false
  | .ins _ _ => false
  | .err _ _ => false
  | .fr _ => false
  | .raw _ => false
  | .rws _ => false
def isPys : List D → Bool
  | [] => true
  | x :: xs => isPy x && isPys xs
end
def plainD (d : D) : Bool := isPy d && SeqAt.shaped (toPy d)
mutual
theorem dp_of {F : Cf} {G H : Hp} (s : Sub G H) : ∀ {d : D} {v : V}, isPy d = true → Rep F G d v → Dp F.K H v (toPy d)
  | .non, _, _, r => by cases (show _ = V.non from r); exact .non
  | .bl b, _, _, r => by cases (show _ = V.bl b from r); exact .bl b
  | .int b, _, _, r => by cases (show _ = V.int b from r); exact .int b
  | .str b, _, _, r => by cases (show _ = V.str b from r); exact .str b
  | .lst ds, _, h, r => by
    obtain ⟨a, vs, rfl, q, r⟩ := r
    exact .lst (SqL.of (s.m q)) (dps_of s h r)
  | .tup ds, _, h, r => by
    obtain ⟨a, vs, rfl, q, r⟩ := r
    exact .tup (s.t q) (dps_of s h r)
  | .rat _, _, h, _ => by cases h
  | .cls _, _, h, _ => by cases h
  | .scr _, _, h, _ => by cases h
  | .dic _, _, h, _ => by cases h
  | .ins _ _, _, h, _ => by cases h
  | .err _ _, _, h, _ => by cases h
  | .fr _, _, h, _ => by cases h
  | .raw _, _, h, _ => by cases h
  | .rws _, _, h, _ => by cases h
theorem dps_of {F : Cf} {G H : Hp} (s : Sub G H) : ∀ {ds : List D} {vs : List V}, isPys ds = true → Reps F G ds vs → DpAll F.K H vs (toPys ds)
  | [], _, _, r => by cases (show _ = [] from r); exact .nil
  | d :: ds, _, h, r => by
    obtain ⟨v, vs, rfl, a, b⟩ := r
    have h' := Bool.and_eq_true_iff.mp (show (isPy d && isPys ds) = true from h)
    exact .cons (dp_of s h'.1 a) (dps_of s h'.2 b)
end
def oEq : O2 := fun d e Γ Q _ => plainD d = true ∧ plainD e = true ∧ Q (.bl (PyData.eqv (toPy d) (toPy e))) Γ
def oNe : O2 := fun d e Γ Q _ => plainD d = true ∧ plainD e = true ∧ Q (.bl (!PyData.eqv (toPy d) (toPy e))) Γ
/-- what * asks of two ints -/
def MulOk (i j : Int) : Prop := CMulX i j
def DivOk (i j : Int) : Prop := j ≠ 0 ∧ Builtin.divisionGoesByPylong i j = false
def PowOk (i j : Int) : Prop := 0 ≤ j ∧ (Builtin.Int.intBits i : Int) * j ≤ 2 ^ 27
def oAdd : O2 := fun d e Γ Q _ => match d, e with
  | .int i, .int j => Q (.int (i + j)) Γ
  | .str i, .str j => i.length + j.length ≤ 100000 ∧ Q (.str (i ++ j)) Γ
  | .lst i, .lst j => i.length + j.length ≤ 100000 ∧ Q (.lst (i ++ j)) Γ
  | _, _ => False
def oSub : O2 := fun d e Γ Q _ => match d, e with
  | .int i, .int j => Q (.int (i - j)) Γ
  | _, _ => False
def oMul : O2 := fun d e Γ Q _ => match d, e with
  | .int i, .int j => MulOk i j ∧ Q (.int (i * j)) Γ
  | .lst xs, .int n => xs.length * n.toNat ≤ 100000 ∧ -100000 ≤ n ∧ n ≤ 100000 ∧ Q (.lst (List.flatten (List.replicate n.toNat xs))) Γ
  | _, _ => False
def oDiv : O2 := fun d e Γ Q _ => match d, e with
  | .int i, .int j => DivOk i j ∧ Q (.int (i.fdiv j)) Γ
  | _, _ => False
def oMod : O2 := fun d e Γ Q _ => match d, e with
  | .int i, .int j => j ≠ 0 ∧ Q (.int (i.fmod j)) Γ
  | _, _ => False
def oPow : O2 := fun d e Γ Q _ => match d, e with
  | .int i, .int j => PowOk i j ∧ Q (.int (i ^ j.toNat)) Γ
  | _, _ => False
def oCmp (f : Int → Int → Bool) : O2 := fun d e Γ Q _ => match d, e with
  | .int i, .int j => Q (.bl (f i j)) Γ
  | _, _ => False
abbrev oLt : O2 := oCmp fun i j => decide (i < j)
abbrev oGt : O2 := oCmp fun i j => decide (j < i)
abbrev oGe : O2 := oCmp fun i j => decide (j ≤ i)
def oNeg : O1 := fun d Γ Q _ => match d with
  | .int i => Q (.int (-i)) Γ
  | _ => False
/-- is None -/
def isNon : D → Bool
  | .non => true
  | _ => false
section
variable {X : Cx} {F : Fx} {E : XP}
theorem fin0 {G H : Hp} {σ : St} {Γ : Env} {Q : D → Env → Prop} {d : D} {v : V} (k : Ok F G H σ Γ) (q : Q d Γ) (r : Rep F.toCf G d v) : Fin F G σ Q v H := ⟨d, Γ, G, q, Inc.refl G, k, r⟩
/-- a new list -/
theorem fin_lst {G H : Hp} {σ : St} {Γ : Env} {Q : D → Env → Prop} {ds : List D} {vs : List V} {p : Addr} (k : Ok F G H σ Γ) (hp : H p = none) (q : Q (.lst ds) Γ) (r : Reps F.toCf G ds vs) : Fin F G σ Q (.ref p) (upd H p (.lst vs)) :=
  ⟨_, Γ, upd G p (.lst vs), q, Inc.new (k.sub.no hp), k.new hp _, p, vs, rfl, upd_same, r.inc (Inc.new (k.sub.no hp))⟩
theorem fin_tup {G H : Hp} {σ : St} {Γ : Env} {Q : D → Env → Prop} {ds : List D} {vs : List V} {p : Addr} (k : Ok F G H σ Γ) (hp : H p = none) (q : Q (.tup ds) Γ) (r : Reps F.toCf G ds vs) : Fin F G σ Q (.ref p) (upd H p (.tup vs)) :=
  ⟨_, Γ, upd G p (.tup vs), q, Inc.new (k.sub.no hp), k.new hp _, p, vs, rfl, SqT.of upd_same, r.inc (Inc.new (k.sub.no hp))⟩
theorem OpL.int {f : Value → Value → Sem Value} {o : O2} {C : Int → Int → Prop} {g : Int → Int → D} {gv : Int → Int → V} (h : OpR X f (rI C gv)) (hg : ∀ i j G, Rep F.toCf G (g i j) (gv i j))
    (ho : ∀ d e Γ (Q : D → Env → Prop), o d e Γ Q E → ∃ i j, d = .int i ∧ e = .int j ∧ C i j ∧ Q (g i j) Γ) : OpL X F E f o := OpL.of h fun σ H G Γ x y d e Q k rx ry q => by
  obtain ⟨i, j, rfl, rfl, c, q⟩ := ho _ _ _ _ q
  exact ⟨i, j, rx, ry, c, fin0 (d := g i j) k q (hg i j G)⟩
theorem OpL.int0 {f : Value → Value → Sem Value} {o : O2} {g : Int → Int → D} {gv : Int → Int → V} (h : OpR X f (rI0 gv)) (hg : ∀ i j G, Rep F.toCf G (g i j) (gv i j))
    (ho : ∀ d e Γ (Q : D → Env → Prop), o d e Γ Q E → ∃ i j, d = .int i ∧ e = .int j ∧ Q (g i j) Γ) : OpL X F E f o := OpL.of h fun σ H G Γ x y d e Q k rx ry q => by
  obtain ⟨i, j, rfl, rfl, q2⟩ := ho _ _ _ _ q
  exact ⟨i, j, rx, ry, fin0 (d := g i j) k q2 (hg i j G)⟩
theorem op_fdivA : OpR X (binaryOp .FloorDiv) (rI DivOk fun i j => .int (i.fdiv j)) := opI fun _ _ _ _ _ _ _ hc q => floordiv_int hc.1 q (.inl hc.2)
theorem op_powA : OpR X (binaryOp .Pow) (rI PowOk fun i j => .int (i ^ j.toNat)) := opI fun _ _ _ _ _ _ _ hc q => pow_int hc.1 hc.2 q
theorem ol_sub : OpL X F E (binaryOp .Sub) oSub := OpL.int0 (g := fun i j => .int (i - j)) op_sub (fun _ _ _ => rfl) fun d e Γ Q q => by
  cases d <;> cases e <;> first | exact ⟨_, _, rfl, rfl, q⟩ | exact q.elim
theorem ol_div : OpL X F E (binaryOp .FloorDiv) oDiv := OpL.int (g := fun i j => .int (i.fdiv j)) op_fdivA (fun _ _ _ => rfl) fun d e Γ Q q => by
  cases d <;> cases e <;> first | exact ⟨_, _, rfl, rfl, q⟩ | exact q.elim
theorem ol_mod : OpL X F E (binaryOp .Mod) oMod := OpL.int (g := fun i j => .int (i.fmod j)) op_modN (fun _ _ _ => rfl) fun d e Γ Q q => by
  cases d <;> cases e <;> first | exact ⟨_, _, rfl, rfl, q⟩ | exact q.elim
theorem ol_pow : OpL X F E (binaryOp .Pow) oPow := OpL.int (g := fun i j => .int (i ^ j.toNat)) op_powA (fun _ _ _ => rfl) fun d e Γ Q q => by
  cases d <;> cases e <;> first | exact ⟨_, _, rfl, rfl, q⟩ | exact q.elim
theorem ol_add : OpL X F E (binaryOp .Add) oAdd := by
  intro pins s σ H G Γ x y v u d e Q I k rv ru rx ry q
  cases d with
  | int i =>
    cases e with
    | int j => exact op_add pins s σ H x y v u _ I rv ru ⟨i, j, rx, ry, fin0 k q rfl⟩
    | _ => exact q.elim
  | str i =>
    cases e with
    | str j => exact op_add_str pins s σ H x y v u _ I rv ru ⟨i, j, rx, ry, szl q.1, fin0 k q.2 rfl⟩
    | _ => exact q.elim
  | lst i =>
    cases e with
    | lst j =>
      obtain ⟨a, vs, rfl, sa, ra⟩ := rx
      obtain ⟨b, ws, rfl, sb, rb⟩ := ry
      refine op_cat pins s σ H _ _ v u _ I rv ru ⟨a, b, vs, ws, rfl, rfl, k.sub.m sa, k.sub.m sb, ?_, fun p hp => fin_lst k hp q.2 (ra.append rb)⟩
      rw [ra.len, rb.len]
      exact szl q.1
    | _ => exact q.elim
  | _ => exact q.elim
theorem reps_rep {G : Hp} {ds : List D} {vs : List V} (r : Reps F.toCf G ds vs) : ∀ n : Nat, Reps F.toCf G (List.flatten (List.replicate n ds)) (List.flatten (List.replicate n vs))
  | 0 => rfl
  | n + 1 => by
    rw [List.replicate_succ, List.replicate_succ, List.flatten_cons, List.flatten_cons]
    exact r.append (reps_rep r n)
theorem ol_mul : OpL X F E (binaryOp .Mult) oMul := by
  intro pins s σ H G Γ x y v u d e Q I k rv ru rx ry q
  cases d with
  | int i =>
    cases e with
    | int j => exact op_mulX pins s σ H x y v u _ I rv ru ⟨i, j, rx, ry, q.1, fin0 k q.2 rfl⟩
    | _ => exact q.elim
  | lst i =>
    cases e with
    | int n =>
      obtain ⟨a, vs, rfl, sa, ra⟩ := rx
      obtain ⟨h1, h2, h3, q⟩ := q
      refine op_rep pins s σ H _ _ v u _ I rv ru ⟨a, n, vs, rfl, ry, k.sub.m sa, by omega, by omega, ?_, fun p hp => fin_lst k hp q (reps_rep ra _)⟩
      rw [ra.len]
      exact szl h1
    | _ => exact q.elim
  | _ => exact q.elim
theorem ol_lt : OpL X F E (compareOp .Lt) oLt := OpL.int0 (g := fun i j => .bl (decide (i < j))) (opB0 fun _ _ _ _ _ _ _ h => PyProof.Rows.lt_int h) (fun _ _ _ => rfl) fun d e Γ Q q => by
  cases d <;> cases e <;> first | exact ⟨_, _, rfl, rfl, q⟩ | exact q.elim
theorem ol_gt : OpL X F E (compareOp .Gt) oGt := OpL.int0 (g := fun i j => .bl (decide (j < i))) (opB0 fun _ _ _ _ _ _ _ h => PyProof.Rows.gt_int h) (fun _ _ _ => rfl) fun d e Γ Q q => by
  cases d <;> cases e <;> first | exact ⟨_, _, rfl, rfl, q⟩ | exact q.elim
theorem ol_ge : OpL X F E (compareOp .GtE) oGe := OpL.int0 (g := fun i j => .bl (decide (j ≤ i))) (opB0 fun _ _ _ _ _ _ _ h => PyProof.Rows.ge_int h) (fun _ _ _ => rfl) fun d e Γ Q q => by
  cases d <;> cases e <;> first | exact ⟨_, _, rfl, rfl, q⟩ | exact q.elim
theorem plain_py {d : D} (h : plainD d = true) : isPy d = true ∧ SeqAt.shaped (toPy d) = true := Bool.and_eq_true_iff.mp h
theorem ol_eq {kk : Nat} (hK : F.K = X.K) (hr : Room kk X.A) : OpL X F E (compareOp .Eq) oEq := OpL.of (op_eqD hr.units) fun σ H G Γ x y d e Q k rx ry q => by
  obtain ⟨a, b, q⟩ := q
  exact ⟨toPy d, toPy e, hK ▸ dp_of k.sub (plain_py a).1 rx, hK ▸ dp_of k.sub (plain_py b).1 ry, (plain_py a).2, (plain_py b).2, fin0 k q rfl⟩
theorem ol_ne {kk : Nat} (hK : F.K = X.K) (hr : Room kk X.A) : OpL X F E (compareOp .NotEq) oNe := OpL.of (op_neD hr.units) fun σ H G Γ x y d e Q k rx ry q => by
  obtain ⟨a, b, q⟩ := q
  exact ⟨toPy d, toPy e, hK ▸ dp_of k.sub (plain_py a).1 rx, hK ▸ dp_of k.sub (plain_py b).1 ry, (plain_py a).2, (plain_py b).2, fin0 k q rfl⟩
theorem ul_neg : UnL X F E (unaryOp .USub) oNeg := UnL.of un_neg fun σ H G Γ x d Q k rx q => by
  cases d with
  | int i => exact ⟨i, rx, fin0 k q rfl⟩
  | _ => exact q.elim
theorem isNon_v {G : Hp} {d : D} {v : V} (r : Rep F.toCf G d v) : decide (v = .non) = isNon d := by
  cases d with
  | non => cases (show v = .non from r); rfl
  | bl b => cases (show v = .bl b from r); rfl
  | int b => cases (show v = .int b from r); rfl
  | str b => cases (show v = .str b from r); rfl
  | cls b => cases (show v = .ref _ from r); rfl
  | scr b => obtain ⟨a, rfl, _⟩ := r; rfl
  | rat q => obtain ⟨a, dx, rfl, _⟩ := r; rfl
  | lst q => obtain ⟨a, dx, rfl, _⟩ := r; rfl
  | tup q => obtain ⟨a, dx, rfl, _⟩ := r; rfl
  | dic q => obtain ⟨a, ob, dx, rfl, _⟩ := r; rfl
  | ins c q => obtain ⟨a, dx, _, rfl, _⟩ := r; rfl
  | err c q => obtain ⟨a, rfl, _⟩ := r; rfl
  | fr q => exact r.elim
  | raw q => obtain ⟨a, _, _, _, _, rfl, _⟩ := r; rfl
  | rws q => exact r.elim
variable {a b c : Expr} {pa pb pc : QE} {pos : Pos}
def qIsN (pa : QE) : QE := fun Γ Q E => pa Γ (fun d Γ1 => Q (.bl (isNon d)) Γ1) E
def qNotN (pa : QE) : QE := fun Γ Q E => pa Γ (fun d Γ1 => Q (.bl (!isNon d)) Γ1) E
theorem le_notN {j pos'} (ha : LE X F E a pa) : LE X F E (.Compare a [.IsNot] [.Constant .none j pos'] pos) (qNotN pa) :=
  LE.of (pe_cmp (pc_notN ha.pe)) fun σ H G Γ Q k q => ⟨G, Γ, _, k, q, fun w H' ⟨d, Γ', G', q', i, k', r⟩ => fin_inc i (by rw [isNon_v r]; exact fin0 k' q' rfl)⟩
theorem lt_isN {j pos'} (ha : LE X F E a pa) : LT X F E (.Compare a [.Is] [.Constant .none j pos'] pos) (qTest (qIsN pa)) :=
  LT.of (pt_cmp (pc_isN ha.pe)) fun σ H G Γ Q k q => ⟨G, Γ, _, k, q, fun w H' ⟨d, Γ', G', q', i, k', r⟩ => ⟨_, rfl, by rw [isNon_v r]; exact ⟨Γ', G', q', i, k'⟩⟩⟩
def atD (xs : List D) (i : Int) : Option D := if 0 ≤ i then xs[i.toNat]? else if -(xs.length : Int) ≤ i then xs[(i + (xs.length : Int)).toNat]? else none
def oIx : O2 := fun d e Γ Q _ => match d, e with
  | .lst xs, .int i => ∃ z, atD xs i = some z ∧ Q z Γ
  | .tup xs, .int i => ∃ z, atD xs i = some z ∧ Q z Γ
  | _, _ => False
theorem atD_v {G : Hp} {ds : List D} {vs : List V} {i : Int} {z : D} (r : Reps F.toCf G ds vs) (h : atD ds i = some z) : ∃ v, atI vs i = some v ∧ Rep F.toCf G z v := by
  unfold atD at h
  unfold atI ixN
  rw [r.len]
  by_cases h0 : 0 ≤ i
  · rw [if_pos h0] at h
    obtain ⟨v, e, rv⟩ := r.get h
    have hl : i.toNat < ds.length := (List.getElem?_eq_some_iff.mp h).1
    rw [if_pos h0, if_pos (by omega)]
    exact ⟨v, e, rv⟩
  · rw [if_neg h0] at h
    by_cases h1 : -(ds.length : Int) ≤ i
    · rw [if_pos h1] at h
      obtain ⟨v, e, rv⟩ := r.get h
      rw [if_neg h0, if_pos h1]
      exact ⟨v, e, rv⟩
    · rw [if_neg h1] at h
      cases h
def IxL (X : Cx) (F : Fx) (E : XP) (o : O2) : Prop :=
  ∀ (value slice : Expr) (pins : List (Addr × Obj)) (s : Shared) (σ : St) (H G : Hp) (Γ : Env) (x y : V) (v u : Value) (d e : D) (Q : D → Env → Prop), Inv X pins σ H s → Ok F G H σ Γ → RelV x v → RelV y u → Rep F.toCf G d x → Rep F.toCf G e y → o d e Γ Q E →
    subscripted slice false v u = operate [v, u] (getItem v u) → wpAny (model X.prog X.w) X.A (subscriptTail value slice v u) (EP X pins σ (Fin F G σ Q)) X.xe s
theorem il_ix (hK : F.K = X.K) : IxL X F E oIx := by
  intro value slice pins s σ H G Γ x y v u d e Q I k rv ru rx ry q hs
  cases d with
  | lst xs =>
    cases e with
    | int i =>
      obtain ⟨z, hz, q⟩ := q
      obtain ⟨a, vs, rfl, sa, ra⟩ := rx
      obtain ⟨w, hw, rw'⟩ := atD_v ra hz
      exact ix_list value slice pins s σ H _ _ v u _ I rv ru ⟨a, vs, i, w, rfl, ry, SqL.of (k.sub.m sa), hw, fin0 k q rw'⟩ hs
    | _ => exact q.elim
  | tup xs =>
    cases e with
    | int i =>
      obtain ⟨z, hz, q⟩ := q
      obtain ⟨a, vs, rfl, sa, ra⟩ := rx
      obtain ⟨w, hw, rw'⟩ := atD_v ra hz
      exact ix_tup value slice pins s σ H _ _ v u _ I rv ru ⟨a, vs, i, w, rfl, ry, hK ▸ k.sub.t sa, hw, fin0 k q rw'⟩ hs
    | _ => exact q.elim
  | _ => exact q.elim
theorem le_ix {o : O2} (ho : IxL X F E o) (ha : LE X F E a pa) (hb : LE X F E b pb) (hs : PlainIx b := by exact fun _ _ => rfl) : LE X F E (.Subscript a b pos) (qBin o pa pb) := by
  refine ⟨fun pins s σ H G Γ Q I k h => ?_⟩
  refine Subscript_ (thn (ha.run pins s σ H G Γ _ I k h) fun v s1 ⟨x, H1, I1, r1, d, Γ1, G1, q1, i1, k1, rp1⟩ => ?_)
  refine thn (hb.run pins s1 σ H1 G1 Γ1 _ I1 k1 q1) fun u s2 ⟨y, H2, I2, r2, e, Γ2, G2, q2, i2, k2, rp2⟩ => ?_
  exact thn (ho a b pins s2 σ H2 G2 Γ2 x y v u d e Q I2 k2 r1 r2 (rp1.inc i2) rp2 q2 (hs _ _)) fun w s3 z => ep_inc (i1.trans i2) z
/-- the items of a slot that holds a list that may change, or the script -/
def seqAt (Γ : Env) (j : Nat) : Option (List D) := match Γ[j]? with
  | some (.own (.lst xs)) => some xs
  | some (.bor (.lst xs)) => some xs
  | some (.val (.scr ns)) => some (ns.map D.int)
  | _ => none
def qIxM (j : Nat) (pb : QE) : QE := fun Γ Q E => match seqAt Γ j with
  | some _ => pb Γ (fun e Γ1 => match seqAt Γ1 j, e with
    | some xs, .int i => ∃ z, atD xs i = some z ∧ Q z Γ1
    | _, _ => False) E
  | none => False
theorem reps_ints {G : Hp} : ∀ ns : List Int, Reps F.toCf G (ns.map D.int) (ns.map V.int)
  | [] => rfl
  | n :: ns => ⟨_, _, rfl, rfl, reps_ints ns⟩
theorem seqAt_ok {G H : Hp} {σ : St} {Γ : Env} {j : Nat} {xs : List D} (k : Ok F G H σ Γ) (h : seqAt Γ j = some xs) : ∃ a vs, σ[j]? = some (some (.ref a)) ∧ SqL F.K H a vs ∧ Reps F.toCf G xs vs := by
  unfold seqAt at h
  split at h
  · rename_i ys e
    cases h
    obtain ⟨a, ea, g, ⟨vs, q, r⟩, _⟩ := k.mut e rfl
    exact ⟨a, vs, ea, SqL.of q, r⟩
  · rename_i ys e
    cases h
    obtain ⟨a, ea, g, ⟨vs, q, r⟩, _⟩ := k.mut e rfl
    exact ⟨a, vs, ea, SqL.of q, r⟩
  · rename_i ns e
    cases h
    obtain ⟨v, ea, a, rfl, q⟩ := k.rep e
    exact ⟨a, _, ea, k.sub.l q, reps_ints ns⟩
  · cases h
theorem le_ixM (j : Nat) {x : Str} {px : Pos} (hK : F.K = X.K) (hb : LE X F E b pb) (hs : PlainIx b := by exact fun _ _ => rfl) (hN : X.N[j]? = some x := by rfl) (hv : Vis X.env.scope x := by first | exact Or.inl rfl | exact Or.inr (Or.inl rfl) | exact Or.inr (Or.inr rfl)) (hd : (x == ("__debug__" : Str)) = false := by decide)
    (hcd : (x == ("__classdict__" : Str)) = false := by decide) : LE X F E (.Subscript (.Name x px) b pos) (qIxM j pb) := by
  refine LE.of (pe_ix ix_list (pe_var hN hv hd hcd) hb.pe hs) fun σ H G Γ Q k q => ?_
  unfold qIxM at q
  split at q
  · rename_i xs e
    obtain ⟨a, vs, ea, _, _⟩ := seqAt_ok k e
    refine ⟨.ref a, ea, G, Γ, _, k, q, fun w H' ⟨d, Γ', G', q', i, k', r⟩ => ?_⟩
    dsimp only at q'
    split at q'
    · rename_i ys z e1
      obtain ⟨y, hz, q'⟩ := q'
      obtain ⟨a', vs', ea', sq, rp⟩ := seqAt_ok k' e1
      rw [ea] at ea'
      cases ea'
      obtain ⟨w', hw, rw'⟩ := atD_v rp hz
      exact ⟨a, vs', z, w', rfl, r, hK ▸ sq, hw, fin_inc i (fin0 k' q' rw')⟩
    · exact q'.elim
  · exact q.elim
end
end Q
set_option Elab.async false
set_option linter.all false
set_option maxRecDepth 100000
set_option maxHeartbeats 4000000
namespace Q
open PySem L2 PySem.Spec PyProof.Rows
abbrev Ct := List Slot → (D → List Slot → Prop) → (Exn → List Slot → Prop) → Prop
def ArgOk (F : Cf) (G H : Hp) : Slot → V → Prop
  | .val d, v => Rep F G d v
  | .bor o, v => ∃ a, v = .ref a ∧ G a = none ∧ MRep F G H o a
  | _, _ => False
def ArgsOk (F : Cf) (G H : Hp) : List Slot → List V → Prop
  | [], vs => vs = []
  | s :: ss, vs => ∃ v r, vs = v :: r ∧ ArgOk F G H s v ∧ ArgsOk F G H ss r
def argA : List Slot → List V → List Addr
  | .bor _ :: ss, .ref a :: vs => a :: argA ss vs
  | _ :: ss, _ :: vs => argA ss vs
  | _, _ => []
/-- the same things may change -/
def shape : List Slot → List Slot → Prop
  | [], [] => True
  | .bor _ :: ss, t :: ts => (∃ o, t = .bor o) ∧ shape ss ts
  | s :: ss, t :: ts => t = s ∧ shape ss ts
  | _, _ => False
structure Post (G H : Hp) (B : List Addr) (G' H' : Hp) : Prop where
  sub : Sub G' H'
  inc : Inc G G'
  fresh : ∀ a o, G' a = some o → G a = some o ∨ H a = none
  frame : ∀ a o, H a = some o → a ∉ B → H' a = some o
def spC (F : Cf) (c : Ct) : Sp := fun vs H Q E => ∃ (G : Hp) (args : List Slot), Sub G H ∧ ArgsOk F G H args vs ∧ (argA args vs).Nodup ∧
  ∃ Qc Ec, c args Qc Ec ∧ (∀ d outs v H' G', Qc d outs → Post G H (argA args vs) G' H' → ArgsOk F G' H' outs vs → shape args outs → RepR F H G' H' d v → Q v H') ∧
    (∀ x outs cls dd H' G', Ec x outs → Post G H (argA args vs) G' H' → ArgsOk F G' H' outs vs → shape args outs → XRep F G' H' x cls dd → E cls dd H')
theorem ArgsOk.len {F : Cf} {G H : Hp} : ∀ {as : List Slot} {vs : List V}, ArgsOk F G H as vs → vs.length = as.length
  | [], _, h => by cases (show _ = [] from h); rfl
  | _ :: _, _, h => by
    obtain ⟨v, r, rfl, _, b⟩ := h
    rw [List.length_cons, List.length_cons, b.len]
inductive Hd where
  | val (d : D) | slot (j : Nat)
def Hd.arg (Γ : Env) : Hd → Slot
  | .val d => .val d
  | .slot j => match Γ[j]? with
    | some (.own o) => .bor o
    | some (.bor o) => .bor o
    | _ => .no
def argsOf (Γ : Env) : List Hd → List Slot
  | [] => []
  | h :: hs => h.arg Γ :: argsOf Γ hs
def putM (Γ : Env) (j : Nat) (o : MO) : Env := match Γ[j]? with
  | some (.own _) => Γ.set j (.own o)
  | some (.bor _) => Γ.set j (.bor o)
  | _ => Γ
def updS : Env → List Hd → List Slot → Env
  | Γ, .slot j :: hs, .bor o :: outs => updS (putM Γ j o) hs outs
  | Γ, .val _ :: hs, _ :: outs => updS Γ hs outs
  | Γ, _, _ => Γ
def ixs : List Hd → List Nat
  | [] => []
  | .slot j :: hs => j :: ixs hs
  | .val _ :: hs => ixs hs
def noJ (j : Nat) : List Nat → Bool
  | [] => true
  | i :: is => !(Nat.beq i j) && noJ j is
def ndb : List Nat → Bool
  | [] => true
  | i :: is => noJ i is && ndb is
def HdOk (F : Fx) (G : Hp) (σ : St) : Hd → V → Prop
  | .val d, v => Rep F.toCf G d v
  | .slot j, v => σ[j]? = some (some v)
def HdsOk (F : Fx) (G : Hp) (σ : St) : List Hd → List V → Prop
  | [], vs => vs = []
  | h :: hs, vs => ∃ v r, vs = v :: r ∧ HdOk F G σ h v ∧ HdsOk F G σ hs r
abbrev QH := Env → (List Hd → Env → Prop) → XP → Prop
def FinH (F : Fx) (G : Hp) (σ : St) (Q : List Hd → Env → Prop) : List V → Hp → Prop := fun ws H' => ∃ hs Γ' G', Q hs Γ' ∧ Inc G G' ∧ Ok F G' H' σ Γ' ∧ HdsOk F G' σ hs ws
structure LH (X : Cx) (F : Fx) (E : XP) (es : List Expr) (p : QH) : Prop where
  run : ∀ (pos : Pos) (pins : List (Addr × Obj)) (s : Shared) (σ : St) (H G : Hp) (Γ : Env) (Q : List Hd → Env → Prop), Inv X pins σ H s → Ok F G H σ Γ → p Γ Q E →
    wpAny (model X.prog X.w) X.A (spliced (backTo pos (starEach es X.env))) (AP X pins σ (FinH F G σ Q)) X.xe s
def qhNil : QH := fun Γ Q _ => Q [] Γ
def qhVal (pa : QE) (pr : QH) : QH := fun Γ Q E => pa Γ (fun d Γ1 => pr Γ1 (fun hs Γ2 => Q (.val d :: hs) Γ2) E) E
def qhSlot (j : Nat) (pr : QH) : QH := fun Γ Q E => match Γ[j]? with
  | some (.own _) => pr Γ (fun hs Γ2 => Q (.slot j :: hs) Γ2) E
  | some (.bor _) => pr Γ (fun hs Γ2 => Q (.slot j :: hs) Γ2) E
  | _ => False
section
variable {X : Cx} {F : Fx} {E : XP}
theorem HdOk.inc {G G' : Hp} {σ : St} (i : Inc G G') : ∀ {h : Hd} {v : V}, HdOk F G σ h v → HdOk F G' σ h v
  | .val _, _, r => Rep.inc i r
  | .slot _, _, r => r
variable {a : Expr} {es : List Expr} {pa : QE} {pr : QH} {pos : Pos}
theorem lh_nil : LH X F E [] qhNil := ⟨fun _ _ _ _ H G Γ Q I k h => Calls.spliced_nil ⟨[], H, I, .nil, [], Γ, G, h, Inc.refl G, k, rfl⟩⟩
theorem lh_val (ha : LE X F E a pa) (hr : LH X F E es pr) (hs : starEach (a :: es) X.env = (false, eval a X.env) :: starEach es X.env := by rfl) : LH X F E (a :: es) (qhVal pa pr) := by
  refine ⟨fun pos pins s σ H G Γ Q I k h => ?_⟩
  rw [hs]
  show wpAny _ _ (spliced ((false, eval a X.env) :: backTo pos (starEach es X.env))) _ _ s
  refine Calls.spliced_cons (thn (ha.run pins s σ H G Γ _ I k h) fun u s1 ⟨x, H1, I1, r1, d, Γ1, G1, q1, i1, k1, rp1⟩ => ?_)
  exact thn (hr.run pos pins s1 σ H1 G1 Γ1 _ I1 k1 q1) fun us s2 ⟨xs, H2, I2, r2, ds, Γ2, G2, q2, i2, k2, rp2⟩ => ⟨x :: xs, H2, I2, .cons r1 r2, _, Γ2, G2, q2, i1.trans i2, k2, x, xs, rfl, rp1.inc i2, rp2⟩
theorem mo_slot {G H : Hp} {σ : St} {Γ : Env} {j : Nat} (k : Ok F G H σ Γ) {Z : Prop} (h : match Γ[j]? with | some (.own _) => Z | some (.bor _) => Z | _ => False) : Z ∧ ∃ a, σ[j]? = some (some (.ref a)) := by
  split at h
  · rename_i o e
    obtain ⟨a, ea, _⟩ := k.mut e rfl
    exact ⟨h, a, ea⟩
  · rename_i o e
    obtain ⟨a, ea, _⟩ := k.mut e rfl
    exact ⟨h, a, ea⟩
  · exact h.elim
theorem lh_slot (j : Nat) {x : Str} {px : Pos} (hr : LH X F E es pr) (hN : X.N[j]? = some x := by rfl) (hv : Vis X.env.scope x := by first | exact Or.inl rfl | exact Or.inr (Or.inl rfl) | exact Or.inr (Or.inr rfl)) (hd : (x == ("__debug__" : Str)) = false := by decide)
    (hcd : (x == ("__classdict__" : Str)) = false := by decide) (hs : starEach (.Name x px :: es) X.env = (false, eval (.Name x px) X.env) :: starEach es X.env := by rfl) : LH X F E (.Name x px :: es) (qhSlot j pr) := by
  refine ⟨fun pos pins s σ H G Γ Q I k h => ?_⟩
  obtain ⟨h, b, eb⟩ := mo_slot k h
  rw [hs]
  show wpAny _ _ (spliced ((false, eval (.Name x px) X.env) :: backTo pos (starEach es X.env))) _ _ s
  refine Calls.spliced_cons (thn ((pe_var (X := X) (i := j) hN hv hd hcd).run pins s σ H (fun v H' => v = .ref b ∧ H' = H) I ⟨.ref b, eb, rfl, rfl⟩) fun u s1 ⟨x, H1, I1, r1, e1, e2⟩ => ?_)
  subst e1
  have I1' : Inv X pins σ H s1 := e2 ▸ I1
  exact thn (hr.run pos pins s1 σ H G Γ _ I1' k h) fun us s2 ⟨xs, H2, I2, r2, ds, Γ2, G2, q2, i2, k2, rp2⟩ => ⟨_, H2, I2, .cons r1 r2, _, Γ2, G2, q2, i2, k2, _, xs, rfl, eb, rp2⟩
theorem Slots.mk : ∀ {σ : St} {Γ : Env} {G H : Hp}, σ.length = Γ.length → (∀ (i : Nat) v s, σ[i]? = some v → Γ[i]? = some s → SlotOk F G H v s) → Slots F G H σ Γ
  | [], [], _, _, _, _ => trivial
  | v :: σ, s :: Γ, _, _, h, k => ⟨k 0 v s rfl rfl, Slots.mk (by simpa using h) fun i v s e1 e2 => k (i + 1) v s (by simpa using e1) (by simpa using e2)⟩
  | [], _ :: _, _, _, h, _ => by simp at h
  | _ :: _, [], _, _, h, _ => by simp at h
theorem mutA_cons {v : Option V} {s : Slot} {σ : St} {Γ : Env} : mutA (v :: σ) (s :: Γ) = match v, s with
    | some (.ref a), .own _ => a :: mutA σ Γ
    | some (.ref a), .bor _ => a :: mutA σ Γ
    | _, _ => mutA σ Γ := by
  cases s <;> (try cases v) <;> (try rename_i w; cases w) <;> rfl
theorem mutA_tail {v : Option V} {s : Slot} {σ : St} {Γ : Env} {a : Addr} (h : a ∈ mutA σ Γ) : a ∈ mutA (v :: σ) (s :: Γ) := by
  rw [mutA_cons]
  split
  · exact List.mem_cons_of_mem _ h
  · exact List.mem_cons_of_mem _ h
  · exact h
theorem nd_tail {v : Option V} {s : Slot} {σ : St} {Γ : Env} (h : (mutA (v :: σ) (s :: Γ)).Nodup) : (mutA σ Γ).Nodup := by
  rw [mutA_cons] at h
  split at h
  · exact (List.nodup_cons.mp h).2
  · exact (List.nodup_cons.mp h).2
  · exact h
theorem mutA_inj : ∀ {σ : St} {Γ : Env} {i j : Nat} {a : Addr} {s t : Slot}, (mutA σ Γ).Nodup → σ[i]? = some (some (.ref a)) → σ[j]? = some (some (.ref a)) → Γ[i]? = some s → Γ[j]? = some t → s.mo.isSome = true → t.mo.isSome = true → i = j
  | [], _, _, _, _, _, _, _, e, _, _, _, _, _ => by simp at e
  | _ :: _, [], _, _, _, _, _, _, _, _, e, _, _, _ => by simp at e
  | v :: σ, u :: Γ, 0, 0, _, _, _, _, _, _, _, _, _, _ => rfl
  | v :: σ, u :: Γ, 0, j + 1, a, s, t, nd, e1, e2, f1, f2, z1, z2 => by
    exfalso
    have m := mem_mutA (σ := σ) (Γ := Γ) (i := j) (a := a) (s := t) (by simpa using e2) (by simpa using f2) z2
    simp at e1 f1
    subst e1; subst f1
    rw [mutA_cons] at nd
    cases u with
    | own o => exact (List.nodup_cons.mp nd).1 m
    | bor o => exact (List.nodup_cons.mp nd).1 m
    | no => cases z1
    | val d => cases z1
    | exc c fs => cases z1
  | v :: σ, u :: Γ, i + 1, 0, a, s, t, nd, e1, e2, f1, f2, z1, z2 => by
    exfalso
    have m := mem_mutA (σ := σ) (Γ := Γ) (i := i) (a := a) (s := s) (by simpa using e1) (by simpa using f1) z1
    simp at e2 f2
    subst e2; subst f2
    rw [mutA_cons] at nd
    cases u with
    | own o => exact (List.nodup_cons.mp nd).1 m
    | bor o => exact (List.nodup_cons.mp nd).1 m
    | no => cases z2
    | val d => cases z2
    | exc c fs => cases z2
  | v :: σ, u :: Γ, i + 1, j + 1, a, s, t, nd, e1, e2, f1, f2, z1, z2 => by
    rw [mutA_inj (i := i) (j := j) (nd_tail nd) (by simpa using e1) (by simpa using e2) (by simpa using f1) (by simpa using f2) z1 z2]
/-- the same kinds of slots -/
def kin : Slot → Slot → Prop
  | .own _, .own _ => True
  | .bor _, .bor _ => True
  | s, t => s = t
theorem kin_refl (s : Slot) : kin s s := by cases s <;> simp [kin]
theorem mutA_kin : ∀ {σ : St} {Γ Γ' : Env}, Γ'.length = Γ.length → (∀ (i : Nat) s t, Γ[i]? = some s → Γ'[i]? = some t → kin s t) → mutA σ Γ' = mutA σ Γ
  | [], _, _, _, _ => by simp [mutA]
  | _ :: _, [], [], _, _ => rfl
  | v :: σ, s :: Γ, t :: Γ', h, k => by
    have ih := mutA_kin (σ := σ) (Γ := Γ) (Γ' := Γ') (by simpa using h) fun i s t e1 e2 => k (i + 1) s t (by simpa using e1) (by simpa using e2)
    have q := k 0 s t rfl rfl
    rw [mutA_cons, mutA_cons, ih]
    cases s <;> cases t <;> first | rfl | (simp [kin] at q; done) | (cases v <;> first | rfl | (rename_i w; cases w <;> rfl))
  | _ :: _, [], _ :: _, h, _ => by simp at h
  | _ :: _, _ :: _, [], h, _ => by simp at h
theorem putM_len {Γ : Env} {j : Nat} {o : MO} : (putM Γ j o).length = Γ.length := by
  unfold putM
  split <;> simp
theorem putM_get {Γ : Env} {j : Nat} {o : MO} {i : Nat} (h : i ≠ j) : (putM Γ j o)[i]? = Γ[i]? := by
  unfold putM
  split
  · exact List.getElem?_set_ne (Ne.symm h)
  · exact List.getElem?_set_ne (Ne.symm h)
  · rfl
theorem putM_kin {Γ : Env} {j : Nat} {o : MO} {i : Nat} {s t : Slot} (h1 : Γ[i]? = some s) (h2 : (putM Γ j o)[i]? = some t) : kin s t := by
  by_cases h : i = j
  · subst h
    have hl : i < Γ.length := (List.getElem?_eq_some_iff.mp h1).1
    unfold putM at h2
    rw [h1] at h2
    cases s with
    | own o' =>
      dsimp only at h2
      rw [List.getElem?_set_self hl] at h2
      cases h2
      trivial
    | bor o' =>
      dsimp only at h2
      rw [List.getElem?_set_self hl] at h2
      cases h2
      trivial
    | _ =>
      dsimp only at h2
      rw [h1] at h2
      cases h2
      exact kin_refl _
  · rw [putM_get h, h1] at h2
    cases h2
    exact kin_refl _
theorem kin_trans {s t u : Slot} (a : kin s t) (b : kin t u) : kin s u := by
  cases s <;> cases t <;> first | (simp [kin] at a; done) | (cases u <;> first | (simp [kin] at b; done) | (simp [kin] at a b ⊢; done) | (simp [kin] at a b ⊢; simp_all))
theorem updS_len : ∀ {hs : List Hd} {Γ : Env} {outs : List Slot}, (updS Γ hs outs).length = Γ.length
  | [], Γ, outs => by cases outs <;> rfl
  | .slot j :: hs, Γ, .bor o :: outs => by
    show (updS (putM Γ j o) hs outs).length = _
    rw [updS_len, putM_len]
  | .val _ :: hs, Γ, _ :: outs => by
    show (updS Γ hs outs).length = _
    rw [updS_len]
  | .slot _ :: _, _, [] => rfl
  | .val _ :: _, _, [] => rfl
  | .slot _ :: _, _, .no :: _ => rfl
  | .slot _ :: _, _, .val _ :: _ => rfl
  | .slot _ :: _, _, .own _ :: _ => rfl
  | .slot _ :: _, _, .exc _ _ :: _ => rfl
theorem arg_slot (Γ : Env) (j : Nat) : Hd.arg Γ (.slot j) = match Γ[j]? with
    | some (.own o) => Slot.bor o
    | some (.bor o) => Slot.bor o
    | _ => Slot.no := rfl
theorem upd_same_kin {Γ : Env} {i : Nat} {s t : Slot} (h1 : Γ[i]? = some s) (h2 : Γ[i]? = some t) : kin s t := by
  rw [h1] at h2
  cases h2
  exact kin_refl _
theorem updS_kin : ∀ {hs : List Hd} {Γ : Env} {outs : List Slot} {i : Nat} {s t : Slot}, Γ[i]? = some s → (updS Γ hs outs)[i]? = some t → kin s t
  | [], Γ, outs, i, s, t, h1, h2 => by
    have e : updS Γ [] outs = Γ := by cases outs <;> rfl
    rw [e, h1] at h2
    cases h2
    exact kin_refl _
  | .slot j :: hs, Γ, .bor o :: outs, i, s, t, h1, h2 => by
    have hl : i < (putM Γ j o).length := by rw [putM_len]; exact (List.getElem?_eq_some_iff.mp h1).1
    exact kin_trans (putM_kin h1 (List.getElem?_eq_getElem hl)) (updS_kin (hs := hs) (outs := outs) (List.getElem?_eq_getElem hl) h2)
  | .val _ :: hs, Γ, _ :: outs, i, s, t, h1, h2 => updS_kin (hs := hs) (outs := outs) h1 h2
  | .slot _ :: _, _, [], i, s, t, h1, h2 => upd_same_kin h1 h2
  | .val _ :: _, _, [], i, s, t, h1, h2 => upd_same_kin h1 h2
  | .slot _ :: _, _, .no :: _, i, s, t, h1, h2 => upd_same_kin h1 h2
  | .slot _ :: _, _, .val _ :: _, i, s, t, h1, h2 => upd_same_kin h1 h2
  | .slot _ :: _, _, .own _ :: _, i, s, t, h1, h2 => upd_same_kin h1 h2
  | .slot _ :: _, _, .exc _ _ :: _, i, s, t, h1, h2 => upd_same_kin h1 h2
theorem noJ_mem : ∀ {l : List Nat} {j : Nat}, noJ j l = true → j ∉ l
  | [], _, _ => by simp
  | i :: l, j, h => by
    have h' := Bool.and_eq_true_iff.mp (show (!(Nat.beq i j) && noJ j l) = true from h)
    intro m
    rcases List.mem_cons.mp m with e | e
    · subst e
      have z := h'.1
      simp [Nat.beq_refl] at z
    · exact noJ_mem h'.2 e
theorem updS_other : ∀ {hs : List Hd} {Γ : Env} {outs : List Slot} {i : Nat}, i ∉ ixs hs → (updS Γ hs outs)[i]? = Γ[i]?
  | [], Γ, outs, i, _ => by cases outs <;> rfl
  | .slot j :: hs, Γ, .bor o :: outs, i, h => by
    have h1 : i ≠ j := fun e => h (by rw [e]; exact List.mem_cons_self)
    have h2 : i ∉ ixs hs := fun m => h (List.mem_cons_of_mem _ m)
    show (updS (putM Γ j o) hs outs)[i]? = _
    rw [updS_other h2, putM_get h1]
  | .val _ :: hs, Γ, _ :: outs, i, h => updS_other (hs := hs) (outs := outs) h
  | .slot _ :: _, _, [], _, _ => rfl
  | .val _ :: _, _, [], _, _ => rfl
  | .slot _ :: _, _, .no :: _, _, _ => rfl
  | .slot _ :: _, _, .val _ :: _, _, _ => rfl
  | .slot _ :: _, _, .own _ :: _, _, _ => rfl
  | .slot _ :: _, _, .exc _ _ :: _, _, _ => rfl
/-- the slot handed in at place k holds behind the call what the call says -/
theorem updS_at : ∀ {hs : List Hd} {Γ : Env} {outs : List Slot} {vs : List V} {σ : St} {G H : Hp} {i : Nat} {s : Slot}, ndb (ixs hs) = true → HdsOk F G σ hs vs → ArgsOk F.toCf G H outs vs → shape (argsOf Γ hs) outs → i ∈ ixs hs → Γ[i]? = some s → s.mo.isSome = true →
    ∃ a o, σ[i]? = some (some (.ref a)) ∧ G a = none ∧ MRep F.toCf G H o a ∧ (updS Γ hs outs)[i]? = some (match s with | .own _ => .own o | _ => .bor o)
  | [], _, _, _, _, _, _, _, _, _, _, _, _, m, _, _ => by simp [ixs] at m
  | .val d :: hs, Γ, outs, vs, σ, G, H, i, s, nd, hh, ha, sh, m, hs1, z => by
    obtain ⟨v, r, rfl, h1, h2⟩ := hh
    cases outs with
    | nil => exact sh.elim
    | cons t outs =>
      obtain ⟨v', r', e, a1, a2⟩ := ha
      cases e
      exact updS_at (hs := hs) (outs := outs) nd h2 a2 sh.2 m hs1 z
  | .slot j :: hs, Γ, outs, vs, σ, G, H, i, s, nd, hh, ha, sh, m, hs1, z => by
    obtain ⟨v, r, rfl, h1, h2⟩ := hh
    have nd' := Bool.and_eq_true_iff.mp (show (noJ j (ixs hs) && ndb (ixs hs)) = true from nd)
    cases outs with
    | nil =>
      exfalso
      revert sh
      show shape (Hd.arg Γ (.slot j) :: argsOf Γ hs) [] → False
      cases Hd.arg Γ (.slot j) <;> exact fun q => q
    | cons t outs =>
      obtain ⟨v', r', e, a1, a2⟩ := ha
      cases e
      by_cases hij : i = j
      · subst hij
        have ea : Hd.arg Γ (.slot i) = .bor (s.mo.get z) := by
          show (match Γ[i]? with | some (.own o) => Slot.bor o | some (.bor o) => Slot.bor o | _ => Slot.no) = _
          rw [hs1]
          cases s with
          | own o => rfl
          | bor o => rfl
          | no => cases z
          | val d => cases z
          | exc c fs => cases z
        have sh' : shape (.bor (s.mo.get z) :: argsOf Γ hs) (t :: outs) := by rw [← ea]; exact sh
        obtain ⟨⟨o, rfl⟩, _⟩ := sh'
        obtain ⟨a, ev, g, mr⟩ := a1
        subst ev
        refine ⟨a, o, h1, g, mr, ?_⟩
        show (updS (putM Γ i o) hs outs)[i]? = _
        rw [updS_other (noJ_mem nd'.1)]
        have hl : i < Γ.length := (List.getElem?_eq_some_iff.mp hs1).1
        unfold putM
        rw [hs1]
        cases s with
        | own o' => exact List.getElem?_set_self hl
        | bor o' => exact List.getElem?_set_self hl
        | no => cases z
        | val d => cases z
        | exc c fs => cases z
      · have m' : i ∈ ixs hs := by
          rcases List.mem_cons.mp (show i ∈ j :: ixs hs from m) with e | e
          · exact absurd e hij
          · exact e
        cases t with
        | bor o =>
          have sh2 : shape (argsOf (putM Γ j o) hs) outs := by
            have q : shape (Hd.arg Γ (.slot j) :: argsOf Γ hs) (.bor o :: outs) := sh
            have q2 : shape (argsOf Γ hs) outs := by
              revert q
              cases Hd.arg Γ (.slot j) <;> exact fun q => q.2
            have same : ∀ l : List Hd, j ∉ ixs l → argsOf (putM Γ j o) l = argsOf Γ l := by
              intro l
              induction l with
              | nil => intro _; rfl
              | cons h l ih =>
                intro hn
                cases h with
                | val d => show Slot.val d :: argsOf _ l = Slot.val d :: argsOf Γ l; rw [ih hn]
                | slot j2 =>
                  have n1 : j2 ≠ j := fun e => hn (by rw [← e]; exact List.mem_cons_self)
                  have n2 : j ∉ ixs l := fun mm => hn (List.mem_cons_of_mem _ mm)
                  show Hd.arg (putM Γ j o) (.slot j2) :: argsOf _ l = Hd.arg Γ (.slot j2) :: argsOf Γ l
                  rw [ih n2]
                  rw [arg_slot, arg_slot, putM_get n1]
            rw [same hs (noJ_mem nd'.1)]
            exact q2
          exact updS_at (hs := hs) (Γ := putM Γ j o) (outs := outs) nd'.2 h2 a2 sh2 m' (by rw [putM_get hij]; exact hs1) z
        | no => exact a1.elim
        | own o => exact a1.elim
        | exc c fs => exact a1.elim
        | val d =>
          exfalso
          have q : shape (Hd.arg Γ (.slot j) :: argsOf Γ hs) (.val d :: outs) := sh
          revert q
          rw [arg_slot]
          split
          · intro q; obtain ⟨⟨o, e⟩, _⟩ := q; cases e
          · intro q; obtain ⟨⟨o, e⟩, _⟩ := q; cases e
          · intro q
            have e : Slot.val d = Slot.no := q.1
            cases e
theorem args_ok : ∀ {hs : List Hd} {Γ : Env} {vs : List V} {σ : St} {G H : Hp}, Ok F G H σ Γ → HdsOk F G σ hs vs → (∀ j ∈ ixs hs, ∃ s, Γ[j]? = some s ∧ s.mo.isSome = true) → ArgsOk F.toCf G H (argsOf Γ hs) vs
  | [], _, _, _, _, _, _, h, _ => h
  | .val d :: hs, Γ, _, σ, G, H, k, h, m => by
    obtain ⟨v, r, rfl, h1, h2⟩ := h
    exact ⟨v, r, rfl, h1, args_ok k h2 m⟩
  | .slot j :: hs, Γ, _, σ, G, H, k, h, m => by
    obtain ⟨v, r, rfl, h1, h2⟩ := h
    refine ⟨v, r, rfl, ?_, args_ok k h2 fun i hi => m i (List.mem_cons_of_mem _ hi)⟩
    obtain ⟨s, e, z⟩ := m j List.mem_cons_self
    show ArgOk F.toCf G H (match Γ[j]? with | some (.own o) => Slot.bor o | some (.bor o) => Slot.bor o | _ => Slot.no) v
    rw [e]
    cases s with
    | own o =>
      obtain ⟨a, ea, g, mr, _⟩ := k.mut e rfl
      rw [h1] at ea
      cases ea
      exact ⟨a, rfl, g, mr⟩
    | bor o =>
      obtain ⟨a, ea, g, mr, _⟩ := k.mut e rfl
      rw [h1] at ea
      cases ea
      exact ⟨a, rfl, g, mr⟩
    | no => cases z
    | val d => cases z
    | exc c fs => cases z
/-- the addresses handed in -/
theorem argA_mem : ∀ {hs : List Hd} {Γ : Env} {vs : List V} {σ : St} {G H : Hp} {b : Addr}, Ok F G H σ Γ → HdsOk F G σ hs vs → b ∈ argA (argsOf Γ hs) vs → ∃ j s, j ∈ ixs hs ∧ σ[j]? = some (some (.ref b)) ∧ Γ[j]? = some s ∧ s.mo.isSome = true
  | [], _, vs, _, _, _, _, _, _, m => by cases vs <;> simp [argsOf, argA] at m
  | .val d :: hs, Γ, _, σ, G, H, b, k, h, m => by
    obtain ⟨v, r, rfl, h1, h2⟩ := h
    have m' : b ∈ argA (argsOf Γ hs) r := by
      have q : argA (Slot.val d :: argsOf Γ hs) (v :: r) = argA (argsOf Γ hs) r := by cases v <;> rfl
      rw [← q]; exact m
    obtain ⟨j, s, q⟩ := argA_mem k h2 m'
    exact ⟨j, s, q⟩
  | .slot j :: hs, Γ, _, σ, G, H, b, k, h, m => by
    obtain ⟨v, r, rfl, h1, h2⟩ := h
    have key : ∀ {P : Prop}, (b ∈ argA (argsOf Γ hs) r → P) → ((∃ s, v = .ref b ∧ Γ[j]? = some s ∧ s.mo.isSome = true) → P) → P := by
      intro P f1 f2
      have m0 : b ∈ argA (Hd.arg Γ (.slot j) :: argsOf Γ hs) (v :: r) := m
      have gen : ∀ t : Slot, (∀ o, t = .bor o → ∃ s, Γ[j]? = some s ∧ s.mo.isSome = true) → b ∈ argA (t :: argsOf Γ hs) (v :: r) → P := by
        intro t ht mm
        cases t with
        | bor o =>
          cases v with
          | ref a =>
            rcases List.mem_cons.mp (show b ∈ a :: argA (argsOf Γ hs) r from mm) with e | e
            · subst e
              obtain ⟨s, q1, q2⟩ := ht o rfl
              exact f2 ⟨s, rfl, q1, q2⟩
            · exact f1 e
          | _ => exact f1 mm
        | _ => exact f1 (by cases v <;> exact mm)
      refine gen _ (fun o e => ?_) m0
      rw [arg_slot] at e
      split at e
      · rename_i o' q; exact ⟨_, q, rfl⟩
      · rename_i o' q; exact ⟨_, q, rfl⟩
      · cases e
    refine key (fun m' => ?_) (fun ⟨s, ev, q1, q2⟩ => ?_)
    · obtain ⟨j', s, a, q⟩ := argA_mem k h2 m'
      exact ⟨j', s, List.mem_cons_of_mem _ a, q⟩
    · subst ev
      exact ⟨j, s, List.mem_cons_self, h1, q1, q2⟩
theorem argA_nd : ∀ {hs : List Hd} {Γ : Env} {vs : List V} {σ : St} {G H : Hp}, Ok F G H σ Γ → HdsOk F G σ hs vs → ndb (ixs hs) = true → (argA (argsOf Γ hs) vs).Nodup
  | [], _, vs, _, _, _, _, _, _ => by cases vs <;> simp [argsOf, argA]
  | .val d :: hs, Γ, _, σ, G, H, k, h, nd => by
    obtain ⟨v, r, rfl, h1, h2⟩ := h
    have q : argA (Slot.val d :: argsOf Γ hs) (v :: r) = argA (argsOf Γ hs) r := by cases v <;> rfl
    show (argA (Slot.val d :: argsOf Γ hs) (v :: r)).Nodup
    rw [q]
    exact argA_nd k h2 nd
  | .slot j :: hs, Γ, _, σ, G, H, k, h, nd => by
    obtain ⟨v, r, rfl, h1, h2⟩ := h
    have nd' := Bool.and_eq_true_iff.mp (show (noJ j (ixs hs) && ndb (ixs hs)) = true from nd)
    have ih := argA_nd k h2 nd'.2
    show (argA (Hd.arg Γ (.slot j) :: argsOf Γ hs) (v :: r)).Nodup
    have gen : ∀ t : Slot, (∀ o, t = .bor o → ∃ s, Γ[j]? = some s ∧ s.mo.isSome = true) → (argA (t :: argsOf Γ hs) (v :: r)).Nodup := by
      intro t ht
      cases t with
      | bor o =>
        cases v with
        | ref a =>
          refine List.nodup_cons.mpr ⟨fun m => ?_, ih⟩
          obtain ⟨j2, s2, m2, e2, g2, z2⟩ := argA_mem k h2 m
          obtain ⟨s, q1, q2⟩ := ht o rfl
          have e : j = j2 := mutA_inj k.nd h1 e2 q1 g2 q2 z2
          exact noJ_mem nd'.1 (e ▸ m2)
        | _ => exact ih
      | _ => cases v <;> exact ih
    refine gen _ fun o e => ?_
    rw [arg_slot] at e
    split at e
    · rename_i o' q; exact ⟨_, q, rfl⟩
    · rename_i o' q; exact ⟨_, q, rfl⟩
    · cases e
theorem HdsOk.inc {G G' : Hp} {σ : St} (i : Inc G G') : ∀ {hs : List Hd} {vs : List V}, HdsOk F G σ hs vs → HdsOk F G' σ hs vs
  | [], _, h => h
  | _ :: _, _, h => let ⟨v, r, e, a, b⟩ := h; ⟨v, r, e, a.inc i, b.inc i⟩
theorem Ok.called {hs : List Hd} {Γ : Env} {vs : List V} {σ : St} {G H G' H' : Hp} {outs : List Slot} (k : Ok F G H σ Γ) (hh : HdsOk F G σ hs vs) (hm : ∀ j ∈ ixs hs, ∃ s, Γ[j]? = some s ∧ s.mo.isSome = true) (nd : ndb (ixs hs) = true)
    (p : Post G H (argA (argsOf Γ hs) vs) G' H') (ha : ArgsOk F.toCf G' H' outs vs) (sh : shape (argsOf Γ hs) outs) : Ok F G' H' σ (updS Γ hs outs) := by
  have hh' : HdsOk F G' σ hs vs := hh.inc p.inc
  have inB : ∀ b, b ∈ argA (argsOf Γ hs) vs → F.H0 b = none ∨ b ∈ F.B := fun b hb => by
    obtain ⟨j, s, _, e, g, z⟩ := argA_mem k hh hb
    obtain ⟨o, ho⟩ := Option.isSome_iff_exists.mp z
    obtain ⟨a, ea, _, _, r⟩ := k.mut g ho
    rw [e] at ea
    cases ea
    exact r
  have live : ∀ b, (∃ o, H b = some o) → ∃ o, H' b = some o := fun b ⟨o, e⟩ => by
    by_cases hb : b ∈ argA (argsOf Γ hs) vs
    · obtain ⟨j, s, m, e1, g, z⟩ := argA_mem k hh hb
      obtain ⟨a, o', ea, _, mr, _⟩ := updS_at nd hh' ha sh m g z
      rw [e1] at ea
      cases ea
      exact mr.ex
    · exact ⟨o, p.frame b o e hb⟩
  refine ⟨p.sub, k.g0.trans p.inc, fun a o e => ?_, fun a o e hb => ?_, fun a hb => live a (k.bor a hb), ?_, ?_, fun i a e => ?_, by rw [updS_len]; exact k.pl⟩
  · rcases p.fresh a o e with q | q
    · exact k.fresh a o q
    · exact .inr (k.h0 q)
  · have e1 := k.frame a o e hb
    refine p.frame a o e1 fun m => ?_
    rcases inB a m with q | q
    · rw [e] at q; cases q
    · exact hb q
  · refine Slots.mk (by rw [updS_len]; exact k.slots.len) fun i v s e1 e2 => ?_
    have hl : i < Γ.length := by rw [← updS_len (hs := hs) (outs := outs)]; exact (List.getElem?_eq_some_iff.mp e2).1
    have g1 : Γ[i]? = some Γ[i] := List.getElem?_eq_getElem hl
    obtain ⟨v', ev, ok⟩ := k.slots.get g1
    rw [e1] at ev
    cases ev
    by_cases m : i ∈ ixs hs
    · obtain ⟨s0, g0, z⟩ := hm i m
      obtain ⟨a, o', ea, g, mr, eu⟩ := updS_at nd hh' ha sh m g0 z
      rw [e2] at eu
      rw [e1] at ea
      cases ea
      rw [g0] at g1
      have g1' := Option.some.inj g1
      rw [← g1'] at ok
      cases s0 with
      | own o =>
        cases eu
        obtain ⟨b, eb, _, _, z0⟩ := ok
        cases eb
        exact ⟨a, rfl, g, mr, z0⟩
      | bor o =>
        cases eu
        obtain ⟨b, eb, _, _, z0⟩ := ok
        cases eb
        exact ⟨a, rfl, g, mr, z0⟩
      | no => cases z
      | val d => cases z
      | exc c fs => cases z
    · rw [updS_other m, g1] at e2
      cases e2
      refine SlotOk.step p.inc (fun a ea z => ?_) (fun dd ws _ q => ?_) ok
      · obtain ⟨o, ho⟩ := Option.isSome_iff_exists.mp z
        subst ea
        obtain ⟨b, eb, g, mr, _⟩ := k.mut g1 ho
        rw [e1] at eb
        cases eb
        obtain ⟨u, hu⟩ := mr.ex
        have nB : a ∉ argA (argsOf Γ hs) vs := fun mb => by
          obtain ⟨j, s2, mj, ej, gj, zj⟩ := argA_mem k hh mb
          exact m ((mutA_inj k.nd e1 ej g1 gj z zj) ▸ mj)
        refine ⟨(p.frame a u hu nB).trans hu.symm, ?_⟩
        cases q : G' a with
        | none => rfl
        | some w =>
          rcases p.fresh a w q with r | r
          · rw [g] at r; cases r
          · rw [hu] at r; cases r
      · refine p.frame dd _ q fun mb => ?_
        obtain ⟨j, s2, mj, ej, gj, zj⟩ := argA_mem k hh mb
        obtain ⟨o, ho⟩ := Option.isSome_iff_exists.mp zj
        obtain ⟨b, eb, _, mr, _⟩ := k.mut gj ho
        rw [ej] at eb
        cases eb
        cases o with
        | lst xs => obtain ⟨vs, e, _⟩ := mr; rw [q] at e; cases e
        | dic lk xs => obtain ⟨vs, e, _⟩ := mr; rw [q] at e; cases lk <;> cases e
        | ins c xs => obtain ⟨dx, vs, e, _⟩ := mr; rw [q] at e; cases e
  · rw [mutA_kin updS_len fun i s t e1 e2 => updS_kin e1 e2]
    exact k.nd
  · obtain ⟨e1, o, e2⟩ := k.pin i a e
    refine ⟨e1, ?_⟩
    have hl : i < (updS Γ hs outs).length := by rw [updS_len]; exact (List.getElem?_eq_some_iff.mp e2).1
    have q := updS_kin (hs := hs) (outs := outs) e2 (List.getElem?_eq_getElem hl)
    rw [List.getElem?_eq_getElem hl]
    cases hq : (updS Γ hs outs)[i] with
    | bor o' => exact ⟨o', rfl⟩
    | _ => rw [hq] at q; simp [kin] at q
/-- the handles name slots that may change -/
def hmut (Γ : Env) : List Hd → Bool
  | [] => true
  | .val _ :: hs => hmut Γ hs
  | .slot j :: hs => (match Γ[j]? with
    | some (.own _) => true
    | some (.bor _) => true
    | _ => false) && hmut Γ hs
theorem hmut_ok {Γ : Env} : ∀ {hs : List Hd}, hmut Γ hs = true → ∀ j ∈ ixs hs, ∃ s, Γ[j]? = some s ∧ s.mo.isSome = true
  | [], _, j, m => by simp [ixs] at m
  | .val _ :: hs, h, j, m => hmut_ok (hs := hs) h j m
  | .slot i :: hs, h, j, m => by
    have h' := Bool.and_eq_true_iff.mp h
    rcases List.mem_cons.mp (show j ∈ i :: ixs hs from m) with e | e
    · subst e
      have z := h'.1
      split at z
      · rename_i o q; exact ⟨_, q, rfl⟩
      · rename_i o q; exact ⟨_, q, rfl⟩
      · cases z
    · exact hmut_ok h'.2 j e
/-- rows that nobody knows, told -/
theorem Ok.tellRows {F : Fx} {G H : Hp} {σ : St} {Γ : Env} : ∀ {as : List Addr} {xss : List (List D)}, Ok F G H σ Γ → as.Nodup → (∀ b ∈ as, G b = none ∧ F.H0 b = none ∧ b ∉ mutA σ Γ) → RwsA F.toCf G H as xss →
    ∃ G', Inc G G' ∧ Ok F G' H σ Γ ∧ Reps F.toCf G' (xss.map D.lst) (as.map V.ref) ∧ ∀ b, b ∉ as → G' b = G b
  | [], xss, k, _, _, r => by
    cases (show xss = [] from r)
    exact ⟨G, Inc.refl G, k, rfl, fun _ _ => rfl⟩
  | a :: as, xss, k, nd, hf, r => by
    obtain ⟨xs, r', rfl, ⟨ws, hw, rw'⟩, r2⟩ := r
    obtain ⟨na, nd2⟩ := List.nodup_cons.mp nd
    obtain ⟨G1, i1, k1, rp, out⟩ := Ok.tellRows k nd2 (fun b hb => hf b (List.mem_cons_of_mem _ hb)) r2
    obtain ⟨g, h0, nm⟩ := hf a List.mem_cons_self
    have g1 : G1 a = none := (out a na).trans g
    have i2 := Inc.new (o := HO.lst ws) g1
    refine ⟨upd G1 a (.lst ws), i1.trans i2, k1.tell hw g1 h0 nm, ⟨.ref a, _, rfl, ⟨a, ws, rfl, upd_same, rw'.inc (i1.trans i2)⟩, rp.inc i2⟩, fun b hb => ?_⟩
    rw [upd_ne (fun e => hb (by rw [e]; exact List.mem_cons_self))]
    exact out b fun m => hb (List.mem_cons_of_mem _ m)
/-- .. and its result, told -/
theorem Ok.called_fin {hs : List Hd} {Γ : Env} {vs : List V} {σ : St} {G H G' H' : Hp} {outs : List Slot} {d : D} {v : V} {Q : D → Env → Prop} (k : Ok F G H σ Γ) (hh : HdsOk F G σ hs vs) (hm : ∀ j ∈ ixs hs, ∃ s, Γ[j]? = some s ∧ s.mo.isSome = true) (nd : ndb (ixs hs) = true)
    (p : Post G H (argA (argsOf Γ hs) vs) G' H') (ha : ArgsOk F.toCf G' H' outs vs) (sh : shape (argsOf Γ hs) outs) (r : RepR F.toCf H G' H' d v) (q : Q (unfr d) (updS Γ hs outs)) : FinL F G σ Q v H' := by
  have k' := k.called hh hm nd p ha sh
  cases d with
  | fr d =>
    obtain ⟨o, a, hd, rfl, ga, m, h0⟩ := r
    have nm : a ∉ mutA σ (updS Γ hs outs) := fun mm => by
      rw [mutA_kin updS_len fun i s t e1 e2 => updS_kin e1 e2] at mm
      obtain ⟨⟨o2, e2⟩, _⟩ := mutA_there k.slots a mm
      rw [h0] at e2
      cases e2
    by_cases hn : ∀ kvs, d ≠ .dic kvs
    · obtain ⟨u, hu, ru⟩ := mrep_tell hd hn ga m
      exact .inl ⟨d, _, upd G' a u, q, p.inc.trans (Inc.new ga), k'.tell hu ga (k.h0 h0) nm, ru⟩
    · obtain ⟨kvs, rfl⟩ : ∃ kvs, d = .dic kvs := Classical.byContradiction fun z => hn fun kvs e => z ⟨kvs, e⟩
      cases hd
      obtain ⟨ws, hu, ru⟩ := mrep_tellD ga m
      refine .inr ⟨a, ws, hu, fun ob => ⟨_, _, upd G' a (.frz ob (.dK ws)), q, p.inc.trans (Inc.new ga), Ok.tell (k'.offB ga (k.h0 h0) nm (fun ws z => by rw [hu] at z; cases z) _) upd_same ga (k.h0 h0) nm, ru ob⟩⟩
  | rws ds =>
    obtain ⟨a, as, xss, rfl, rfl, nd1, hf, ha', rr⟩ := r
    have nm : ∀ b ∈ a :: as, b ∉ mutA σ (updS Γ hs outs) := fun b hb mm => by
      rw [mutA_kin updS_len fun i s t e1 e2 => updS_kin e1 e2] at mm
      obtain ⟨⟨o2, e2⟩, _⟩ := mutA_there k.slots b mm
      rw [(hf b hb).2] at e2
      cases e2
    obtain ⟨na, nd2⟩ := List.nodup_cons.mp nd1
    obtain ⟨G1, i1, k1, rp, out⟩ := Ok.tellRows k' nd2 (fun b hb => ⟨(hf b (List.mem_cons_of_mem _ hb)).1, k.h0 (hf b (List.mem_cons_of_mem _ hb)).2, nm b (List.mem_cons_of_mem _ hb)⟩) rr
    obtain ⟨g, h0⟩ := hf a List.mem_cons_self
    have g1 : G1 a = none := (out a na).trans g
    have i2 := Inc.new (o := HO.lst (as.map V.ref)) g1
    exact .inl ⟨_, _, _, q, (p.inc.trans i1).trans i2, k1.tell ha' g1 (k.h0 h0) (nm a List.mem_cons_self), ⟨a, _, rfl, upd_same, rp.inc i2⟩⟩
  | _ => exact .inl ⟨_, _, G', q, p.inc, k', r⟩
def qCall (c : Ct) (p : QH) : QE := fun Γ Q E => p Γ (fun hs Γ1 => match ndb (ixs hs) && hmut Γ1 hs with
  | true => c (argsOf Γ1 hs) (fun d outs => Q (unfr d) (updS Γ1 hs outs)) (fun x outs => E x (updS Γ1 hs outs))
  | false => False) E
/-- what the contract says at the caller -/
theorem sp_call {c : Ct} {hs : List Hd} {Γ : Env} {vs : List V} {σ : St} {G H : Hp} {Q : D → Env → Prop} (k : Ok F G H σ Γ) (hh : HdsOk F G σ hs vs)
    (h : match ndb (ixs hs) && hmut Γ hs with
      | true => c (argsOf Γ hs) (fun d outs => Q (unfr d) (updS Γ hs outs)) (fun x outs => E x (updS Γ hs outs))
      | false => False) : spC F.toCf c vs H (FinL F G σ Q) (WE (wOf F E) σ) := by
  split at h
  · rename_i e
    obtain ⟨nd, hm⟩ := Bool.and_eq_true_iff.mp e
    have hm := hmut_ok hm
    refine ⟨G, argsOf Γ hs, k.sub, args_ok k hh hm, argA_nd k hh nd, _, _, h, fun d outs v H' G' q p ha sh r => ?_, fun x outs cls dd H' G' q p ha sh r => ?_⟩
    · exact k.called_fin hh hm nd p ha sh r q
    · exact ⟨G', _, x, k.called hh hm nd p ha sh, r, q⟩
  · exact h.elim
theorem env0_at {A : Around} {pins : List (Addr × Obj)} {σ : St} {H : Hp} {s : Shared} (hA : A.frames = X.A.frames) (I : Inv X pins σ H s) : Env0 X.prog X.w X.K X.mg X.base A X.stack s H :=
  let e := I.env0
  ⟨hA.trans e.frames, e.mod, e.bs, e.bsz, e.funs, e.frf, e.hok, e.bare⟩
/-- the last parameters by their defaults -/
def dflt (c : Ct) (dd : List D) : Ct := fun args Q E => c (args ++ dd.map Slot.val) (fun d outs => Q d (outs.take args.length)) (fun x outs => E x (outs.take args.length))
theorem argA_app : ∀ {as : List Slot} {vs : List V} {dd : List D} {ws : List V}, vs.length = as.length → argA (as ++ dd.map Slot.val) (vs ++ ws) = argA as vs
  | [], [], dd, ws, _ => by
    show argA (dd.map Slot.val) ws = []
    induction dd generalizing ws with
    | nil => cases ws <;> rfl
    | cons d dd ih =>
      cases ws with
      | nil => rfl
      | cons w ws =>
        have q : argA (Slot.val d :: dd.map Slot.val) (w :: ws) = argA (dd.map Slot.val) ws := by cases w <;> rfl
        exact q.trans (ih _)
  | s :: as, v :: vs, dd, ws, h => by
    have ih := argA_app (as := as) (vs := vs) (dd := dd) (ws := ws) (by simpa using h)
    show argA (s :: (as ++ dd.map Slot.val)) (v :: (vs ++ ws)) = argA (s :: as) (v :: vs)
    cases s with
    | bor o =>
      cases v with
      | ref a => show a :: argA (as ++ dd.map Slot.val) (vs ++ ws) = a :: argA as vs; rw [ih]
      | _ => exact ih
    | _ => cases v <;> exact ih
  | [], _ :: _, _, _, h => by simp at h
  | _ :: _, [], _, _, h => by simp at h
theorem args_app {Fc : Cf} {G H : Hp} : ∀ {as : List Slot} {vs : List V} {dd : List D} {ws : List V}, ArgsOk Fc G H as vs → Reps Fc G dd ws → ArgsOk Fc G H (as ++ dd.map Slot.val) (vs ++ ws)
  | [], _, [], ws, h, r => by
    cases (show _ = [] from h)
    cases (show ws = [] from r)
    exact rfl
  | [], _, d :: dd, _, h, r => by
    cases (show _ = [] from h)
    obtain ⟨v, vs, rfl, r1, r2⟩ := r
    exact ⟨v, vs, rfl, r1, args_app (as := []) (vs := []) rfl r2⟩
  | s :: as, _, dd, ws, h, r => by
    obtain ⟨v, vs, rfl, r1, r2⟩ := h
    exact ⟨v, vs ++ ws, rfl, r1, args_app r2 r⟩
theorem args_take {Fc : Cf} {G H : Hp} : ∀ {n : Nat} {as : List Slot} {vs ws : List V}, ArgsOk Fc G H as (vs ++ ws) → vs.length = n → ArgsOk Fc G H (as.take n) vs
  | 0, as, [], ws, _, _ => by simp [ArgsOk]
  | n + 1, [], v :: vs, ws, h, _ => by cases (show _ = [] from h)
  | n + 1, s :: as, v :: vs, ws, h, e => by
    obtain ⟨v', r, q, r1, r2⟩ := h
    cases q
    exact ⟨v, vs, rfl, r1, args_take r2 (by simpa using e)⟩
  | n + 1, _, [], _, _, e => by simp at e
  | 0, _, _ :: _, _, _, e => by simp at e
theorem shape_take : ∀ {as bs : List Slot} {outs : List Slot}, shape (as ++ bs) outs → shape as (outs.take as.length)
  | [], _, _, _ => by simp [shape]
  | s :: as, bs, [], h => by
    exfalso
    revert h
    cases s <;> exact fun q => q
  | s :: as, bs, t :: outs, h => by
    cases s with
    | bor o => exact ⟨h.1, shape_take h.2⟩
    | no => exact ⟨h.1, shape_take h.2⟩
    | val d => exact ⟨h.1, shape_take h.2⟩
    | own o => exact ⟨h.1, shape_take h.2⟩
    | exc c fs => exact ⟨h.1, shape_take h.2⟩
end
end Q
set_option Elab.async false
set_option linter.all false
set_option maxRecDepth 100000
set_option maxHeartbeats 4000000
namespace Q
open PySem L2 PySem.Spec PyProof.Rows
structure Kl (F : Cf) (c : Cn) : Prop where
  cls : Cls F.K (F.cl c)
  no : ∀ f ∈ c.fields, NoAttr F.K (F.cl c) f
theorem zip_look : ∀ {N : List Str} {vs : List V} {k : Nat} {f : Str}, N.Nodup → N[k]? = some f → (N.zip vs).lookup f = vs[k]?
  | [], _, _, _, _, h => by simp at h
  | n :: N, [], k, f, _, _ => by simp
  | n :: N, v :: vs, 0, f, _, h => by
    simp at h
    subst h
    simp [List.lookup]
  | n :: N, v :: vs, k + 1, f, nd, h => by
    have h' : N[k]? = some f := by simpa using h
    have ne : (f == n) = false := by
      rw [beq_eq_false_iff_ne]
      intro e
      subst e
      exact (List.nodup_cons.mp nd).1 (List.mem_of_getElem? h')
    rw [List.zip_cons_cons]
    simp only [List.lookup, ne, List.getElem?_cons_succ]
    exact zip_look (List.nodup_cons.mp nd).2 h'
theorem zip_put_new : ∀ {N : List Str} {vs : List V} {f : Str} {y : V}, N.Nodup → N[vs.length]? = some f → putF f y (N.zip vs) = N.zip (vs ++ [y])
  | [], _, _, _, _, h => by simp at h
  | n :: N, [], f, y, _, h => by
    simp at h
    subst h
    simp [putF]
  | n :: N, v :: vs, f, y, nd, h => by
    have h' : N[vs.length]? = some f := by simpa using h
    have ne : ¬ n = f := fun e => by
      subst e
      exact (List.nodup_cons.mp nd).1 (List.mem_of_getElem? h')
    show (if n = f then (n, y) :: N.zip vs else (n, v) :: putF f y (N.zip vs)) = (n, v) :: N.zip (vs ++ [y])
    rw [if_neg ne, zip_put_new (List.nodup_cons.mp nd).2 h']
theorem zip_put_old : ∀ {N : List Str} {vs : List V} {k : Nat} {f : Str} {y : V}, N.Nodup → N[k]? = some f → k < vs.length → putF f y (N.zip vs) = N.zip (vs.set k y)
  | [], _, _, _, _, _, h, _ => by simp at h
  | n :: N, [], _, f, y, _, h, hl => by simp at hl
  | n :: N, v :: vs, 0, f, y, nd, h, _ => by
    simp at h
    subst h
    show (if n = n then (n, y) :: N.zip vs else _) = (n, y) :: N.zip vs
    rw [if_pos rfl]
  | n :: N, v :: vs, k + 1, f, y, nd, h, hl => by
    have h' : N[k]? = some f := by simpa using h
    have ne : ¬ n = f := fun e => by
      subst e
      exact (List.nodup_cons.mp nd).1 (List.mem_of_getElem? h')
    show (if n = f then (n, y) :: N.zip vs else (n, v) :: putF f y (N.zip vs)) = (n, v) :: N.zip (vs.set k y)
    rw [if_neg ne, zip_put_old (List.nodup_cons.mp nd).2 h' (by simpa using hl)]
theorem fields_nd : ∀ c : Cn, c.fields.Nodup := by intro c; cases c <;> decide +kernel
theorem fields_len : ∀ c : Cn, c.fields.length ≤ 4 := by intro c; cases c <;> decide +kernel
def Cn.ix (c : Cn) : Nat := c.ctorIdx
theorem ix_inj {a b : Cn} (h : Nat.beq a.ix b.ix = true) : a = b := by
  have h' := Nat.eq_of_beq_eq_true h
  cases a <;> cases b <;> first | rfl | (exact absurd h' (by decide))
def oTop : O1 := fun d Γ Q _ => match d with
  | .rat q => Q (.int q.num) Γ
  | _ => False
def oBot : O1 := fun d Γ Q _ => match d with
  | .rat q => Q (.int (q.den : Int)) Γ
  | _ => False
def oFld (c : Cn) (k : Nat) : O1 := fun d Γ Q _ => match d with
  | .ins c' ds => match Nat.beq c'.ix c.ix, ds[k]? with
    | true, some z => Q z Γ
    | _, _ => False
  | _ => False
section
variable {X : Cx} {F : Fx} {E : XP} {a b : Expr} {pa pb : QE} {pos : Pos}
theorem look_top (x y : V) : List.lookup ("top" : Str) [(("top" : Str), x), ("bottom", y)] = some x := by simp [List.lookup]
theorem le_top (T : Kl F.toCf .ratio) (hK : F.K = X.K) (ha : LE X F E a pa) (hb : attributeBase a "top" X.env (eval a X.env) = eval a X.env := by rfl) : LE X F E (.Attribute a "top" pos) (qUn oTop pa) :=
  LE.of (pe_fld ha.pe hb) fun σ H G Γ Q k q => ⟨G, Γ, _, k, q, fun w H' ⟨d, Γ', G', q', i, k', r⟩ => by
    cases d with
    | rat x =>
      obtain ⟨p, dx, rfl, hp⟩ := r
      exact ⟨p, _, dx, _, _, rfl, k'.sub.i hp, hK ▸ T.cls, hK ▸ T.no "top" (by decide +kernel), look_top _ _, fin_inc i (fin0 (d := .int x.num) k' q' rfl)⟩
    | _ => exact q'.elim⟩
theorem look_bottom (x y : V) : List.lookup ("bottom" : Str) [(("top" : Str), x), ("bottom", y)] = some y := by
  have e : (("bottom" : Str) == "top") = false := by decide +kernel
  simp [List.lookup, e]
theorem le_bot (T : Kl F.toCf .ratio) (hK : F.K = X.K) (ha : LE X F E a pa) (hb : attributeBase a "bottom" X.env (eval a X.env) = eval a X.env := by rfl) : LE X F E (.Attribute a "bottom" pos) (qUn oBot pa) :=
  LE.of (pe_fld ha.pe hb) fun σ H G Γ Q k q => ⟨G, Γ, _, k, q, fun w H' ⟨d, Γ', G', q', i, k', r⟩ => by
    cases d with
    | rat x =>
      obtain ⟨p, dx, rfl, hp⟩ := r
      exact ⟨p, _, dx, _, _, rfl, k'.sub.i hp, hK ▸ T.cls, hK ▸ T.no "bottom" (by decide +kernel), look_bottom _ _, fin_inc i (fin0 (d := .int (x.den : Int)) k' q' rfl)⟩
    | _ => exact q'.elim⟩
theorem le_fld (c : Cn) (n : Nat) {f : Str} (T : Kl F.toCf c) (hK : F.K = X.K) (ha : LE X F E a pa) (hf : c.fields[n]? = some f := by rfl) (hb : attributeBase a f X.env (eval a X.env) = eval a X.env := by rfl) : LE X F E (.Attribute a f pos) (qUn (oFld c n) pa) :=
  LE.of (pe_fld ha.pe hb) fun σ H G Γ Q k q => ⟨G, Γ, _, k, q, fun w H' ⟨d, Γ', G', q', i, k', r⟩ => by
    cases d with
    | ins c' ds =>
      obtain ⟨p, dx, vs, rfl, hp, rs⟩ := r
      dsimp only [oFld] at q'
      split at q'
      · rename_i z e1 e2
        have ec := ix_inj e1
        subst ec
        obtain ⟨v, ev, rv⟩ := rs.get e2
        exact ⟨p, _, dx, _, v, rfl, k'.sub.i hp, hK ▸ T.cls, hK ▸ T.no f (List.mem_of_getElem? hf), by rw [zip_look (fields_nd _) hf]; exact ev, fin_inc i (fin0 k' q' rv)⟩
      · exact q'.elim
    | _ => exact q'.elim⟩
/-- a field of an instance that may change, in slot j -/
def insM (Γ : Env) (j : Nat) (c : Cn) : Option (List D) := match Γ[j]? with
  | some (.own (.ins c' ds)) => match Nat.beq c'.ix c.ix with
    | true => some ds
    | false => none
  | some (.bor (.ins c' ds)) => match Nat.beq c'.ix c.ix with
    | true => some ds
    | false => none
  | _ => none
theorem insAt {G H : Hp} {σ : St} {Γ : Env} {j : Nat} {c : Cn} {ds : List D} (k : Ok F G H σ Γ) (q : insM Γ j c = some ds) : ∃ a dx vs s, σ[j]? = some (some (.ref a)) ∧ H a = some (.ins (F.cl c) dx (c.fields.zip vs)) ∧ Reps F.toCf G ds vs ∧ Γ[j]? = some s ∧ s.mo.isSome = true := by
  unfold insM at q
  split at q
  · rename_i c' ds' e
    split at q
    · rename_i ec
      have ec := ix_inj ec
      subst ec
      cases q
      obtain ⟨a, ea, g, ⟨dx, vs, h, r⟩, _⟩ := k.mut e rfl
      exact ⟨a, dx, vs, _, ea, h, r, e, rfl⟩
    · cases q
  · rename_i c' ds' e
    split at q
    · rename_i ec
      have ec := ix_inj ec
      subst ec
      cases q
      obtain ⟨a, ea, g, ⟨dx, vs, h, r⟩, _⟩ := k.mut e rfl
      exact ⟨a, dx, vs, _, ea, h, r, e, rfl⟩
    · cases q
  · cases q
/-- the thing in slot j is written -/
theorem Ok.put {G H : Hp} {σ : St} {Γ : Env} {j : Nat} {s : Slot} {a : Addr} {o' : MO} {u : HO} (k : Ok F G H σ Γ) (hs : Γ[j]? = some s) (z : s.mo.isSome = true) (ha : σ[j]? = some (some (.ref a))) (hx : ∀ ws, H a ≠ some (.xd ws)) (m : MRep F.toCf G (upd H a u) o' a) : Ok F G (upd H a u) σ (putM Γ j o') := by
  obtain ⟨o, ho⟩ := Option.isSome_iff_exists.mp z
  obtain ⟨a', ea, g, mr, hb⟩ := k.mut hs ho
  rw [ha] at ea
  cases ea
  refine ⟨k.sub.off g u, k.g0, k.fresh, fun b v e nb => ?_, fun b hb' => ?_, ?_, ?_, fun i b e => ?_, by rw [putM_len]; exact k.pl⟩
  · have nba : b ≠ a := fun q => by
      subst q
      rcases hb with q | q
      · rw [e] at q; cases q
      · exact nb q
    rw [upd_ne nba]
    exact k.frame b v e nb
  · by_cases q : b = a
    · subst q; exact ⟨u, upd_same⟩
    · rw [upd_ne q]; exact k.bor b hb'
  · refine Slots.mk (by rw [putM_len]; exact k.slots.len) fun i v t e1 e2 => ?_
    by_cases hij : i = j
    · subst hij
      rw [ha] at e1
      cases e1
      have hl : i < Γ.length := (List.getElem?_eq_some_iff.mp hs).1
      have ok := (k.slots.get hs)
      obtain ⟨v', ev, ok⟩ := ok
      rw [ha] at ev
      cases ev
      unfold putM at e2
      rw [hs] at e2
      cases s with
      | own o1 =>
        dsimp only at e2
        rw [List.getElem?_set_self hl] at e2
        cases e2
        obtain ⟨b, eb, _, _, z0⟩ := ok
        cases eb
        exact ⟨a, rfl, g, m, z0⟩
      | bor o1 =>
        dsimp only at e2
        rw [List.getElem?_set_self hl] at e2
        cases e2
        obtain ⟨b, eb, _, _, z0⟩ := ok
        cases eb
        exact ⟨a, rfl, g, m, z0⟩
      | no => cases z
      | val d => cases z
      | exc c fs => cases z
    · rw [putM_get hij] at e2
      obtain ⟨v', ev, ok⟩ := k.slots.get e2
      rw [e1] at ev
      cases ev
      refine SlotOk.step (Inc.refl G) (fun b eb zb => ?_) (fun dd ws _ q => ?_) ok
      · subst eb
        have nba : b ≠ a := fun q => by
          subst q
          exact hij (mutA_inj k.nd e1 ha e2 hs zb z)
        obtain ⟨o2, ho2⟩ := Option.isSome_iff_exists.mp zb
        obtain ⟨b', eb', g2, _⟩ := k.mut e2 ho2
        rw [e1] at eb'
        cases eb'
        exact ⟨upd_ne nba, g2⟩
      · rw [upd_ne (show dd ≠ a from fun e => hx ws (e ▸ q))]
        exact q
  · rw [mutA_kin putM_len fun i s t e1 e2 => putM_kin e1 e2]
    exact k.nd
  · obtain ⟨e1, o, e2⟩ := k.pin i b e
    refine ⟨e1, ?_⟩
    have hl : i < (putM Γ j o').length := by rw [putM_len]; exact (List.getElem?_eq_some_iff.mp e2).1
    have q := putM_kin (j := j) (o := o') e2 (List.getElem?_eq_getElem hl)
    rw [List.getElem?_eq_getElem hl]
    cases hq : (putM Γ j o')[i] with
    | bor o' => exact ⟨o', rfl⟩
    | _ => rw [hq] at q; simp [kin] at q
/-- self.f = e -/
def qFldS (j : Nat) (c : Cn) (n : Nat) (p : QE) : QS := fun Γ P E => p Γ (fun d Γ1 => match insM Γ1 j c with
  | some ds => match Nat.beq ds.length n, Nat.ble (n + 1) ds.length with
    | true, _ => P.nx (putM Γ1 j (.ins c (ds ++ [d])))
    | false, true => P.nx (putM Γ1 j (.ins c (ds.set n d)))
    | _, _ => False
  | none => False) E
theorem ls_fldS (j : Nat) (c : Cn) (n : Nat) {x f : Str} {e : Expr} {p : QE} {px pos' : Pos} (T : Kl F.toCf c) (hK : F.K = X.K) (he : LE X F E e p) (hf : c.fields[n]? = some f := by rfl) (hs : swapsWith e (some (.Attribute (.Name x px) f pos')) pos.line X.env = pure false := by rfl)
    (hN : X.N[j]? = some x := by rfl) (hv : Vis X.env.scope x := by first | exact Or.inl rfl | exact Or.inr (Or.inl rfl) | exact Or.inr (Or.inr rfl)) (hd : (x == ("__debug__" : Str)) = false := by decide) (hcd : (x == ("__classdict__" : Str)) = false := by decide) :
    LS X F E (.Assign [.Attribute (.Name x px) f pos'] e pos) (qFldS j c n p) :=
  LS.of (ps_fld (pe_var hN hv hd hcd) he.pe hs) fun σ H G Γ P k q => ⟨G, Γ, _, k, q, fun w H' ⟨d, Γ', G', q', i, k', r⟩ => by
    dsimp only at q'
    split at q'
    · rename_i ds e
      obtain ⟨p, dx, vs, s, ea, hp, rs, es, z⟩ := insAt k' e
      have hl : (c.fields.zip vs).length ≤ 4 := by
        rw [List.length_zip]
        have := fields_len c
        omega
      have hx : ∀ ws, H' p ≠ some (.xd ws) := fun ws q => by rw [hp] at q; cases q
      refine ⟨.ref p, ea, p, _, dx, _, rfl, hp, hK ▸ T.cls, hK ▸ T.no f (List.mem_of_getElem? hf), by omega, ?_⟩
      split at q'
      · rename_i e1
        have e1 := Nat.eq_of_beq_eq_true e1
        have e2 : c.fields[vs.length]? = some f := by rw [rs.len, e1]; exact hf
        refine ⟨_, G', q', i, k'.put es z ea hx ?_⟩
        exact ⟨dx, vs ++ [w], by rw [upd_same, zip_put_new (fields_nd c) e2], rs.append (Reps.one r)⟩
      · rename_i e1 e2
        have e2 := Nat.le_of_ble_eq_true e2
        refine ⟨_, G', q', i, k'.put es z ea hx ?_⟩
        exact ⟨dx, vs.set n w, by rw [upd_same, zip_put_old (fields_nd c) hf (by rw [rs.len]; omega)], Reps.set r n rs⟩
      · exact q'.elim
    · exact q'.elim⟩
def qNx : QS := fun Γ P _ => P.nx Γ
def qSeq (t u : QS) : QS := fun Γ P E => t Γ { P with nx := fun Γ1 => u Γ1 P E } E
theorem lss_nil : LSs X F E [] qNx := ⟨fun _ _ σ H G Γ _ I k h => wpAny_execs_nil ⟨σ, H, I, Γ, G, h, Inc.refl G, k⟩⟩
theorem lss_cons {st : Stmt} {rest : List Stmt} {t u : QS} (h1 : LS X F E st t) (h2 : LSs X F E rest u) : LSs X F E (st :: rest) (qSeq t u) := by
  refine ⟨fun pins s σ H G Γ P I k h => ?_⟩
  refine wpAny_execs_cons (thn (h1.run pins s σ H G Γ _ I k h) fun f s1 q => ?_)
  cases f with
  | next =>
    obtain ⟨σ', H', I', Γ', G', q, i, k'⟩ := q
    exact thn (h2.run pins s1 σ' H' G' Γ' P I' k' q) fun f s2 z => ends_inc i z
  | ret v => exact q
  | brk => exact q
  | cont => exact q
theorem lss_one {st : Stmt} {t : QS} (h1 : LS X F E st t) : LSs X F E [st] t := by
  refine ⟨fun pins s σ H G Γ P I k h => ?_⟩
  refine wpAny_execs_cons (thn (h1.run pins s σ H G Γ P I k h) fun f s1 q => ?_)
  cases f with
  | next => exact wpAny_execs_nil q
  | ret v => exact q
  | brk => exact q
  | cont => exact q
def qRet (p : QE) : QS := fun Γ P E => p Γ P.rt E
theorem ls_ret (he : LE X F E a pa) : LS X F E (.Return (some a) pos) (qRet pa) :=
  ⟨fun pins s σ H G Γ P I k h => wpAny_Return_some (thn (he.run pins s σ H G Γ _ I k h) fun v s1 ⟨x, H1, I1, r1, d, Γ1, G1, q1, i1, k1, rp⟩ => ⟨x, σ, H1, I1, r1, d, Γ1, G1, σ, q1, i1, k1, .of rp⟩)⟩
def qDrop (p : QE) : QS := fun Γ P E => p Γ (fun _ Γ1 => P.nx Γ1) E
theorem ls_expr (he : LE X F E a pa) (hs : swapsWith a none pos.line X.env = pure false := by rfl) : LS X F E (.Expr a pos) (qDrop pa) :=
  ⟨fun pins s σ H G Γ P I k h => wpAny_Expr_any (thn (he.run pins s σ H G Γ _ I k h) fun v s1 ⟨x, H1, I1, r1, d, Γ1, G1, q1, i1, k1, rp⟩ => ⟨σ, H1, I1, Γ1, G1, q1, i1, k1⟩) I.quiet hs⟩
def qIfS (t : QT) (u w : QS) : QS := fun Γ P E => t Γ (fun b Γ1 => match b with
  | true => u Γ1 P E
  | false => w Γ1 P E) E
theorem ls_if {c : Expr} {x y : List Stmt} {tc : QT} {t u : QS} (hc : LT X F E c tc) (ha : LSs X F E x t) (hb : LSs X F E y u) : LS X F E (.If c x y pos) (qIfS tc t u) := by
  refine ⟨fun pins s σ H G Γ P I k h => ?_⟩
  refine wpAny_If (thn (hc.run pins s σ H G Γ _ I k h) fun d s1 ⟨H1, I1, Γ1, G1, q1, i1, k1⟩ => ?_)
  cases d with
  | true => exact thn (ha.run pins s1 σ H1 G1 Γ1 P I1 k1 q1) fun f s2 z => ends_inc i1 z
  | false => exact thn (hb.run pins s1 σ H1 G1 Γ1 P I1 k1 q1) fun f s2 z => ends_inc i1 z
/-- a name is given a datum -/
def setV (Γ : Env) (i : Nat) (d : D) (Q : Env → Prop) : Prop := match Γ[i]? with
  | some (.own _) => False
  | some (.bor _) => False
  | none => False
  | some _ => Q (Γ.set i (.val d))
theorem setV_get {Γ : Env} {i : Nat} {d : D} {Q : Env → Prop} (h : setV Γ i d Q) : nomut Γ i ∧ Q (Γ.set i (.val d)) := by
  unfold setV at h
  split at h
  · exact h.elim
  · exact h.elim
  · exact h.elim
  · rename_i s n1 n2 e
    refine ⟨fun t et => ?_, h⟩
    rw [e] at et
    cases et
    cases s with
    | own o => exact (n1 o rfl).elim
    | bor o => exact (n2 o rfl).elim
    | _ => rfl
abbrev QG := D → Env → (Env → Prop) → Prop
structure LG (X : Cx) (F : Fx) (tg : Expr) (g : QG) : Prop where
  run : ∀ (pins : List (Addr × Obj)) (s : Shared) (σ : St) (H G : Hp) (Γ : Env) (v : V) (u : Value) (d : D) (Q : Env → Prop), Inv X pins σ H s → Ok F G H σ Γ → RelV v u → Rep F.toCf G d v → g d Γ Q →
    wpAny (model X.prog X.w) X.A (assign tg X.env u) (fun _ s' => ∃ σ' H', Inv X pins σ' H' s' ∧ ∃ Γ', Q Γ' ∧ Ok F G H' σ' Γ') X.xe s
def gV (i : Nat) : QG := fun d Γ Q => setV Γ i d Q
theorem lg_name (i : Nat) {x : Str} (hN : X.N.Nodup) (hi : X.N[i]? = some x := by rfl) (hx : Loc X.env.scope x := by first | exact Or.inl rfl | exact Or.inr rfl) (hf : X.fn x = true ∨ X.env.scope.names.lookup x = some .local := by first | exact .inl rfl | exact .inr rfl | assumption) : LG X F (.Name x pos) (gV i) :=
  ⟨fun pins s σ H G Γ v u d Q I k r rp h => by
    obtain ⟨n, q⟩ := setV_get h
    exact (pg_name (X := X) (i := i) hN hi hx hf).run pins s σ H v u (fun σ' H' => ∃ Γ', Q Γ' ∧ Ok F G H' σ' Γ') I r ⟨_, q, k.set n rp⟩⟩
structure LGs (X : Cx) (F : Fx) (ts : List Expr) (g : List D → Env → (Env → Prop) → Prop) : Prop where
  run : ∀ (pins : List (Addr × Obj)) (s : Shared) (σ : St) (H G : Hp) (Γ : Env) (vs : List V) (us : List Value) (ds : List D) (Q : Env → Prop), Inv X pins σ H s → Ok F G H σ Γ → Vals vs us → Reps F.toCf G ds vs → g ds Γ Q →
    wpAny (model X.prog X.w) X.A (assignInOrder ((assignEach ts X.env).map (·.2)) us) (fun _ s' => ∃ σ' H', Inv X pins σ' H' s' ∧ ∃ Γ', Q Γ' ∧ Ok F G H' σ' Γ') X.xe s
def gsNil : List D → Env → (Env → Prop) → Prop := fun ds Γ Q => match ds with
  | [] => Q Γ
  | _ => False
def gsCons (g : QG) (gr : List D → Env → (Env → Prop) → Prop) : List D → Env → (Env → Prop) → Prop := fun ds Γ Q => match ds with
  | [] => False
  | d :: ds => g d Γ fun Γ1 => gr ds Γ1 Q
theorem lgs_nil : LGs X F [] gsNil := ⟨fun pins s σ H G Γ vs us ds Q I k r rp h => by
  cases ds with
  | nil =>
    cases (show vs = [] from rp)
    cases r
    exact assignInOrder_nil ⟨σ, H, I, Γ, h, k⟩
  | cons _ _ => exact h.elim⟩
theorem lgs_cons {e : Expr} {es : List Expr} {g : QG} {gr : List D → Env → (Env → Prop) → Prop} (h1 : LG X F e g) (h2 : LGs X F es gr) (hs : (assignEach (e :: es) X.env).map (·.2) = assign e X.env :: (assignEach es X.env).map (·.2) := by rfl) : LGs X F (e :: es) (gsCons g gr) := ⟨fun pins s σ H G Γ vs us ds Q I k r rp h => by
  cases ds with
  | nil => exact h.elim
  | cons d ds =>
    obtain ⟨v, vr, rfl, r1, r2⟩ := rp
    cases r with
    | cons ra rb =>
      rw [hs]
      refine assignInOrder_cons (thn (h1.run pins s σ H G Γ _ _ d _ I k ra r1 h) fun _ s1 ⟨σ1, H1, I1, Γ1, q1, k1⟩ => ?_)
      exact h2.run pins s1 σ1 H1 G Γ1 _ _ ds Q I1 k1 rb r2 q1⟩
/-- a, b, .. = a tuple -/
def gT (n : Nat) (gr : List D → Env → (Env → Prop) → Prop) : QG := fun d Γ Q => match d with
  | .tup ds => ds.length = n ∧ gr ds Γ Q
  | _ => False
theorem lg_tup {es : List Expr} {k0 : Nat} {gr : List D → Env → (Env → Prop) → Prop} {n : Nat} (hK : F.K = X.K) (hc : X.calm = true) (h : LGs X F es gr) (hn : (assignEach es X.env).length = n := by rfl) (hst : (assignEach es X.env).findIdx? (·.1) = none := by rfl) : LG X F (.Tuple es k0 pos) (gT n gr) :=
  ⟨fun pins s σ H G Γ v u d Q I k r rp hw => by
    cases d with
    | tup ds =>
      obtain ⟨hl, hw⟩ := hw
      obtain ⟨a, vs, rfl, hq, rs⟩ := rp
      cases r
      obtain ⟨its, rv, ht, hz⟩ := I.tuple (hK ▸ k.sub.t hq)
      refine assign_Tuple_tuple (I.ok.hd hc) ht (by simp [hn, ← hl, ← rs.len, rv.length]) hst fun h' hx => ?_
      have I1 : Inv X pins σ H { s with heap := h' } := I.kept (t' := s.toks) fun b o e => hx b o (Nat.ne_of_lt (Heap.lt_size e)) e
      exact h.run pins _ σ H G Γ vs _ ds Q I1 k (by simpa using rv) rs hw
    | _ => exact hw.elim⟩
def qAsg (p : QE) (g : QG) : QS := fun Γ P E => p Γ (fun d Γ1 => g d Γ1 P.nx) E
theorem ls_asg {tg e : Expr} {p : QE} {g : QG} (he : LE X F E e p) (hg : LG X F tg g) (hs : swapsWithSole [tg] e pos.line X.env = pure false := by rfl) (hw : swappedStores [tg] e X.env = pure none := by rfl)
    (h1 : (assignEach [tg] X.env).map (·.2) = [assign tg X.env] := by rfl) : LS X F E (.Assign [tg] e pos) (qAsg p g) := by
  refine ⟨fun pins s σ H G Γ P I k h => ?_⟩
  refine wpAny_Assign_stores (thn (he.run pins s σ H G Γ _ I k h) fun v s1 ⟨x, H1, I1, r1, d, Γ1, G1, q1, i1, k1, rp⟩ => ?_) hs hw
  rw [h1]
  exact thn (hg.run pins s1 σ H1 G1 Γ1 x v d _ I1 k1 r1 rp q1) fun _ s2 ⟨σ', H', I', Γ', q, k'⟩ => ⟨σ', H', I', Γ', G1, q, i1, k'⟩
def qSet (i : Nat) (p : QE) : QS := fun Γ P E => p Γ (fun d Γ1 => setV Γ1 i d P.nx) E
theorem ls_set (i : Nat) {x : Str} {e : Expr} {p : QE} {pos' : Pos} (hN : X.N.Nodup) (he : LE X F E e p) (hi : X.N[i]? = some x := by rfl) (hx : Loc X.env.scope x := by first | exact Or.inl rfl | exact Or.inr rfl) (hs : swapsWith e (some (.Name x pos')) pos.line X.env = pure false := by rfl)
    (hf : X.fn x = true ∨ X.env.scope.names.lookup x = some .local := by first | exact .inl rfl | exact .inr rfl | assumption) : LS X F E (.Assign [.Name x pos'] e pos) (qSet i p) :=
  LS.of (ps_set (i := i) hN hi hx he.pe hs hf) fun σ H G Γ P k q => ⟨G, Γ, _, k, q, fun w H' ⟨d, Γ', G', q', i1, k', r⟩ => by
    obtain ⟨n, q2⟩ := setV_get q'
    exact ⟨_, G', q2, i1, k'.set n r⟩⟩
/-- a, b = x, y -/
def qPar (i j : Nat) (p : QA) : QS := fun Γ P E => p Γ (fun ds Γ1 => match ds with
  | [d, e] => setV Γ1 i d fun Γ2 => setV Γ2 j e P.nx
  | _ => False) E
theorem ls_par (i j : Nat) {x y : Str} {a b : Expr} {p : QA} {px py pt : Pos} {kt k2 pt2} (hc : X.calm = true) (hN : X.N.Nodup) (ha : LA X F E [a, b] p) (hi : X.N[i]? = some x := by rfl) (hj : X.N[j]? = some y := by rfl) (hij : i ≠ j := by decide)
    (hx : X.env.scope.names.lookup x = some .local := by rfl) (hy : X.env.scope.names.lookup y = some .local := by rfl)
    (hw : swappedStores [.Tuple [.Name x px, .Name y py] kt pt] (.Tuple [a, b] k2 pt2) X.env = pure (some [x, y]) := by rfl)
    (hs : swapsWithSole [.Tuple [.Name x px, .Name y py] kt pt] (.Tuple [a, b] k2 pt2) pos.line X.env = pure false := by rfl) :
    LS X F E (.Assign [.Tuple [.Name x px, .Name y py] kt pt] (.Tuple [a, b] k2 pt2) pos) (qPar i j p) :=
  LS.of (ps_par (i := i) (j := j) hc hN hi hj hij hx hy ha.pa hw hs) fun σ H G Γ P k q => ⟨G, Γ, _, k, q, fun ws H' ⟨ds, Γ', G', q', i1, k', r⟩ => by
    match ds, q' with
    | [d, e], q' =>
      obtain ⟨v, vr, rfl, r1, w, wr, rfl, r2, r3⟩ := r
      cases (show wr = [] from r3)
      obtain ⟨n, q2⟩ := setV_get q'
      obtain ⟨n2, q3⟩ := setV_get q2
      exact ⟨v, w, rfl, _, G', q3, i1, (k'.set n r1).set n2 r2⟩⟩
end
end Q
set_option Elab.async false
set_option linter.all false
set_option maxRecDepth 100000
set_option maxHeartbeats 4000000
namespace Q
open PySem L2 PySem.Spec PyProof.Rows
section
variable {X : Cx} {F : Fx} {E : XP} {a b : Expr} {pa pb : QE} {pos : Pos}
theorem bindmo {Γ : Env} {j : Nat} {o : MO} (h : (Γ[j]?).bind Slot.mo = some o) : ∃ s, Γ[j]? = some s ∧ s.mo = some o := by
  cases e : Γ[j]? with
  | none => rw [e] at h; cases h
  | some s => rw [e] at h; exact ⟨s, rfl, h⟩
/-- the slot holds a value -/
def isSet (Γ : Env) (j : Nat) : Bool := match Γ[j]? with
  | some (.own _) => true
  | some (.bor _) => true
  | _ => false
theorem isSet_ok {G H : Hp} {σ : St} {Γ : Env} {j : Nat} (k : Ok F G H σ Γ) (h : isSet Γ j = true) : ∃ a, σ[j]? = some (some (.ref a)) := by
  unfold isSet at h
  split at h
  · rename_i o e
    obtain ⟨a, ea, _⟩ := k.mut e rfl
    exact ⟨a, ea⟩
  · rename_i o e
    obtain ⟨a, ea, _⟩ := k.mut e rfl
    exact ⟨a, ea⟩
  · cases h
def qSetIx (j : Nat) (pe pi : QE) : QS := fun Γ P E => pe Γ (fun d Γ1 => match isSet Γ1 j with
  | true => pi Γ1 (fun i Γ2 => match (Γ2[j]?).bind Slot.mo, i with
    | some (.lst xs), .int n => match Nat.ble (n.toNat + 1) xs.length with
      | true => 0 ≤ n ∧ P.nx (putM Γ2 j (.lst (xs.set n.toNat d)))
      | false => False
    | _, _ => False) E
  | false => False) E
theorem ls_setIx (j : Nat) {x : Str} {e i : Expr} {pe pi : QE} {px pt : Pos} (he : LE X F E e pe) (hi : LE X F E i pi)
    (ha : ∀ v, assign (.Subscript (.Name x px) i pt) X.env v = (do
      let ov ← holding [v] (eval (.Name x px) X.env)
      let iv ← holding [v, ov] (eval i X.env)
      standAt pt
      holding [v, ov, iv] (setItem ov iv v)
      release [v, ov, iv] []) := by intro _; rfl)
    (hs : swapsWithSole [.Subscript (.Name x px) i pt] e pos.line X.env = pure false := by rfl) (hw : swappedStores [.Subscript (.Name x px) i pt] e X.env = pure none := by rfl)
    (h1 : (assignEach [.Subscript (.Name x px) i pt] X.env).map (·.2) = [assign (.Subscript (.Name x px) i pt) X.env] := by rfl)
    (hN : X.N[j]? = some x := by rfl) (hv : Vis X.env.scope x := by first | exact Or.inl rfl | exact Or.inr (Or.inl rfl) | exact Or.inr (Or.inr rfl)) (hd : (x == ("__debug__" : Str)) = false := by decide) (hcd : (x == ("__classdict__" : Str)) = false := by decide) :
    LS X F E (.Assign [.Subscript (.Name x px) i pt] e pos) (qSetIx j pe pi) :=
  LS.of (ps_asg he.pe (pg_sub (pe_var hN hv hd hcd) hi.pe set_list ha) hs hw h1) fun σ H G Γ P k q => by
    refine ⟨G, Γ, _, k, q, fun w H' ⟨d, Γ', G', q', i1, k', r⟩ => ?_⟩
    dsimp only at q'
    split at q'
    · rename_i es
      obtain ⟨p, ep⟩ := isSet_ok k' es
      refine ⟨.ref p, ep, G', Γ', _, k', q', fun w2 H2 ⟨d2, Γ2, G2, q2, i2, k2, r2⟩ => ?_⟩
      dsimp only at q2
      split at q2
      · rename_i xs n em
        split at q2
        · rename_i eb
          have hl := Nat.le_of_ble_eq_true eb
          obtain ⟨s, e1, e2⟩ := bindmo em
          obtain ⟨p2, ep2, g, ⟨vs, hp, rs⟩, _⟩ := k2.mut e1 e2
          rw [ep] at ep2
          cases ep2
          have hn : ixN vs.length n = some n.toNat := by
            unfold ixN
            rw [if_pos q2.1, rs.len, if_pos (by omega)]
          refine ⟨p, vs, n, n.toNat, rfl, r2, hp, hn, _, G2, q2.2, i1.trans i2, k2.put e1 (by rw [e2]; rfl) ep (fun ws z => by rw [hp] at z; cases z) ?_⟩
          exact ⟨_, upd_same, Reps.set (r.inc i2) _ rs⟩
        · exact q2.elim
      · exact q2.elim
    · exact q'.elim
def qWhile (t : QT) (u : QS) : QS := fun Γ P E => ∃ W : Nat → Env → Prop, (∃ m, W m Γ) ∧ ∀ m Γ1, W m Γ1 → t Γ1 (fun b Γ2 => match b with
  | true => u Γ2 { nx := fun Γ3 => ∃ m', m' < m ∧ W m' Γ3, ct := fun Γ3 => ∃ m', m' < m ∧ W m' Γ3, bk := P.nx, rt := P.rt } E
  | false => P.nx Γ2) E
theorem ls_while {c : Expr} {body : List Stmt} {tc : QT} {tb : QS} (hp : PassesOwn (model X.prog X.w) X.A X.env X.xe) (hc : LT X F E c tc) (hb : LSs X F E body tb) : LS X F E (.While c body [] pos) (qWhile tc tb) :=
  LS.of (ps_while hp hc.pt hb.ps) fun σ H G Γ P k q => by
    obtain ⟨W, ⟨m0, w0⟩, turn⟩ := q
    refine ⟨fun m σ' H' => ∃ Γ' G', W m Γ' ∧ Inc G G' ∧ Ok F G' H' σ' Γ', ⟨m0, Γ, G, w0, Inc.refl G, k⟩, ?_⟩
    rintro m σ1 H1 ⟨Γ1, G1, w1, i1, k1⟩
    refine ⟨G1, Γ1, _, k1, turn m Γ1 w1, fun b H' ⟨Γ2, G2, q2, i2, k2⟩ => ?_⟩
    cases b with
    | true =>
      rw [if_pos rfl]
      refine ⟨fun σ' H' => ∃ m', m' < m ∧ ∃ Γ' G', W m' Γ' ∧ Inc G G' ∧ Ok F G' H' σ' Γ', fun σ' H' z => z, G2, Γ2, _, k2, q2, ?_, ?_, ?_, ?_⟩
      · rintro σ' H' ⟨Γ3, G3, ⟨m', lt, w3⟩, i3, k3⟩
        exact ⟨m', lt, Γ3, G3, w3, (i1.trans i2).trans i3, k3⟩
      · rintro v H' ⟨d, Γ3, G3, σ3, q3, i3, k3, r3⟩
        exact ⟨d, Γ3, G3, σ3, q3, (i1.trans i2).trans i3, k3, r3⟩
      · rintro σ' H' ⟨Γ3, G3, q3, i3, k3⟩
        exact ⟨Γ3, G3, q3, (i1.trans i2).trans i3, k3⟩
      · rintro σ' H' ⟨Γ3, G3, ⟨m', lt, w3⟩, i3, k3⟩
        exact ⟨m', lt, Γ3, G3, w3, (i1.trans i2).trans i3, k3⟩
    | false =>
      rw [if_neg Bool.false_ne_true]
      exact ⟨Γ2, G2, q2, i1.trans i2, k2⟩
/-- the list that is walked may be a thing handed in: it stays as it is -/
abbrev Gd := Option (Nat × MO)
def gM (gd : Gd) (Γ : Env) : Prop := match gd with
  | none => True
  | some (j, o) => (Γ[j]?).bind Slot.mo = some o
/-- .. and it is the same thing -/
def gOk (gd : Gd) (σ0 σ : St) (Γ : Env) : Prop := match gd with
  | none => True
  | some (j, o) => (Γ[j]?).bind Slot.mo = some o ∧ σ[j]? = σ0[j]?
def withG (gd : Gd) (Γ : Env) (R : Prop) : Prop := match gd with
  | none => R
  | some (j, o) => (Γ[j]?).bind Slot.mo = some o ∧ R
theorem withG_get {gd : Gd} {Γ : Env} {R : Prop} (h : withG gd Γ R) : gM gd Γ ∧ R := by
  cases gd with
  | none => exact ⟨trivial, h⟩
  | some p => obtain ⟨j, o⟩ := p; exact h
structure FxD where
  G0 : Hp
  H0 : Hp
  B : List Addr
  pin : List (Option Addr)
abbrev fbk (F : Fx) (q : FxD) : Fx := { F with G0 := q.G0, H0 := q.H0, B := q.B, pin := q.pin }
structure SeqW (F : Fx) (G : Hp) (σ0 : St) (J : It) (items : List D) (gd : Gd) : Prop where
  goH : ∀ (q : FxD) i G' H' σ Γ, Inc G G' → Ok (fbk F q) G' H' σ Γ → gOk gd σ0 σ Γ → i < items.length → J.go i H'
  stopH : ∀ (q : FxD) G' H' σ Γ, Inc G G' → Ok (fbk F q) G' H' σ Γ → gOk gd σ0 σ Γ → J.stop items.length H'
  yldH : ∀ (q : FxD) i G' H' σ Γ x H'', Inc G G' → Ok (fbk F q) G' H' σ Γ → gOk gd σ0 σ Γ → i < items.length → J.yld i H' x H'' → ∃ d G'', items[i]? = some d ∧ Inc G' G'' ∧ Ok (fbk F q) G'' H'' σ Γ ∧ Rep F.toCf G'' d x
theorem SeqW.go {F : Fx} {G : Hp} {σ0 : St} {J : It} {items : List D} {gd : Gd} (h : SeqW F G σ0 J items gd) : ∀ i G' H' σ Γ, Inc G G' → Ok F G' H' σ Γ → gOk gd σ0 σ Γ → i < items.length → J.go i H' := h.goH ⟨F.G0, F.H0, F.B, F.pin⟩
theorem SeqW.stop {F : Fx} {G : Hp} {σ0 : St} {J : It} {items : List D} {gd : Gd} (h : SeqW F G σ0 J items gd) : ∀ G' H' σ Γ, Inc G G' → Ok F G' H' σ Γ → gOk gd σ0 σ Γ → J.stop items.length H' := h.stopH ⟨F.G0, F.H0, F.B, F.pin⟩
theorem SeqW.yld {F : Fx} {G : Hp} {σ0 : St} {J : It} {items : List D} {gd : Gd} (h : SeqW F G σ0 J items gd) : ∀ i G' H' σ Γ x H'', Inc G G' → Ok F G' H' σ Γ → gOk gd σ0 σ Γ → i < items.length → J.yld i H' x H'' → ∃ d G'', items[i]? = some d ∧ Inc G' G'' ∧ Ok F G'' H'' σ Γ ∧ Rep F.toCf G'' d x := h.yldH ⟨F.G0, F.H0, F.B, F.pin⟩
abbrev QI := Env → (List D → Gd → Env → Prop) → XP → Prop
def FinI (F : Fx) (G : Hp) (σ : St) (Q : List D → Gd → Env → Prop) : It → Hp → Prop := fun J H' => ∃ items gd Γ' G', Q items gd Γ' ∧ Inc G G' ∧ Ok F G' H' σ Γ' ∧ SeqW F G' σ J items gd
structure LI (X : Cx) (F : Fx) (E : XP) (tg iter : Expr) (p : QI) : Prop where
  run : ∀ (pins : List (Addr × Obj)) (s : Shared) (σ : St) (H G : Hp) (Γ : Env) (Q : List D → Gd → Env → Prop), Inv X pins σ H s → Ok F G H σ Γ → p Γ Q E →
    wpAny (model X.prog X.w) X.A (eval iter X.env) (fun v s1 => wpAny (model X.prog X.w) X.A (pyIter v) (PIE X pins σ tg (FinI F G σ Q)) X.xe s1) X.xe s
def wI (F : Fx) (E : XP) (p : QI) : TI := fun σ H R => ∃ G Γ Q, Ok F G H σ Γ ∧ p Γ Q E ∧ ∀ J H', FinI F G σ Q J H' → R J H'
theorem LI.pi {tg iter : Expr} {p : QI} (h : LI X F E tg iter p) : PI X tg iter (wI F E p) := ⟨fun pins s σ H R I ⟨G, Γ, Q, k, q, i⟩ =>
  thn (h.run pins s σ H G Γ Q I k q) fun v s1 h1 => thn h1 fun u s2 ⟨it, fp, tn, J, H', e, I', T, t0, f, z⟩ => ⟨it, fp, tn, J, H', e, I', T, t0, f, i J H' z⟩⟩
theorem LI.of {tg iter : Expr} {p : QI} {w : TI} (h : PI X tg iter w) (i : ∀ σ H G Γ Q, Ok F G H σ Γ → p Γ Q E → w σ H (FinI F G σ Q)) : LI X F E tg iter p := ⟨fun pins s σ H G Γ Q I k q => h.run pins s σ H _ I (i σ H G Γ Q k q)⟩
def tG (F : Fx) (g : QG) : TG := fun v σ H R => ∃ G Γ d Q, Ok F G H σ Γ ∧ Rep F.toCf G d v ∧ g d Γ Q ∧ ∀ σ' H' Γ', Q Γ' → Ok F G H' σ' Γ' → R σ' H'
theorem LG.pg {tg : Expr} {g : QG} (h : LG X F tg g) : PG X tg (tG F g) := ⟨fun pins s σ H v u R I r ⟨G, Γ, d, Q, k, rp, q, i⟩ =>
  thn (h.run pins s σ H G Γ v u d Q I k r rp q) fun _ s' ⟨σ', H', I', Γ', z, k'⟩ => ⟨σ', H', I', i σ' H' Γ' z k'⟩⟩
def qLoop (gd : Gd) (g : QG) (u : QS) : List D → QS
  | [] => fun Γ P _ => withG gd Γ (P.nx Γ)
  | d :: ds => fun Γ P E => withG gd Γ (g d Γ fun Γ1 => u Γ1 { nx := fun Γ2 => qLoop gd g u ds Γ2 P E, ct := fun Γ2 => qLoop gd g u ds Γ2 P E, bk := P.nx, rt := P.rt } E)
def qFor (p : QI) (g : QG) (u : QS) : QS := fun Γ P E => p Γ (fun items gd Γ1 => match gd with
  | none => qLoop none g u items Γ1 P E
  | some _ => False) E
theorem ls_for {tg iter : Expr} {body : List Stmt} {p : QI} {g : QG} {u : QS} (hp : PassesOwn (model X.prog X.w) X.A X.env X.xe) (hc : X.calm = true) (hi : LI X F E tg iter p) (hg : LG X F tg g) (hb : LSs X F E body u)
    (hs : ∀ x, foldedSetIterable iter X.env x = pure x := by intro _; rfl) : LS X F E (.For tg iter body [] pos) (qFor p g u) :=
  LS.of (ps_for hp hc hi.pi hg.pg hb.ps hs) fun σ H G Γ P k q => by
    refine ⟨G, Γ, _, k, q, fun J H1 ⟨items, gd, Γ1, G1, q1, i1, k1, sw⟩ => ?_⟩
    cases gd with
    | some _ => exact q1.elim
    | none =>
    refine ⟨fun i m σ' H' => m = items.length - i ∧ i ≤ items.length ∧ ∃ Γ' G', qLoop none g u (items.drop i) Γ' P E ∧ Inc G1 G' ∧ Ok F G' H' σ' Γ', ⟨_, rfl, Nat.zero_le _, Γ1, G1, by simpa using q1, Inc.refl G1, k1⟩, ?_⟩
    rintro i m σ2 H2 ⟨rfl, hi2, Γ2, G2, q2, i2, k2⟩
    by_cases hlt : i < items.length
    · refine .inr ⟨sw.go i G2 H2 σ2 Γ2 i2 k2 trivial hlt, fun σ' H' => ∃ Γ' G', qLoop none g u (items.drop (i + 1)) Γ' P E ∧ Inc G1 G' ∧ Ok F G' H' σ' Γ', fun σ' H' z => ⟨items.length - (i + 1), by omega, rfl, hlt, z⟩, fun x H3 y => ?_⟩
      obtain ⟨d, G3, ed, i3, k3, r3⟩ := sw.yld i G2 H2 σ2 Γ2 x H3 i2 k2 trivial hlt y
      have hd : items.drop i = d :: items.drop (i + 1) := by
        rw [List.drop_eq_getElem_cons hlt]
        congr 1
        rw [List.getElem?_eq_getElem hlt] at ed
        exact Option.some.inj ed
      rw [hd] at q2
      obtain ⟨_, q2⟩ := withG_get (gd := none) (Γ := Γ2) q2
      refine ⟨G3, Γ2, d, _, k3, r3, q2, fun σ4 H4 Γ4 q4 k4 => ⟨G3, Γ4, _, k4, q4, ?_, ?_, ?_, ?_⟩⟩
      · rintro σ5 H5 ⟨Γ5, G5, q5, i5, k5⟩
        exact ⟨Γ5, G5, q5, (i2.trans i3).trans i5, k5⟩
      · rintro v H5 ⟨d5, Γ5, G5, σ5, q5, i5, k5, r5⟩
        exact ⟨d5, Γ5, G5, σ5, q5, ((i1.trans i2).trans i3).trans i5, k5, r5⟩
      · rintro σ5 H5 ⟨Γ5, G5, q5, i5, k5⟩
        exact ⟨Γ5, G5, q5, ((i1.trans i2).trans i3).trans i5, k5⟩
      · rintro σ5 H5 ⟨Γ5, G5, q5, i5, k5⟩
        exact ⟨Γ5, G5, q5, (i2.trans i3).trans i5, k5⟩
    · have e : i = items.length := by omega
      subst e
      rw [List.drop_length] at q2
      obtain ⟨_, q2⟩ := withG_get (gd := none) (Γ := Γ2) q2
      exact .inl ⟨sw.stop G2 H2 σ2 Γ2 i2 k2 trivial, Γ2, G2, q2, i1.trans i2, k2⟩
/-- range(n) -/
def qRng1 (p : QE) : QI := fun Γ Q E => p Γ (fun d Γ1 => match d with
  | .int n => n ≤ 100000 ∧ -100000 ≤ n ∧ Q ((List.range n.toNat).map fun i : Nat => D.int (i : Int)) none Γ1
  | _ => False) E
theorem seqw_rng {G : Hp} {σ0 : St} {lo : Int} {n : Nat} : SeqW F G σ0 (Itr lo n) ((List.range n).map fun i : Nat => D.int (lo + (i : Int))) none where
  goH := fun _ i _ _ _ _ _ _ _ h => by
    show i < n
    simpa using h
  stopH := fun _ _ _ _ _ _ _ _ => by simp [Itr]
  yldH := fun _ i G' H' σ Γ x H'' _ k _ h y => by
    obtain ⟨e, ex⟩ := y
    subst e; subst ex
    have h' : i < n := by simpa using h
    exact ⟨.int (lo + i), G', by simp [h'], Inc.refl _, k, rfl⟩
theorem li_rng1 {tg : Expr} {p0 : Pos} (hm : X.mg "range" = none) (ha : LE X F E a pa) (hg : Gl X "range" := by rfl) (hs : starEach [a] X.env = [(false, eval a X.env)] := by rfl) (hs2 : starEach [] X.env = [] := by rfl) : LI X F E tg (.Call (.Name "range" p0) [a] [] pos) (qRng1 pa) :=
  LI.of (pi_range1 hg hm (pa_cons ha.pe pa_nil (by rw [hs, hs2])) hs) fun σ H G Γ Q k q => ⟨G, Γ, _, k, q, fun w H' ⟨d, Γ', G', q', i, k', r⟩ => by
    cases d with
    | int n =>
      obtain ⟨h1, h2, q'⟩ := q'
      cases (show w = .int n from r)
      refine ⟨n, rfl, by omega, by omega, _, none, Γ', G', q', i, k', ?_⟩
      have e : ((List.range n.toNat).map fun i : Nat => D.int (i : Int)) = (List.range n.toNat).map fun i : Nat => D.int ((0 : Int) + (i : Int)) := by
        congr 1
        funext i
        rw [Int.zero_add]
      rw [e]
      exact seqw_rng
    | _ => exact q'.elim⟩
end
end Q
set_option Elab.async false
set_option linter.all false
set_option maxRecDepth 100000
set_option maxHeartbeats 4000000
namespace Q
open PySem L2 PySem.Spec PyProof.Rows
/-- what the parameters that may change hold at the end -/
def outsOf : List Slot → Env → List Slot
  | .bor _ :: as, s :: Γ => s :: outsOf as Γ
  | a :: as, _ :: Γ => a :: outsOf as Γ
  | as, [] => as
  | [], _ => []
/-- the environment at the entry -/
def startE (n : Nat) (args : List Slot) : Env := args ++ List.replicate (n - args.length) .no
def endsC (args : List Slot) (Q : D → List Slot → Prop) : PEnds where
  nx := fun Γ => Q .non (outsOf args Γ)
  rt := fun d Γ => Q d (outsOf args Γ)
def exnC (args : List Slot) (E : Exn → List Slot → Prop) : XP := fun x Γ => E x (outsOf args Γ)
def pinOf : List Slot → List V → List (Option Addr)
  | .bor _ :: as, .ref a :: vs => some a :: pinOf as vs
  | _ :: as, _ :: vs => none :: pinOf as vs
  | _, _ => []
section
variable {Fc : Cf}
def fxOf (Fc : Cf) (G H : Hp) (args : List Slot) (vs : List V) : Fx := { Fc with G0 := G, H0 := H, B := argA args vs, pin := pinOf args vs }
theorem argA_in {G H : Hp} : ∀ {args : List Slot} {vs : List V} {a : Addr}, ArgsOk Fc G H args vs → a ∈ argA args vs → ∃ o, H a = some o
  | [], vs, a, _, m => by cases vs <;> simp [argA] at m
  | s :: as, _, a, h, m => by
    obtain ⟨v, r, rfl, h1, h2⟩ := h
    cases s with
    | bor o =>
      obtain ⟨b, rfl, g, mr⟩ := h1
      rcases List.mem_cons.mp (show a ∈ b :: argA as r from m) with e | e
      · subst e; exact mr.ex
      · exact argA_in h2 e
    | val d =>
      have q : argA (Slot.val d :: as) (v :: r) = argA as r := by cases v <;> rfl
      rw [q] at m
      exact argA_in h2 m
    | no => exact h1.elim
    | own o => exact h1.elim
    | exc c fs => exact h1.elim
theorem slots_rep {F : Fx} {G H : Hp} : ∀ n : Nat, Slots F G H (List.replicate n none) (List.replicate n .no)
  | 0 => trivial
  | n + 1 => ⟨trivial, slots_rep n⟩
theorem mutA_rep : ∀ n : Nat, mutA (List.replicate n none) (List.replicate n .no) = []
  | 0 => rfl
  | n + 1 => by
    show mutA (none :: List.replicate n none) (.no :: List.replicate n .no) = []
    simp [mutA, mutA_rep n]
theorem slots_start {F : Fx} {G H : Hp} (hF : F.toCf = Fc) : ∀ {args : List Slot} {vs : List V} {σ : St} {Γ : Env}, ArgsOk Fc G H args vs → (∀ a, a ∈ argA args vs → a ∈ F.B) → Slots F G H σ Γ → Slots F G H (vs.map some ++ σ) (args ++ Γ)
  | [], _, _, _, h, _, k => by cases (show _ = [] from h); exact k
  | s :: as, _, σ, Γ, h, hb, k => by
    obtain ⟨v, r, rfl, h1, h2⟩ := h
    cases s with
    | bor o =>
      obtain ⟨b, rfl, g, mr⟩ := h1
      refine ⟨⟨b, rfl, g, hF ▸ mr, hb b List.mem_cons_self⟩, slots_start hF h2 (fun a ha => hb a (List.mem_cons_of_mem _ ha)) k⟩
    | val d =>
      refine ⟨?_, slots_start hF h2 (fun a ha => hb a ?_) k⟩
      · show Rep F.toCf G d v
        rw [hF]; exact h1
      · have q : argA (Slot.val d :: as) (v :: r) = argA as r := by cases v <;> rfl
        rw [q]; exact ha
    | no => exact h1.elim
    | own o => exact h1.elim
    | exc c fs => exact h1.elim
theorem mutA_start {G H : Hp} : ∀ {args : List Slot} {vs : List V} {σ : St} {Γ : Env}, ArgsOk Fc G H args vs → mutA σ Γ = [] → mutA (vs.map some ++ σ) (args ++ Γ) = argA args vs
  | [], _, _, _, h, k => by cases (show _ = [] from h); exact k
  | s :: as, _, σ, Γ, h, k => by
    obtain ⟨v, r, rfl, h1, h2⟩ := h
    have ih := mutA_start (σ := σ) (Γ := Γ) h2 k
    show mutA (some v :: (r.map some ++ σ)) (s :: (as ++ Γ)) = _
    rw [mutA_cons, ih]
    cases s with
    | bor o =>
      obtain ⟨b, rfl, g, mr⟩ := h1
      rfl
    | val d => cases v <;> rfl
    | no => exact h1.elim
    | own o => exact h1.elim
    | exc c fs => exact h1.elim
theorem pin_start {G H : Hp} : ∀ {args : List Slot} {vs : List V} {σ : St} {Γ : Env} {i : Nat} {a : Addr}, ArgsOk Fc G H args vs → (pinOf args vs)[i]? = some (some a) → (vs.map some ++ σ)[i]? = some (some (V.ref a)) ∧ ∃ o, (args ++ Γ)[i]? = some (Slot.bor o)
  | [], vs, _, _, i, a, _, e => by cases vs <;> simp [pinOf] at e
  | s :: as, _, σ, Γ, i, a, h, e => by
    obtain ⟨v, r, rfl, h1, h2⟩ := h
    cases s with
    | bor o =>
      obtain ⟨b, rfl, g, mr⟩ := h1
      cases i with
      | zero =>
        have e' : some (some b) = some (some a) := e
        cases e'
        exact ⟨rfl, o, rfl⟩
      | succ i =>
        obtain ⟨q1, o', q2⟩ := pin_start (σ := σ) (Γ := Γ) (i := i) h2 (show (pinOf as r)[i]? = some (some a) from e)
        exact ⟨by simpa using q1, o', by simpa using q2⟩
    | val d =>
      have q : pinOf (Slot.val d :: as) (v :: r) = none :: pinOf as r := by cases v <;> rfl
      rw [q] at e
      cases i with
      | zero => cases e
      | succ i =>
        obtain ⟨q1, o', q2⟩ := pin_start (σ := σ) (Γ := Γ) (i := i) h2 (show (pinOf as r)[i]? = some (some a) from e)
        exact ⟨by simpa using q1, o', by simpa using q2⟩
    | no => exact h1.elim
    | own o => exact h1.elim
    | exc c fs => exact h1.elim
theorem pinOf_len {G H : Hp} : ∀ {args : List Slot} {vs : List V}, ArgsOk Fc G H args vs → (pinOf args vs).length = args.length
  | [], vs, _ => by cases vs <;> rfl
  | s :: as, _, h => by
    obtain ⟨v, r, rfl, h1, h2⟩ := h
    have ih := pinOf_len h2
    cases s with
    | bor o =>
      obtain ⟨b, rfl, g, mr⟩ := h1
      show (some b :: pinOf as r).length = _
      rw [List.length_cons, List.length_cons, ih]
    | val d =>
      have q : pinOf (Slot.val d :: as) (v :: r) = none :: pinOf as r := by cases v <;> rfl
      rw [q, List.length_cons, List.length_cons, ih]
    | no => exact h1.elim
    | own o => exact h1.elim
    | exc c fs => exact h1.elim
theorem ok_start {G H : Hp} {args : List Slot} {vs : List V} {N : List Str} (sb : Sub G H) (ha : ArgsOk Fc G H args vs) (nd : (argA args vs).Nodup) : Ok (fxOf Fc G H args vs) G H (L2.start N vs) (startE N.length args) := by
  have hl := ha.len
  have e : L2.start N vs = vs.map some ++ List.replicate (N.length - args.length) none := by unfold L2.start; rw [hl]
  refine ⟨sb, Inc.refl G, fun a o e => .inl e, fun a o e _ => e, fun a m => argA_in ha m, ?_, ?_, fun i a q => ?_, ?_⟩
  · rw [e]; exact slots_start rfl ha (fun a h => h) (slots_rep _)
  · rw [e]; unfold startE; rw [mutA_start ha (mutA_rep _)]; exact nd
  · rw [e]; exact pin_start ha q
  · show (pinOf args vs).length ≤ (startE N.length args).length
    rw [pinOf_len ha]
    unfold startE
    rw [List.length_append]
    omega
/-- what the parameters hold at the end -/
theorem outs_ok {F : Fx} {G H G' H' : Hp} {σ' : St} {Γ' : Env} (hF : F.toCf = Fc) (k : Ok F G' H' σ' Γ') (i0 : Inc G G') : ∀ {args : List Slot} {vs : List V} (n : Nat), ArgsOk Fc G H args vs →
    (∀ (i : Nat) a, (pinOf args vs)[i]? = some (some a) → σ'[n + i]? = some (some (V.ref a)) ∧ ∃ o, Γ'[n + i]? = some (Slot.bor o)) → n + args.length ≤ Γ'.length → ArgsOk Fc G' H' (outsOf args (Γ'.drop n)) vs ∧ shape args (outsOf args (Γ'.drop n))
  | [], vs, n, h, _, _ => by
    have e : outsOf [] (Γ'.drop n) = [] := by cases (Γ'.drop n) <;> rfl
    rw [e]
    exact ⟨h, trivial⟩
  | s :: as, _, n, h, hp, hl => by
    obtain ⟨v, r, rfl, h1, h2⟩ := h
    have hn : n < Γ'.length := by simp at hl; omega
    have ed : Γ'.drop n = Γ'[n] :: Γ'.drop (n + 1) := List.drop_eq_getElem_cons hn
    rw [ed]
    cases s with
    | bor o =>
      obtain ⟨b, rfl, g, mr⟩ := h1
      obtain ⟨q1, o', q2⟩ := hp 0 b rfl
      have q2' : Γ'[n]? = some (.bor o') := by simpa using q2
      have ih := outs_ok hF k i0 (args := as) (vs := r) (n + 1) h2 (fun i a e => by
        have := hp (i + 1) a e
        rw [show n + (i + 1) = n + 1 + i by omega] at this
        exact this) (by simp at hl; omega)
      have eg : Γ'[n] = .bor o' := by
        rw [List.getElem?_eq_getElem hn] at q2'
        exact Option.some.inj q2'
      show ArgsOk Fc G' H' (Γ'[n] :: outsOf as (Γ'.drop (n + 1))) _ ∧ shape (.bor o :: as) (Γ'[n] :: outsOf as (Γ'.drop (n + 1)))
      rw [eg]
      obtain ⟨a', ea, g', mr', _⟩ := k.mut q2' rfl
      have q1' : σ'[n]? = some (some (.ref b)) := by simpa using q1
      rw [q1'] at ea
      cases ea
      exact ⟨⟨.ref b, r, rfl, ⟨b, rfl, g', hF ▸ mr'⟩, ih.1⟩, ⟨o', rfl⟩, ih.2⟩
    | val d =>
      have q : pinOf (Slot.val d :: as) (v :: r) = none :: pinOf as r := by cases v <;> rfl
      rw [q] at hp
      have ih := outs_ok hF k i0 (args := as) (vs := r) (n + 1) h2 (fun i a e => by
        have := hp (i + 1) a e
        rw [show n + (i + 1) = n + 1 + i by omega] at this
        exact this) (by simp at hl; omega)
      show ArgsOk Fc G' H' (Slot.val d :: outsOf as (Γ'.drop (n + 1))) _ ∧ shape (.val d :: as) (Slot.val d :: outsOf as (Γ'.drop (n + 1)))
      exact ⟨⟨v, r, rfl, Rep.inc i0 h1, ih.1⟩, rfl, ih.2⟩
    | no => exact h1.elim
    | own o => exact h1.elim
    | exc c fs => exact h1.elim
theorem post_end {G H G' H' : Hp} {args : List Slot} {vs : List V} {σ' : St} {Γ' : Env} (ha : ArgsOk Fc G H args vs) (k : Ok (fxOf Fc G H args vs) G' H' σ' Γ') :
    Post G H (argA args vs) G' H' ∧ ArgsOk Fc G' H' (outsOf args Γ') vs ∧ shape args (outsOf args Γ') := by
  have hl : args.length ≤ Γ'.length := by
    rw [← pinOf_len ha]
    exact k.pl
  have o := outs_ok (Fc := Fc) (F := fxOf Fc G H args vs) rfl k k.g0 0 ha (fun i a e => by rw [Nat.zero_add]; exact k.pin i a e) (by rw [Nat.zero_add]; exact hl)
  rw [List.drop_zero] at o
  exact ⟨⟨k.sub, k.g0, k.fresh, k.frame⟩, o.1, o.2⟩
end
section
variable {P : Program} {w : World} {mg : Str → Option Value} {base : Heap} {Fc : Cf}
/-- THE RULE for a def: its contract c, its reading r over data, the derivation of its body -/
theorem fnC {c : Ct} {r : QS} {x qual : Str} {params : Arguments} {body : List Stmt} {scope : Scope} {dvs : List V} {kws : List (Str × V)} {f : Addr} {fd : FuncData} {N ps : List Str} {k : Nat} (Fn : FunD Fc.K x qual params body scope dvs kws f fd) (S : FnScope N ps scope)
    (hlen : ∀ args Q E, c args Q E → args.length = ps.length) (hw : ∀ args Q E, c args Q E → r (startE N.length args) (endsC args Q) (exnC args E))
    (hd : ∀ (cdv : Value) (A : Around) (outer : List PySem.Env) (s : Shared) (H : Hp) (E0 : XK), Room k (A.deeper (envOfC qual scope s.heap.objs.size f cdv)) → ∀ (F : Fx) (E : XP), F.toCf = Fc →
      Takes (cxOf (L2.CX P w) P w Fc.K mg base N qual scope f cdv A outer s H E0) (wOf F E) → PassesOwn (model P w) (A.deeper (envOfC qual scope s.heap.objs.size f cdv)) (envOfC qual scope s.heap.objs.size f cdv) (cxOf (L2.CX P w) P w Fc.K mg base N qual scope f cdv A outer s H E0).xe → F.H0 = H →
      LSs (cxOf (L2.CX P w) P w Fc.K mg base N qual scope f cdv A outer s H E0) F E body r) :
    FnOk P w Fc.K mg base (L2.CX P w) (k + 1) f fd ps (spC Fc c) := by
  have pl : ps.length ≤ N.length := by have := congrArg List.length S.pre; rw [List.length_take] at this; omega
  refine Fn.ok S (fun vs H Q E h => ?_) (fun cdv A outer s H vs Q E hr h => ?_)
  · obtain ⟨G, args, sb, ha, nd, Qc, Ec, hc, _⟩ := h
    rw [ha.len]
    exact hlen _ _ _ hc
  · obtain ⟨G, args, sb, ha, nd, Qc, Ec, hc, hq, he⟩ := h
    have al : args.length = ps.length := hlen _ _ _ hc
    have tk0 : Takes (cxOf (L2.CX P w) P w Fc.K mg base N qual scope f cdv A outer s H E) (fun cls d _ H' => E cls d H') := takes_of rfl rfl rfl rfl
    have tk : Takes (cxOf (L2.CX P w) P w Fc.K mg base N qual scope f cdv A outer s H E) (wOf (fxOf Fc G H args vs) (exnC args Ec)) := fun u s' ⟨a, B, sI, pins, σ, H', cls, d, e, I, nb, up, sky, na, os, ag, G', Γ', xx, kk, xr, q⟩ => by
      obtain ⟨p, o1, o2⟩ := post_end ha kk
      exact tk0 u s' ⟨a, B, sI, pins, σ, H', cls, d, e, I, nb, up, sky, na, os, ag, he xx _ cls d H' G' q p o1 o2 xr⟩
    have D := hd cdv A outer s H E hr (fxOf Fc G H args vs) (exnC args Ec) rfl tk PassesOwn.leaving rfl
    refine ⟨fun D' σ H1 => D' = { nx := fun _ H' => Q .non H', rt := Q } ∧ σ = L2.start N vs ∧ H1 = H, ⟨fun pins s1 σ H1 D' I ⟨e1, e2, e3⟩ => ?_⟩, rfl, rfl, rfl⟩
    subst e1; subst e2; subst e3
    refine thn (D.run pins s1 _ H1 G (startE N.length args) (endsC args Qc) I (ok_start sb ha nd) (hw args Qc Ec hc)) fun fl s2 z => ?_
    cases fl with
    | next =>
      obtain ⟨σ', H', I', Γ', G', q, i, kk⟩ := z
      obtain ⟨p, o1, o2⟩ := post_end ha kk
      exact ⟨σ', H', I', hq _ _ .non H' G' q p o1 o2 rfl⟩
    | ret u =>
      obtain ⟨v, σ', H', I', rv, d, Γ', G', σ2, q, i, kk, rp⟩ := z
      obtain ⟨p, o1, o2⟩ := post_end ha kk
      exact ⟨v, σ', H', I', rv, hq _ _ v H' G' q p o1 o2 rp⟩
    | brk =>
      obtain ⟨σ', H', I', Γ', G', q, i, kk⟩ := z
      exact q.elim
    | cont =>
      obtain ⟨σ', H', I', Γ', G', q, i, kk⟩ := z
      exact q.elim
end
end Q
set_option Elab.async false
set_option linter.all false
set_option maxRecDepth 100000
set_option maxHeartbeats 4000000
namespace Q
open PySem L2 PySem.Spec PyProof.Rows
def Back (X : Cx) (pins : List (Addr × Obj)) (σ : St) (Q : VK) : Result → Shared → Prop := fun r s' => match r with
  | .ok (.ret v) => EP X pins σ Q v s'
  | .ok _ => False
  | .error e => X.xe e s'
structure CodeOk (X : Cx) (A : Around) (Fc : Cf) (f : Addr) (n : Nat) (ks : List Str) (c : Ct) : Prop where
  len : ∀ args Q E, c args Q E → args.length = n + ks.length
  run : ∀ (pins : List (Addr × Obj)) (s : Shared) (σ : St) (H : Hp) (vs : List V) (us : List Value) (zs : List V) (ws : List Value) (Q : VK) (W : WX), Takes X W → Inv X pins σ H s → Vals vs us → Vals zs ws → vs.length = n → zs.length = ks.length → spC Fc c (vs ++ zs) H Q (WE W σ) →
    codeAny (model X.prog X.w) A (.call (.ref f) ⟨us, ks.zip ws⟩) (Back X pins σ Q) s
section
variable {X : Cx} {F : Fx} {E : XP} {A : Around} {Fc : Cf}
theorem code_fn {c0 c : Ct} {k n : Nat} {f : Addr} {fd : FuncData} {ps ks : List Str} {g : List Value → List Value → List Value} {gV : List V → List V → List V} (Fn : FnOk X.prog X.w X.K X.mg X.base (L2.CX X.prog X.w) k f fd ps (spC Fc c0)) (hA : A.frames = X.A.frames) (hr : Room k A) (hb : KBn X.K fd ps n ks g gV)
    (hl : ∀ args Q E, c args Q E → args.length = n + ks.length) (hsp : ∀ vs zs H Q E, vs.length = n → zs.length = ks.length → spC Fc c (vs ++ zs) H Q E → spC Fc c0 (gV vs zs) H Q E) : CodeOk X A Fc f n ks c := by
  refine ⟨hl, fun pins s σ H vs us zs ws Q W tk I r rz l1 l2 h => ?_⟩
  have r2 := hb.rel r rz
  refine codeAny_mono (Fn.run A X.stack s H ⟨us, ks.zip ws⟩ (g us ws) (gV vs zs) Q (WE W σ) hr (env0_at hA I) (hb.to s us ws I.kIn (r.length.symm.trans l1) (rz.length.symm.trans l2)) r2 (hsp vs zs H Q _ l1 l2 h)) fun r s' hq => ?_
  cases r with
  | error e => exact passAt tk σ pins H s e s' I hq
  | ok fl =>
    cases fl with
    | ret u => exact I.after hq
    | next => exact False.elim hq
    | brk => exact False.elim hq
    | cont => exact False.elim hq
theorem kbn_all {K : PySem.W.Frag} {fd : FuncData} {ps : List Str} {n : Nat} (hb : Binds K fd ps []) (hn : n = ps.length) : KBn K fd ps n [] (fun us _ => us) (fun vs _ => vs) :=
  ⟨fun s us ws X l1 l2 => by
    have := hb s us X (by rw [List.append_nil, l1, hn])
    rw [List.append_nil] at this
    exact this, fun r _ => r⟩
theorem kbn_dfl {K : PySem.W.Frag} {fd : FuncData} {ps : List Str} {n : Nat} {ds : List Value} {dvs : List V} (hb : Binds K fd ps ds) (hd : Vals dvs ds) (hn : n + dvs.length = ps.length) : KBn K fd ps n [] (fun us _ => us ++ ds) (fun vs _ => vs ++ dvs) :=
  ⟨fun s us ws X l1 l2 => hb s us X (by rw [List.length_append, l1, ← hd.length, hn]), fun r _ => r.append hd⟩
theorem sp_dflt {c : Ct} {dd : List D} {dvs : List V} (hR : ∀ G, Reps Fc G dd dvs) {vs : List V} {H : Hp} {Q : VK} {E : XK} (h : spC Fc (dflt c dd) vs H Q E) : spC Fc c (vs ++ dvs) H Q E := by
  obtain ⟨G, args, sb, ha, nd, Qc, Ec, hc, hq, he⟩ := h
  have hl : vs.length = args.length := ha.len
  refine ⟨G, args ++ dd.map Slot.val, sb, args_app ha (hR G), by rw [argA_app hl]; exact nd, _, _, hc, fun d outs v H' G' q p a sh rp => ?_, fun x outs cls d' H' G' q p a sh rp => ?_⟩
  · rw [argA_app hl] at p
    exact hq d _ v H' G' q p (args_take a hl) (shape_take sh) rp
  · rw [argA_app hl] at p
    exact he x _ cls d' H' G' q p (args_take a hl) (shape_take sh) rp
/-- a def called with all its arguments, by position -/
theorem code_all {c : Ct} {k n : Nat} {f : Addr} {fd : FuncData} {ps : List Str} (Fn : FnOk X.prog X.w X.K X.mg X.base (L2.CX X.prog X.w) k f fd ps (spC Fc c)) (hA : A.frames = X.A.frames) (hr : Room k A) (hb : Binds X.K fd ps []) (hn : n = ps.length) (hl : ∀ args Q E, c args Q E → args.length = n) : CodeOk X A Fc f n [] c :=
  code_fn Fn hA hr (kbn_all hb hn) hl fun vs zs H Q E l1 l2 h => by
    cases zs with
    | nil => rw [List.append_nil] at h; exact h
    | cons _ _ => cases l2
theorem code_dfl {c : Ct} {k n : Nat} {f : Addr} {fd : FuncData} {ps : List Str} {dd : List D} {dvs : List V} {ds : List Value} (Fn : FnOk X.prog X.w X.K X.mg X.base (L2.CX X.prog X.w) k f fd ps (spC Fc c)) (hA : A.frames = X.A.frames) (hr : Room k A) (hb : Binds X.K fd ps ds) (hd : Vals dvs ds) (hR : ∀ G, Reps Fc G dd dvs) (hn : n + dvs.length = ps.length)
    (hl : ∀ args Q E, c args Q E → args.length = n + dd.length) : CodeOk X A Fc f n [] (dflt c dd) :=
  code_fn Fn hA hr (kbn_dfl hb hd hn) (fun args Q E h => by
    have := hl _ _ _ h
    rw [List.length_append, List.length_map] at this
    show args.length = n + 0
    omega) fun vs zs H Q E l1 l2 h => by
    cases zs with
    | nil => rw [List.append_nil] at h; exact sp_dflt hR h
    | cons _ _ => cases l2
/-- what __init__ leaves is the instance -/
def made (c : Cn) (ds : List D) (Q : D → Prop) : Prop := match c with
  | .ratio => ∃ q : Rat, ds = [.int q.num, .int (q.den : Int)] ∧ Q (.rat q)
  | c => Q (.fr (.ins c ds))
def mkC (c : Cn) (ci : Ct) : Ct := fun args Q E => ci (.bor (.ins c []) :: args) (fun d outs => match d, outs with
  | .non, .bor (.ins c' ds) :: outs' => match Nat.beq c'.ix c.ix with
    | true => made c ds fun r => Q r outs'
    | false => False
  | _, _ => False) (fun x outs => E x outs.tail)
theorem ArgsOk.heap {G H H2 : Hp} (hh : ∀ a o, H a = some o → H2 a = some o) : ∀ {as : List Slot} {vs : List V}, ArgsOk Fc G H as vs → ArgsOk Fc G H2 as vs
  | [], _, h => h
  | s :: as, _, h => by
    obtain ⟨v, r, rfl, h1, h2⟩ := h
    refine ⟨v, r, rfl, ?_, ArgsOk.heap hh h2⟩
    cases s with
    | bor o =>
      obtain ⟨a, rfl, g, m⟩ := h1
      obtain ⟨u, e⟩ := m.ex
      exact ⟨a, rfl, g, m.inc (Inc.refl G) ((hh a u e).trans e.symm)⟩
    | _ => exact h1
theorem ArgsOk.inc {G G' H : Hp} (i : Inc G G') : ∀ {as : List Slot} {vs : List V}, (∀ a, a ∈ argA as vs → G' a = none) → ArgsOk Fc G H as vs → ArgsOk Fc G' H as vs
  | [], _, _, h => h
  | s :: as, _, hn, h => by
    obtain ⟨v, r, rfl, h1, h2⟩ := h
    cases s with
    | bor o =>
      obtain ⟨a, rfl, g, m⟩ := h1
      exact ⟨.ref a, r, rfl, ⟨a, rfl, hn a List.mem_cons_self, m.inc i rfl⟩, ArgsOk.inc i (fun b hb => hn b (List.mem_cons_of_mem _ hb)) h2⟩
    | val d =>
      refine ⟨v, r, rfl, Rep.inc i h1, ArgsOk.inc i (fun b hb => hn b ?_) h2⟩
      have q : argA (Slot.val d :: as) (v :: r) = argA as r := by cases v <;> rfl
      rw [q]; exact hb
    | no => exact h1.elim
    | own o => exact h1.elim
    | exc c fs => exact h1.elim
theorem argA_mem0 {G H : Hp} : ∀ {args : List Slot} {vs : List V} {a : Addr}, ArgsOk Fc G H args vs → a ∈ argA args vs → ∃ o, H a = some o ∧ G a = none
  | [], vs, a, _, m => by cases vs <;> simp [argA] at m
  | s :: as, _, a, h, m => by
    obtain ⟨v, r, rfl, h1, h2⟩ := h
    cases s with
    | bor o =>
      obtain ⟨b, rfl, g, mr⟩ := h1
      rcases List.mem_cons.mp (show a ∈ b :: argA as r from m) with e | e
      · subst e; obtain ⟨u, q⟩ := mr.ex; exact ⟨u, q, g⟩
      · exact argA_mem0 h2 e
    | val d =>
      have q : argA (Slot.val d :: as) (v :: r) = argA as r := by cases v <;> rfl
      rw [q] at m
      exact argA_mem0 h2 m
    | no => exact h1.elim
    | own o => exact h1.elim
    | exc c fs => exact h1.elim
theorem argA_shape : ∀ {as outs : List Slot} {vs : List V}, shape as outs → argA outs vs = argA as vs
  | [], [], _, _ => rfl
  | s :: as, t :: outs, [], h => by cases t <;> cases s <;> rfl
  | s :: as, t :: outs, v :: vs, h => by
    cases s with
    | bor o =>
      obtain ⟨⟨o', rfl⟩, h2⟩ := h
      have ih := argA_shape (vs := vs) h2
      cases v with
      | ref a => show a :: argA outs vs = a :: argA as vs; rw [ih]
      | _ => exact ih
    | no => obtain ⟨rfl, h2⟩ := h; have ih := argA_shape (vs := vs) h2; cases v <;> exact ih
    | val d => obtain ⟨rfl, h2⟩ := h; have ih := argA_shape (vs := vs) h2; cases v <;> exact ih
    | own o => obtain ⟨rfl, h2⟩ := h; have ih := argA_shape (vs := vs) h2; cases v <;> exact ih
    | exc c fs => obtain ⟨rfl, h2⟩ := h; have ih := argA_shape (vs := vs) h2; cases v <;> exact ih
  | [], _ :: _, _, h => by cases h
  | s :: _, [], _, h => by cases s <;> cases h
theorem sp_make {c : Cn} {ci : Ct} {vs : List V} {H : Hp} {Q : VK} {E : XK} (h : spC Fc (mkC c ci) vs H Q E) (x dx : Addr) (hx : H x = none) (hdx : H dx = none) (ne : dx ≠ x) :
    spC Fc ci (.ref x :: vs) (upd (upd H dx (.own x)) x (.ins (Fc.cl c) dx [])) (fun v H2 => v = .non ∧ Q (.ref x) H2) E := by
  obtain ⟨G, args, sb, ha, nd, Qc, Ec, hc, hq, he⟩ := h
  have up : ∀ a o, H a = some o → (upd (upd H dx (.own x)) x (.ins (Fc.cl c) dx [])) a = some o := fun a o e => by
    rw [upd_ne (ne_of_none e hx), upd_ne (ne_of_none e hdx)]; exact e
  have dn : ∀ a, (upd (upd H dx (.own x)) x (.ins (Fc.cl c) dx [])) a = none → H a = none := fun a e => by
    cases q : H a with
    | none => rfl
    | some o => rw [up a o q] at e; cases e
  have nx : x ∉ argA args vs := fun m => by
    obtain ⟨o, e⟩ := argA_in ha m
    rw [hx] at e; cases e
  have post : ∀ {G' H' : Hp}, Post G (upd (upd H dx (.own x)) x (.ins (Fc.cl c) dx [])) (x :: argA args vs) G' H' → Post G H (argA args vs) G' H' := fun p => ⟨p.sub, p.inc, fun a o e => (p.fresh a o e).imp id (dn a), fun a o e nb => p.frame a o (up a o e) (fun m => by
    rcases List.mem_cons.mp m with q | q
    · subst q; rw [hx] at e; cases e
    · exact nb q)⟩
  refine ⟨G, .bor (.ins c []) :: args, (sb.off (sb.no hdx) _).off (sb.no hx) _, ⟨.ref x, vs, rfl, ⟨x, rfl, sb.no hx, dx, [], by rw [upd_same, List.zip_nil_right], rfl⟩, ha.heap up⟩, List.nodup_cons.mpr ⟨nx, nd⟩, _, _, hc, fun d outs v H' G' q p a sh rp => ?_, fun y outs cls d' H' G' q p a sh rp => ?_⟩
  · split at q
    · rename_i c' ds outs'
      split at q
      · rename_i ec
        have ec := ix_inj ec
        subst ec
        cases (show v = .non from rp)
        refine ⟨rfl, ?_⟩
        obtain ⟨_, _, e0, ⟨x', ex, gx, dx', vs', hx', rs⟩, aa⟩ := a
        cases e0
        cases ex
        have p' := post p
        by_cases hr : c' = .ratio
        · subst hr
          obtain ⟨qq, eds, q⟩ := q
          subst eds
          obtain ⟨v1, r1, rfl, e1, v2, r2, rfl, e2, e3⟩ := rs
          cases (show v1 = _ from e1)
          cases (show v2 = _ from e2)
          cases (show r2 = [] from e3)
          refine hq _ _ _ H' (upd G' x _) q ⟨fun b u e => ?_, p'.inc.trans (Inc.new gx), fun b u e => ?_, p'.frame⟩ (aa.inc (Inc.new gx) fun b hb => ?_) sh.2 (show Rep _ _ _ _ from ⟨x, dx', rfl, upd_same⟩)
          · by_cases h : b = x
            · subst h
              rw [upd_same] at e
              cases e
              exact .inl hx'
            · rw [upd_ne h] at e
              exact p'.sub b u e
          · by_cases h : b = x
            · subst h
              exact .inr hx
            · rw [upd_ne h] at e
              exact p'.fresh b u e
          · have hb' : b ∈ argA args vs := by rw [← argA_shape sh.2]; exact hb
            have nb : b ≠ x := fun z => nx (z ▸ hb')
            rw [upd_ne nb]
            obtain ⟨_, _, z2⟩ := argA_mem0 aa hb
            exact z2
        · have q' : Qc (.fr (.ins c' ds)) outs' := by
            cases c' <;> first | exact absurd rfl hr | exact q
          exact hq _ _ _ H' G' q' p' aa sh.2 ⟨_, x, rfl, rfl, gx, ⟨dx', vs', hx', rs⟩, hx⟩
      · exact q.elim
    · exact q.elim
  · cases outs with
    | nil => cases sh
    | cons s outs =>
      obtain ⟨_, _, e0, _, aa⟩ := a
      cases e0
      exact he y outs cls d' H' G' q (post p) aa sh.2 rp
theorem code_make {c : Cn} {ci : Ct} {n : Nat} {ks : List Str} {f : Addr} (M : Mk X.K (Fc.cl c) f) (C : ∀ us kw, CodeOk X (A.under (.builtin "type.__call__" ⟨.ref (Fc.cl c) :: us, kw⟩)) Fc f (n + 1) ks ci) : CodeOk X A Fc (Fc.cl c) n ks (mkC c ci) := by
  refine ⟨fun args Q E h => ?_, fun pins s σ H vs us zs ws Q W tk I r rz l1 l2 h => ?_⟩
  · have := (C [] []).len _ _ _ h
    rw [List.length_cons] at this
    omega
  · have hq := sp_make h (s.heap.objs.size + 1) s.heap.objs.size (I.hok.fresh (Nat.le_succ _)) (I.hok.fresh (Nat.le_refl _)) (Nat.ne_of_lt (Nat.lt_succ_self _))
    have I2 := Inv.made (C := Fc.cl c) I
    refine make_map (f := f) I.kIn M.makes M.init (beq_iff_eq.mp M.fn) (codeAny_mono ((C us (ks.zip ws)).run pins _ σ _ (V.ref (s.heap.objs.size + 1) :: vs) (Value.ref (s.heap.objs.size + 1) :: us) zs ws _ W tk I2 (.cons rfl r) rz (by rw [List.length_cons, l1]) l2 hq) fun r s' hq' => ?_)
    cases r with
    | error e => exact hq'
    | ok fl =>
      cases fl with
      | ret u =>
        obtain ⟨v, H', I3, rv, ev, q3⟩ := hq'
        subst ev
        exact ⟨rv, ⟨V.ref (s.heap.objs.size + 1), H', I3, rfl, q3⟩⟩
      | next => exact False.elim hq'
      | brk => exact False.elim hq'
      | cont => exact False.elim hq'
variable {a o : Expr} {es : List Expr} {kws : List Keyword} {ks : List Str} {pa : QE} {pr : QA} {ph : QH} {pos p0 apos kpos : Pos} {nm : Option Str}
structure LC (X : Cx) (F : Fx) (E : XP) (args : List Expr) (kws : List Keyword) (ks : List Str) (p : QH) : Prop where
  run : ∀ (pos : Pos) (f : Value) (first : List Value) (pins : List (Addr × Obj)) (s : Shared) (σ : St) (H G : Hp) (Γ : Env) (Q : List Hd → Env → Prop) (R : Value → Shared → Prop), PySem.W.keepIn X.K f = true → Inv X pins σ H s → Ok F G H σ Γ → p Γ Q E →
    (∀ us ws vs zs s' H' hs Γ' G', Inv X pins σ H' s' → Vals vs us → Vals zs ws → zs.length = ks.length → Q hs Γ' → Inc G G' → Ok F G' H' σ Γ' → HdsOk F G' σ hs (vs ++ zs) → wpAny (model X.prog X.w) X.A (call f (first ++ us) (ks.zip ws)) R X.xe s') →
    wpAny (model X.prog X.w) X.A (callWith pos f first (backTo pos (starEach args X.env)) (backToKw pos (keywordEach kws X.env))) R X.xe s
theorem hds_vals {G : Hp} {σ : St} : ∀ {ds : List D} {vs : List V}, Reps F.toCf G ds vs → HdsOk F G σ (ds.map Hd.val) vs
  | [], _, h => h
  | _ :: _, _, h => by
    obtain ⟨v, r, rfl, a, b⟩ := h
    exact ⟨v, r, rfl, a, hds_vals b⟩
theorem lc_0 : LC X F E [] [] [] qhNil := ⟨fun pos f first pins s σ H G Γ Q R hk I k h c => by
  refine PySem.W.callWith_K0 I.kIn hk (c [] [] [] [] s H [] Γ G I .nil .nil rfl h (Inc.refl G) k rfl)⟩
theorem lc_p (ha : LH X F E (a :: es) ph) (he : starEach (a :: es) X.env = (false, eval a X.env) :: starEach es X.env := by rfl) (hpl : ∀ pos, (backTo pos (starEach es X.env)).any (·.1) = false := by intro _; rfl) : LC X F E (a :: es) [] [] ph := ⟨fun pos f first pins s σ H G Γ Q R hk I k h c => by
  refine PySem.W.callWith_K (h₀ := X.base) I.ok.mod.kin hk (thn (ha.run pos pins s σ H G Γ _ I k h) fun us s1 ⟨vs, H1, I1, r, hs, Γ1, G1, q1, i1, k1, hh⟩ => ⟨I1.kIn, ?_⟩) he (hpl pos)
  exact c us [] vs [] s1 H1 hs Γ1 G1 I1 r .nil rfl q1 i1 k1 (by rw [List.append_nil]; exact hh)⟩
theorem hds_len {G : Hp} {σ : St} : ∀ {hs : List Hd} {vs : List V}, HdsOk F G σ hs vs → vs.length = hs.length
  | [], _, h => by cases (show _ = [] from h); rfl
  | _ :: _, _, h => by
    obtain ⟨v, r, rfl, a, b⟩ := h
    rw [List.length_cons, List.length_cons, hds_len b]
theorem argsOf_len {Γ : Env} : ∀ {hs : List Hd}, (argsOf Γ hs).length = hs.length
  | [] => rfl
  | h :: hs => by
    show (h.arg Γ :: argsOf Γ hs).length = _
    rw [List.length_cons, List.length_cons, argsOf_len]
/-- the contract at the caller, its length -/
theorem call_len {c : Ct} {hs : List Hd} {Γ : Env} {n : Nat} {Q : D → Env → Prop} (hl : ∀ args Q E, c args Q E → args.length = n)
    (h : match ndb (ixs hs) && hmut Γ hs with
      | true => c (argsOf Γ hs) (fun d outs => Q (unfr d) (updS Γ hs outs)) (fun x outs => E x (updS Γ hs outs))
      | false => False) : hs.length = n := by
  split at h
  · rw [← argsOf_len (Γ := Γ)]; exact hl _ _ _ h
  · exact h.elim
theorem back_call {pins : List (Addr × Obj)} {σ : St} {Q : VK} {f : Value} {us : List Value} {kw : List (Str × Value)} {s : Shared} (h : codeAny (model X.prog X.w) A (.call f ⟨us, kw⟩) (Back X pins σ Q) s) : wpAny (model X.prog X.w) A (call f us kw) (EP X pins σ Q) X.xe s := wpAny_call (codeAny_mono h fun r s' hq => by
  cases r with
  | error e => exact hq
  | ok fl =>
    cases fl with
    | ret u => exact hq
    | next => exact False.elim hq
    | brk => exact False.elim hq
    | cont => exact False.elim hq)
theorem le_callC {c : Ct} {fa : Addr} {n : Nat} {x : Str} {args : List Expr} (C : CodeOk X X.A F.toCf fa n ks c) (hm : X.mg x = some (.ref fa)) (hk : PySem.W.keepIn X.K (.ref fa) = true) (tk : Takes X (wOf F E)) (ha : LC X F E args kws ks ph) (hg : Gl X x := by rfl)
    (hdb : (x == ("__debug__" : Str)) = false := by decide) : LE X F E (.Call (.Name x p0) args kws pos) (qCall c ph) := by
  refine ⟨fun pins s σ H G Γ Q I k h => ?_⟩
  refine wpAny_Call_Name_kw (ld_glob I hg hm ?_ hdb)
  refine ha.run pos _ [] pins s σ H G Γ _ _ hk I k h fun us ws vs zs s' H' hs Γ' G' I' r rz l q i k' hh => ?_
  have hl := call_len C.len q
  have hv := hds_len hh
  rw [List.length_append] at hv
  exact thn (back_call (C.run pins s' σ H' vs us zs ws _ _ tk I' r rz (by omega) l (sp_call k' hh q))) fun u s2 z => ep_inc i (ep_lock z)
abbrev QR := Env → (Hd → Env → Prop) → XP → Prop
structure LR (X : Cx) (F : Fx) (E : XP) (o : Expr) (c : Cn) (m : Str) (p : QR) : Prop where
  run : ∀ (pins : List (Addr × Obj)) (s : Shared) (σ : St) (H G : Hp) (Γ : Env) (Q : Hd → Env → Prop), Inv X pins σ H s → Ok F G H σ Γ → p Γ Q E →
    wpAny (model X.prog X.w) X.A (eval o X.env) (fun u s' => ∃ a H', Inv X pins σ H' s' ∧ u = .ref a ∧ ∃ hd Γ' G', Q hd Γ' ∧ Inc G G' ∧ Ok F G' H' σ Γ' ∧ HdOk F G' σ hd (.ref a) ∧ ∃ dx fs, H' a = some (.ins (F.cl c) dx fs) ∧ fs.lookup m = none) X.xe s
def isC (c : Cn) : D → Bool
  | .rat _ => Nat.beq Cn.ratio.ix c.ix
  | .ins c' _ => Nat.beq c'.ix c.ix
  | _ => false
def qrVal (c : Cn) (pa : QE) : QR := fun Γ Q E => pa Γ (fun d Γ1 => match isC c d with
  | true => Q (.val d) Γ1
  | false => False) E
theorem zip_no {N : List Str} {vs : List V} {m : Str} (h : m ∉ N) : (N.zip vs).lookup m = none := by
  induction N generalizing vs with
  | nil => simp
  | cons n N ih =>
    cases vs with
    | nil => simp
    | cons v vs =>
      have h1 : (m == n) = false := by rw [beq_eq_false_iff_ne]; exact fun e => h (e ▸ List.mem_cons_self)
      rw [List.zip_cons_cons]
      simp only [List.lookup, h1]
      exact ih fun z => h (List.mem_cons_of_mem _ z)
theorem isC_at {c : Cn} {d : D} {G H : Hp} {v : V} {m : Str} (hm : m ∉ c.fields) (s : Sub G H) (hc : isC c d = true) (r : Rep Fc G d v) : ∃ a dx fs, v = .ref a ∧ H a = some (.ins (Fc.cl c) dx fs) ∧ fs.lookup m = none := by
  cases d with
  | rat q =>
    have e := ix_inj hc
    subst e
    obtain ⟨a, dx, rfl, g⟩ := r
    refine ⟨a, dx, _, rfl, s.i g, ?_⟩
    exact zip_no (N := Cn.ratio.fields) (vs := [.int q.num, .int (q.den : Int)]) hm
  | ins c' ds =>
    have e := ix_inj hc
    subst e
    obtain ⟨a, dx, vs, rfl, g, _⟩ := r
    exact ⟨a, dx, _, rfl, s.i g, zip_no hm⟩
  | _ => cases hc
theorem lr_val {c : Cn} {m : Str} (ha : LE X F E o pa) (hm : m ∉ c.fields := by decide +kernel) : LR X F E o c m (qrVal c pa) := ⟨fun pins s σ H G Γ Q I k h =>
  thn (ha.run pins s σ H G Γ _ I k h) fun u s1 ⟨x, H1, I1, r1, d, Γ1, G1, q1, i1, k1, rp1⟩ => by
    dsimp only at q1
    split at q1
    · rename_i hc
      obtain ⟨a, dx, fs, rfl, e1, e2⟩ := isC_at (Fc := F.toCf) hm k1.sub hc rp1
      exact ⟨a, H1, I1, r1, .val d, Γ1, G1, q1, i1, k1, rp1, dx, fs, e1, e2⟩
    · exact q1.elim⟩
def qMeth (c : Ct) (pr : QR) (p : QH) : QE := fun Γ Q E => pr Γ (fun h Γ0 => p Γ0 (fun hs Γ1 => match ndb (ixs (h :: hs)) && hmut Γ1 (h :: hs) with
  | true => c (argsOf Γ1 (h :: hs)) (fun d outs => Q (unfr d) (updS Γ1 (h :: hs) outs)) (fun x outs => E x (updS Γ1 (h :: hs) outs))
  | false => False) E) E
theorem le_methC {c : Ct} {cn : Cn} {m : Str} {fa : Addr} {n : Nat} {args : List Expr} {pr : QR} {pl : Sem Bool} (C : CodeOk X X.A F.toCf fa (n + 1) ks c) (hK : F.K = X.K) (T : Kl F.toCf cn) (hm : Meth F.K (F.cl cn) m fa) (tk : Takes X (wOf F E)) (ho : LR X F E o cn m pr) (ha : LC X F E args kws ks ph)
    (ht : eval (.Call (.Attribute o m apos) args kws pos) X.env = (do
      let ov ← eval o X.env
      standAt apos.atName
      let (f, first) ← holding [ov] (getMethod ov m pl)
      callWith pos f first (backTo pos (starEach args X.env)) (backToKw pos (keywordEach kws X.env))) := by rfl) : LE X F E (.Call (.Attribute o m apos) args kws pos) (qMeth c pr ph) := by
  refine ⟨fun pins s σ H G Γ Q I k h => ?_⟩
  refine PySem.W.methodCall_KW (pl := pl) (thn (ho.run pins s σ H G Γ _ I k h) fun u s1 ⟨b, H1, I1, eu, hd, Γ1, G1, q1, i1, k1, ho1, dx, fs, e1, e2⟩ => ?_) ht
  subst eu
  refine getmeth_ok I1 e1 (hK ▸ T.cls) (hK ▸ hm) e2 ?_
  refine ha.run pos _ [.ref b] pins s1 σ H1 G1 Γ1 _ _ (by rw [← hK]; exact hm.kp) I1 k1 q1 fun us ws vs zs s' H' hs Γ' G' I' r rz l q i k' hh => ?_
  have hl := call_len (hs := hd :: hs) C.len q
  have hv := hds_len hh
  rw [List.length_append] at hv
  rw [List.length_cons] at hl
  have hh' : HdsOk F G' σ (hd :: hs) ((.ref b :: vs) ++ zs) := ⟨.ref b, vs ++ zs, rfl, ho1.inc i, hh⟩
  exact thn (back_call (C.run pins s' σ H' (.ref b :: vs) (.ref b :: us) zs ws _ _ tk I' (.cons rfl r) rz (by rw [List.length_cons]; omega) l (sp_call k' hh' q))) fun u s2 z => ep_inc (i1.trans i) (ep_lock z)
end
end Q
set_option Elab.async false
set_option linter.all false
set_option maxRecDepth 100000
set_option maxHeartbeats 4000000
namespace PySem.W
open PySem PySem.Calls PyProof.Rows
section
variable {prog : Program} {w : World} {A : Around} {E : Value → Shared → Prop} {s : Shared} {K : Frag} {x C f : Addr} {b tb : Value} {ox : Obj} {od : Option Obj} {L : Addr} {h₀ : Heap} {m : Str → Option Value}
theorem q_objNe {Q : Fin → Shared → Prop} (hu : A.units < cLine) (X : K.In s.heap) (I : InstAt s.heap x ox C od) (hs : findIn K (.ref C) "__eq__" = some (some (.ref f))) (hf : isFn K (.ref f) = true)
    (h : wpAny (model prog w) A (call (.ref f) [.ref x, b]) (fun r s' => ∃ c, r = .bool c ∧ Q (.done (.ret (.bool (!c)))) s') E s) : wpAny (model prog w) A (Builtin.«object.__ne__» ⟨[.ref x, b], []⟩) Q E s := by
  obtain ⟨hh, g, d, t, os⟩ := s
  unfold Builtin.«object.__ne__»
  repeat (first
    | with_reducible refine wpAny_cRoomFor hu ?_
    | (refine wpAny_bind (m := callSpecialIfBound? (.ref x) (Str.ofString "__eq__") [b])
        (ifBound_K X I hs hf (wpAny_mono h (fun r s' hr => by
          obtain ⟨b, rfl, hq⟩ := hr
          repeat (first | exact hq | exact wpAny_pure hq | exact wpAny_truthy_bool hq | (refine wpAny_bind (m := truthy (.bool _)) (wpAny_truthy_bool ?_)) | wp_step)) fun _ _ e => e)))
    | wp_step)
theorem q_ne_K {Q : Value → Shared → Prop} (hu : A.units + 1 < cLine) (F : Fr h₀ L s.heap m) (X₀ : K.In h₀) (I : InstAt s.heap x ox C od) (hb : Looks (model prog w) s.heap (typeOf b) tb) (hn : notFirst K C tb = true)
    (hne : findIn K (.ref C) "__ne__" = some (some (.builtin "object.__ne__"))) (hob : mroIn K C (.type "object") = some true) (hs : findIn K (.ref C) "__eq__" = some (some (.ref f))) (hf : isFn K (.ref f) = true)
    (h : wpAny (model prog w) A.in1 (call (.ref f) [.ref x, b]) (fun r s' => ∃ c, r = .bool c ∧ Q (.bool (!c)) s') E s) : wpAny (model prog w) A (richCompare .NotEq (.ref x) b) Q E s := by
  have X := X₀.keeps F.keep
  have hu0 : A.units < cLine := Nat.lt_of_succ_lt hu
  have Ls : Looks (model prog w) s.heap (isInstance (.ref x) (.type "object")) true := I.type.andThen (looks_mroIn X hob)
  have fin : ∀ {R : Option Value → Shared → Prop}, (∀ c s', Q (.bool (!c)) s' → R (some (.bool (!c))) s') → wpAny (model prog w) A (call (.builtin "object.__ne__") ([.ref x] ++ [b]) >>= fun v => pure (some v)) R E s := fun hR =>
    wpAny_bind (wpAny_call (codeAny_call_builtin PySem.F.cmp_object.ne.plain PySem.F.cmpEntry_ne (check_slot PySem.F.cmpKind_ne PySem.F.cmpSplit_ne Ls (PySem.F.cmpArgs_ne _ _)
      (q_objNe (A := A.in1) hu X I hs hf (wpAny_mono h (fun v s' ⟨c, e, q⟩ => ⟨c, e, wpAny_pure (hR c s' q)⟩) fun _ _ e => e)))))
  have one : wpAny (model prog w) A (tryCompare (.ref x) "__ne__" b) (fun r s' => ∃ v, r = some v ∧ Q v s') E s := by
    unfold tryCompare
    refine wpAny_bind ?_
    simp only [callSpecialIfBound?, bindSpecialIfBound?]
    refine wpAny_holding (wpAny_bind (wpAny_bind (wpAny_bind (I.type.here ((looks_findIn X hne).here ?_)))))
    refine wpAny_bind (wpAny_askSetting (wpAny_ite ?_))
    have hbd := PySem.F.cmp_object.ne.bind (.ref x)
    split
    · rw [hbd]
      exact wpAny_bind (wpAny_pure (wpAny_pure (fin fun c s' q => wpAny_pure ⟨_, rfl, q⟩)))
    · rw [hbd]
      exact wpAny_tryCatch (wpAny_bind (wpAny_pure (wpAny_pure (fin fun c s' q => wpAny_pure ⟨_, rfl, q⟩))))
  unfold richCompare
  simp only [oneThing_ref]
  refine wpAny_holding (wpAny_bind (wpAny_cRoomFor hu0 ?_))
  refine wpAny_bind (I.type.here (wpAny_bind (hb.here ?_)))
  split
  · rename_i q
    have e : subIn K tb (.ref C) = some false := by
      rcases Bool.or_eq_true_iff.mp hn with e | e
      · rw [beq_iff_eq.mp e] at q; simp at q
      · exact beq_iff_eq.mp e
    refine wpAny_bind ((looks_subIn X e).here ?_)
    simp only [Bool.false_eq_true, if_false]
    refine wpAny_bind (wpAny_mono one (fun r s' z => ?_) fun _ _ e => e)
    obtain ⟨v, rfl, hq⟩ := z
    exact wpAny_pure hq
  · refine wpAny_bind (wpAny_pure ?_)
    simp only [Bool.false_eq_true, if_false]
    refine wpAny_bind (wpAny_mono one (fun r s' z => ?_) fun _ _ e => e)
    obtain ⟨v, rfl, hq⟩ := z
    exact wpAny_pure hq
end
end PySem.W
set_option Elab.async false
set_option linter.all false
set_option maxRecDepth 100000
set_option maxHeartbeats 4000000
namespace Q
open PySem L2 PySem.Spec PyProof.Rows
open SlX (SIsi cmpback)
inductive TyD (F : Cf) : D → Value → Prop where
  | non : TyD F .non (.type "NoneType")
  | bl (b : Bool) : TyD F (.bl b) (.type "bool")
  | int (i : Int) : TyD F (.int i) (.type "int")
  | str (x : Str) : TyD F (.str x) (.type "str")
  | lst (xs : List D) : TyD F (.lst xs) (.type "list")
  | tup (xs : List D) : TyD F (.tup xs) (.type "tuple")
  | dic (xs : List (Key × D)) : TyD F (.dic xs) (.type "dict")
  | own {d : D} {c : Cn} (h : isC c d = true) (k : Cls F.K (F.cl c)) (i : SIsi F.K (F.cl c)) : TyD F d (.ref (F.cl c))
theorem isC_of {F : Cf} {G H : Hp} {c : Cn} {d : D} {v : V} (s : Sub G H) (hc : isC c d = true) (r : Rep F G d v) : ∃ a dx fs, v = .ref a ∧ H a = some (.ins (F.cl c) dx fs) := by
  cases d with
  | rat q => have e := ix_inj hc; subst e; obtain ⟨a, dx, rfl, g⟩ := r; exact ⟨a, dx, _, rfl, s.i g⟩
  | ins c' ds => have e := ix_inj hc; subst e; obtain ⟨a, dx, vs, rfl, g, _⟩ := r; exact ⟨a, dx, _, rfl, s.i g⟩
  | _ => cases hc
theorem TyD.x {F : Cf} {G H : Hp} {d : D} {t : Value} {v : V} (s : Sub G H) (ty : TyD F d t) (r : Rep F G d v) : TyX F.K H v t := by
  cases ty with
  | non => cases (show v = .non from r); exact .base .non
  | bl b => cases (show v = .bl b from r); exact .base (.bl b)
  | int b => cases (show v = .int b from r); exact .base (.int b)
  | str b => cases (show v = .str b from r); exact .base (.str b)
  | lst xs => obtain ⟨a, vs, rfl, g, _⟩ := r; exact .base (.lst (s.m g))
  | tup xs =>
    obtain ⟨a, vs, rfl, g, _⟩ := r
    rcases s.t g with (h | ⟨o, h⟩) | ⟨o, its, n, hk, hc, _⟩
    · exact .base (.tup h)
    · exact .fTuple h
    · exact .kTuple hk hc
  | dic xs =>
    obtain ⟨a, ob, vs, rfl, g, _⟩ := r
    rcases s _ _ g with h | ⟨z, o, h⟩
    · exact .fDict h
    · cases z
  | own h k i =>
    obtain ⟨a, dx, fs, rfl, e⟩ := isC_of s h r
    exact .base (.ins e k i.ca i.cn i.ct i.cm)
section
variable {X : Cx} {F : Fx} {E : XP} {a b o : Expr} {es : List Expr} {pa pb : QE} {pr : QA} {pos p0 : Pos}
theorem looks_ty {pins : List (Addr × Obj)} {σ : St} {G H : Hp} {s : Shared} {Γ : Env} {d : D} {t : Value} {v : V} {u : Value} (hK : F.K = X.K) (I : Inv X pins σ H s) (k : Ok F G H σ Γ) (ty : TyD F.toCf d t) (r : Rep F.toCf G d v) (ru : RelV v u) (M : Model) : PySem.W.Looks M s.heap (typeOf u) t := by
  obtain ⟨P, Z, p, _⟩ := kit_of I ru (hK ▸ ty.x k.sub r)
  exact Z.ty M s.heap I.kIn p
structure IsaT where
  non : Bool := false
  bl : Bool := false
  int : Bool := false
  str : Bool := false
  lst : Bool := false
  tup : Bool := false
  dic : Bool := false
  own : List (Cn × Bool) := []
def lookC : List (Cn × Bool) → Cn → Option Bool
  | [], _ => none
  | (c, b) :: r, x => match Nat.beq c.ix x.ix with
    | true => some b
    | false => lookC r x
def IsaT.ans (t : IsaT) : D → Option Bool
  | .non => some t.non
  | .bl _ => some t.bl
  | .int _ => some t.int
  | .str _ => some t.str
  | .lst _ => some t.lst
  | .tup _ => some t.tup
  | .dic _ => some t.dic
  | .rat _ => lookC t.own .ratio
  | .ins c _ => lookC t.own c
  | _ => none
structure IsaOk (F : Cf) (us : List Value) (t : IsaT) : Prop where
  non : PySem.W.kitAny F.K (.type "NoneType") us = some t.non
  bl : PySem.W.kitAny F.K (.type "bool") us = some t.bl
  int : PySem.W.kitAny F.K (.type "int") us = some t.int
  str : PySem.W.kitAny F.K (.type "str") us = some t.str
  lst : PySem.W.kitAny F.K (.type "list") us = some t.lst
  tup : PySem.W.kitAny F.K (.type "tuple") us = some t.tup
  dic : PySem.W.kitAny F.K (.type "dict") us = some t.dic
  own : ∀ p ∈ t.own, PySem.W.kitAny F.K (.ref (F.cl p.1)) us = some p.2 ∧ Cls F.K (F.cl p.1) ∧ SIsi F.K (F.cl p.1)
theorem lookC_mem : ∀ {l : List (Cn × Bool)} {x : Cn} {b : Bool}, lookC l x = some b → (x, b) ∈ l
  | [], _, _, h => by cases h
  | (c, b) :: r, x, b', h => by
    unfold lookC at h
    split at h
    · rename_i e
      cases h
      rw [ix_inj e]
      exact List.mem_cons_self
    · exact List.mem_cons_of_mem _ (lookC_mem h)
theorem beq_ix (c : Cn) : Nat.beq c.ix c.ix = true := Nat.beq_refl _
theorem IsaOk.get {Fc : Cf} {us : List Value} {t : IsaT} (h : IsaOk Fc us t) {d : D} {b : Bool} (e : t.ans d = some b) : ∃ ty, TyD Fc d ty ∧ PySem.W.kitAny Fc.K ty us = some b := by
  cases d with
  | non => cases e; exact ⟨_, .non, h.non⟩
  | bl x => cases e; exact ⟨_, .bl x, h.bl⟩
  | int x => cases e; exact ⟨_, .int x, h.int⟩
  | str x => cases e; exact ⟨_, .str x, h.str⟩
  | lst x => cases e; exact ⟨_, .lst x, h.lst⟩
  | tup x => cases e; exact ⟨_, .tup x, h.tup⟩
  | dic x => cases e; exact ⟨_, .dic x, h.dic⟩
  | rat q => obtain ⟨a, b, c⟩ := h.own _ (lookC_mem e); exact ⟨_, .own (beq_ix _) b c, a⟩
  | ins c x => obtain ⟨a, b, c⟩ := h.own _ (lookC_mem e); exact ⟨_, .own (beq_ix _) b c, a⟩
  | _ => cases e
def oIsa (t : IsaT) : O1 := fun d Γ Q _ => match t.ans d with
  | some b => Q (.bl b) Γ
  | none => False
theorem kitAny_one {K : PySem.W.Frag} {t c : Value} {b : Bool} (h : PySem.W.kitAny K t [c] = some b) : PySem.W.kitOne K t c = some b := by
  unfold PySem.W.kitAny at h
  split at h
  · rename_i e; cases h; exact e
  · rename_i e; cases h; exact e
  · cases h
/-- isinstance(a, c), c a class -/
theorem le_isi {ce : Expr} {cv : V} {cu : Value} {t : IsaT} (T : IsaOk F.toCf [cu] t) (hK : F.K = X.K) (hc : PE X ce (tC cv)) (hcv : ClsV cv cu) (ha : LE X F E a pa) (hm : X.mg "isinstance" = none) (hg : Gl X "isinstance" := by rfl)
    (hv : bootBuiltins "isinstance" = some (.builtin "isinstance") := by rfl) (he : starEach [a, ce] X.env = (false, eval a X.env) :: starEach [ce] X.env := by rfl) (he2 : starEach [ce] X.env = (false, eval ce X.env) :: starEach [] X.env := by rfl) (hpl : (backTo pos (starEach [ce] X.env)).any (·.1) = false := by rfl) :
    LE X F E (.Call (.Name "isinstance" p0) [a, ce] [] pos) (qUn (oIsa t) pa) :=
  LE.of (pe_callB (call_isi (X := X)) hg hm hv (pa_cons ha.pe (pa_cons hc pa_nil he2) he) (by decide) (by decide) he hpl) fun σ H G Γ Q k q => ⟨G, Γ, _, k, q, fun w H' ⟨d, Γ', G', q', i, k', r⟩ => by
    dsimp only [oIsa] at q'
    split at q'
    · rename_i b e
      obtain ⟨ty, h1, h2⟩ := T.get e
      exact ⟨w, cv, ty, cu, b, rfl, hcv, hK ▸ h1.x k'.sub r, by rw [← hK]; exact kitAny_one h2, fin_inc i (fin0 k' q' rfl)⟩
    · exact q'.elim⟩
theorem updS_vals {Γ : Env} : ∀ {ds : List D} {outs : List Slot}, updS Γ (ds.map Hd.val) outs = Γ
  | [], outs => by cases outs <;> rfl
  | _ :: _, [] => rfl
  | d :: ds, _ :: outs => updS_vals (ds := ds) (outs := outs)
theorem argsOf_vals {Γ : Env} : ∀ {ds : List D}, argsOf Γ (ds.map Hd.val) = ds.map Slot.val
  | [] => rfl
  | d :: ds => congrArg (Slot.val d :: ·) argsOf_vals
theorem ixs_vals : ∀ {ds : List D}, ixs (ds.map Hd.val) = []
  | [] => rfl
  | d :: ds => ixs_vals (ds := ds)
theorem hmut_vals {Γ : Env} : ∀ {ds : List D}, hmut Γ (ds.map Hd.val) = true
  | [] => rfl
  | d :: ds => hmut_vals (ds := ds)
theorem sp_vals {c : Ct} {ds : List D} {vs : List V} {Γ : Env} {σ : St} {G H : Hp} {Q : D → Env → Prop} (k : Ok F G H σ Γ) (r : Reps F.toCf G ds vs) (h : c (ds.map Slot.val) (fun r _ => Q (unfr r) Γ) (fun x _ => E x Γ)) : spC F.toCf c vs H (FinL F G σ Q) (WE (wOf F E) σ) := by
  refine sp_call (hs := ds.map Hd.val) k (hds_vals r) ?_
  rw [ixs_vals, hmut_vals, argsOf_vals]
  simp only [updS_vals]
  exact h
/-- a def of two data runs below the running body -/
theorem run2 {c : Ct} {A : Around} {f : Addr} {pins : List (Addr × Obj)} {s : Shared} {σ : St} {G H : Hp} {Γ : Env} {x y : V} {v u : Value} {d e : D} {Q : D → Env → Prop} (C : CodeOk X A F.toCf f 2 [] c) (tk : Takes X (wOf F E)) (I : Inv X pins σ H s) (k : Ok F G H σ Γ) (rv : RelV x v) (ru : RelV y u) (rx : Rep F.toCf G d x) (ry : Rep F.toCf G e y)
    (h : c [.val d, .val e] (fun r _ => Q (unfr r) Γ) (fun x _ => E x Γ)) : wpAny (model X.prog X.w) A (call (.ref f) [v, u]) (EP X pins σ (Fin F G σ Q)) X.xe s :=
  thn (back_call (C.run pins s σ H [x, y] [v, u] [] [] _ _ tk I (.cons rv (.cons ru .nil)) .nil rfl rfl (sp_vals (ds := [d, e]) k ⟨x, [y], rfl, rx, y, [], rfl, ry, rfl⟩ h))) fun _ _ z => ep_lock z
theorem run1 {c : Ct} {A : Around} {f : Addr} {pins : List (Addr × Obj)} {s : Shared} {σ : St} {G H : Hp} {Γ : Env} {x : V} {v : Value} {d : D} {Q : D → Env → Prop} (C : CodeOk X A F.toCf f 1 [] c) (tk : Takes X (wOf F E)) (I : Inv X pins σ H s) (k : Ok F G H σ Γ) (rv : RelV x v) (rx : Rep F.toCf G d x)
    (h : c [.val d] (fun r _ => Q (unfr r) Γ) (fun x _ => E x Γ)) : wpAny (model X.prog X.w) A (call (.ref f) [v]) (EP X pins σ (Fin F G σ Q)) X.xe s :=
  thn (back_call (C.run pins s σ H [x] [v] [] [] _ _ tk I (.cons rv .nil) .nil rfl rfl (sp_vals (ds := [d]) k ⟨x, [], rfl, rx, rfl⟩ h))) fun _ _ z => ep_lock z
structure OwnOp (K : PySem.W.Frag) (C : Addr) (op : Operator) (f : Addr) : Prop where
  first : PySem.W.selfFirst K C = true
  at_ : PySem.W.findIn K (.ref C) (PySem.dunder op.info.2) = some (some (.ref f))
  fn : PySem.W.isFn K (.ref f) = true
/-- .. with a built-in on the right -/
structure OwnOpT (K : PySem.W.Frag) (C : Addr) (op : Operator) (T : String) : Prop where
  ex : ∃ fo ro rc, PySem.W.findIn K (.ref C) (dunderR op.info.2) = some rc ∧ (rc = none ∨ ∃ g : Addr, rc = some (.ref g)) ∧ PySem.W.findIn K (.type T) (PySem.dunder op.info.2) = some fo ∧ PySem.W.findIn K (.type T) (dunderR op.info.2) = some ro ∧ PySem.W.subIn K (.type T) (.ref C) = some false
def oOwn (c : Cn) (ct : Ct) : O2 := fun d e Γ Q E => match isC c d with
  | true => ct [.val d, .val e] (fun r _ => Q (unfr r) Γ) (fun x _ => E x Γ)
  | false => False
/-- the right operand: one of the same class, or an int -/
def sameOrInt (c : Cn) : D → Bool
  | .int _ => true
  | d => isC c d
def oOwnR (c : Cn) (ct : Ct) : O2 := fun d e Γ Q E => match sameOrInt c e with
  | true => oOwn c ct d e Γ Q E
  | false => False
theorem inst_of {pins : List (Addr × Obj)} {σ : St} {G H : Hp} {s : Shared} {Γ : Env} {c : Cn} {d : D} {x : V} {v : Value} (I : Inv X pins σ H s) (k : Ok F G H σ Γ) (hc : isC c d = true) (r : Rep F.toCf G d x) (rv : RelV x v) : ∃ a ox od, v = .ref a ∧ PySem.W.InstAt s.heap a ox (F.cl c) od := by
  obtain ⟨a, dx, fs, rfl, e⟩ := isC_of k.sub hc r
  cases (show v = Value.ref a from rv)
  obtain ⟨mA, O, _⟩ := ins_get I.hok e
  obtain ⟨od, J, _⟩ := O.look
  exact ⟨a, _, _, rfl, J⟩
theorem back_cmp {A : Around} {pins : List (Addr × Obj)} {σ : St} {Q : VK} {t : Sem Value} {s : Shared} (h : wpAny (model X.prog X.w) A t (EP X pins σ Q) X.xe s) : wpAny (model X.prog X.w) A t (PySem.W.CmpBack (EP X pins σ Q)) X.xe s :=
  wpAny_mono h (fun w s' z => by
    obtain ⟨z', H', I', rz, qz⟩ := z
    exact cmpback rz ⟨z', H', I', rz, qz⟩) fun _ _ x => x
theorem ol_own {c : Cn} {ct : Ct} {op : Operator} {f : Addr} (hK : F.K = X.K) (o1 : OwnOp F.K (F.cl c) op f) (o2 : OwnOpT F.K (F.cl c) op "int") (C : CodeOk X X.A F.toCf f 2 [] ct) (tk : Takes X (wOf F E)) : OpL X F E (binaryOp op) (oOwnR c ct) := by
  intro pins s σ H G Γ x y v u d e Q I k rv ru rx ry q
  unfold oOwnR at q
  split at q
  · rename_i he
    unfold oOwn at q
    split at q
    · rename_i hd
      obtain ⟨a, ox, od, rfl, J⟩ := inst_of I k hd rx rv
      obtain ⟨m, hF⟩ := I.fr
      have h := run2 C tk I k rv ru rx ry q
      have h' := back_cmp h
      by_cases hi : ∃ i, e = .int i
      · obtain ⟨i, rfl⟩ := hi
        obtain ⟨fo, ro, rc, h1, h2, h3, h4, h5⟩ := o2.ex
        cases (show y = .int i from ry)
        obtain ⟨t, rfl⟩ := (show ∃ t, u = Value.int i t from ru)
        exact PySem.W.ksp_binT hF (hK ▸ I.ok.mod.kin) J rfl o1.first o1.at_ o1.fn h1 h2 h3 h4 h5 h'
      · have he' : isC c e = true := by
          cases e with
          | int i => exact absurd ⟨i, rfl⟩ hi
          | _ => exact he
        obtain ⟨b, oy, ody, rfl, J'⟩ := inst_of I k he' ry ru
        exact PySem.W.binop_K hF (hK ▸ I.ok.mod.kin) J J'.type o1.first o1.at_ o1.fn h'
    · exact q.elim
  · exact q.elim
/-- an own operator, both of the class -/
def oOwnS (c : Cn) (ct : Ct) : O2 := fun d e Γ Q E => match isC c e with
  | true => oOwn c ct d e Γ Q E
  | false => False
theorem ol_ownS {c : Cn} {ct : Ct} {op : Operator} {f : Addr} (hK : F.K = X.K) (o1 : OwnOp F.K (F.cl c) op f) (C : CodeOk X X.A F.toCf f 2 [] ct) (tk : Takes X (wOf F E)) : OpL X F E (binaryOp op) (oOwnS c ct) := by
  intro pins s σ H G Γ x y v u d e Q I k rv ru rx ry q
  unfold oOwnS at q
  split at q
  · rename_i he
    unfold oOwn at q
    split at q
    · rename_i hd
      obtain ⟨a, ox, od, rfl, J⟩ := inst_of I k hd rx rv
      obtain ⟨m, hF⟩ := I.fr
      have h := run2 C tk I k rv ru rx ry q
      have h' := back_cmp h
      obtain ⟨b, oy, ody, rfl, J'⟩ := inst_of I k he ry ru
      exact PySem.W.binop_K hF (hK ▸ I.ok.mod.kin) J J'.type o1.first o1.at_ o1.fn h'
    · exact q.elim
  · exact q.elim
structure OwnUn (K : PySem.W.Frag) (C f : Addr) : Prop where
  at_ : PySem.W.findIn K (.ref C) "__neg__" = some (some (.ref f))
  fn : PySem.W.isFn K (.ref f) = true
def oOwn1 (c : Cn) (ct : Ct) : O1 := fun d Γ Q E => match isC c d with
  | true => ct [.val d] (fun r _ => Q (unfr r) Γ) (fun x _ => E x Γ)
  | false => False
theorem ul_own {c : Cn} {ct : Ct} {f : Addr} (hK : F.K = X.K) (o1 : OwnUn F.K (F.cl c) f) (C : CodeOk X X.A F.toCf f 1 [] ct) (tk : Takes X (wOf F E)) : UnL X F E (unaryOp .USub) (oOwn1 c ct) := by
  intro pins s σ H G Γ x v d Q I k rv rx q
  unfold oOwn1 at q
  split at q
  · rename_i hd
    obtain ⟨a, ox, od, rfl, J⟩ := inst_of I k hd rx rv
    obtain ⟨m, hF⟩ := I.fr
    exact PySem.W.ksp_neg hF (hK ▸ I.ok.mod.kin) J o1.at_ o1.fn (run1 C tk I k rv rx q)
  · exact q.elim
/-- which data may stand on the right of a comparison by an own def -/
structure CmpT where
  blt : Bool := true
  own : List Cn := []
def memC : List Cn → Cn → Bool
  | [], _ => false
  | c :: r, x => match Nat.beq c.ix x.ix with
    | true => true
    | false => memC r x
def CmpT.ok (t : CmpT) : D → Bool
  | .non => t.blt
  | .bl _ => t.blt
  | .int _ => t.blt
  | .str _ => t.blt
  | .lst _ => t.blt
  | .tup _ => t.blt
  | .dic _ => t.blt
  | .rat _ => memC t.own .ratio
  | .ins c _ => memC t.own c
  | _ => false
structure CmpOk (F : Cf) (c : Cn) (t : CmpT) : Prop where
  blt : t.blt = true → ∀ T ∈ ["NoneType", "bool", "int", "str", "list", "tuple", "dict"], PySem.W.notFirst F.K (F.cl c) (.type T) = true
  own : ∀ p ∈ t.own, PySem.W.notFirst F.K (F.cl c) (.ref (F.cl p)) = true ∧ Cls F.K (F.cl p) ∧ SIsi F.K (F.cl p)
theorem memC_mem : ∀ {l : List Cn} {x : Cn}, memC l x = true → x ∈ l
  | [], _, h => by cases h
  | c :: r, x, h => by
    unfold memC at h
    split at h
    · rename_i e
      rw [ix_inj e]
      exact List.mem_cons_self
    · exact List.mem_cons_of_mem _ (memC_mem h)
theorem CmpOk.get {Fc : Cf} {c : Cn} {t : CmpT} (h : CmpOk Fc c t) {d : D} (e : t.ok d = true) : ∃ ty, TyD Fc d ty ∧ PySem.W.notFirst Fc.K (Fc.cl c) ty = true := by
  cases d with
  | non => exact ⟨_, .non, h.blt e _ (by simp)⟩
  | bl x => exact ⟨_, .bl x, h.blt e _ (by simp)⟩
  | int x => exact ⟨_, .int x, h.blt e _ (by simp)⟩
  | str x => exact ⟨_, .str x, h.blt e _ (by simp)⟩
  | lst x => exact ⟨_, .lst x, h.blt e _ (by simp)⟩
  | tup x => exact ⟨_, .tup x, h.blt e _ (by simp)⟩
  | dic x => exact ⟨_, .dic x, h.blt e _ (by simp)⟩
  | rat q => obtain ⟨a, b, c⟩ := h.own _ (memC_mem e); exact ⟨_, .own (beq_ix _) b c, a⟩
  | ins c x => obtain ⟨a, b, c⟩ := h.own _ (memC_mem e); exact ⟨_, .own (beq_ix _) b c, a⟩
  | _ => cases e
structure OwnCmp (K : PySem.W.Frag) (C : Addr) (op : CmpOp) (f : Addr) : Prop where
  at_ : PySem.W.findIn K (.ref C) (cmpInfo op).2.1 = some (some (.ref f))
  fn : PySem.W.isFn K (.ref f) = true
def oOwnC (c : Cn) (t : CmpT) (ct : Ct) : O2 := fun d e Γ Q E => match t.ok e with
  | true => oOwn c ct d e Γ Q E
  | false => False
theorem ol_cmp {c : Cn} {t : CmpT} {ct : Ct} {op : CmpOp} {f : Addr} {kk : Nat} (hK : F.K = X.K) (hr : Room kk X.A) (hop : ∀ a b, compareOp op a b = richCompare op a b) (T : CmpOk F.toCf c t) (o1 : OwnCmp F.K (F.cl c) op f) (C : CodeOk X X.A F.toCf f 2 [] ct) (tk : Takes X (wOf F E)) : OpL X F E (compareOp op) (oOwnC c t ct) := by
  intro pins s σ H G Γ x y v u d e Q I k rv ru rx ry q
  unfold oOwnC at q
  split at q
  · rename_i he
    unfold oOwn at q
    split at q
    · rename_i hd
      obtain ⟨a, ox, od, rfl, J⟩ := inst_of I k hd rx rv
      obtain ⟨m, hF⟩ := I.fr
      obtain ⟨ty, h1, h2⟩ := T.get he
      have h := run2 C tk I k rv ru rx ry q
      rw [hop]
      refine PySem.W.cmp_K (op := op) (tb := ty) hr.units0 hF (hK ▸ I.ok.mod.kin) J (looks_ty hK I k h1 ry ru _) h2 o1.at_ o1.fn (wpAny_mono h (fun w s' z => ?_) fun _ _ x => x)
      obtain ⟨z', H', I', rz, qz⟩ := z
      exact cmpback rz ⟨z', H', I', rz, qz⟩
    · exact q.elim
  · exact q.elim
/-- != by the own == -/
structure OwnNe (K : PySem.W.Frag) (C : Addr) (f : Addr) : Prop where
  ne : PySem.W.findIn K (.ref C) "__ne__" = some (some (.builtin "object.__ne__"))
  ob : PySem.W.mroIn K C (.type "object") = some true
  at_ : PySem.W.findIn K (.ref C) "__eq__" = some (some (.ref f))
  fn : PySem.W.isFn K (.ref f) = true
def oOwnN (c : Cn) (t : CmpT) (ct : Ct) : O2 := fun d e Γ Q E => match t.ok e with
  | true => oOwn c ct d e Γ (fun r Γ1 => match r with
    | .bl b => Q (.bl (!b)) Γ1
    | _ => False) E
  | false => False
theorem ol_cmpN {c : Cn} {t : CmpT} {ct : Ct} {f : Addr} {kk : Nat} (hK : F.K = X.K) (hr : Room kk X.A) (T : CmpOk F.toCf c t) (o1 : OwnNe F.K (F.cl c) f) (C : CodeOk X X.A.in1 F.toCf f 2 [] ct) (tk : Takes X (wOf F E)) : OpL X F E (compareOp .NotEq) (oOwnN c t ct) := by
  intro pins s σ H G Γ x y v u d e Q I k rv ru rx ry q
  unfold oOwnN at q
  split at q
  · rename_i he
    unfold oOwn at q
    split at q
    · rename_i hd
      obtain ⟨a, ox, od, rfl, J⟩ := inst_of I k hd rx rv
      obtain ⟨m, hF⟩ := I.fr
      obtain ⟨ty, h1, h2⟩ := T.get he
      have h := run2 (Q := fun r Γ1 => match r with
        | .bl b => Q (.bl (!b)) Γ1
        | _ => False) C tk I k rv ru rx ry q
      refine PySem.W.q_ne_K (tb := ty) (by have := hr.units; omega) hF (hK ▸ I.ok.mod.kin) J (looks_ty hK I k h1 ry ru _) h2 o1.ne o1.ob o1.at_ o1.fn (wpAny_mono h (fun w s' z => ?_) fun _ _ x => x)
      obtain ⟨z', H', I', rz, d', Γ', G', q', i', k', r'⟩ := z
      split at q'
      · rename_i b
        cases (show z' = .bl b from r')
        cases rz
        exact ⟨b, rfl, .bl (!b), H', I', rfl, _, Γ', G', q', i', k', rfl⟩
      · exact q'.elim
    · exact q.elim
  · exact q.elim
abbrev ON := List D → Env → (D → Env → Prop) → XP → Prop
def BlL (X : Cx) (F : Fx) (E : XP) (f : Value) (o : ON) : Prop := ∀ (pins : List (Addr × Obj)) (s : Shared) (σ : St) (H G : Hp) (Γ : Env) (vs : List V) (us : List Value) (ds : List D) (Q : D → Env → Prop), Inv X pins σ H s → Ok F G H σ Γ → Vals vs us → Reps F.toCf G ds vs → o ds Γ Q E →
    wpAny (model X.prog X.w) X.A (call f us) (EP X pins σ (Fin F G σ Q)) X.xe s
def qB (o : ON) (p : QA) : QE := fun Γ Q E => p Γ (fun ds Γ1 => o ds Γ1 Q E) E
theorem le_b {id : String} {f : ON} {x : Str} (ho : BlL X F E (.builtin id) f) (ha : LA X F E (a :: es) pr) (hm : X.mg x = none) (hg : Gl X x := by rfl) (hv : bootBuiltins x = some (.builtin id) := by rfl) (hn : x ≠ "__name__" := by decide) (hdb : (x == ("__debug__" : Str)) = false := by decide)
    (he : starEach (a :: es) X.env = (false, eval a X.env) :: starEach es X.env := by rfl) (hpl : (backTo pos (starEach es X.env)).any (·.1) = false := by rfl) : LE X F E (.Call (.Name x p0) (a :: es) [] pos) (qB f pr) := by
  refine ⟨fun pins s σ H G Γ Q I k h => ?_⟩
  refine wpAny_Call_Name_kw (ld_blt I hg hm hv ?_ hn hdb)
  exact PyProof.Rows.callWith_builtin1 (thn (ha.run pos pins s σ H G Γ _ I k h) fun us s1 ⟨vs, H1, I1, r1, ds, Γ1, G1, q1, i1, k1, rp⟩ => thn (ho pins s1 σ H1 G1 Γ1 vs us ds Q I1 k1 r1 rp q1) fun u s2 z => ep_inc i1 z) he hpl
theorem le_bty {id : String} {f : ON} {x : Str} (ho : BlL X F E (.type id) f) (ha : LA X F E (a :: es) pr) (hm : X.mg x = none) (hg : Gl X x := by rfl) (hv : bootBuiltins x = some (.type id) := by rfl) (hn : x ≠ "__name__" := by decide) (hdb : (x == ("__debug__" : Str)) = false := by decide)
    (he : starEach (a :: es) X.env = (false, eval a X.env) :: starEach es X.env := by rfl) (hpl : (backTo pos (starEach es X.env)).any (·.1) = false := by rfl) : LE X F E (.Call (.Name x p0) (a :: es) [] pos) (qB f pr) := by
  refine ⟨fun pins s σ H G Γ Q I k h => ?_⟩
  refine wpAny_Call_Name_kw (ld_blt I hg hm hv ?_ hn hdb)
  exact PyProof.Rows.callWith_type1 (thn (ha.run pos pins s σ H G Γ _ I k h) fun us s1 ⟨vs, H1, I1, r1, ds, Γ1, G1, q1, i1, k1, rp⟩ => thn (ho pins s1 σ H1 G1 Γ1 vs us ds Q I1 k1 r1 rp q1) fun u s2 z => ep_inc i1 z) he hpl
theorem BlL.of {f : Value} {o : ON} {r : List V → Hp → VK → Prop} (h : CallR X f r) (i : ∀ σ H G Γ vs ds Q, Ok F G H σ Γ → Reps F.toCf G ds vs → o ds Γ Q E → r vs H (Fin F G σ Q)) : BlL X F E f o :=
  fun pins s σ H G Γ vs us ds Q I k rv rd q => h pins s σ H vs us _ I rv (i σ H G Γ vs ds Q k rd q)
theorem reps1 {G : Hp} {d : D} {vs : List V} (h : Reps F.toCf G [d] vs) : ∃ v, vs = [v] ∧ Rep F.toCf G d v := by
  obtain ⟨v, r, rfl, a, b⟩ := h
  cases (show r = [] from b)
  exact ⟨v, rfl, a⟩
theorem reps2 {G : Hp} {d e : D} {vs : List V} (h : Reps F.toCf G [d, e] vs) : ∃ v w, vs = [v, w] ∧ Rep F.toCf G d v ∧ Rep F.toCf G e w := by
  obtain ⟨v, r, rfl, a, b⟩ := h
  obtain ⟨w, rfl, b'⟩ := reps1 b
  exact ⟨v, w, rfl, a, b'⟩
def oAbs : ON := fun ds Γ Q _ => match ds with
  | [.int i] => Q (.int (if i < 0 then -i else i)) Γ
  | _ => False
theorem bl_abs : BlL X F E (.builtin "abs") oAbs := BlL.of call_abs fun σ H G Γ vs ds Q k rd q => by
  unfold oAbs at q
  split at q
  · obtain ⟨v, rfl, r⟩ := reps1 rd
    cases (show v = _ from r)
    exact ⟨_, rfl, fin0 k q rfl⟩
  · exact q.elim
def oMax : ON := fun ds Γ Q _ => match ds with
  | [.int i, .int j] => Q (.int (if j > i then j else i)) Γ
  | _ => False
def oMin : ON := fun ds Γ Q _ => match ds with
  | [.int i, .int j] => Q (.int (if j < i then j else i)) Γ
  | _ => False
theorem bl_max (hc : X.calm = true) : BlL X F E (.builtin "max") oMax := BlL.of (call_max2 hc) fun σ H G Γ vs ds Q k rd q => by
  unfold oMax at q
  split at q
  · obtain ⟨v, w, rfl, r, r2⟩ := reps2 rd
    cases (show v = _ from r)
    cases (show w = _ from r2)
    exact ⟨_, _, rfl, fin0 k q rfl⟩
  · exact q.elim
theorem bl_min (hc : X.calm = true) : BlL X F E (.builtin "min") oMin := BlL.of (call_min2 hc) fun σ H G Γ vs ds Q k rd q => by
  unfold oMin at q
  split at q
  · obtain ⟨v, w, rfl, r, r2⟩ := reps2 rd
    cases (show v = _ from r)
    cases (show w = _ from r2)
    exact ⟨_, _, rfl, fin0 k q rfl⟩
  · exact q.elim
def oInt : ON := fun ds Γ Q _ => match ds with
  | [.int i] => Q (.int i) Γ
  | [.bl b] => Q (.int (if b then 1 else 0)) Γ
  | _ => False
theorem bl_int : BlL X F E (.type "int") oInt := BlL.of call_int1 fun σ H G Γ vs ds Q k rd q => by
  unfold oInt at q
  split at q
  · obtain ⟨v, rfl, r⟩ := reps1 rd
    cases (show v = _ from r)
    exact .inl ⟨_, rfl, fin0 k q rfl⟩
  · obtain ⟨v, rfl, r⟩ := reps1 rd
    cases (show v = _ from r)
    exact .inr ⟨_, rfl, fin0 k q rfl⟩
  · exact q.elim
def oLen : ON := fun ds Γ Q _ => match ds with
  | [.lst xs] => Q (.int xs.length) Γ
  | [.tup xs] => Q (.int xs.length) Γ
  | [.scr xs] => Q (.int xs.length) Γ
  | [.str x] => x.length ≤ 100000 ∧ Q (.int x.length) Γ
  | _ => False
theorem bl_len (hK : F.K = X.K) : BlL X F E (.builtin "len") oLen := BlL.of L2.call_len fun σ H G Γ vs ds Q k rd q => by
  unfold oLen at q
  split at q
  · obtain ⟨v, rfl, r⟩ := reps1 rd
    obtain ⟨a, ws, rfl, g, rs⟩ := r
    exact ⟨_, _, rfl, .inl ⟨ws, SqL.of (k.sub.m g), rfl⟩, by rw [rs.len]; exact fin0 k q rfl⟩
  · obtain ⟨v, rfl, r⟩ := reps1 rd
    obtain ⟨a, ws, rfl, g, rs⟩ := r
    exact ⟨_, _, rfl, .inr ⟨ws, hK ▸ k.sub.t g, rfl⟩, by rw [rs.len]; exact fin0 k q rfl⟩
  · obtain ⟨v, rfl, r⟩ := reps1 rd
    obtain ⟨a, rfl, g⟩ := r
    exact ⟨_, _, rfl, .inl ⟨_, hK ▸ k.sub.l g, rfl⟩, by rw [List.length_map]; exact fin0 k q rfl⟩
  · obtain ⟨v, rfl, r⟩ := reps1 rd
    cases (show v = _ from r)
    exact ⟨_, _, rfl, ⟨szl q.1, rfl⟩, fin0 k q.2 rfl⟩
  · exact q.elim
end
end Q
set_option Elab.async false
set_option linter.all false
set_option maxRecDepth 100000
set_option maxHeartbeats 4000000
namespace Q
open PySem L2 PySem.Spec PyProof.Rows
section
variable {X : Cx} {e : Expr} {es : List Expr} {ta : TA} {p p1 p2 p3 p4 p5 p6 p7 p8 p9 pos : Pos}
/-- B.__init__(self, ..), B an own error class without an __init__ of its own -/
structure ErrB (K : PySem.W.Frag) (B : Addr) : Prop where
  sp : PySem.W.specialIn K (.ref B) "__getattribute__" = some (some (.builtin "type.__getattribute__"))
  rd : PySem.W.readsIn K B (.type "type") = true
  at_ : PySem.W.findCls K (.ref B) (.type "type") "__init__" = some (.val (.builtin "ValueError.__init__"))
theorem pe_errinit {pl : Sem Bool} {B : Addr} {x : Str} (T : ErrB X.K B) (hg : Gl X x) (hm : X.mg x = some (.ref B)) (ha : PA X (e :: es) ta) (hdb : (x == ("__debug__" : Str)) = false := by decide)
    (hc : eval (.Call (.Attribute (.Name x p1) "__init__" p2) (e :: es) [] pos) X.env = (do
      let ov ← eval (.Name x p1) X.env
      standAt p2.atName
      let (f, first) ← holding [ov] (getMethod ov "__init__" pl)
      callWith pos f first (backTo pos (starEach (e :: es) X.env)) (backToKw pos (keywordEach [] X.env))) := by rfl)
    (he : starEach (e :: es) X.env = (false, eval e X.env) :: starEach es X.env := by rfl) (hpl : (backTo pos (starEach es X.env)).any (·.1) = false := by rfl) :
    PE X (.Call (.Attribute (.Name x p1) "__init__" p2) (e :: es) [] pos) (tVeI X.K ta) := by
  refine ⟨fun pins s σ H Q I h => ?_⟩
  refine PySem.W.methodCall_KW (ld_glob I hg hm ?_ hdb) hc
  refine PySem.W.method_cls I.kIn T.sp (PySem.W.cls_value I.kIn T.rd T.at_ (by decide +kernel) ?_)
  show wpAny _ _ (callWith pos (Value.builtin "ValueError.__init__") [] (backTo pos (starEach (e :: es) X.env)) []) _ _ _
  refine PyProof.Rows.callWith_method1 (thn (ha.run pos pins _ σ H _ (I.tok _) h) fun us s1 ⟨vs, H1, I1, r1, a, C, ws, ev, hl, T, ea, q⟩ => ?_) he hpl
  subst ev
  cases r1 with
  | @cons _ u0 _ ur ra rw' =>
    obtain rfl : u0 = Value.ref a := ra
    have hlen : ur.length ≤ sizeLine := by
      rw [← Paired.length rw', sizeLine_eq]
      omega
    exact oinit_ok T I1 ea hlen fun s' J => ⟨.non, H1, J, rfl, q⟩
/-- what the __init__ of an error does: no field, one field -/
def spE0 (C : Addr) : Sp := fun vs H Q _ => ∃ a, vs = [.ref a] ∧ H a = some (exo a C none) ∧ Q .non H
def spE1 (C : Addr) (f : Str) : Sp := fun vs H Q _ => ∃ a y, vs = [.ref a, y] ∧ H a = some (exo a C none) ∧ ∀ dx, H dx = none → dx ≠ a → Q .non (upd (upd H dx (exd dx [(f, y)])) a (exo a C (some dx)))
end
section
variable {P : Program} {w : World} {K : PySem.W.Frag} {mg : Str → Option Value} {base : Heap} {CX : CXT} {p1 p2 p3 p4 p5 p6 p7 p8 p9 p1' : Pos}
theorem err_fn0 {qual txt : Str} {params : Arguments} {scope : Scope} {f C Bc : Addr} {fd : FuncData} {j : Nat} (Fn : FunD K "__init__" qual params [.Expr (.Call (.Attribute (.Name "FilterError" p1) "__init__" p2) [.Name "self" p3, .Constant (.str txt) j p4] [] p5) p6] scope [] [] f fd)
    (hev : ∀ env : PySem.Env, ∃ pl : Sem Bool, eval (.Call (.Attribute (.Name "FilterError" p1) "__init__" p2) [.Name "self" p3, .Constant (.str txt) j p4] [] p5) env = (do
      let ov ← eval (.Name "FilterError" p1) env
      standAt p2.atName
      let (f, first) ← holding [ov] (getMethod ov "__init__" pl)
      callWith p5 f first (backTo p5 (starEach [.Name "self" p3, .Constant (.str txt) j p4] env)) (backToKw p5 (keywordEach [] env))))
    (S : FnScope ["self"] ["self"] scope) (T : ErrB K Bc) (O : OexC K C) (hm : mg "FilterError" = some (.ref Bc)) (hgB : scope.names.lookup ("FilterError" : Str) = some NameKind.globalImplicit) (hself : scope.names.lookup ("self" : Str) = some NameKind.local) :
    FnOk P w K mg base CX 1 f fd ["self"] (spE0 C) := by
  refine Fn.ok (k := 0) S (fun vs H Q E ⟨a, e, _⟩ => by rw [e]; rfl) fun cdv A outer s H vs Q E hr h => ?_
  obtain ⟨a, rfl, ha, q⟩ := h
  obtain ⟨pl, hev⟩ := hev (envOfC qual scope s.heap.objs.size f cdv)
  refine ⟨_, pss_one (ps_expr (pe_errinit T ?_ hm (pa_cons (pe_var (i := 0) rfl ?_ (by decide) (by decide)) (pa_cons pe_str pa_nil)) (by decide) hev)), ?_⟩
  · first | exact hgB | (show (envOfC qual scope s.heap.objs.size f cdv).kindOf B = _; exact hgB)
  · exact Or.inl hself
  · exact ⟨.ref a, rfl, a, C, [.str txt], rfl, by simp, O, ha, q⟩
theorem err_fn1 {qual txt g fl : Str} {params : Arguments} {scope : Scope} {f C Bc : Addr} {fd : FuncData} {j : Nat} (Fn : FunD K "__init__" qual params [.Expr (.Call (.Attribute (.Name "FilterError" p1) "__init__" p2) [.Name "self" p3, .Constant (.str txt) j p4] [] p5) p6, .Assign [.Attribute (.Name "self" p7) fl p8] (.Name g p9) p1'] scope [] [] f fd)
    (hev : ∀ env : PySem.Env, ∃ pl : Sem Bool, eval (.Call (.Attribute (.Name "FilterError" p1) "__init__" p2) [.Name "self" p3, .Constant (.str txt) j p4] [] p5) env = (do
      let ov ← eval (.Name "FilterError" p1) env
      standAt p2.atName
      let (f, first) ← holding [ov] (getMethod ov "__init__" pl)
      callWith p5 f first (backTo p5 (starEach [.Name "self" p3, .Constant (.str txt) j p4] env)) (backToKw p5 (keywordEach [] env))))
    (S : FnScope ["self", g] ["self", g] scope) (T : ErrB K Bc) (O : OexC K C) (hm : mg "FilterError" = some (.ref Bc)) (hgB : scope.names.lookup ("FilterError" : Str) = some NameKind.globalImplicit) (hself : scope.names.lookup ("self" : Str) = some NameKind.local) (hgg : scope.names.lookup g = some NameKind.local)
    (hd1 : (g == ("__debug__" : Str)) = false) (hd2 : (g == ("__classdict__" : Str)) = false) (hno : PySem.W.findIn K (.ref C) fl = some none) : FnOk P w K mg base CX 1 f fd ["self", g] (spE1 C fl) := by
  refine Fn.ok (k := 0) S (fun vs H Q E ⟨a, y, e, _⟩ => by rw [e]; rfl) fun cdv A outer s H vs Q E hr h => ?_
  obtain ⟨a, y, rfl, ha, q⟩ := h
  obtain ⟨pl, hev⟩ := hev (envOfC qual scope s.heap.objs.size f cdv)
  refine ⟨_, pss_cons (ps_expr (pe_errinit T ?_ hm (pa_cons (pe_var (i := 0) rfl ?_ (by decide) (by decide)) (pa_cons pe_str pa_nil)) (by decide) hev)) (pss_one (ps_ost (pe_var (i := 0) rfl ?_ (by decide) (by decide)) (pe_var (i := 1) rfl ?_ hd1 hd2))), ?_⟩
  · exact hgB
  · exact Or.inl hself
  · exact Or.inl hself
  · exact Or.inl hgg
  · refine ⟨.ref a, rfl, a, C, [.str txt], rfl, by simp, O, ha, ?_⟩
    exact ⟨y, rfl, .ref a, rfl, a, C, rfl, O, hno, .inl ⟨ha, q⟩⟩
end
end Q
set_option Elab.async false
set_option linter.all false
set_option maxRecDepth 100000
set_option maxHeartbeats 4000000
namespace Q
open PySem L2 PySem.Spec PyProof.Rows
section
variable {X : Cx} {o e : Expr} {es : List Expr} {to te : TE} {ta : TA} {f : Str} {p p' p1 p2 pos : Pos}
/-- the end of C(): the exception is let go, it has no dict -/
theorem mk_endN {pins : List (Addr × Obj)} {σ : St} {H1 H2 : Hp} {Q : XK} {hp hp2 h2 : Heap} {g1 g2 : Array GenState} {d1 d2 : Drawn} {t1 t2 : Nat} {os1 os2 : OsState} {a C : Addr} (T : Raises X (.ref C)) (I1 : Inv X pins σ H1 ⟨hp, g1, d1, t1, os1⟩)
    (ha : hp.objs.size ≤ a) (k : ∀ b o, hp.get? b = some o → hp2.get? b = some o) (un : Un (frs X.stack) [] (upd H1 a (exo a C none)) H2 hp2 h2) (hok : HOk X.prog X.w H2 h2) (ho : os2 = os1) (hb : AllBare g2)
    (ea : H2 a = some (exo a C none)) (q : Q (.ref C) none (del H2 a)) : MkP X pins σ Q (.ref a) ⟨h2, g2, d2, t2, os2⟩ := by
  obtain ⟨t0, hoe⟩ := exo_at hok ea
  have hn : H1 a = none := I1.hok.fresh ha
  obtain ⟨G, g1', g2'⟩ := restrict h2 fun b => decide (b ≠ a)
  have gk : ∀ b, b ≠ a → G.get? b = h2.get? b := fun b hb => g1' b (decide_eq_true hb)
  have ge : G.get? a = none := g2' a (by simp)
  have nha : ∀ {b : Addr} {o : Obj}, hp.get? b = some o → b ≠ a := fun {b o} z => Nat.ne_of_lt (Nat.lt_of_lt_of_le (Heap.lt_size z) ha)
  have up : ∀ {b : Addr}, b ≠ a → H1 b = none → upd H1 a (exo a C none) b = none := fun {b} hb n => by rw [upd_ne hb]; exact n
  have U : Un (frs X.stack) [] H1 (del H2 a) hp G := {
    keep := fun b o z n hf hx => by
      rw [gk b (nha z)]
      exact un.keep b o (k b o z) (up (nha z) n) hf hx
    slot := fun b o z n hf hx => by
      rw [gk b (nha z)]
      exact un.slot b o (k b o z) (up (nha z) n) hf hx
    free := fun b o z n hx => by
      rw [del_ne (nha z)]
      exact un.free b o (k b o z) (up (nha z) n) hx
    there := fun b o z hx => by
      rw [gk b (nha z)]
      exact un.there b o (k b o z) hx
    tups := fun b xs z => by
      rw [del_ne (ne_of_none z hn)]
      exact un.tups b xs (by rw [upd_ne (ne_of_none z hn)]; exact z)
    frzs := fun b o v z => by
      rw [del_ne (ne_of_none z hn)]
      exact un.frzs b o v (by rw [upd_ne (ne_of_none z hn)]; exact z)
    tbls := fun b ps z => by
      rw [del_ne (ne_of_none z hn)]
      exact un.tbls b ps (by rw [upd_ne (ne_of_none z hn)]; exact z) }
  have hok3 : HOk X.prog X.w (del H2 a) G := fun b o z => by
    have hba : b ≠ a := fun e => by
      rw [e, del_same] at z
      cases z
    rw [del_ne hba] at z
    have noa : ∀ {c : Addr}, H2 c = some (.own b) → c ≠ a := fun {c} hc => at_ne ea hc exo_own
    exact (hok b o z).stay (fun c v hc y => by
        have hca : c ≠ a := by
          rcases hc with hc | hc
          · rw [hc]
            exact hba
          · exact noa hc
        rw [gk c hca]
        exact y)
      (fun c hc => by rw [del_ne (noa hc)]; exact hc) (fun c xs hc => by rw [del_ne (at_ne ea hc exo_tup)]; exact hc)
  have J : Inv X pins σ (del H2 a) ⟨G, g2, d2, t2, os2⟩ := I1.call' (ch := []) ho U hok3 hb (fun b z => absurd z (by simp))
  refine ⟨a, _, _, ⟨G, g2, d2, t2, os2⟩, _, .ref C, none, rfl, J, fun b o z => ?_, ge, hoe, ⟨rfl, rfl⟩, rfl, rfl, del_same, rfl, hb, T, q⟩
  by_cases hba : b = a
  · rw [hba, ge] at z
    cases z
  · exact (gk b hba).symm.trans z
theorem pmk_err0 {CX : CXT} {x : Str} {C fI : Addr} {k : Nat} {fd : FuncData} {ps : List Str} (T : OexC X.K C) (iC : PySem.W.findIn X.K (.ref C) "__init__" = some (some (.ref fI))) (tI : PySem.W.typeIn X.K (.ref fI) = some (.type "function"))
    (F1 : FnOk X.prog X.w X.K X.mg X.base CX k fI fd ps (spE0 C)) (hr : Room (k + 1) X.A) (hb : Binds X.K fd ps []) (hx : Passes CX X (fun _ _ _ => False)) (hg : Gl X x) (hm : X.mg x = some (.ref C))
    (hdb : (x == ("__debug__" : Str)) = false := by decide) :
    PMk X (.Call (.Name x p) [] [] pos) (fun σ H Q => Q (.ref C) none H) := by
  intro pins s σ H Q I q1
  obtain ⟨nm, q, N, bs, bm, sn, sub, ab, col, dd, k0, k1, k2, k3, k5, hC, hbm⟩ := T.cls
  refine wpAny_Call_Name_kw (ld_glob I hg hm ?_ hdb)
  refine PySem.W.callWith_K0 I.kIn T.kC ?_
  show wpAny _ _ (call (.ref C) []) _ _ _
  obtain ⟨hp, g, dr, tk, os⟩ := s
  have hsz : hp.objs.size ≤ hp.objs.size + 1 := Nat.le_succ _
  have hn : H (hp.objs.size + 1) = none := I.hok.fresh hsz
  have hq : spE0 C [.ref (hp.objs.size + 1)] (upd H (hp.objs.size + 1) (exo (hp.objs.size + 1) C none)) (fun v H2 => v = .non ∧ H2 (hp.objs.size + 1) = some (exo (hp.objs.size + 1) C none) ∧ Q (.ref C) none (del H2 (hp.objs.size + 1))) (fun _ _ _ => False) := by
    refine ⟨_, rfl, upd_same, rfl, upd_same, ?_⟩
    have e : del (upd H (hp.objs.size + 1) (exo (hp.objs.size + 1) C none)) (hp.objs.size + 1) = H := by
      funext b
      by_cases h : b = hp.objs.size + 1
      · subst h; rw [del_same, hn]
      · rw [del_ne h, upd_ne h]
    rw [e]; exact q1
  have kk : ∀ b o, hp.get? b = some o → ((hp.push (PySem.W.kdv_tup [])).push (PySem.HandSPX.excO C hp.objs.size)).get? b = some o := fun b o e => Heap.get?_push_of_some _ (Heap.get?_push_of_some _ e)
  have hget : ((hp.push (PySem.W.kdv_tup [])).push (PySem.HandSPX.excO C hp.objs.size)).get? (hp.objs.size + 1) = some (PySem.HandSPX.excO C hp.objs.size) := by heap_get
  have I2 : Inv X pins σ (upd H (hp.objs.size + 1) (exo (hp.objs.size + 1) C none)) ⟨(hp.push (PySem.W.kdv_tup [])).push (PySem.HandSPX.excO C hp.objs.size), g, dr, tk, os⟩ :=
    I.laid (t' := tk) (a := hp.objs.size + 1) (o := exo (hp.objs.size + 1) C none) (h' := (hp.push (PySem.W.kdv_tup [])).push (PySem.HandSPX.excO C hp.objs.size)) kk hsz (exo_ok hget)
  have r2 : Vals [V.ref (hp.objs.size + 1)] [Value.ref (hp.objs.size + 1)] := .cons rfl .nil
  have hl : ([Value.ref (hp.objs.size + 1)] ++ []).length = ps.length := by
    have e := r2.length
    rw [F1.len _ _ _ _ hq] at e
    exact e.symm
  refine wpAny_call (PySem.HandSPX.call_own F.excBase_ValueError (fun Y => PySem.HandSPX.refsVE_contains Y bm hbm) (I.kIn _ _ hC) (PySem.W.looks_findIn I.kIn iC) (fun self => PySem.W.bind_fn I.kIn self tI) (Nat.zero_le _)
    (codeAny_mono (F1.run _ X.stack _ _ ⟨[Value.ref (hp.objs.size + 1)], []⟩ [Value.ref (hp.objs.size + 1)] _ _ (fun _ _ _ => False) (hr.make C [] []) (I2.env0.make C [] []) (hb _ [Value.ref (hp.objs.size + 1)] I2.kIn hl) r2 hq) fun r s' hq' => ?_))
  cases r with
  | error er => exact hx pins σ _ _ er s' I2 hq'
  | ok fl =>
    cases fl with
    | ret u =>
      obtain ⟨v, H2, os2, bare2, un2, hok2, rv, ev, ea, q2⟩ := hq'
      subst ev
      obtain ⟨h2, g2, d2, t2, os'⟩ := s'
      exact ⟨rv, mk_endN (raises_own T.exC T.tyC) I hsz kk un2 hok2 os2 bare2 ea q2⟩
    | next => exact False.elim hq'
    | brk => exact False.elim hq'
    | cont => exact False.elim hq'
end
/-- all that is known of an error class without a field: f its __init__ -/
structure Er0 (P : Program) (w : World) (Fc : Cf) (mg : Str → Option Value) (base : Heap) (c : Cn) (f : Addr) (fd : FuncData) (ps : List Str) : Prop where
  o : OexC Fc.K (Fc.cl c)
  i : PySem.W.findIn Fc.K (.ref (Fc.cl c)) "__init__" = some (some (.ref f))
  t : PySem.W.typeIn Fc.K (.ref f) = some (.type "function")
  b : Binds Fc.K fd ps []
  fn : FnOk P w Fc.K mg base (L2.CX P w) 1 f fd ps (spE0 (Fc.cl c))
structure Er1 (P : Program) (w : World) (Fc : Cf) (mg : Str → Option Value) (base : Heap) (c : Cn) (g : Str) (f : Addr) (fd : FuncData) (ps : List Str) : Prop where
  o : OexC Fc.K (Fc.cl c)
  i : PySem.W.findIn Fc.K (.ref (Fc.cl c)) "__init__" = some (some (.ref f))
  t : PySem.W.typeIn Fc.K (.ref f) = some (.type "function")
  b : Binds Fc.K fd ps []
  fl : c.fields = [g]
  fn : FnOk P w Fc.K mg base (L2.CX P w) 1 f fd ps (spE1 (Fc.cl c) g)
def qRaise0 (c : Cn) : QS := fun Γ _ E => E ⟨c, []⟩ Γ
def qRaise1 (c : Cn) (p : QE) : QS := fun Γ _ E => p Γ (fun d Γ1 => E ⟨c, [d]⟩ Γ1) E
section
variable {X : Cx} {F : Fx} {E : XP} {a : Expr} {pa : QE} {p pos pos' : Pos}
theorem pass0 {X : Cx} {W : WX} (tk : Takes X W) : Passes (L2.CX X.prog X.w) X (fun _ _ _ => False) := fun pins σ H s e s' I c => tk e s' (XE.of_call I (fun _ _ _ h => h.elim) c)
theorem ls_raise0 {c : Cn} {x : Str} {f : Addr} {fd : FuncData} {ps : List Str} {k : Nat} (T : Er0 X.prog X.w F.toCf X.mg X.base c f fd ps) (hK : F.K = X.K) (hr : Room (k + 2) X.A) (hc : X.calm = true) (tk : Takes X (wOf F E)) (hm : X.mg x = some (.ref (F.cl c))) (hg : Gl X x := by rfl) (hdb : (x == ("__debug__" : Str)) = false := by decide) :
    LS X F E (.Raise (some (.Call (.Name x p) [] [] pos)) none pos') (qRaise0 c) :=
  LS.of (ps_raise hc tk (pmk_err0 (hK ▸ T.o) (hK ▸ T.i) (hK ▸ T.t) (hK ▸ T.fn) (hr.mono (by omega)) (hK ▸ T.b) (pass0 tk) hg hm hdb)) fun σ H G Γ P k q => ⟨G, Γ, ⟨c, []⟩, k, ⟨rfl, .inl rfl⟩, q⟩
theorem ls_raise1 {c : Cn} {x g : Str} {f : Addr} {fd : FuncData} {ps : List Str} {k : Nat} (T : Er1 X.prog X.w F.toCf X.mg X.base c g f fd ps) (hK : F.K = X.K) (hr : Room (k + 2) X.A) (hc : X.calm = true) (tk : Takes X (wOf F E)) (ha : LE X F E a pa) (hm : X.mg x = some (.ref (F.cl c))) (hg : Gl X x := by rfl) (hdb : (x == ("__debug__" : Str)) = false := by decide)
    (he : starEach [a] X.env = (false, eval a X.env) :: starEach [] X.env := by rfl) (hpl : (backTo pos (starEach [] X.env)).any (·.1) = false := by rfl) :
    LS X F E (.Raise (some (.Call (.Name x p) [a] [] pos)) none pos') (qRaise1 c pa) :=
  LS.of (ps_raise hc tk (pmk_oex (ds := []) (dvs := []) (hK ▸ T.o) (hK ▸ T.i) (hK ▸ T.t) (hK ▸ T.fn) (hr.mono (by omega)) (hK ▸ T.b) .nil (pass0 tk) hg hm (pa_cons ha.pe pa_nil he) hdb he hpl)) fun σ H G Γ P k q => ⟨G, Γ, _, k, q, fun w H' ⟨d, Γ', G', q', i, k', r⟩ => by
    refine ⟨by simp, fun b hb => ⟨b, w, by simp, upd_same, fun dx hdx ne => ?_⟩⟩
    have hdx' : H' dx = none := by rw [upd_ne ne] at hdx; exact hdx
    refine ⟨rfl, dx, [(g, w)], upd_same, by rw [upd_ne ne, upd_same], hdx', ?_⟩
    have eH : upd (del (upd (upd (upd H' b (exo b (F.cl c) none)) dx (exd dx [(g, w)])) b (exo b (F.cl c) (some dx))) b) dx (.xd [(g, w)]) = upd H' dx (.xd [(g, w)]) := by
      funext z
      by_cases h1 : z = dx
      · subst h1; rw [upd_same, upd_same]
      · rw [upd_ne h1, upd_ne h1]
        by_cases h2 : z = b
        · subst h2; rw [del_same, hb]
        · rw [del_ne h2, upd_ne h2, upd_ne h1, upd_ne h2]
    rw [eH]
    exact ⟨G', Γ', ⟨c, [d]⟩, k'.new0 hdx' _, ⟨rfl, .inr ⟨dx, [w], rfl, by rw [upd_same, T.fl]; rfl, w, [], rfl, r, rfl⟩⟩, q'⟩⟩
end
end Q
set_option Elab.async false
set_option linter.all false
set_option maxRecDepth 100000
set_option maxHeartbeats 4000000
namespace Q
open PySem L2 PySem.Spec PyProof.Rows
def offI (Γ : Env) (i : Nat) : Bool := match Γ[i]? with
  | some (.own _) => false
  | some (.bor _) => false
  | none => false
  | some _ => true
theorem offI_ok {Γ : Env} {i : Nat} (h : offI Γ i = true) : nomut Γ i := by
  intro s e
  unfold offI at h
  rw [e] at h
  cases s <;> first | rfl | cases h
def withG0 (F : Fx) (G : Hp) : Fx := { F with G0 := G }
section
variable {X : Cx} {F : Fx} {E : XP} {G H : Hp} {σ : St} {Γ : Env}
theorem slots_g {F : Fx} {G1 G H : Hp} : ∀ {σ : St} {Γ : Env}, Slots F G H σ Γ ↔ Slots (withG0 F G1) G H σ Γ := by
  have key : ∀ (v : Option V) (s : Slot), SlotOk F G H v s ↔ SlotOk (withG0 F G1) G H v s := by
    intro v s
    cases v <;> cases s <;> exact Iff.rfl
  intro σ
  induction σ with
  | nil => intro Γ; cases Γ <;> exact Iff.rfl
  | cons v σ ih =>
    intro Γ
    cases Γ with
    | nil => exact Iff.rfl
    | cons s Γ => exact and_congr (key v s) ih
theorem Ok.toG (k : Ok F G H σ Γ) : Ok (withG0 F G) G H σ Γ :=
  ⟨k.sub, Inc.refl G, fun a o e => .inl e, k.frame, k.bor, slots_g.mp k.slots, k.nd, k.pin, k.pl⟩
theorem Ok.ofG {G1 H1 : Hp} {σ1 : St} {Γ1 : Env} (k0 : Ok F G1 H1 σ1 Γ1) (k : Ok (withG0 F G1) G H σ Γ) : Ok F G H σ Γ :=
  ⟨k.sub, k0.g0.trans k.g0, fun a o e => (k.fresh a o e).elim (fun z => k0.fresh a o z) .inr, k.frame, k.bor, slots_g.mpr k.slots, k.nd, k.pin, k.pl⟩
def qTry (t : List (Cn × Bool)) (tb ts : QS) : QS := fun Γ P E => tb Γ P fun x Γ1 => match lookC t x.c with
  | some true => ts Γ1 P (fun _ _ => False)
  | some false => E x Γ1
  | none => False
def ExmOk (F : Cf) (cv : Value) (t : List (Cn × Bool)) : Prop := ∀ p ∈ t, PySem.W.exmOne F.K (.ref (F.cl p.1)) cv = some p.2
def tTb (F : Fx) (tb : QS) : WX → TS := fun W D σ H => ∃ G Γ P E', Ok F G H σ Γ ∧ tb Γ P E' ∧ (∀ cls d σ' H', wOf (withG0 F G) E' cls d σ' H' → W cls d σ' H') ∧ (∀ σ' H', (endsOf F G P).nx σ' H' → D.nx σ' H') ∧ (∀ v H', (endsOf F G P).rt v H' → D.rt v H') ∧
  (∀ σ' H', (endsOf F G P).bk σ' H' → D.bk σ' H') ∧ (∀ σ' H', (endsOf F G P).ct σ' H' → D.ct σ' H')
variable {x n : Str} {cv : Value} {i : Nat} {body suite : List Stmt} {b₀ : Stmt} {np pos pos' : Pos} {tb ts : QS} {t : List (Cn × Bool)}
theorem tr_body {pn : List (Addr × Obj)} {xe : Value → Shared → Prop} {W : WX} (tk : Takes (X.tr pn xe) W) (hp : PassesOwn (model X.prog X.w) X.A X.env xe)
    (hb : ∀ (G : Hp) (pn : List (Addr × Obj)) (xe : Value → Shared → Prop) (E' : XP), Takes (X.tr pn xe) (wOf (withG0 F G) E') → PassesOwn (model X.prog X.w) X.A X.env xe → LSs (X.tr pn xe) (withG0 F G) E' body tb) : PSs (X.tr pn xe) body (tTb F tb W) :=
  ⟨fun pins s σ H D I ⟨G, Γ, P, E', k, q, w, i1, i2, i3, i4⟩ => by
    have tk' : Takes (X.tr pn xe) (wOf (withG0 F G) E') := fun u s' ⟨a, B, sI, pins, σ, H', cls, d, e, I, nb, up, sky, na, os, ag, z⟩ => tk u s' ⟨a, B, sI, pins, σ, H', cls, d, e, I, nb, up, sky, na, os, ag, w _ _ _ _ z⟩
    refine thn ((hb G pn xe E' tk' hp).run pins s σ H G Γ P I k.toG q) fun f s' z => sp_imp z ?_ ?_ ?_ ?_
    · exact fun σ' H' ⟨Γ', G', a, b, c⟩ => i1 _ _ ⟨Γ', G', a, b, k.ofG c⟩
    · exact fun v H' ⟨d, Γ', G', σ', a, b, c, e⟩ => i2 _ _ ⟨d, Γ', G', σ', a, b, k.ofG c, e⟩
    · exact fun σ' H' ⟨Γ', G', a, b, c⟩ => i3 _ _ ⟨Γ', G', a, b, k.ofG c⟩
    · exact fun σ' H' ⟨Γ', G', a, b, c⟩ => i4 _ _ ⟨Γ', G', a, b, k.ofG c⟩⟩
theorem ls_try (T : ExmOk F.toCf cv t) (hK : F.K = X.K) (hs : X.stack = X.env :: X.outer) (hf : X.env.frame = some X.env.locals) (hc : Names X x cv) (tk : Takes X (wOf F E))
    (hb : ∀ (G : Hp) (pn : List (Addr × Obj)) (xe : Value → Shared → Prop) (E' : XP), Takes (X.tr pn xe) (wOf (withG0 F G) E') → PassesOwn (model X.prog X.w) X.A X.env xe → LSs (X.tr pn xe) (withG0 F G) E' body tb)
    (hsu : ∀ (a : Addr) (oe : Obj) (pn : List (Addr × Obj)), LSs (X.suite a ((a, oe) :: pn)) F (fun _ _ => False) (b₀ :: suite) ts) :
    LS X F E (.Try body [.ExceptHandler (some (.Name x np)) none (b₀ :: suite) pos'] [] [] pos) (qTry t tb ts) :=
  LS.of (ps_try_only (tb := tTb F tb) (ts := fun _ _ _ => tS F (fun _ _ => False) ts) hs hf hc tk (fun W pn xe tk' hp => tr_body tk' hp hb) fun a oe cls d pn hz hv => (hsu a oe pn).ps) fun σ H G Γ P k q => by
    refine ⟨G, Γ, P, _, k, q, fun cls d σ' H' ⟨G1, Γ1, xx, k1, xr, z⟩ => ?_, fun _ _ z => z, fun _ _ z => z, fun _ _ z => z, fun _ _ z => z⟩
    have i1 : Inc G G1 := k1.g0
    have k1' : Ok F G1 H' σ' Γ1 := k.ofG k1
    obtain ⟨ec, xr2⟩ := xr
    subst ec
    dsimp only at z
    split at z
    · rename_i hl
      refine ⟨true, hK ▸ T _ (lookC_mem hl), fun _ a ha => ?_, fun e => by cases e⟩
      refine ⟨G1, Γ1, P, k1', z, ?_, ?_, ?_, ?_⟩
      · rintro σ2 H2 ⟨Γ2, G2, q2, i2, k2⟩
        exact ⟨_, G2, q2, i1.trans i2, k2⟩
      · rintro v H2 ⟨d2, Γ2, G2, σ2, q2, i2, k2, r2⟩
        exact ⟨d2, _, G2, σ2, q2, i1.trans i2, k2, r2⟩
      · rintro σ2 H2 ⟨Γ2, G2, q2, i2, k2⟩
        exact ⟨_, G2, q2, i1.trans i2, k2⟩
      · rintro σ2 H2 ⟨Γ2, G2, q2, i2, k2⟩
        exact ⟨_, G2, q2, i1.trans i2, k2⟩
    · rename_i hl
      exact ⟨false, hK ▸ T _ (lookC_mem hl), (fun e => by cases e), fun _ => ⟨G1, Γ1, xx, k1', ⟨rfl, xr2⟩, z⟩⟩
    · exact z.elim
end
end Q
set_option Elab.async false
set_option linter.all false
set_option maxRecDepth 100000
set_option maxHeartbeats 4000000
namespace Q
open PySem L2 PySem.Spec PyProof.Rows
theorem mutA_setOwn {a : Addr} {o : MO} : ∀ {σ : St} {Γ : Env} {i : Nat}, a ∉ mutA σ Γ → (mutA σ Γ).Nodup → (mutA (σ.set i (some (.ref a))) (Γ.set i (.own o))).Nodup ∧ ∀ b ∈ mutA (σ.set i (some (.ref a))) (Γ.set i (.own o)), b = a ∨ b ∈ mutA σ Γ
  | [], Γ, _, _, _ => by simp [mutA]
  | v :: σ, [], i, _, _ => by
    have e : ∀ τ : St, mutA τ [] = [] := fun τ => by cases τ with
      | nil => rfl
      | cons u r => cases u with
        | none => rfl
        | some w => cases w <;> rfl
    rw [List.set_nil, e]
    simp
  | v :: σ, s :: Γ, 0, hn, nd => by
    have h1 : a ∉ mutA σ Γ := fun m => hn (mutA_tail m)
    have h2 := nd_tail nd
    show (a :: mutA σ Γ).Nodup ∧ ∀ b ∈ a :: mutA σ Γ, b = a ∨ b ∈ mutA (v :: σ) (s :: Γ)
    exact ⟨List.nodup_cons.mpr ⟨h1, h2⟩, fun b hb => (List.mem_cons.mp hb).imp id fun m => mutA_tail m⟩
  | v :: σ, s :: Γ, i + 1, hn, nd => by
    have h1 : a ∉ mutA σ Γ := fun m => hn (mutA_tail m)
    obtain ⟨ih1, ih2⟩ := mutA_setOwn (o := o) (i := i) h1 (nd_tail nd)
    show (mutA (v :: σ.set i (some (.ref a))) (s :: Γ.set i (.own o))).Nodup ∧ ∀ b ∈ mutA (v :: σ.set i (some (.ref a))) (s :: Γ.set i (.own o)), b = a ∨ b ∈ mutA (v :: σ) (s :: Γ)
    have step : ∀ (c : Addr), mutA (v :: σ) (s :: Γ) = c :: mutA σ Γ → mutA (v :: σ.set i (some (.ref a))) (s :: Γ.set i (.own o)) = c :: mutA (σ.set i (some (.ref a))) (Γ.set i (.own o)) →
        (mutA (v :: σ.set i (some (.ref a))) (s :: Γ.set i (.own o))).Nodup ∧ ∀ b ∈ mutA (v :: σ.set i (some (.ref a))) (s :: Γ.set i (.own o)), b = a ∨ b ∈ mutA (v :: σ) (s :: Γ) := by
      intro c e1 e2
      rw [e1] at nd hn ⊢
      rw [e2]
      refine ⟨List.nodup_cons.mpr ⟨fun m => ?_, ih1⟩, fun b hb => ?_⟩
      · rcases ih2 c m with z | z
        · exact hn (z ▸ List.mem_cons_self)
        · exact (List.nodup_cons.mp nd).1 z
      · rcases List.mem_cons.mp hb with z | z
        · exact .inr (z ▸ List.mem_cons_self)
        · exact (ih2 b z).imp id fun m => List.mem_cons_of_mem _ m
    have stay : mutA (v :: σ) (s :: Γ) = mutA σ Γ → mutA (v :: σ.set i (some (.ref a))) (s :: Γ.set i (.own o)) = mutA (σ.set i (some (.ref a))) (Γ.set i (.own o)) →
        (mutA (v :: σ.set i (some (.ref a))) (s :: Γ.set i (.own o))).Nodup ∧ ∀ b ∈ mutA (v :: σ.set i (some (.ref a))) (s :: Γ.set i (.own o)), b = a ∨ b ∈ mutA (v :: σ) (s :: Γ) := by
      intro e1 e2
      rw [e1, e2]
      exact ⟨ih1, ih2⟩
    cases s with
    | own o' =>
      cases v with
      | none => exact stay (by rw [mutA_cons]) (by rw [mutA_cons])
      | some w => cases w <;> first | exact step _ (by rw [mutA_cons]) (by rw [mutA_cons]) | exact stay (by rw [mutA_cons]) (by rw [mutA_cons])
    | bor o' =>
      cases v with
      | none => exact stay (by rw [mutA_cons]) (by rw [mutA_cons])
      | some w => cases w <;> first | exact step _ (by rw [mutA_cons]) (by rw [mutA_cons]) | exact stay (by rw [mutA_cons]) (by rw [mutA_cons])
    | no =>
      cases v with
      | none => exact stay (by rw [mutA_cons]) (by rw [mutA_cons])
      | some w => cases w <;> exact stay (by rw [mutA_cons]) (by rw [mutA_cons])
    | val d =>
      cases v with
      | none => exact stay (by rw [mutA_cons]) (by rw [mutA_cons])
      | some w => cases w <;> exact stay (by rw [mutA_cons]) (by rw [mutA_cons])
    | exc c fs =>
      cases v with
      | none => exact stay (by rw [mutA_cons]) (by rw [mutA_cons])
      | some w => cases w <;> exact stay (by rw [mutA_cons]) (by rw [mutA_cons])
section
variable {X : Cx} {F : Fx} {E : XP} {G H : Hp} {σ : St} {Γ : Env}
/-- not handed in -/
def noBor (Γ : Env) (i : Nat) : Bool := match Γ[i]? with
  | some (.bor _) => false
  | none => false
  | some _ => true
theorem Ok.setOwn (k : Ok F G H σ Γ) {i : Nat} {a : Addr} {o : MO} (hi : noBor Γ i = true) (ga : G a = none) (m : MRep F.toCf G H o a) (h0 : F.H0 a = none) (hm : a ∉ mutA σ Γ) : Ok F G H (σ.set i (some (.ref a))) (Γ.set i (.own o)) := by
  refine ⟨k.sub, k.g0, k.fresh, k.frame, k.bor, k.slots.set (s := .own o) (v := some (.ref a)) (show SlotOk F G H (some (.ref a)) (.own o) from ⟨a, rfl, ga, m, h0⟩) i, (mutA_setOwn hm k.nd).1, fun j b e => ?_, by rw [List.length_set]; exact k.pl⟩
  obtain ⟨e1, o', e2⟩ := k.pin j b e
  have hj : i ≠ j := fun q => by
    subst q
    unfold noBor at hi
    rw [e2] at hi
    cases hi
  rw [List.getElem?_set_ne hj, List.getElem?_set_ne hj]
  exact ⟨e1, o', e2⟩
abbrev QN := Env → (MO → Env → Prop) → XP → Prop
def FinN (F : Fx) (G : Hp) (σ : St) (Q : MO → Env → Prop) : VK := fun w H' => ∃ o a Γ' G', Q o Γ' ∧ Inc G G' ∧ Ok F G' H' σ Γ' ∧ w = .ref a ∧ G' a = none ∧ MRep F.toCf G' H' o a ∧ F.H0 a = none ∧ a ∉ mutA σ Γ'
/-- an expression that makes a new thing -/
structure LN (X : Cx) (F : Fx) (E : XP) (e : Expr) (p : QN) : Prop where
  run : ∀ (pins : List (Addr × Obj)) (s : Shared) (σ : St) (H G : Hp) (Γ : Env) (Q : MO → Env → Prop), Inv X pins σ H s → Ok F G H σ Γ → p Γ Q E →
    wpAny (model X.prog X.w) X.A (eval e X.env) (EP X pins σ (FinN F G σ Q)) X.xe s
def tN (F : Fx) (E : XP) (p : QN) : TE := fun σ H K => ∃ G Γ Q, Ok F G H σ Γ ∧ p Γ Q E ∧ ∀ w H', FinN F G σ Q w H' → K w H'
theorem LN.pe {e : Expr} {p : QN} (h : LN X F E e p) : PE X e (tN F E p) := ⟨fun pins s σ H K I ⟨G, Γ, Q, k, q, i⟩ =>
  thn (h.run pins s σ H G Γ Q I k q) fun u s' ⟨v, H', I', r, z⟩ => ⟨v, H', I', r, i v H' z⟩⟩
variable {es : List Expr} {e : Expr} {pr : QA} {pn : QN} {pos p0 : Pos}
theorem not_mut (k : Ok F G H σ Γ) {a : Addr} (h : H a = none) : a ∉ mutA σ Γ := fun m => by
  obtain ⟨⟨o, e⟩, _⟩ := mutA_there k.slots a m
  rw [h] at e
  cases e
/-- [..] -/
def qnLst (p : QA) : QN := fun Γ Q E => p Γ (fun ds Γ1 => ds.length ≤ 100000 ∧ Q (.lst ds) Γ1) E
theorem ln_lst (h : LA X F E es pr) : LN X F E (.List es pos) (qnLst pr) := ⟨fun pins s σ H G Γ Q I k q =>
  (pe_lst h.pa).run pins s σ H _ I ⟨G, Γ, _, k, q, fun ws H' ⟨ds, Γ', G', ⟨hl, q'⟩, i, k', r⟩ => ⟨by rw [r.len]; exact szl hl, fun p hp =>
    ⟨.lst ds, p, Γ', G', q', i, k'.new0 hp _, rfl, k'.sub.no hp, ⟨ws, upd_same, r⟩, k'.h0 hp, not_mut k' hp⟩⟩⟩⟩
/-- f(..), a new thing -/
def qnCall (c : Ct) (p : QH) : QN := fun Γ Q E => p Γ (fun hs Γ1 => match ndb (ixs hs) && hmut Γ1 hs with
  | true => c (argsOf Γ1 hs) (fun d outs => match d with
    | .fr d' => match moD d' with
      | some o => Q o (updS Γ1 hs outs)
      | none => False
    | _ => False) (fun x outs => E x (updS Γ1 hs outs))
  | false => False) E
theorem sp_callN {c : Ct} {hs : List Hd} {Γ : Env} {vs : List V} {σ : St} {G H : Hp} {Q : MO → Env → Prop} (k : Ok F G H σ Γ) (hh : HdsOk F G σ hs vs)
    (h : match ndb (ixs hs) && hmut Γ hs with
      | true => c (argsOf Γ hs) (fun d outs => match d with
        | .fr d' => match moD d' with
          | some o => Q o (updS Γ hs outs)
          | none => False
        | _ => False) (fun x outs => E x (updS Γ hs outs))
      | false => False) : spC F.toCf c vs H (FinN F G σ Q) (WE (wOf F E) σ) := by
  split at h
  · rename_i e
    obtain ⟨nd, hm⟩ := Bool.and_eq_true_iff.mp e
    have hm := hmut_ok hm
    refine ⟨G, argsOf Γ hs, k.sub, args_ok k hh hm, argA_nd k hh nd, _, _, h, fun d outs v H' G' q p ha sh r => ?_, fun x outs cls dd H' G' q p ha sh r => ?_⟩
    · cases d with
      | fr d' =>
        dsimp only at q
        obtain ⟨o, a, hd, rfl, ga, m, h0⟩ := r
        rw [hd] at q
        refine ⟨o, a, _, G', q, p.inc, k.called hh hm nd p ha sh, rfl, ga, m, k.h0 h0, fun mm => ?_⟩
        rw [mutA_kin updS_len fun i s t e1 e2 => updS_kin e1 e2] at mm
        exact not_mut k h0 mm
      | _ => exact q.elim
    · exact ⟨G', _, x, k.called hh hm nd p ha sh, r, q⟩
  · exact h.elim
theorem call_lenN {c : Ct} {hs : List Hd} {Γ : Env} {n : Nat} {Q : MO → Env → Prop} (hl : ∀ args Q E, c args Q E → args.length = n)
    (h : match ndb (ixs hs) && hmut Γ hs with
      | true => c (argsOf Γ hs) (fun d outs => match d with
        | .fr d' => match moD d' with
          | some o => Q o (updS Γ hs outs)
          | none => False
        | _ => False) (fun x outs => E x (updS Γ hs outs))
      | false => False) : hs.length = n := by
  split at h
  · rw [← argsOf_len (Γ := Γ)]; exact hl _ _ _ h
  · exact h.elim
theorem finN_inc {G G' : Hp} {σ : St} {Q : MO → Env → Prop} {b : V} {H : Hp} (i : Inc G G') (h : FinN F G' σ Q b H) : FinN F G σ Q b H := let ⟨o, a, Γ, G2, q, c, e⟩ := h; ⟨o, a, Γ, G2, q, i.trans c, e⟩
theorem ln_call {c : Ct} {fa : Addr} {n : Nat} {x : Str} {args : List Expr} {kws : List Keyword} {ks : List Str} {ph : QH} (C : CodeOk X X.A F.toCf fa n ks c) (hm : X.mg x = some (.ref fa)) (hk : PySem.W.keepIn X.K (.ref fa) = true) (tk : Takes X (wOf F E)) (ha : LC X F E args kws ks ph) (hg : Gl X x := by rfl)
    (hdb : (x == ("__debug__" : Str)) = false := by decide) : LN X F E (.Call (.Name x p0) args kws pos) (qnCall c ph) := by
  refine ⟨fun pins s σ H G Γ Q I k h => ?_⟩
  refine wpAny_Call_Name_kw (ld_glob I hg hm ?_ hdb)
  refine ha.run pos _ [] pins s σ H G Γ _ _ hk I k h fun us ws vs zs s' H' hs Γ' G' I' r rz l q i k' hh => ?_
  have hl := call_lenN C.len q
  have hv := hds_len hh
  rw [List.length_append] at hv
  exact thn (back_call (C.run pins s' σ H' vs us zs ws _ _ tk I' r rz (by omega) l (sp_callN k' hh q))) fun u s2 ⟨w, H2, I2, r2, z⟩ => ⟨w, H2, I2, r2, finN_inc i z⟩
/-- x = a new thing -/
def setN (Γ : Env) (i : Nat) (o : MO) (Q : Env → Prop) : Prop := match noBor Γ i with
  | true => Q (Γ.set i (.own o))
  | false => False
def qSetN (i : Nat) (p : QN) : QS := fun Γ P E => p Γ (fun o Γ1 => setN Γ1 i o P.nx) E
theorem ls_setN (i : Nat) {x : Str} {pos' : Pos} (hN : X.N.Nodup) (he : LN X F E e pn) (hi : X.N[i]? = some x := by rfl) (hx : Loc X.env.scope x := by first | exact Or.inl rfl | exact Or.inr rfl) (hs : swapsWith e (some (.Name x pos')) pos.line X.env = pure false := by rfl)
    (hf : X.fn x = true ∨ X.env.scope.names.lookup x = some .local := by first | exact .inl rfl | exact .inr rfl | assumption) : LS X F E (.Assign [.Name x pos'] e pos) (qSetN i pn) :=
  LS.of (ps_set (i := i) hN hi hx he.pe hs hf) fun σ H G Γ P k q => ⟨G, Γ, _, k, q, fun w H' ⟨o, a, Γ', G', q', i1, k', e, ga, m, h0, hm⟩ => by
    subst e
    dsimp only [setN] at q'
    split at q'
    · rename_i hb
      exact ⟨_, G', q', i1, k'.setOwn hb ga m h0 hm⟩
    · exact q'.elim⟩
def dMo : MO → D
  | .lst xs => .lst xs
  | .dic _ xs => .dic xs
  | .ins c xs => .ins c xs
/-- not locked -/
def unlk : MO → Bool
  | .dic (some _) _ => false
  | _ => true
theorem moD_dMo (o : MO) (h : unlk o = true) : moD (dMo o) = some o := by
  cases o with
  | dic lk kvs => cases lk with
    | none => rfl
    | some _ => cases h
  | _ => rfl
theorem moD_dMo' {o : MO} (h : ∀ lk kvs, o ≠ .dic lk kvs) : moD (dMo o) = some o ∧ ∀ kvs, dMo o ≠ .dic kvs := by
  cases o with
  | dic lk kvs => exact absurd rfl (h lk kvs)
  | lst _ => exact ⟨rfl, fun _ z => by cases z⟩
  | ins _ _ => exact ⟨rfl, fun _ z => by cases z⟩
theorem mo_dic (o : MO) : (∀ lk kvs, o ≠ .dic lk kvs) ∨ ∃ lk kvs, o = .dic lk kvs := by
  cases o with
  | dic lk kvs => exact .inr ⟨lk, kvs, rfl⟩
  | lst _ => exact .inl fun _ _ z => by cases z
  | ins _ _ => exact .inl fun _ _ z => by cases z
/-- return a new thing -/
def retN (P : PEnds) (o : MO) (Γ : Env) : Prop := match unlk o with
  | true => P.rt (.fr (dMo o)) Γ
  | false => False
theorem retN_inv {P : PEnds} {o : MO} {Γ : Env} (h : retN P o Γ) : unlk o = true ∧ P.rt (.fr (dMo o)) Γ := by
  unfold retN at h
  split at h
  · rename_i e; exact ⟨e, h⟩
  · exact h.elim
def qRetN (p : QN) : QS := fun Γ P E => p Γ (fun o Γ1 => retN P o Γ1) E
theorem ls_retN (he : LN X F E e pn) : LS X F E (.Return (some e) pos) (qRetN pn) :=
  ⟨fun pins s σ H G Γ P I k h => wpAny_Return_some (thn (he.run pins s σ H G Γ _ I k h) fun v s1 ⟨x, H1, I1, r1, o, a, Γ1, G1, q1, i1, k1, e, ga, m, h0, hm⟩ => ⟨x, σ, H1, I1, r1, .fr (dMo o), Γ1, G1, σ, (retN_inv q1).2, i1, k1, o, a, moD_dMo o (retN_inv q1).1, e, ga, m, h0⟩)⟩
variable {x : Str} {px : Pos}
/-- x read as a datum: from now on it stays as it is -/
def qFrz (j : Nat) : QE := fun Γ Q _ => match Γ[j]? with
  | some (.own o) => Q (dMo o) (Γ.set j (.val (dMo o)))
  | _ => False
theorem mutA_drop {d : D} {a : Addr} : ∀ {σ : St} {Γ : Env} {j : Nat} {s : Slot}, σ[j]? = some (some (.ref a)) → Γ[j]? = some s → s.mo.isSome = true → (mutA σ Γ).Nodup → (mutA σ (Γ.set j (.val d))).Nodup ∧ ∀ b ∈ mutA σ (Γ.set j (.val d)), b ≠ a ∧ b ∈ mutA σ Γ
  | [], _, _, _, e, _, _, _ => by simp at e
  | _ :: _, [], _, _, _, e, _, _ => by simp at e
  | v :: σ, t :: Γ, 0, s, e1, e2, z, nd => by
    simp at e1 e2
    subst e1; subst e2
    have h : mutA (some (V.ref a) :: σ) (t :: Γ) = a :: mutA σ Γ := by
      rw [mutA_cons]
      cases t with
      | own o => rfl
      | bor o => rfl
      | no => cases z
      | val d => cases z
      | exc c fs => cases z
    rw [h] at nd ⊢
    show (mutA σ Γ).Nodup ∧ ∀ b ∈ mutA σ Γ, b ≠ a ∧ b ∈ a :: mutA σ Γ
    exact ⟨(List.nodup_cons.mp nd).2, fun b hb => ⟨fun q => (List.nodup_cons.mp nd).1 (q ▸ hb), List.mem_cons_of_mem _ hb⟩⟩
  | v :: σ, t :: Γ, j + 1, s, e1, e2, z, nd => by
    have e1' : σ[j]? = some (some (.ref a)) := by simpa using e1
    have e2' : Γ[j]? = some s := by simpa using e2
    obtain ⟨h1, h2⟩ := mutA_drop (d := d) e1' e2' z (nd_tail nd)
    have ma := mem_mutA e1' e2' z
    show (mutA (v :: σ) (t :: Γ.set j (.val d))).Nodup ∧ ∀ b ∈ mutA (v :: σ) (t :: Γ.set j (.val d)), b ≠ a ∧ b ∈ mutA (v :: σ) (t :: Γ)
    rw [mutA_cons] at nd ⊢
    rw [mutA_cons]
    split at nd
    · rename_i c _
      refine ⟨List.nodup_cons.mpr ⟨fun m => (List.nodup_cons.mp nd).1 (h2 _ m).2, h1⟩, fun b hb => ?_⟩
      rcases List.mem_cons.mp hb with q | q
      · subst q
        exact ⟨fun q => (List.nodup_cons.mp nd).1 (q ▸ ma), List.mem_cons_self⟩
      · exact ⟨(h2 b q).1, List.mem_cons_of_mem _ (h2 b q).2⟩
    · rename_i c _
      refine ⟨List.nodup_cons.mpr ⟨fun m => (List.nodup_cons.mp nd).1 (h2 _ m).2, h1⟩, fun b hb => ?_⟩
      rcases List.mem_cons.mp hb with q | q
      · subst q
        exact ⟨fun q => (List.nodup_cons.mp nd).1 (q ▸ ma), List.mem_cons_self⟩
      · exact ⟨(h2 b q).1, List.mem_cons_of_mem _ (h2 b q).2⟩
    · rename_i h3 h4
      exact ⟨h1, h2⟩
/-- a slot's own thing is told from now on -/
theorem Ok.frz {j : Nat} {o : MO} {a : Addr} {u : HO} {d : D} (k : Ok F G H σ Γ) (e : Γ[j]? = some (.own o)) (ev : σ[j]? = some (some (.ref a))) (ga : G a = none) (h0 : F.H0 a = none) (hu : H a = some u) (ru : Rep F.toCf (upd G a u) d (.ref a)) : Ok F (upd G a u) H σ (Γ.set j (.val d)) := by
  obtain ⟨nd1, nd2⟩ := mutA_drop (d := d) ev e rfl k.nd
  refine ⟨fun b w eb => ?_, k.g0.trans (Inc.new ga), fun b w eb => ?_, k.frame, k.bor, ?_, nd1, fun i b eb => ?_, by rw [List.length_set]; exact k.pl⟩
  · by_cases h : b = a
    · subst h
      rw [upd_same] at eb
      cases eb
      exact .inl hu
    · rw [upd_ne h] at eb
      exact k.sub b w eb
  · by_cases h : b = a
    · subst h
      exact .inr h0
    · rw [upd_ne h] at eb
      exact k.fresh b w eb
  · refine Slots.mk (by rw [List.length_set]; exact k.slots.len) fun i v t e1 e2 => ?_
    by_cases hij : j = i
    · subst hij
      have hl : j < Γ.length := (List.getElem?_eq_some_iff.mp e).1
      rw [List.getElem?_set_self hl] at e2
      cases e2
      rw [ev] at e1
      cases e1
      exact ru
    · rw [List.getElem?_set_ne hij] at e2
      obtain ⟨v', ev', ok'⟩ := k.slots.get e2
      rw [e1] at ev'
      cases ev'
      refine SlotOk.step (Inc.new ga) (fun b eb zb => ?_) (fun dd ws _ q => q) ok'
      subst eb
      have nba : b ≠ a := fun q => by
        subst q
        exact hij (mutA_inj k.nd ev e1 e e2 rfl zb)
      obtain ⟨o2, ho2⟩ := Option.isSome_iff_exists.mp zb
      obtain ⟨b', eb', g2, _⟩ := k.mut e2 ho2
      rw [e1] at eb'
      cases eb'
      exact ⟨rfl, by rw [upd_ne nba]; exact g2⟩
  · obtain ⟨e1, o', e2⟩ := k.pin i b eb
    have hj : j ≠ i := fun q => by
      subst q
      rw [e] at e2
      cases e2
    rw [List.getElem?_set_ne hj]
    exact ⟨e1, o', e2⟩
/-- a slot's thing is changed (locked) -/
theorem Ok.relk {j : Nat} {s : Slot} {o : MO} {a : Addr} {u : HO} (k : Ok F G H σ Γ) (e : Γ[j]? = some s) (es : s.mo = some o) (ev : σ[j]? = some (some (.ref a))) (o' : MO) (s' : Slot) (ss : (s = .own o ∧ s' = .own o') ∨ (s = .bor o ∧ s' = .bor o')) (m : MRep F.toCf G (upd H a u) o' a) : Ok F G (upd H a u) σ (Γ.set j s') := by
  obtain ⟨a', ea', ga, mr, hh⟩ := k.mut e es
  rw [ev] at ea'
  cases ea'
  have hl : j < Γ.length := (List.getElem?_eq_some_iff.mp e).1
  have nx : ∀ ws, H a ≠ some (.xd ws) := fun ws z => by
    cases o with
    | lst xs => obtain ⟨vs, e, _⟩ := mr; rw [z] at e; cases e
    | dic lk xs => obtain ⟨vs, e, _⟩ := mr; rw [z] at e; cases lk <;> cases e
    | ins c xs => obtain ⟨dx, vs, e, _⟩ := mr; rw [z] at e; cases e
  have mm : mutA σ (Γ.set j s') = mutA σ Γ := by
    refine mutA_kin (by rw [List.length_set]) fun i s1 t e1 e2 => ?_
    by_cases hij : j = i
    · subst hij
      rw [List.getElem?_set_self hl] at e2
      rw [e] at e1
      cases e1; cases e2
      rcases ss with ⟨rfl, rfl⟩ | ⟨rfl, rfl⟩ <;> simp [kin]
    · rw [List.getElem?_set_ne hij, e1] at e2
      cases e2
      cases s1 <;> simp [kin]
  refine ⟨k.sub.off ga u, k.g0, k.fresh, fun b w eb nb => ?_, fun b hb => ?_, ?_, by rw [mm]; exact k.nd, fun i b eb => ?_, by rw [List.length_set]; exact k.pl⟩
  · by_cases hb : b = a
    · subst hb
      rcases hh with z | z
      · rw [z] at eb; cases eb
      · exact absurd z nb
    · rw [upd_ne hb]; exact k.frame b w eb nb
  · by_cases z : b = a
    · subst z; exact ⟨u, upd_same⟩
    · rw [upd_ne z]; exact k.bor b hb
  · refine Slots.mk (by rw [List.length_set]; exact k.slots.len) fun i v t e1 e2 => ?_
    by_cases hij : j = i
    · subst hij
      rw [List.getElem?_set_self hl] at e2
      cases e2
      rw [ev] at e1
      cases e1
      obtain ⟨v', ev', ok'⟩ := k.slots.get e
      rw [ev] at ev'
      cases ev'
      rcases ss with ⟨rfl, rfl⟩ | ⟨rfl, rfl⟩
      · obtain ⟨a1, e3, g1, m1, z1⟩ := ok'
        cases e3
        exact ⟨a, rfl, ga, m, z1⟩
      · obtain ⟨a1, e3, g1, m1, z1⟩ := ok'
        cases e3
        exact ⟨a, rfl, ga, m, z1⟩
    · rw [List.getElem?_set_ne hij] at e2
      obtain ⟨v', ev', ok'⟩ := k.slots.get e2
      rw [e1] at ev'
      cases ev'
      refine SlotOk.step (Inc.refl G) (fun b eb zb => ?_) (fun dd ws _ q => by rw [upd_ne (show dd ≠ a from fun z => nx ws (z ▸ q))]; exact q) ok'
      subst eb
      have nba : b ≠ a := fun q => by
        subst q
        exact hij (mutA_inj k.nd ev e1 e e2 (by rw [es]; rfl) zb)
      obtain ⟨o2, ho2⟩ := Option.isSome_iff_exists.mp zb
      obtain ⟨b', eb', g2, _⟩ := k.mut e2 ho2
      rw [e1] at eb'
      cases eb'
      exact ⟨by rw [upd_ne nba], g2⟩
  · obtain ⟨e1, o2, e2⟩ := k.pin i b eb
    refine ⟨e1, ?_⟩
    by_cases hij : j = i
    · subst hij
      rw [e] at e2
      cases e2
      rcases ss with ⟨z, _⟩ | ⟨_, rfl⟩
      · cases z
      · exact ⟨o', by rw [List.getElem?_set_self hl]⟩
    · rw [List.getElem?_set_ne hij]
      exact ⟨o2, e2⟩
theorem le_frz (j : Nat) (hN : X.N[j]? = some x := by rfl) (hv : Vis X.env.scope x := by first | exact Or.inl rfl | exact Or.inr (Or.inl rfl) | exact Or.inr (Or.inr rfl)) (hd : (x == ("__debug__" : Str)) = false := by decide)
    (hcd : (x == ("__classdict__" : Str)) = false := by decide) : LE X F E (.Name x px) (qFrz j) :=
  LE.ofL (pe_var hN hv hd hcd) fun σ H G Γ Q k q => by
    unfold qFrz at q
    split at q
    · rename_i o e
      obtain ⟨v, ev, ok⟩ := k.slots.get e
      cases v with
      | none => exact ok.elim
      | some v =>
        obtain ⟨a, rfl, ga, m, h0⟩ := ok
        refine ⟨.ref a, ev, ?_⟩
        rcases mo_dic o with z | ⟨lk, kvs, rfl⟩
        · obtain ⟨z1, z2⟩ := moD_dMo' z
          obtain ⟨u, hu, ru⟩ := mrep_tell z1 z2 ga m
          exact .inl ⟨dMo o, _, upd G a u, q, Inc.new ga, k.frz e ev ga h0 hu ru, ru⟩
        · obtain ⟨ws, hu, ru⟩ := mrep_tellD ga m
          cases lk with
          | some ob => exact .inl ⟨.dic kvs, _, upd G a _, q, Inc.new ga, k.frz e ev ga h0 hu (ru ob), ru ob⟩
          | none =>
            refine .inr ⟨a, ws, hu, fun ob => ⟨.dic kvs, _, upd G a (.frz ob (.dK ws)), q, Inc.new ga, ?_, ru ob⟩⟩
            have k2 : Ok F G (upd H a (.frz ob (.dK ws))) σ (Γ.set j (.own (.dic (some ob) kvs))) := k.relk e rfl ev _ _ (.inl ⟨rfl, rfl⟩) (by
              obtain ⟨ws', e1, r1⟩ := m
              rw [hu] at e1
              cases e1
              exact ⟨ws, upd_same, r1⟩)
            have hl : j < Γ.length := (List.getElem?_eq_some_iff.mp e).1
            have k3 := k2.frz (List.getElem?_set_self hl) ev ga h0 upd_same (ru ob)
            rw [List.set_set] at k3
            exact k3
    · exact q.elim
end
end Q
set_option Elab.async false
set_option linter.all false
set_option maxRecDepth 100000
set_option maxHeartbeats 4000000
namespace Q
open PySem L2 PySem.Spec PyProof.Rows He PySem.W
open SlX (SIsi)
structure DP where
  p : Frag → Prop
  d : ∀ K, Decidable (p K)
def DP.b (f : DP) (K : Frag) : Bool := @decide (f.p K) (f.d K)
def dp (p : Frag → Prop) [d : ∀ K, Decidable (p K)] : DP := ⟨p, d⟩
open He5 (DefA fnA wf wrapB cmet_of)
def valA (fn : List DefA) : AlD := (true, fn.map DefA.val)
def obsQ (fa : List DP) (fn : List DefA) (K : Frag) : AlD := ((fa.all fun f => f.b K) && fn.all fun d => d.ok K, fn.map fun d => fnA K (d.at_ K))
def SaysQ (fa : List DP) (fn : List DefA) (K : Frag) : Prop := obsQ fa fn K = valA fn
section
variable {fa : List DP} {fn : List DefA} {K : Frag}
theorem SaysQ.fact (c : SaysQ fa fn K) (i : Nat) {f : DP} (h : fa[i]? = some f := by rfl) : f.p K := by
  have c1 := (ba (show ((fa.all fun f => f.b K) && fn.all fun d => d.ok K) = true from congrArg (fun z : AlD => z.1) c)).1
  exact @of_decide_eq_true _ (f.d K) (List.all_eq_true.mp c1 f (List.mem_of_getElem? h))
theorem SaysQ.def_ (c : SaysQ fa fn K) (i : Nat) {d : DefA} (h : fn[i]? = some d := by rfl) : ∃ fd, FunD K d.name d.qual d.params d.body d.scope (d.dvs K) (d.kws K) (d.at_ K) fd := by
  have c2 := (ba (show ((fa.all fun f => f.b K) && fn.all fun d => d.ok K) = true from congrArg (fun z : AlD => z.1) c)).2
  have e : fn.map (fun d => fnA K (d.at_ K)) = fn.map DefA.val := congrArg (fun z : AlD => z.2) c
  have e2 : (fn.map fun d => fnA K (d.at_ K))[i]? = (fn.map DefA.val)[i]? := by rw [e]
  rw [List.getElem?_map, List.getElem?_map, h] at e2
  exact DefA.funD (Option.some.inj e2) (List.all_eq_true.mp c2 d (List.mem_of_getElem? h))
end
def cname : Cn → Str
  | .ratio => "Ratio" | .poly => "Polynomial" | .root => "Root" | .formula => "Formula" | .table => "Table" | .facts => "Facts" | .desk => "Desk" | .trial => "Trial"
  | .filterError => "FilterError" | .byZero => "ByZero" | .badNumber => "BadNumber" | .badText => "BadText" | .zeroPolynomial => "ZeroPolynomial" | .badRoot => "BadRoot" | .badStretch => "BadStretch" | .badRow => "BadRow" | .badTable => "BadTable"
  | .noLine => "NoLine" | .unlikeTables => "UnlikeTables" | .badBeam => "BadBeam" | .notFilter => "NotFilter" | .notMirror => "NotMirror" | .badCounts => "BadCounts" | .badAnswer => "BadAnswer" | .badShare => "BadShare" | .never => "Never"
  | .badLine => "BadLine" | .clash => "Clash" | .nothingToUndo => "NothingToUndo" | .nothingToRedo => "NothingToRedo"
def cf (K : Frag) : Cf := ⟨K, fun c => ga K (cname c)⟩
abbrev pGlo (x : Str) (K : Frag) : Prop := nsIn K mainGlobals x = some (some (.ref (ga K x)))
abbrev pFree (x : Str) (K : Frag) : Prop := nsIn K mainGlobals x = some none
abbrev pCls (c : Cn) (K : Frag) : Prop := (plainGet K (ga K (cname c)) Str.empty = true ∧ hasDictIn K (ga K (cname c)) = true ∧ plainOver K (ga K (cname c)) = true ∧ findIn K (.ref (ga K (cname c))) "__setattr__" = some (some (.builtin "object.__setattr__"))) ∧
  (findIn K (.ref (ga K (cname c))) "__class__" = some (some (.builtin "object.__class__")) ∧ specialIn K (.builtin "object.__class__") "__get__" = some (some (.builtin "getset_descriptor.__get__")) ∧ takesIn K (.builtin "object.__class__") = some true ∧ mroIn K (ga K (cname c)) (.type "object") = some true)
theorem pCls_cls {c : Cn} {K : Frag} (h : pCls c K) : L2.Cls K ((cf K).cl c) := ⟨h.1.1, h.1.2.1, h.1.2.2.1, h.1.2.2.2⟩
theorem pCls_isi {c : Cn} {K : Frag} (h : pCls c K) : SIsi K ((cf K).cl c) := ⟨h.2.1, h.2.2.1, h.2.2.2.1, h.2.2.2.2⟩
abbrev pNo (c : Cn) (f : Str) (K : Frag) : Prop := findIn K (.ref (ga K (cname c))) f = some none
abbrev pMeth (c : Cn) (m : Str) (K : Frag) : Prop := findIn K (.ref (ga K (cname c))) m = some (some (.ref (ma K (ga K (cname c)) m))) ∧ isFn K (.ref (ma K (ga K (cname c)) m)) = true ∧ keepIn K (.ref (ma K (ga K (cname c)) m)) = true
theorem pMeth_ok {c : Cn} {m : Str} {K : Frag} (h : pMeth c m K) : Meth K ((cf K).cl c) m (ma K (ga K (cname c)) m) := ⟨h.1, h.2.1, h.2.2⟩
abbrev pMk (c : Cn) (K : Frag) : Prop := makesIn K (ga K (cname c)) = true ∧ findIn K (.ref (ga K (cname c))) "__init__" = some (some (.ref (ma K (ga K (cname c)) "__init__"))) ∧ isFn K (.ref (ma K (ga K (cname c)) "__init__")) = true ∧ keepIn K (.ref (ga K (cname c))) = true
theorem pMk_ok {c : Cn} {K : Frag} (h : pMk c K) : L2.Mk K ((cf K).cl c) (ma K (ga K (cname c)) "__init__") := ⟨h.1, h.2.1, h.2.2.1, h.2.2.2⟩
abbrev pFirst (c : Cn) (K : Frag) : Prop := selfFirst K (ga K (cname c)) = true
theorem op_ok {c : Cn} {m : Str} {K : Frag} {op : Operator} (hm : PySem.dunder op.info.2 = m) (h0 : pFirst c K) (h : pMeth c m K) : OwnOp K ((cf K).cl c) op (ma K (ga K (cname c)) m) := ⟨h0, by rw [hm]; exact h.1, h.2.1⟩
abbrev pOpT (c : Cn) (op : Operator) (T : String) (K : Frag) : Prop := findIn K (.ref (ga K (cname c))) (dunderR op.info.2) = some none ∧ (findIn K (.type T) (PySem.dunder op.info.2)).isSome = true ∧ (findIn K (.type T) (dunderR op.info.2)).isSome = true ∧ subIn K (.type T) (.ref (ga K (cname c))) = some false
theorem pOpT_ok {c : Cn} {op : Operator} {T : String} {K : Frag} (h : pOpT c op T K) : OwnOpT K ((cf K).cl c) op T := by
  obtain ⟨h1, h2, h3, h4⟩ := h
  obtain ⟨fo, e1⟩ := Option.isSome_iff_exists.mp h2
  obtain ⟨ro, e2⟩ := Option.isSome_iff_exists.mp h3
  exact ⟨fo, ro, none, h1, .inl rfl, e1, e2, h4⟩
theorem neg_ok {c : Cn} {K : Frag} (h : pMeth c "__neg__" K) : OwnUn K ((cf K).cl c) (ma K (ga K (cname c)) "__neg__") := ⟨h.1, h.2.1⟩
theorem cmp_ok {c : Cn} {m : Str} {K : Frag} {op : CmpOp} (hm : (cmpInfo op).2.1 = m) (h : pMeth c m K) : OwnCmp K ((cf K).cl c) op (ma K (ga K (cname c)) m) := ⟨by rw [hm]; exact h.1, h.2.1⟩
abbrev pNe (c : Cn) (K : Frag) : Prop := findIn K (.ref (ga K (cname c))) "__ne__" = some (some (.builtin "object.__ne__"))
theorem ne_ok {c : Cn} {K : Frag} (h0 : pCls c K) (h : pNe c K) (he : pMeth c "__eq__" K) : OwnNe K ((cf K).cl c) (ma K (ga K (cname c)) "__eq__") := ⟨h, h0.2.2.2.2, he.1, he.2.1⟩
def bltT : List String := ["NoneType", "bool", "int", "str", "list", "tuple", "dict"]
abbrev pNF (c : Cn) (ds : List Cn) (K : Frag) : Prop := (bltT.all fun T => notFirst K (ga K (cname c)) (.type T)) = true ∧ (ds.all fun d => notFirst K (ga K (cname c)) (.ref (ga K (cname d)))) = true
theorem nf_ok {c : Cn} {ds : List Cn} {K : Frag} (h : pNF c ds K) (hd : ∀ d ∈ ds, pCls d K) : CmpOk (cf K) c { blt := true, own := ds } :=
  ⟨fun _ T hT => List.all_eq_true.mp h.1 T hT, fun d m => ⟨List.all_eq_true.mp h.2 d m, pCls_cls (hd d m), pCls_isi (hd d m)⟩⟩
/-- what stands for a class: a built-in type, an own class -/
inductive Cu where
  | ty (n : String) | own (c : Cn)
def Cu.v (K : Frag) : Cu → Value
  | .ty n => .type n
  | .own c => .ref (ga K (cname c))
abbrev pIsa (us : List Cu) (t : IsaT) (K : Frag) : Prop := kitAny K (.type "NoneType") (us.map (Cu.v K)) = some t.non ∧ kitAny K (.type "bool") (us.map (Cu.v K)) = some t.bl ∧ kitAny K (.type "int") (us.map (Cu.v K)) = some t.int ∧ kitAny K (.type "str") (us.map (Cu.v K)) = some t.str ∧ kitAny K (.type "list") (us.map (Cu.v K)) = some t.lst ∧
  kitAny K (.type "tuple") (us.map (Cu.v K)) = some t.tup ∧ kitAny K (.type "dict") (us.map (Cu.v K)) = some t.dic ∧ (t.own.all fun p => decide (kitAny K (.ref (ga K (cname p.1))) (us.map (Cu.v K)) = some p.2)) = true
theorem isa_ok {us : List Cu} {t : IsaT} {K : Frag} (h : pIsa us t K) (hd : ∀ p ∈ t.own, pCls p.1 K) : IsaOk (cf K) (us.map (Cu.v K)) t :=
  ⟨h.1, h.2.1, h.2.2.1, h.2.2.2.1, h.2.2.2.2.1, h.2.2.2.2.2.1, h.2.2.2.2.2.2.1, fun p m => ⟨of_decide_eq_true (List.all_eq_true.mp h.2.2.2.2.2.2.2 p m), pCls_cls (hd p m), pCls_isi (hd p m)⟩⟩
def oexB (K : Frag) (C : Addr) : Bool := match K.lookup C with
  | some ⟨.type "type", _, .cls cd, sl⟩ => (match cd.mro, sl.toList with
    | .ref C' :: bm, [_, _, _, _, some (.builtin n), _] => C' == C && n == "ValueError.__new__" && !cd.hasDel && cd.hasDict && PySem.HandSPX.refsVE bm
    | _, _ => false)
  | _ => false
theorem oexB_ok {K : Frag} {C : Addr} (q : oexB K C = true) : ∃ nm q N bs bm sn sub ab col dd k0 k1 k2 k3 k5, K.lookup C = some (excClassObj nm q C N bs bm true sn sub ab col dd k0 k1 k2 k3 k5 "ValueError.__new__") ∧ PySem.HandSPX.refsVE bm = true := by
  unfold oexB at q
  split at q
  · rename_i dd cd sl ho
    split at q
    · rename_i C' bm k0 k1 k2 k3 n k5 hm hs
      simp only [Bool.and_eq_true, beq_iff_eq, Bool.not_eq_true'] at q
      obtain ⟨⟨⟨⟨rfl, rfl⟩, hdel⟩, hdd⟩, ht⟩ := q
      obtain ⟨nm, bs, mro, ns, qn, hd, sn, sub, ab, col, del⟩ := cd
      dsimp only at hm hdel hdd
      subst hm hdel hdd
      have hsl : sl = #[k0, k1, k2, k3, some (.builtin "ValueError.__new__"), k5] := by
        obtain ⟨l⟩ := sl
        simp only at hs
        rw [hs]
      subst hsl
      exact ⟨nm, qn, ns, bs, bm, sn, sub, ab, col, dd, k0, k1, k2, k3, k5, ho, ht⟩
    · cases q
  · cases q
abbrev pErr (c : Cn) (K : Frag) : Prop := oexB K (ga K (cname c)) = true ∧ findIn K (.ref (ga K (cname c))) "__setattr__" = some (some (.builtin "object.__setattr__")) ∧ subIn K (.ref (ga K (cname c))) (.type "BaseException") = some true ∧ typeIn K (.ref (ga K (cname c))) = some (.type "type") ∧ keepIn K (.ref (ga K (cname c))) = true ∧
  findIn K (.ref (ga K (cname c))) "__init__" = some (some (.ref (ma K (ga K (cname c)) "__init__"))) ∧ typeIn K (.ref (ma K (ga K (cname c)) "__init__")) = some (.type "function") ∧
  findIn K (.ref (ga K (cname c))) "__getattribute__" = some (some (.builtin "BaseException.__getattribute__")) ∧ findIn K (.ref (ga K (cname c))) "__getattr__" = some none ∧ hasDictIn K (ga K (cname c)) = true
theorem pErr_o {c : Cn} {K : Frag} (h : pErr c K) : OexC K ((cf K).cl c) := ⟨oexB_ok h.1, h.2.1, h.2.2.1, h.2.2.2.1, h.2.2.2.2.1⟩
abbrev pErrB (K : Frag) : Prop := specialIn K (.ref (ga K "FilterError")) "__getattribute__" = some (some (.builtin "type.__getattribute__")) ∧ readsIn K (ga K "FilterError") (.type "type") = true ∧ (match findCls K (.ref (ga K "FilterError")) (.type "type") "__init__" with
  | some (.val (.builtin n)) => n == "ValueError.__init__"
  | _ => false) = true
theorem pErrB_ok {K : Frag} (h : pErrB K) : ErrB K (ga K "FilterError") := by
  obtain ⟨h1, h2, h3⟩ := h
  refine ⟨h1, h2, ?_⟩
  split at h3
  · rename_i n e
    rw [e, beq_iff_eq.mp h3]
  · cases h3
abbrev pExm (c : Cn) (t : List (Cn × Bool)) (K : Frag) : Prop := (t.all fun p => decide (exmOne K (.ref (ga K (cname p.1))) (.ref (ga K (cname c))) = some p.2)) = true
theorem exm_ok' {c : Cn} {t : List (Cn × Bool)} {K : Frag} (h : pExm c t K) : ExmOk (cf K) (.ref (ga K (cname c))) t := fun p m => of_decide_eq_true (List.all_eq_true.mp h p m)
structure FnB (P : Program) (w : World) (K : Frag) (mg : Str → Option Value) (base : Heap) (d : DefA) (k : Nat) (ps : List Str) (c : Ct) : Prop where
  ex : ∃ fd, FunD K d.name d.qual d.params d.body d.scope (d.dvs K) (d.kws K) (d.at_ K) fd ∧ FnOk P w K mg base (L2.CX P w) k (d.at_ K) fd ps (spC (cf K) c)
  len : ∀ args Q E, c args Q E → args.length = ps.length
section
variable {P : Program} {w : World} {K : Frag} {mg : Str → Option Value} {base : Heap}
theorem FnB.kp {d : DefA} {k : Nat} {ps : List Str} {c : Ct} (h : FnB P w K mg base d k ps c) : keepIn K (.ref (d.at_ K)) = true := by
  obtain ⟨fd, F, _⟩ := h.ex
  exact F.kp
/-- called with all arguments, by position -/
theorem FnB.all {d : DefA} {k : Nat} {ps : List Str} {c : Ct} {X : Cx} {A : Around} {n : Nat} (h : FnB P w K mg base d k ps c) (hX : X.prog = P) (hw : X.w = w) (hK : X.K = K) (hmg : X.mg = mg) (hb : X.base = base) (hA : A.frames = X.A.frames) (hr : Room k A) (hd : d.dfl = []) (hn : n = ps.length)
    (hbd : ∀ (kV doc pm : Value) (an : Option Addr) (cdv ct : Value) (us : List Value), us.length = ps.length → bindArgs (fnOf d.name d.qual d.params d.body d.scope .none kV doc pm an cdv ct) ⟨us, []⟩ = pure (ps.zip us)) : CodeOk X A (cf K) (d.at_ K) n [] c := by
  subst hX hw hK hmg hb
  obtain ⟨fd, F, G⟩ := h.ex
  have hdv : d.dvs X.K = [] := by unfold DefA.dvs; rw [hd]; rfl
  rw [hdv] at F
  exact code_all G hA hr (F.bindsN hbd) hn fun args Q E z => by rw [hn]; exact h.len args Q E z
/-- with the last ones by default -/
theorem FnB.dfl {d : DefA} {k : Nat} {ps : List Str} {c : Ct} {X : Cx} {A : Around} {n : Nat} {dd : List D} (h : FnB P w K mg base d k ps c) (hX : X.prog = P) (hw : X.w = w) (hK : X.K = K) (hmg : X.mg = mg) (hb : X.base = base) (hA : A.frames = X.A.frames) (hr : Room k A) (hd : d.dvs K ≠ []) (hR : ∀ G, Reps (cf K) G dd (d.dvs K)) (hn : n + (d.dvs K).length = ps.length)
    (hbd : ∀ (T : Addr) (kV doc pm : Value) (an : Option Addr) (cdv ct : Value) (us its : List Value), us.length = n → its.length = (d.dvs K).length →
      ∃ k, bindArgs (fnOf d.name d.qual d.params d.body d.scope (.ref T) kV doc pm an cdv ct) ⟨us, []⟩ = seqItems? (.ref T) >>= k ∧ k (some its.toArray) = pure (ps.zip (us ++ its.drop 0))) : CodeOk X A (cf K) (d.at_ K) n [] (dflt c dd) := by
  subst hX hw hK hmg hb
  obtain ⟨fd, F, G⟩ := h.ex
  obtain ⟨ds, hv, hbn⟩ := F.binds1 (ps := ps) n 0 hd (by rw [Nat.sub_zero]; exact hn) hbd
  have hl : (d.dvs X.K).length = dd.length := (hR fun _ => none).len
  rw [List.drop_zero] at hv
  exact code_dfl G hA hr hbn hv hR hn fun args Q E z => by rw [h.len args Q E z]; omega
/-- THE RULE for a def -/
theorem FnB.of {d : DefA} {k : Nat} {N ps : List Str} {c : Ct} {r : QS} (Fn : ∃ fd, FunD K d.name d.qual d.params d.body d.scope (d.dvs K) (d.kws K) (d.at_ K) fd) (S : FnScope N ps d.scope) (hlen : ∀ args Q E, c args Q E → args.length = ps.length) (hw : ∀ args Q E, c args Q E → r (startE N.length args) (endsC args Q) (exnC args E))
    (hd : ∀ (f : Addr) (cdv : Value) (A : Around) (outer : List PySem.Env) (s : Shared) (H : Hp) (E0 : XK), Room k (A.deeper (envOfC d.qual d.scope s.heap.objs.size f cdv)) → ∀ (G0 H0 : Hp) (B : List Addr) (pin : List (Option Addr)) (xa : Addr) (xd : Option Addr) (xc : Cn) (E : XP),
      Takes (cxOf (L2.CX P w) P w K mg base N d.qual d.scope f cdv A outer s H E0) (wOf ⟨cf K, G0, H0, B, pin, xa, xd, xc⟩ E) → PassesOwn (model P w) (A.deeper (envOfC d.qual d.scope s.heap.objs.size f cdv)) (envOfC d.qual d.scope s.heap.objs.size f cdv) (cxOf (L2.CX P w) P w K mg base N d.qual d.scope f cdv A outer s H E0).xe → H0 = H →
      LSs (cxOf (L2.CX P w) P w K mg base N d.qual d.scope f cdv A outer s H E0) ⟨cf K, G0, H0, B, pin, xa, xd, xc⟩ E d.body r) : FnB P w K mg base d (k + 1) ps c := by
  obtain ⟨fd, F⟩ := Fn
  refine ⟨⟨fd, F, fnC (Fc := cf K) F S hlen hw fun cdv A outer s H E0 hr Fx E hF tk hp h0 => ?_⟩, hlen⟩
  obtain ⟨c0, G0, H0, B, pin, xa, xd, xc⟩ := Fx
  dsimp only at hF
  subst hF
  exact hd _ cdv A outer s H E0 hr G0 H0 B pin xa xd xc E tk hp h0
end
/-- one of two readings, by the class of the left operand -/
def oSw (c : Cn) (o1 o2 : O2) : O2 := fun d e Γ Q E => match isC c d with
  | true => o1 d e Γ Q E
  | false => o2 d e Γ Q E
theorem ol_sw {X : Cx} {F : Fx} {E : XP} {f : Value → Value → Sem Value} {c : Cn} {o1 o2 : O2} (h1 : OpL X F E f o1) (h2 : OpL X F E f o2) : OpL X F E f (oSw c o1 o2) := by
  intro pins s σ H G Γ x y v u d e Q I k rv ru rx ry q
  unfold oSw at q
  split at q
  · exact h1 pins s σ H G Γ x y v u d e Q I k rv ru rx ry q
  · exact h2 pins s σ H G Γ x y v u d e Q I k rv ru rx ry q
def oSw1 (c : Cn) (o1 o2 : O1) : O1 := fun d Γ Q E => match isC c d with
  | true => o1 d Γ Q E
  | false => o2 d Γ Q E
theorem ul_sw {X : Cx} {F : Fx} {E : XP} {f : Value → Sem Value} {c : Cn} {o1 o2 : O1} (h1 : UnL X F E f o1) (h2 : UnL X F E f o2) : UnL X F E f (oSw1 c o1 o2) := by
  intro pins s σ H G Γ x v d Q I k rv rx q
  unfold oSw1 at q
  split at q
  · exact h1 pins s σ H G Γ x v d Q I k rv rx q
  · exact h2 pins s σ H G Γ x v d Q I k rv rx q
end Q
set_option Elab.async false
set_option linter.all false
set_option maxRecDepth 100000
set_option maxHeartbeats 4000000
namespace Q
open He5 (DefA fnA wf wrapB cmet_of)
open PySem L2 PySem.Spec PyProof.Rows He PySem.W
theorem names_own {X : Cx} {x : Str} {c : Value} (hm : X.mg x = some c) (hg : Gl X x := by rfl) (hdb : (x == ("__debug__" : Str)) = false := by decide) : Names X x c := ⟨hg, hdb, .inl hm⟩
theorem hn1 {pa : QE} {k : Str} (Γ : Env) (Q : List D → Env → Prop) (E : XP) (h : qCons pa qNil Γ Q E) : qCons pa qNil Γ (fun ds Γ' => ds.length = [k].length ∧ Q ds Γ') E := by
  have e : (fun (d : D) (Γ1 : Env) => qNil Γ1 (fun ds Γ2 => (d :: ds).length = [k].length ∧ Q (d :: ds) Γ2) E) = fun d Γ1 => qNil Γ1 (fun ds Γ2 => Q (d :: ds) Γ2) E := by
    funext d Γ1
    exact propext ⟨fun z => z.2, fun z => ⟨rfl, z⟩⟩
  show pa Γ (fun (d : D) (Γ1 : Env) => qNil Γ1 (fun ds Γ2 => (d :: ds).length = [k].length ∧ Q (d :: ds) Γ2) E) E
  rw [e]
  exact h
theorem hn2 {pa pb : QE} {k k2 : Str} (Γ : Env) (Q : List D → Env → Prop) (E : XP) (h : qCons pa (qCons pb qNil) Γ Q E) : qCons pa (qCons pb qNil) Γ (fun ds Γ' => ds.length = [k, k2].length ∧ Q ds Γ') E := by
  have e : (fun (d : D) (Γ1 : Env) => qCons pb qNil Γ1 (fun ds Γ2 => (d :: ds).length = [k, k2].length ∧ Q (d :: ds) Γ2) E) = fun d Γ1 => qCons pb qNil Γ1 (fun ds Γ2 => Q (d :: ds) Γ2) E := by
    funext d Γ1
    have e2 : (fun (d2 : D) (Γ3 : Env) => qNil Γ3 (fun ds Γ2 => (d :: d2 :: ds).length = [k, k2].length ∧ Q (d :: d2 :: ds) Γ2) E) = fun d2 Γ3 => qNil Γ3 (fun ds Γ2 => Q (d :: d2 :: ds) Γ2) E := by
      funext d2 Γ3
      exact propext ⟨fun z => z.2, fun z => ⟨rfl, z⟩⟩
    show pb Γ1 (fun (d2 : D) (Γ3 : Env) => qNil Γ3 (fun ds Γ2 => (d :: d2 :: ds).length = [k, k2].length ∧ Q (d :: d2 :: ds) Γ2) E) E = _
    rw [e2]
    rfl
  show pa Γ (fun (d : D) (Γ1 : Env) => qCons pb qNil Γ1 (fun ds Γ2 => (d :: ds).length = [k, k2].length ∧ Q (d :: ds) Γ2) E) E
  rw [e]
  exact h
section
variable {P : Program} {w : World} {K : Frag} {mg : Str → Option Value} {base : Heap}
/-- all arguments are written, though there are defaults -/
theorem FnB.full {d : DefA} {k : Nat} {ps : List Str} {c : Ct} {X : Cx} {A : Around} {n : Nat} (h : FnB P w K mg base d k ps c) (hX : X.prog = P) (hw : X.w = w) (hK : X.K = K) (hmg : X.mg = mg) (hb : X.base = base) (hA : A.frames = X.A.frames) (hr : Room k A) (hd : d.dvs K ≠ []) (hn : n = ps.length)
    (hbd : ∀ (T : Addr) (kV doc pm : Value) (an : Option Addr) (cdv ct : Value) (us its : List Value), us.length = n → its.length = (d.dvs K).length →
      ∃ k, bindArgs (fnOf d.name d.qual d.params d.body d.scope (.ref T) kV doc pm an cdv ct) ⟨us, []⟩ = seqItems? (.ref T) >>= k ∧ k (some its.toArray) = pure (ps.zip (us ++ its.drop (d.dvs K).length))) : CodeOk X A (cf K) (d.at_ K) n [] c := by
  subst hX hw hK hmg hb
  obtain ⟨fd, F, G⟩ := h.ex
  obtain ⟨ds, hv, hbn⟩ := F.binds1 (ps := ps) n (d.dvs X.K).length hd (by rw [Nat.sub_self]; exact hn) hbd
  rw [List.drop_length] at hv
  cases hv
  exact code_all G hA hr hbn hn fun args Q E z => by rw [hn]; exact h.len args Q E z
end
theorem mk_glo {K : Frag} {h : Heap} {mg : Str → Option Value} (X : K.In h) (G : h.Ns mainGlobals mg) {x : Str} (c : pGlo x K) : mg x = some (.ref (ga K x)) := PySem.W.mg_of X G c
theorem mk_free {K : Frag} {h : Heap} {mg : Str → Option Value} (X : K.In h) (G : h.Ns mainGlobals mg) {x : Str} (c : pFree x K) : mg x = none := PySem.W.mg_none_of X G c
end Q
set_option Elab.async false
set_option linter.all false
set_option maxRecDepth 100000
set_option maxHeartbeats 4000000
namespace Q
open PySem L2
def Bd (n : Nat) (i : Int) : Prop := i.natAbs < 2 ^ n
theorem Bd.mono {n m : Nat} {i : Int} (h : Bd n i) (l : n ≤ m) : Bd m i := Nat.lt_of_lt_of_le h (Nat.pow_le_pow_right (by decide) l)
theorem bd_of {n : Nat} {i : Int} (h : Nat.ble (i.natAbs + 1) (2 ^ n) = true) : Bd n i := Nat.le_of_ble_eq_true h
theorem Bd.mul {n m : Nat} {i j : Int} (h : Bd n i) (k : Bd m j) : Bd (n + m) (i * j) := by
  unfold Bd at *
  rw [Int.natAbs_mul, Nat.pow_add]
  exact Nat.mul_lt_mul'' h k
theorem Bd.add {n : Nat} {i j : Int} (h : Bd n i) (k : Bd n j) : Bd (n + 1) (i + j) := by
  unfold Bd at *
  rw [Nat.pow_succ]
  have := Int.natAbs_add_le i j
  omega
theorem Bd.sub {n : Nat} {i j : Int} (h : Bd n i) (k : Bd n j) : Bd (n + 1) (i - j) := by
  unfold Bd at *
  rw [Nat.pow_succ]
  have := Int.natAbs_sub_le i j
  omega
theorem Bd.neg {n : Nat} {i : Int} (h : Bd n i) : Bd n (-i) := by
  unfold Bd at *
  rwa [Int.natAbs_neg]
theorem mul_ok {n m : Nat} {i j : Int} (h : Bd n i) (k : Bd m j) (l : n + m ≤ 134217728) : MulOk i j := mulx_ok h k l
theorem div_ok {i j : Int} (h0 : j ≠ 0) (h : Bd 8999 j) : DivOk i j := ⟨h0, PyProof.noPylong_of_log2 (by
  have : j.natAbs.log2 < 8999 := (Nat.log2_lt (by omega)).mpr h
  omega)⟩
theorem pow3_ok {n : Nat} {i : Int} (h : Bd n i) (l : n ≤ 1000) : PowOk i 3 := ⟨by decide, by
  have h1 := PyProof.Rows.intBits_le h
  have h2 : (Builtin.Int.intBits i : Int) ≤ 1000 := by omega
  have e : (2 : Int) ^ 27 = 134217728 := by decide
  rw [e]
  omega⟩
theorem gcd_bd {n : Nat} {a b : Int} (h : Bd n b) (hb : b ≠ 0) : Bd n (Int.gcd a b : Int) := by
  unfold Bd at *
  have h1 : Int.gcd a b ≤ b.natAbs := Nat.le_of_dvd (by omega) (Nat.gcd_dvd_right _ _)
  have h2 : ((Int.gcd a b : Nat) : Int).natAbs = Int.gcd a b := rfl
  omega
theorem gcd_ne {a b : Int} (hb : b ≠ 0) : (Int.gcd a b : Int) ≠ 0 := by
  have : Int.gcd a b ≠ 0 := fun e => by
    have := (Int.gcd_eq_zero_iff.mp e).2
    exact hb this
  omega
theorem gcd_fmod (x y : Int) : Int.gcd y (x.fmod y) = Int.gcd x y := by
  rw [Int.fmod_def, show x - y * x.fdiv y = x - x.fdiv y * y by rw [Int.mul_comm], Int.gcd_sub_mul_right_right, Int.gcd_comm]
theorem fmod_lt (x : Int) {y : Int} (h : y ≠ 0) : (x.fmod y).natAbs < y.natAbs := by
  rcases Int.lt_or_gt_of_ne h with h | h
  · have e : x.fmod y = -((-x).fmod (-y)) := by rw [Int.neg_fmod_neg]; omega
    have h1 := Int.fmod_lt_of_pos (-x) (show 0 < -y by omega)
    have h2 := Int.fmod_nonneg_of_pos (-x) (show 0 < -y by omega)
    omega
  · have h1 := Int.fmod_lt_of_pos x h
    have h2 := Int.fmod_nonneg_of_pos x h
    omega
def dvs (a b : Int) : Int := if 0 < b then (Int.gcd a b : Int) else -(Int.gcd a b : Int)
theorem dvs_ne {a b : Int} (hb : b ≠ 0) : dvs a b ≠ 0 := by
  have := gcd_ne (a := a) hb
  unfold dvs
  split <;> omega
theorem dvs_bd {n : Nat} {a b : Int} (h : Bd n b) (hb : b ≠ 0) : Bd n (dvs a b) := by
  have := gcd_bd (a := a) h hb
  unfold dvs
  split
  · exact this
  · exact this.neg
theorem dvs_num {a b : Int} (hb : b ≠ 0) : a.fdiv (dvs a b) = (Rat.divInt a b).num := by
  have hd : (Int.gcd a b : Int) ∣ a := Int.gcd_dvd_left a b
  have hg := gcd_ne (a := a) hb
  rw [Rat.num_divInt, Int.gcd_comm b a]
  unfold dvs
  split
  · rename_i h
    rw [Int.sign_eq_one_of_pos h, Int.one_mul, Int.fdiv_eq_ediv_of_dvd hd]
  · rename_i h
    have hn : b < 0 := by omega
    rw [Int.sign_eq_neg_one_of_neg hn, Int.fdiv_neg hg, if_pos hd, Int.fdiv_eq_ediv_of_dvd hd, Int.neg_mul, Int.one_mul, Int.neg_ediv_of_dvd hd]
theorem dvs_den {a b : Int} (hb : b ≠ 0) : b.fdiv (dvs a b) = ((Rat.divInt a b).den : Int) := by
  have hd : (Int.gcd a b : Int) ∣ b := Int.gcd_dvd_right a b
  have hg := gcd_ne (a := a) hb
  rw [Rat.den_divInt, if_neg hb, Int.gcd_comm b a]
  unfold dvs
  split
  · rename_i h
    rw [Int.fdiv_eq_ediv_of_dvd hd]
    rw [Int.natCast_ediv, Int.natAbs_of_nonneg (by omega)]
  · rename_i h
    have hn : b < 0 := by omega
    rw [Int.fdiv_neg hg, if_pos hd, Int.fdiv_eq_ediv_of_dvd hd, Int.natCast_ediv, Int.ofNat_natAbs_of_nonpos (by omega), Int.neg_ediv_of_dvd hd]
structure Sz (n : Nat) (q : Rat) : Prop where
  num : Bd n q.num
  den : Bd n (q.den : Int)
theorem den_ne (q : Rat) : (q.den : Int) ≠ 0 := by
  have := q.den_nz
  omega
theorem add_divInt (p q : Rat) : Rat.divInt (p.num * (q.den : Int) + q.num * (p.den : Int)) ((p.den : Int) * (q.den : Int)) = p + q := by
  rw [← Rat.divInt_add_divInt _ _ (den_ne p) (den_ne q), Rat.num_divInt_den, Rat.num_divInt_den]
theorem sub_divInt (p q : Rat) : Rat.divInt (p.num * (q.den : Int) - q.num * (p.den : Int)) ((p.den : Int) * (q.den : Int)) = p - q := by
  rw [← Rat.divInt_sub_divInt _ _ (den_ne p) (den_ne q), Rat.num_divInt_den, Rat.num_divInt_den]
theorem mul_divInt (p q : Rat) : Rat.divInt (p.num * q.num) ((p.den : Int) * (q.den : Int)) = p * q := by
  rw [← Rat.divInt_mul_divInt, Rat.num_divInt_den, Rat.num_divInt_den]
theorem neg_divInt (p : Rat) : Rat.divInt (-p.num) (p.den : Int) = -p := by
  rw [← Rat.neg_divInt, Rat.num_divInt_den]
theorem div_divInt (p q : Rat) : Rat.divInt (p.num * (q.den : Int)) ((p.den : Int) * q.num) = p / q := by
  rw [Rat.div_def, Rat.inv_def, ← Rat.divInt_mul_divInt, Rat.num_divInt_den]
/-- the sizes of what is made -/
theorem divInt_sz {n : Nat} {a b : Int} (ha : Bd n a) (hb : Bd n b) (h0 : b ≠ 0) : Sz n (Rat.divInt a b) := by
  constructor
  · rw [← dvs_num h0]
    unfold Bd at *
    have hd : dvs a b ∣ a := by
      unfold dvs
      split
      · exact Int.gcd_dvd_left a b
      · exact (Int.neg_dvd).mpr (Int.gcd_dvd_left a b)
    rw [Int.fdiv_eq_ediv_of_dvd hd]
    have := Int.natAbs_ediv_le_natAbs a (dvs a b)
    omega
  · rw [← dvs_den h0]
    unfold Bd at *
    have hd : dvs a b ∣ b := by
      unfold dvs
      split
      · exact Int.gcd_dvd_right a b
      · exact (Int.neg_dvd).mpr (Int.gcd_dvd_right a b)
    rw [Int.fdiv_eq_ediv_of_dvd hd]
    have := Int.natAbs_ediv_le_natAbs b (dvs a b)
    omega
def isInt : D → Bool
  | .int _ => true
  | _ => false
/-- data that may be asked for their type -/
def plain : D → Bool
  | .scr _ => false
  | .cls _ => false
  | .ins _ _ => false
  | .err _ _ => false
  | .fr _ => false
  | .raw _ => false
  | .rws _ => false
  | _ => true
/-- the number that a datum is -/
def numQ : D → Option Rat
  | .int n => some (n : Rat)
  | .rat q => some q
  | _ => none
def tupR (q : Rat) : D := .tup [.int q.num, .int (q.den : Int)]
theorem eqv_int (a b : Int) : PyData.eqv (.int a) (.int b) = (a == b) := by unfold PyData.eqv; rfl
theorem eqv_tupR (p q : Rat) : PyData.eqv (toPy (tupR p)) (toPy (tupR q)) = decide (p = q) := by
  have e : PyData.eqv (toPy (tupR p)) (toPy (tupR q)) = (p.num == q.num && ((p.den : Int) == (q.den : Int) && true)) := rfl
  rw [e, Bool.and_true]
  by_cases h : p = q
  · subst h
    simp
  · rw [decide_eq_false h]
    by_cases h1 : p.num = q.num
    · have h2 : p.den ≠ q.den := fun e2 => h (Rat.ext h1 e2)
      simp [h1]
      omega
    · simp [h1]
theorem plain_tupR (q : Rat) : plainD (tupR q) = true := rfl
end Q
set_option Elab.async false
set_option linter.all false
set_option maxRecDepth 100000
set_option maxHeartbeats 4000000
namespace Q
open He5 (DefA fnA wf wrapB cmet_of)
open PySem L2 PySem.Spec PyProof.Rows He PySem.W
section
variable {P : Program} {w : World} {K : Frag} {mg : Str → Option Value} {base : Heap}
structure FnG (P : Program) (w : World) (K : Frag) (mg : Str → Option Value) (base : Heap) (CX : CXT) (k : Nat) (f : Addr) (fd : FuncData) (ps : List Str) (sp : Sp) : Prop where
  len : ∀ vs H Q E, sp vs H Q E → vs.length = ps.length
  run : ∀ (A : Around) (outer : List PySem.Env) (s : Shared) (H : Hp) (args : Args) (us : List Value) (vs : List V) (Q : VK) (E : XK), A.guards = some [] → Room k A → Env0 P w K mg base A outer s H → BindsTo s fd args (ps.zip us) → Vals vs us → sp vs H Q E →
    codeAny (model P w) A (.call (.ref f) args) (CR CX outer P w H s Q E) s
end
end Q
set_option Elab.async false
set_option linter.all false
set_option maxRecDepth 100000
set_option maxHeartbeats 4000000
namespace Q
open PySem L2 PySem.Spec PyProof.Rows He PySem.W
section
variable {X : Cx} {F : Fx} {E : XP}
theorem roomU {k : Nat} {A : Around} (r : Room k A) : A.units + 100 < cLine := by have := r.un; omega
end
section
variable {P : Program} {w : World} {mg : Str → Option Value} {base : Heap} {Fc : Cf}
theorem fnCG {c : Ct} {r : QS} {x qual : Str} {params : Arguments} {body : List Stmt} {scope : Scope} {dvs : List V} {kws : List (Str × V)} {f : Addr} {fd : FuncData} {N ps : List Str} {k : Nat} (Fn : FunD Fc.K x qual params body scope dvs kws f fd) (S : FnScope N ps scope)
    (hlen : ∀ args Q E, c args Q E → args.length = ps.length) (hw : ∀ args Q E, c args Q E → r (startE N.length args) (endsC args Q) (exnC args E))
    (hd : ∀ (cdv : Value) (A : Around) (outer : List PySem.Env) (s : Shared) (H : Hp) (E0 : XK), Room k (A.deeper (envOfC qual scope s.heap.objs.size f cdv)) → (A.deeper (envOfC qual scope s.heap.objs.size f cdv)).guards = some [] → ∀ (F : Fx) (E : XP), F.toCf = Fc →
      Takes (cxOf (L2.CX P w) P w Fc.K mg base N qual scope f cdv A outer s H E0) (wOf F E) → PassesOwn (model P w) (A.deeper (envOfC qual scope s.heap.objs.size f cdv)) (envOfC qual scope s.heap.objs.size f cdv) (cxOf (L2.CX P w) P w Fc.K mg base N qual scope f cdv A outer s H E0).xe → F.H0 = H →
      LSs (cxOf (L2.CX P w) P w Fc.K mg base N qual scope f cdv A outer s H E0) F E body r) :
    FnG P w Fc.K mg base (L2.CX P w) (k + 1) f fd ps (spC Fc c) := by
  obtain ⟨oc, od, dV, kV, doc, pm, an, cdv, ct, osl, rfl, lk, hcd, _, _⟩ := Fn.ex
  have len : ∀ vs H Q E, spC Fc c vs H Q E → vs.length = ps.length := fun vs H Q E ⟨G, args, sb, ha, nd, Qc, Ec, hc, _⟩ => by
    rw [ha.len]
    exact hlen _ _ _ hc
  refine ⟨len, fun A outer s H args us vs Q E hgd hr e0 hb rr hsp => ?_⟩
  have hl := len _ _ _ _ hsp
  have KX : Fc.K.In s.heap := e0.mod.kin.keeps fun b o e => (e0.bs b o e).1
  have lim : s.heap.NoLimit := e0.mod.nolimit.keeps fun b o e => (e0.bs b o e).1
  have hkind : ∀ y ∈ ps.zip us, scope.names.lookup y.1 = some .local ∨ (scope.names.lookup y.1 = some .cell ∧ ((cellsFrom (s.heap.objs.size + 1) scope.names []).lookup y.1).isSome = true) := fun ⟨n, v⟩ hy => by
    rcases S.par n (List.of_mem_zip hy).1 with q | q
    · exact .inl q
    · exact .inr ⟨q, PySem.W.cellsFrom_some _ _ _ (.inl q)⟩
  refine codeAny_call_function hr.depth (KX _ _ lk) rfl S.co S.gen rfl (PySem.W.codeRec_of KX hcd) (hb _ _ _ _ ?_)
  refine wpAny_newFunctionEnv_cells S.kind hkind fun env he s1 x => ?_
  subst he
  refine ⟨lim.keeps x.toInCall.keep, codeAny_func ?_⟩
  obtain ⟨G, args', sb, ha, nd, Qc, Ec, hc, hq, he⟩ := hsp
  have al : args'.length = ps.length := hlen _ _ _ hc
  have tk0 : Takes (cxOf (L2.CX P w) P w Fc.K mg base N qual scope f cdv A outer s H E) (fun cls d _ H' => E cls d H') := takes_of rfl rfl rfl rfl
  have tk : Takes (cxOf (L2.CX P w) P w Fc.K mg base N qual scope f cdv A outer s H E) (wOf (fxOf Fc G H args' vs) (exnC args' Ec)) := fun u s' ⟨a, B, sI, pins, σ, H', cls, d, e, I, nb, up, sky, na, os, ag, G', Γ', xx, kk, xr, q⟩ => by
    obtain ⟨p, o1, o2⟩ := post_end ha kk
    exact tk0 u s' ⟨a, B, sI, pins, σ, H', cls, d, e, I, nb, up, sky, na, os, ag, he xx _ cls d H' G' q p o1 o2 xr⟩
  have D := hd cdv A outer s H E (hr.deeper _) hgd (fxOf Fc G H args' vs) (exnC args' Ec) rfl tk PassesOwn.leaving rfl
  have I : Inv (cxOf (L2.CX P w) P w Fc.K mg base N qual scope f cdv A outer s H E) [] (start N vs) H s1 := inv_start S hr.hd e0 hl rr x
  refine wpAny_mono (D.run [] s1 (start N vs) H G (startE N.length args') (endsC args' Qc) I (ok_start sb ha nd) (hw args' Qc Ec hc)) (fun fl s' hs => ?_) fun e s' hs => hs
  have fin : ∀ {σ' : St} {H' : Hp} {v : V} {u : Value}, Inv (cxOf (L2.CX P w) P w Fc.K mg base N qual scope f cdv A outer s H E) [] σ' H' s' → RelV v u → Q v H' → CE outer P w H s Q u s' :=
    fun {σ' H' v u} J rv q => ⟨v, H', J.os, J.bare, J.base, J.hok, rv, q⟩
  cases fl with
  | next =>
    obtain ⟨σ', H', I', Γ', G', q, i, kk⟩ := hs
    obtain ⟨p, o1, o2⟩ := post_end ha kk
    exact fin (v := V.non) (u := Value.none) I' rfl (hq _ _ .non H' G' q p o1 o2 rfl)
  | ret u =>
    obtain ⟨v, σ', H', I', rv, d, Γ', G', σ2, q, i, kk, rp⟩ := hs
    obtain ⟨p, o1, o2⟩ := post_end ha kk
    exact fin I' rv (hq _ _ v H' G' q p o1 o2 rp)
  | brk =>
    obtain ⟨σ', H', I', Γ', G', q, i, kk⟩ := hs
    exact q.elim
  | cont =>
    obtain ⟨σ', H', I', Γ', G', q, i, kk⟩ := hs
    exact q.elim
end
end Q
set_option Elab.async false
set_option linter.all false
set_option maxRecDepth 100000
set_option maxHeartbeats 4000000
namespace Q
open He5 (DefA fnA wf wrapB cmet_of)
open PySem L2 PySem.Spec PyProof.Rows He PySem.W
section
variable {X : Cx} {A : Around} {Fc : Cf}
theorem code_fnG {c0 c : Ct} {k n : Nat} {f : Addr} {fd : FuncData} {ps ks : List Str} {g : List Value → List Value → List Value} {gV : List V → List V → List V} (Fn : FnG X.prog X.w X.K X.mg X.base (L2.CX X.prog X.w) k f fd ps (spC Fc c0)) (hgd : A.guards = some []) (hA : A.frames = X.A.frames) (hr : Room k A) (hb : KBn X.K fd ps n ks g gV)
    (hl : ∀ args Q E, c args Q E → args.length = n + ks.length) (hsp : ∀ vs zs H Q E, vs.length = n → zs.length = ks.length → spC Fc c (vs ++ zs) H Q E → spC Fc c0 (gV vs zs) H Q E) : CodeOk X A Fc f n ks c := by
  refine ⟨hl, fun pins s σ H vs us zs ws Q W tk I r rz l1 l2 h => ?_⟩
  have r2 := hb.rel r rz
  refine codeAny_mono (Fn.run A X.stack s H ⟨us, ks.zip ws⟩ (g us ws) (gV vs zs) Q (WE W σ) hgd hr (env0_at hA I) (hb.to s us ws I.kIn (r.length.symm.trans l1) (rz.length.symm.trans l2)) r2 (hsp vs zs H Q _ l1 l2 h)) fun r s' hq => ?_
  cases r with
  | error e => exact passAt tk σ pins H s e s' I hq
  | ok fl =>
    cases fl with
    | ret u => exact I.after hq
    | next => exact False.elim hq
    | brk => exact False.elim hq
    | cont => exact False.elim hq
end
structure FnBG (P : Program) (w : World) (K : Frag) (mg : Str → Option Value) (base : Heap) (d : DefA) (k : Nat) (ps : List Str) (c : Ct) : Prop where
  ex : ∃ fd, FunD K d.name d.qual d.params d.body d.scope (d.dvs K) (d.kws K) (d.at_ K) fd ∧ FnG P w K mg base (L2.CX P w) k (d.at_ K) fd ps (spC (cf K) c)
  len : ∀ args Q E, c args Q E → args.length = ps.length
section
variable {P : Program} {w : World} {K : Frag} {mg : Str → Option Value} {base : Heap}
theorem FnBG.kp {d : DefA} {k : Nat} {ps : List Str} {c : Ct} (h : FnBG P w K mg base d k ps c) : keepIn K (.ref (d.at_ K)) = true := by
  obtain ⟨fd, F, _⟩ := h.ex
  exact F.kp
theorem FnBG.all {d : DefA} {k : Nat} {ps : List Str} {c : Ct} {X : Cx} {A : Around} {n : Nat} (h : FnBG P w K mg base d k ps c) (hgd : A.guards = some []) (hX : X.prog = P) (hw : X.w = w) (hK : X.K = K) (hmg : X.mg = mg) (hb : X.base = base) (hA : A.frames = X.A.frames) (hr : Room k A) (hd : d.dfl = []) (hn : n = ps.length)
    (hbd : ∀ (kV doc pm : Value) (an : Option Addr) (cdv ct : Value) (us : List Value), us.length = ps.length → bindArgs (fnOf d.name d.qual d.params d.body d.scope .none kV doc pm an cdv ct) ⟨us, []⟩ = pure (ps.zip us)) : CodeOk X A (cf K) (d.at_ K) n [] c := by
  subst hX hw hK hmg hb
  obtain ⟨fd, F, G⟩ := h.ex
  have hdv : d.dvs X.K = [] := by unfold DefA.dvs; rw [hd]; rfl
  rw [hdv] at F
  exact code_fnG G hgd hA hr (kbn_all (F.bindsN hbd) hn) (fun args Q E z => by rw [hn]; exact h.len args Q E z) fun vs zs H Q E l1 l2 h => by
    cases zs with
    | nil => rw [List.append_nil] at h; exact h
    | cons _ _ => cases l2
theorem FnBG.of {d : DefA} {k : Nat} {N ps : List Str} {c : Ct} {r : QS} (Fn : ∃ fd, FunD K d.name d.qual d.params d.body d.scope (d.dvs K) (d.kws K) (d.at_ K) fd) (S : FnScope N ps d.scope) (hlen : ∀ args Q E, c args Q E → args.length = ps.length) (hw : ∀ args Q E, c args Q E → r (startE N.length args) (endsC args Q) (exnC args E))
    (hd : ∀ (f : Addr) (cdv : Value) (A : Around) (outer : List PySem.Env) (s : Shared) (H : Hp) (E0 : XK), Room k (A.deeper (envOfC d.qual d.scope s.heap.objs.size f cdv)) → (A.deeper (envOfC d.qual d.scope s.heap.objs.size f cdv)).guards = some [] → ∀ (G0 H0 : Hp) (B : List Addr) (pin : List (Option Addr)) (xa : Addr) (xd : Option Addr) (xc : Cn) (E : XP),
      Takes (cxOf (L2.CX P w) P w K mg base N d.qual d.scope f cdv A outer s H E0) (wOf ⟨cf K, G0, H0, B, pin, xa, xd, xc⟩ E) → PassesOwn (model P w) (A.deeper (envOfC d.qual d.scope s.heap.objs.size f cdv)) (envOfC d.qual d.scope s.heap.objs.size f cdv) (cxOf (L2.CX P w) P w K mg base N d.qual d.scope f cdv A outer s H E0).xe → H0 = H →
      LSs (cxOf (L2.CX P w) P w K mg base N d.qual d.scope f cdv A outer s H E0) ⟨cf K, G0, H0, B, pin, xa, xd, xc⟩ E d.body r) : FnBG P w K mg base d (k + 1) ps c := by
  obtain ⟨fd, F⟩ := Fn
  refine ⟨⟨fd, F, fnCG (Fc := cf K) F S hlen hw fun cdv A outer s H E0 hr hgd Fx E hF tk hp h0 => ?_⟩, hlen⟩
  obtain ⟨c0, G0, H0, B, pin, xa, xd, xc⟩ := Fx
  dsimp only at hF
  subst hF
  exact hd _ cdv A outer s H E0 hr hgd G0 H0 B pin xa xd xc E tk hp h0
end
/-- what is asked of a law's def: at every script it says True -/
def lawC (n : Nat) : Ct := fun args Q _ => ∃ ns : List Int, args = [.val (.scr ns)] ∧ ns.length ≤ n ∧ Q (.bl true) args
theorem lawC_sp {K : Frag} {n : Nat} {H : Hp} {a : Addr} {ns : List Int} {G : Hp} (sb : Sub G H) (hG : SqL K G a (ns.map V.int)) (hl : ns.length ≤ n) : spC (cf K) (lawC n) [.ref a] H (fun v _ => v = .bl true) (fun _ _ _ => False) := by
  refine ⟨G, [.val (.scr ns)], sb, ⟨.ref a, [], rfl, ⟨a, rfl, hG⟩, rfl⟩, List.nodup_nil, fun d _ => d = .bl true, fun _ _ => False, ⟨ns, rfl, hl, rfl⟩, fun d outs v H' G' q p ha sh r => ?_, fun x outs cls dd H' G' q p ha sh r => q⟩
  subst q
  exact r
theorem endG {l : OpenLaw} {n k : Nat} {q : Program} {loose : List Str} {XP : (Str → Option Value) → Heap → Prop} {YP : World → Heap → Prop} {d : DefRec} {x : Str}
    (hn : l.most = some n) (hn2 : n ≤ sizeLine) (hdf : d.params.defaults = []) (hr : Room k callerA)
    (F : ∀ (w : World) (mg : Str → Option Value) (fa : Addr) (h : Heap), YP w h → h.Ns mainGlobals mg → mg d.name = some (.ref fa) →
      ∃ (K : Frag) (fd : FuncData), K.In h ∧ (∀ (s : Shared) (u : Value), BindsTo s fd ⟨[u], []⟩ [(x, u)]) ∧
        ∀ base : Heap, K.In base → base.Ns mainGlobals mg → FnG l.prog w K mg base (L2.CX l.prog w) k fa fd [x] (spC (cf K) (lawC n))) :
    WalkO q loose XP YP l.row.toRowW d [] (fun f vs => PySem.call f vs) := by
  refine Att.attach_call hn hdf fun w s₀ s₁ mg mb fa o pm cd doc a vs ns G Y ho hd hcd hmg ha hi hlen hg => ?_
  obtain ⟨K, fd, KX, hbind, hF⟩ := F w mg fa _ Y G.T.g hmg
  have rv := vals_ints hi
  have lenV := hi.length
  have hl : ns.length ≤ sizeLine := Nat.le_trans hlen hn2
  -- H tells of the script alone
  have core : ∀ H : Hp, Only H → SqL K H a (ns.map V.int) → HOk l.prog w H s₁.heap → (∀ b, H b ≠ none → b = a) → (H a ≠ none → K.lookup a = none) →
      codeAny (model l.prog w) callerA (.call (.ref fa) ⟨[.ref a], []⟩) (fun r s' => r = .ok (.ret (.bool true)) ∧ OldK s₁.heap s'.heap ∧ s'.os = s₁.os ∧ AllBare s'.gens) s₁ := by
    intro H hO hS hok hA hK
    have own : ∀ {b : Addr} {u : HO}, H b = some u → b = a := fun {b u} e => hA b (by rw [e]; exact Option.some_ne_none u)
    have noA : ∀ {b : Addr} {o : Obj} {es : Array DictEntry} {ep : Nat}, s₁.heap.get? b = some o → o.data = .dict es ep → H b = none := fun {b o es ep} e dd => by
      cases hb : H b with
      | none => rfl
      | some u =>
        rw [own hb, ha] at e
        cases e
        cases dd
    have nsK : ∀ {b : Addr} {m : Str → Option Value}, s₁.heap.Ns b m → (hidT s₁.heap H).Ns b m := fun {b m} ⟨o, es, ep, e, dd, r⟩ => ⟨o, es, ep, hidT_get e (noA e dd), dd, r⟩
    have hKb : K.In (hidT s₁.heap H) := fun b o e => hidT_get (KX b o e) (by
      cases hb : H b with
      | none => rfl
      | some u =>
        have eb := own hb
        subst eb
        rw [hK (by rw [hb]; exact Option.some_ne_none u)] at e
        cases e)
    have hM : Mod K mg (hidT s₁.heap H) := ⟨hKb, nsK G.T.g, ⟨mb, nsK G.T.b, G.T.builtins⟩, let ⟨mc, h1, h2⟩ := G.T.nolimit; ⟨mc, nsK h1, h2⟩⟩
    have e0 : Env0 l.prog w K mg (hidT s₁.heap H) callerA [] s₁ H := ⟨rfl, hM, fun b o e => of_hidT e, Nat.le_of_eq (hidT_size _ _), trivial, fun b hb => absurd (show b ∈ ([] : List Addr) from hb) (by simp), hok, .of_eq hg⟩
    refine codeAny_mono ((hF _ hKb (nsK G.T.g)).run callerA [] s₁ H ⟨[.ref a], []⟩ [.ref a] [.ref a] _ _ rfl hr e0 (hbind s₁ (.ref a)) (.cons rfl .nil) (lawC_sp (G := H) (fun b o e => .inl e) hS hlen)) fun r s' h => ?_
    cases r with
    | error e =>
      obtain ⟨_, _, _, _, _, _, _, _, _, _, _, _, z⟩ := (show L2.CX l.prog w [] H s₁ (fun _ _ _ => False) e s' from h)
      exact z.elim
    | ok fl =>
      cases fl with
      | next => exact False.elim h
      | brk => exact False.elim h
      | cont => exact False.elim h
      | ret u =>
        obtain ⟨v, H', os, bare, un, hok', r', z⟩ := h
        have z' : v = .bl true := z
        subst z'
        obtain rfl : u = Value.bool true := r'
        refine ⟨rfl, OldK.of_keep fun b o e => ?_, os, bare⟩
        cases hb : H b with
        | none => exact un.keep b o e hb (fun y => absurd (show b ∈ ([] : List Addr) from y) (by simp)) (by simp)
        | some u =>
          rcases hO b with y | ⟨ob, xs, y⟩
          · rw [hb] at y
            cases y
          · obtain ⟨e1, _⟩ := hok b _ y
            obtain ⟨e2, _⟩ := hok' b _ (un.frzs b ob _ y)
            rw [e] at e1
            cases e1
            exact e2
  cases hk : K.lookup a with
  | some o =>
    have e := KX a o hk
    rw [ha] at e
    cases e
    exact core (fun _ => none) (fun _ => .inl rfl) (.inr ⟨_, vs.toArray, _, hk, rfl, rfl, rfl, by rw [List.size_toArray, lenV]; exact hl, by simpa using rv⟩) (fun b u z => by cases (show (none : Option HO) = some u from z)) (fun b z => absurd rfl z) fun z => absurd rfl z
  | none =>
    refine core (fun b => if b = a then some (.frz { cls := .type "list", data := .seq vs.toArray } (.lst (ns.map V.int))) else none) (fun b => ?_) (.inl (.inr ⟨{ cls := .type "list", data := .seq vs.toArray }, if_pos rfl⟩)) (fun b u z => ?_) (fun b z => ?_) fun _ => hk
    · by_cases hb : b = a
      · exact .inr ⟨_, _, if_pos hb⟩
      · exact .inl (if_neg hb)
    · by_cases hb : b = a
      · have z' := (if_pos hb).symm.trans z
        cases z'
        subst hb
        exact ⟨ha, by rw [List.length_map]; exact hl, vs, _, rv, ha⟩
      · have z' := (if_neg hb).symm.trans z
        cases z'
    · by_cases hb : b = a
      · exact hb
      · exact absurd (if_neg hb) z
end Q
set_option Elab.async false
set_option linter.all false
set_option maxRecDepth 100000
set_option maxHeartbeats 4000000
namespace Q
open PySem L2 PySem.Spec PyProof.Rows He PySem.W
/-- the function object at an address is one -/
theorem same_fd {K : Frag} {x qual x' qual' : Str} {params params' : Arguments} {body body' : List Stmt} {scope scope' : Scope} {dvs dvs' : List V} {kws kws' : List (Str × V)} {f : Addr} {fd fd' : FuncData} (F : FunD K x qual params body scope dvs kws f fd) (F' : FunD K x' qual' params' body' scope' dvs' kws' f fd') : fd' = fd := by
  obtain ⟨oc, od, dV, kV, doc, pm, an, cdv, ct, osl, _, lk, _⟩ := F.ex
  obtain ⟨oc', od', dV', kV', doc', pm', an', cdv', ct', osl', _, lk', _⟩ := F'.ex
  rw [lk] at lk'
  cases lk'
  rfl
end Q
set_option Elab.async false
set_option linter.all false
set_option maxRecDepth 100000
set_option maxHeartbeats 4000000
namespace Q
open PySem L2 PySem.Spec PyProof.Rows
def wipeE (Γ : Env) : List Nat → Env
  | [] => Γ
  | v :: vs => (wipeE Γ vs).set v .no
/-- the names of the comprehension stand for nothing that may change -/
def offs (Γ : Env) : List Nat → Bool
  | [] => true
  | v :: vs => offI Γ v && offs Γ vs
abbrev noE : XP := fun _ _ => False
structure LTs (X : Cx) (F : Fx) (E : XP) (ifs : List Expr) (p : QT) : Prop where
  run : ∀ (pins : List (Addr × Obj)) (s : Shared) (σ : St) (H G : Hp) (Γ : Env) (Q : Bool → Env → Prop), Inv X pins σ H s → Ok F G H σ Γ → p Γ Q E →
    wpAny (model X.prog X.w) X.A (forIn ifs true fun c r => if r = true then do let ok ← isTrue c X.env (eval c X.env); pure (ForInStep.yield ok) else pure (ForInStep.yield r)) (TP X pins σ (FinT F G σ Q)) X.xe s
def qYes : QT := fun Γ Q _ => Q true Γ
section
variable {X : Cx} {F : Fx} {E : XP}
theorem lts_nil : LTs X F E [] qYes := ⟨fun _ _ _ H G Γ _ I k h => wpAny_tests_nil ⟨H, I, Γ, G, h, Inc.refl G, k⟩⟩
theorem Ok.wipe {G H : Hp} {σ : St} {Γ : Env} (k : Ok F G H σ Γ) : ∀ {vs : List Nat}, offs Γ vs = true → Ok F G H (wipe σ vs) (wipeE Γ vs) ∧ ∀ i, offI Γ i = true → offI (wipeE Γ vs) i = true
  | [], _ => ⟨k, fun _ h => h⟩
  | v :: vs, h => by
    obtain ⟨h1, h2⟩ := Bool.and_eq_true_iff.mp h
    obtain ⟨k1, o1⟩ := k.wipe (vs := vs) h2
    refine ⟨k1.unset (offI_ok (o1 v h1)), fun i hi => ?_⟩
    have hi' := o1 i hi
    unfold wipeE
    unfold offI at hi' ⊢
    by_cases e : v = i
    · subst e
      cases hg : (wipeE Γ vs)[v]? with
      | none => rw [hg] at hi'; cases hi'
      | some s =>
        have hl : v < (wipeE Γ vs).length := (List.getElem?_eq_some_iff.mp hg).1
        rw [List.getElem?_set_self hl]
    · rw [List.getElem?_set_ne e]
      exact hi'
theorem wipe_get {σ : St} {j : Nat} : ∀ {vs : List Nat}, (wipe σ vs)[j]? = if j ∈ vs then (σ[j]?).map (fun _ => none) else σ[j]?
  | [] => by simp [wipe]
  | v :: vs => by
    unfold wipe
    have ih := wipe_get (σ := σ) (j := j) (vs := vs)
    by_cases h : v = j
    · subst h
      rw [List.getElem?_set, if_pos rfl, wipe_length, if_pos List.mem_cons_self]
      by_cases hl : v < σ.length
      · rw [if_pos hl, List.getElem?_eq_getElem hl]; rfl
      · rw [if_neg hl, List.getElem?_eq_none (by omega)]; rfl
    · rw [List.getElem?_set_ne h, ih]
      by_cases hm : j ∈ vs
      · rw [if_pos hm, if_pos (List.mem_cons_of_mem _ hm)]
      · rw [if_neg hm, if_neg (fun z => by
          rcases List.mem_cons.mp z with z | z
          · exact h z.symm
          · exact hm z)]
theorem wipe_idem {σ : St} {vs : List Nat} : wipe (wipe σ vs) vs = wipe σ vs := by
  refine List.ext_getElem? fun j => ?_
  rw [wipe_get, wipe_get]
  split
  · cases σ[j]? <;> rfl
  · rfl
theorem wipe_set {σ : St} {vs : List Nat} {i : Nat} {v : Option V} (h : i ∈ vs) : wipe (σ.set i v) vs = wipe σ vs := by
  refine List.ext_getElem? fun j => ?_
  rw [wipe_get, wipe_get]
  split
  · by_cases e : i = j
    · subst e
      rw [List.getElem?_set, if_pos rfl]
      by_cases hl : i < σ.length
      · rw [if_pos hl, List.getElem?_eq_getElem hl]; rfl
      · rw [if_neg hl, List.getElem?_eq_none (by omega)]
    · rw [List.getElem?_set_ne e]
  · rename_i hm
    rw [List.getElem?_set_ne (show i ≠ j from fun e => hm (e ▸ h))]
/-- a target whose names are the comprehension's own -/
structure LGv (X : Cx) (F : Fx) (tg : Expr) (g : QG) (vs : List Nat) : Prop where
  run : ∀ (pins : List (Addr × Obj)) (s : Shared) (σ : St) (H G : Hp) (Γ : Env) (v : V) (u : Value) (d : D) (Q : Env → Prop), Inv X pins σ H s → Ok F G H σ Γ → RelV v u → Rep F.toCf G d v → g d Γ Q →
    wpAny (model X.prog X.w) X.A (assign tg X.env u) (fun _ s' => ∃ σ' H', Inv X pins σ' H' s' ∧ wipe σ' vs = wipe σ vs ∧ ∃ Γ', Q Γ' ∧ Ok F G H' σ' Γ') X.xe s
structure LGvs (X : Cx) (F : Fx) (ts : List Expr) (g : List D → Env → (Env → Prop) → Prop) (vs : List Nat) : Prop where
  run : ∀ (pins : List (Addr × Obj)) (s : Shared) (σ : St) (H G : Hp) (Γ : Env) (ws : List V) (us : List Value) (ds : List D) (Q : Env → Prop), Inv X pins σ H s → Ok F G H σ Γ → Vals ws us → Reps F.toCf G ds ws → g ds Γ Q →
    wpAny (model X.prog X.w) X.A (assignInOrder ((assignEach ts X.env).map (·.2)) us) (fun _ s' => ∃ σ' H', Inv X pins σ' H' s' ∧ wipe σ' vs = wipe σ vs ∧ ∃ Γ', Q Γ' ∧ Ok F G H' σ' Γ') X.xe s
variable {vs : List Nat} {pos : Pos}
theorem lgv_name (i : Nat) {x : Str} (hN : X.N.Nodup) (hm : i ∈ vs := by decide) (hi : X.N[i]? = some x := by rfl) (hx : Loc X.env.scope x := by first | exact Or.inl rfl | exact Or.inr rfl) (hf : X.fn x = true ∨ X.env.scope.names.lookup x = some .local := by first | exact .inl rfl | exact .inr rfl | assumption) : LGv X F (.Name x pos) (gV i) vs :=
  ⟨fun pins s σ H G Γ v u d Q I k r rp h => by
    obtain ⟨n, q⟩ := setV_get h
    exact thn ((pg_name (X := X) (i := i) hN hi hx hf).run pins s σ H v u (fun σ' H' => wipe σ' vs = wipe σ vs ∧ ∃ Γ', Q Γ' ∧ Ok F G H' σ' Γ') I r ⟨wipe_set hm, _, q, k.set n rp⟩) fun _ s' ⟨σ', H', I', a, b⟩ => ⟨σ', H', I', a, b⟩⟩
theorem lgvs_nil : LGvs X F [] gsNil vs := ⟨fun pins s σ H G Γ ws us ds Q I k r rp h => by
  cases ds with
  | nil =>
    cases (show ws = [] from rp)
    cases r
    exact assignInOrder_nil ⟨σ, H, I, rfl, Γ, h, k⟩
  | cons _ _ => exact h.elim⟩
theorem lgvs_cons {e : Expr} {es : List Expr} {g : QG} {gr : List D → Env → (Env → Prop) → Prop} (h1 : LGv X F e g vs) (h2 : LGvs X F es gr vs) (hs : (assignEach (e :: es) X.env).map (·.2) = assign e X.env :: (assignEach es X.env).map (·.2) := by rfl) : LGvs X F (e :: es) (gsCons g gr) vs := ⟨fun pins s σ H G Γ ws us ds Q I k r rp h => by
  cases ds with
  | nil => exact h.elim
  | cons d ds =>
    obtain ⟨v, vr, rfl, r1, r2⟩ := rp
    cases r with
    | cons ra rb =>
      rw [hs]
      refine assignInOrder_cons (thn (h1.run pins s σ H G Γ _ _ d _ I k ra r1 h) fun _ s1 ⟨σ1, H1, I1, w1, Γ1, q1, k1⟩ => ?_)
      exact thn (h2.run pins s1 σ1 H1 G Γ1 _ _ ds Q I1 k1 rb r2 q1) fun _ s2 ⟨σ2, H2, I2, w2, z⟩ => ⟨σ2, H2, I2, w2.trans w1, z⟩⟩
theorem lgv_tup {es : List Expr} {k0 : Nat} {gr : List D → Env → (Env → Prop) → Prop} {n : Nat} (hK : F.K = X.K) (hc : X.calm = true) (h : LGvs X F es gr vs) (hn : (assignEach es X.env).length = n := by rfl) (hst : (assignEach es X.env).findIdx? (·.1) = none := by rfl) : LGv X F (.Tuple es k0 pos) (gT n gr) vs :=
  ⟨fun pins s σ H G Γ v u d Q I k r rp hw => by
    cases d with
    | tup ds =>
      obtain ⟨hl, hw⟩ := hw
      obtain ⟨a, ws, rfl, hq, rs⟩ := rp
      cases r
      obtain ⟨its, rv, ht, hz⟩ := I.tuple (hK ▸ k.sub.t hq)
      refine assign_Tuple_tuple (I.ok.hd hc) ht (by simp [hn, ← hl, ← rs.len, rv.length]) hst fun h' hx => ?_
      have I1 : Inv X pins σ H { s with heap := h' } := I.kept (t' := s.toks) fun b o e => hx b o (Nat.ne_of_lt (Heap.lt_size e)) e
      exact h.run pins _ σ H G Γ ws _ ds Q I1 k (by simpa using rv) rs hw
    | _ => exact hw.elim⟩
end
end Q
set_option Elab.async false
set_option linter.all false
set_option maxRecDepth 100000
set_option maxHeartbeats 4000000
namespace Q
open PySem L2 PySem.Spec PyProof.Rows
section
variable {X : Cx} {F : Fx} {E : XP} {a b : Expr} {pa pb : QE} {pr : QA} {pos p0 tpos : Pos} {tg : Expr}
theorem seqw_list {G : Hp} {σ0 : St} {c : Addr} {vs : List V} {ds : List D} {K : PySem.W.Frag} (hG : G c = some (.lst vs)) (r : Reps F.toCf G ds vs) : SeqW F G σ0 (Itl K c) ds none where
  goH := fun _ i G' H' σ Γ i1 k _ h => by
    have h1 : i < vs.length := by rw [r.len]; exact h
    exact ⟨vs, vs[i], SqL.of (k.sub.m (i1 _ _ hG)), List.getElem?_eq_getElem h1⟩
  stopH := fun _ G' H' σ Γ i1 k _ => ⟨vs, SqL.of (k.sub.m (i1 _ _ hG)), by rw [r.len]; exact Nat.le_refl _⟩
  yldH := fun _ i G' H' σ Γ x H'' i1 k _ h y => by
    obtain ⟨e, z⟩ := y
    subst e
    have e1 := z vs (SqL.of (k.sub.m (i1 _ _ hG)))
    obtain ⟨d, ed, rd⟩ := r.get' e1
    exact ⟨d, G', ed, Inc.refl _, k, rd.inc i1⟩
theorem seqw_tup {G : Hp} {σ0 : St} {c : Addr} {vs : List V} {ds : List D} (hG : SqT F.K G c vs) (r : Reps F.toCf G ds vs) : SeqW F G σ0 (Itt F.K c) ds none where
  goH := fun _ i G' H' σ Γ i1 k _ h => by
    have h1 : i < vs.length := by rw [r.len]; exact h
    exact ⟨vs, vs[i], k.sub.t (sqT_inc i1 hG), List.getElem?_eq_getElem h1⟩
  stopH := fun _ G' H' σ Γ i1 k _ => ⟨vs, k.sub.t (sqT_inc i1 hG), by rw [r.len]; exact Nat.le_refl _⟩
  yldH := fun _ i G' H' σ Γ x H'' i1 k _ h y => by
    obtain ⟨e, z⟩ := y
    subst e
    have e1 := z vs (k.sub.t (sqT_inc i1 hG))
    obtain ⟨d, ed, rd⟩ := r.get' e1
    exact ⟨d, G', ed, Inc.refl _, k, rd.inc i1⟩
/-- the characters of a text -/
def chars (x : Str) : List D := x.cps.toList.map fun c => D.str ⟨#[c]⟩
theorem seqw_str {G : Hp} {σ0 : St} {x : Str} : SeqW F G σ0 (Its x) (chars x) none where
  goH := fun _ i _ _ _ _ _ _ _ h => by
    show i < x.cps.size
    simpa [chars] using h
  stopH := fun _ _ _ _ _ _ _ _ => by
    show x.cps.size ≤ (chars x).length
    simp [chars]
  yldH := fun _ i G' H' σ Γ v H'' _ k _ h y => by
    obtain ⟨e, c, hc, ev⟩ := y
    subst e; subst ev
    refine ⟨.str ⟨#[c]⟩, G', ?_, Inc.refl _, k, rfl⟩
    unfold chars
    rw [List.getElem?_map, Array.getElem?_toList, hc]
    rfl
/-- enumerate(a list) -/
def enumD (ds : List D) : List D := (List.range ds.length).map fun i : Nat => D.tup [.int (i : Int), ds.getD i .non]
theorem enumD_at {ds : List D} {i : Nat} {d : D} (h : ds[i]? = some d) : (enumD ds)[i]? = some (.tup [.int (i : Int), d]) := by
  have hl := (List.getElem?_eq_some_iff.mp h).1
  unfold enumD
  rw [List.getElem?_map, List.getElem?_range hl]
  show some (D.tup [.int (i : Int), ds.getD i .non]) = _
  rw [List.getD_eq_getElem?_getD, h]
  rfl
theorem enumD_len {ds : List D} : (enumD ds).length = ds.length := by simp [enumD]
end
end Q
set_option Elab.async false
set_option linter.all false
set_option maxRecDepth 100000
set_option maxHeartbeats 4000000
namespace Q
open PySem L2 PySem.Spec PyProof.Rows
section
variable {X : Cx} {F : Fx} {E : XP}
def oTuple : ON := fun ds Γ Q _ => match ds with
  | [.lst xs] => Q (.tup xs) Γ
  | [.tup xs] => Q (.tup xs) Γ
  | _ => False
theorem bl_tuple (hK : F.K = X.K) : BlL X F E (.type "tuple") oTuple := BlL.of call_tuple_of fun σ H G Γ vs ds Q k rd q => by
  unfold oTuple at q
  split at q
  · obtain ⟨v, rfl, r⟩ := reps1 rd
    obtain ⟨a, ws, rfl, g, rs⟩ := r
    exact ⟨a, ws, rfl, .inl ⟨SqL.of (k.sub.m g), fun l hl => fin_tup k hl q rs⟩⟩
  · obtain ⟨v, rfl, r⟩ := reps1 rd
    obtain ⟨a, ws, rfl, g, rs⟩ := r
    exact ⟨a, ws, rfl, .inr ⟨hK ▸ k.sub.t g, fin0 k q ⟨a, ws, rfl, g, rs⟩⟩⟩
  · exact q.elim
end
end Q
set_option Elab.async false
set_option linter.all false
set_option maxRecDepth 100000
set_option maxHeartbeats 4000000
namespace Q
open PySem L2 PySem.Spec PyProof.Rows
/-- noted somewhere: in flight, or at any frame -/
def NotedA (B : Heap) (l : List PySem.Env) (a : Addr) (Z : Obj → Prop) (h : Heap) : Prop :=
  B.StaysIn h ∧ B.get? a = none ∧ h.FunFrames B l ∧ ∃ fl, HandSPX.TracedZ h B a Z fl
def SkyA (B : Heap) (l : List PySem.Env) (a : Addr) (Z : Obj → Prop) (h : Heap) : Prop :=
  (B.StaysIn h ∧ B.get? a = none ∧ h.FunFrames B l ∧ ∃ oe vs, h.get? a = some oe ∧ Z oe ∧ oe.data = .fields vs ∧ vs[1]? = some .none) ∨ NotedA B l a Z h
theorem SkyA.of {B : Heap} {l : List PySem.Env} {a L : Addr} {Z : Obj → Prop} {h : Heap} (x : Sky B l a Z L h) : SkyA B l a Z h := by
  rcases x with x | ⟨a, b, c, d⟩ | ⟨a, b, c, d⟩
  · exact .inl x
  · exact .inr ⟨a, b, c, _, d⟩
  · exact .inr ⟨a, b, c, _, d⟩
theorem note_frame {env env' : PySem.Env} (h : env'.frame = env.frame) (e : Value) : noteFrame e env' = noteFrame e env := by
  unfold noteFrame PySem.frameOf
  rw [h]
section
variable {M : Model} {A : Around} {E₁ : Value → Shared → Prop} {s : Shared} {Z : Obj → Prop} {B : Heap} {env : PySem.Env} {outer l : List PySem.Env} {L a : Addr}
theorem noteA {Q : Unit → Shared → Prop} (hZ : HandSPX.Steady Z) (hfr : A.frames = some (env :: outer)) (hf : env.frame = some L) (x : SkyA B (env :: outer) a Z s.heap)
    (hQ : ∀ h', NotedA B (env :: outer) a Z h' → s.heap.UpToSlots h' → Q () { s with heap := h' }) : wpAny M A (noteFrame (.ref a) env) Q E₁ s := by
  rcases x with ⟨hB, hn, hl, oe, vs, he, hz, hd, h1⟩ | ⟨hkb, hen, hl, fl, oe, vs, T, oT, ts, he, hz, hd, h1, hnT, hTe, hT, hdT, h3⟩
  · exact HandSPX.look_newZ hZ hfr hl hf he hB hn hd h1 hz fun h' ⟨a, b, c, d⟩ up => hQ h' ⟨a, b, c, _, d⟩ up
  · unfold noteFrame
    simp only [hf]
    refine wpAny_bind (wpAny_field he hd h1 ?_)
    rw [if_pos (show (Value.ref T != Value.none) = true from by simp)]
    refine wpAny_bind (wpAny_field hT hdT h3 ?_)
    by_cases hb : (fl == rawInt L) = true
    · rw [if_pos hb]
      exact wpAny_pure (hQ s.heap ⟨hkb, hen, hl, fl, oe, vs, T, oT, ts, he, hz, hd, h1, hnT, hTe, hT, hdT, h3⟩ (Heap.UpToSlots.refl _))
    · rw [if_neg hb]
      refine wpAny_bind (wpAny_setField hT hdT (Array.getElem?_eq_some_iff.mp h3).1 ?_)
      have other : ∀ b, b ≠ T → (s.heap.update T (Obj.mapFields (·.setIfInBounds 3 Value.none))).get? b = s.heap.get? b := fun b hb => Heap.get?_update_other _ _ (Ne.symm hb)
      have noRecord : ∀ b o, s.heap.get? b = some o → (∀ vs, o.data ≠ .fields vs) → b ≠ T := fun b o hb hnf q => by
        rw [q, hT] at hb; injection hb with hb; subst hb; exact hnf ts hdT
      refine HandSPX.wpAny_entryZ hZ hfr (hl.of_keeps fun b o hb hnf => ⟨o, (other b (noRecord b o hb hnf)).trans hb, rfl⟩) hf ((other a (Ne.symm hTe)).trans he)
        (fun b o hbo => (other b fun q => by rw [q, hnT] at hbo; cases hbo).trans (hkb b o hbo)) hen hd (Array.getElem?_eq_some_iff.mp h1).1 hz fun h' hN => ?_
      obtain ⟨x1, x2, x3, x4⟩ := hN
      exact hQ h' ⟨x1, hen, x2, _, x3⟩ fun b o hb hnf => x4 b o ((other b (noRecord b o hb hnf)).trans hb) hnf
theorem passA {what : String} {cenv : PySem.Env} (hf : cenv.frame = some L) (x : NotedA B l a Z s.heap)
    (hE : ∀ h', HandSPX.HeldZ B l a Z L h' → s.heap.UpToSlots h' → E₁ (.ref a) { s with heap := h' }) : wpAny M A (PySem.passOn what (.ref a) cenv : Sem Value) (fun _ _ => False) E₁ s := by
  obtain ⟨hkb, hen, hl, fl, ht⟩ := x
  obtain ⟨oe, vs, T, oT, ts, he, hz, hd, h1, hnT, hTe, hT, hdT, h3⟩ := id ht
  unfold PySem.passOn
  refine wpAny_bind (wpAny_field he hd h1 ?_)
  rw [if_neg (show ¬ ((Value.ref T == Value.none) = true) from by simp), hf]
  exact wpAny_bind (HandSPX.setFlight_anyZ hkb hl ht fun h' k1 k2 k3 k4 => wpAny_throw (hE h' ⟨k1, hen, k2, k3⟩ k4))
end
theorem ff_same {h h' base : Heap} {C : Addr} (hs : Heap.SameBut C h h') : ∀ {l : List PySem.Env}, h.FunFrames base l → C ∉ frs l → h'.FunFrames base l
  | [], _, _ => trivial
  | env :: l, x, hn => by
    obtain ⟨hk, ⟨L, o, hf, hb, ho, hd⟩, hr⟩ := x
    have hL : L ∈ frs (env :: l) := List.mem_filterMap.mpr ⟨env, List.mem_cons_self, hf⟩
    refine ⟨hk, ⟨L, o, hf, hb, (hs.2 L fun q => hn (q ▸ hL)).trans ho, hd⟩, ff_same hs hr fun m => hn ?_⟩
    obtain ⟨e, he, q⟩ := List.mem_filterMap.mp m
    exact List.mem_filterMap.mpr ⟨e, List.mem_cons_of_mem _ he, q⟩
def XEA (X : Cx) (W : WX) (u : Value) (s' : Shared) : Prop :=
  ∃ (a : Addr) (B : Heap) (sI : Shared) (pins : List (Addr × Obj)) (σ : St) (H : Hp) (cls : Value) (d : Option Addr),
    u = .ref a ∧ Inv X pins σ H sI ∧ (∀ b o, sI.heap.get? b = some o → b ∉ frs X.stack → B.get? b = some o) ∧ sI.heap.UpToSlots s'.heap ∧
      SkyA B X.stack a (Zc cls d) s'.heap ∧ H a = none ∧ s'.os = sI.os ∧ AllBare s'.gens ∧ W cls d σ H
def XEF (X : Cx) (W : WX) (u : Value) (s' : Shared) : Prop :=
  ∃ (a : Addr) (B : Heap) (sI : Shared) (pins : List (Addr × Obj)) (σ : St) (H : Hp) (cls : Value) (d : Option Addr) (L : Addr),
    u = .ref a ∧ Inv X pins σ H sI ∧ (∀ b o, sI.heap.get? b = some o → b ∉ frs X.stack → B.get? b = some o) ∧ sI.heap.UpToSlots s'.heap ∧ X.env.frame = some L ∧
      HandSPX.HeldZ B X.stack a (Zc cls d) L s'.heap ∧ H a = none ∧ s'.os = sI.os ∧ AllBare s'.gens ∧ W cls d σ H
def TakesF (X : Cx) (W : WX) : Prop := ∀ u s', XEF X W u s' → X.xe u s'
def FrOk (X : Cx) : Prop := ∃ fe out L, X.stack = fe :: out ∧ fe.frame = some L ∧ X.env.frame = some L
theorem XEA.of {X : Cx} {W : WX} {u : Value} {s' : Shared} (x : XE X W u s') : XEA X W u s' := by
  obtain ⟨a, B, sI, pins, σ, H, cls, d, e, I, nb, up, sky, na, os, ag, w⟩ := x
  exact ⟨a, B, sI, pins, σ, H, cls, d, e, I, nb, up, .of sky, na, os, ag, w⟩
theorem takesF_def {X : Cx} {W : WX} (hf : X.env.frame = some X.env.locals) (tk : Takes X W) : TakesF X W := by
  rintro u s' ⟨a, B, sI, pins, σ, H, cls, d, L, e, I, nb, up, hL, hd, na, os, ag, w⟩
  rw [hf] at hL
  cases hL
  exact tk u s' ⟨a, B, sI, pins, σ, H, cls, d, e, I, nb, up, .inr (.inr hd), na, os, ag, w⟩
/-- what a derivation asks of what takes exceptions -/
structure Tk (X : Cx) (F : Fx) (E : XP) : Prop where
  t : Takes X (wOf F E)
  f : TakesF X (wOf F E)
  fr : FrOk X
theorem Tk.def {X : Cx} {F : Fx} {E : XP} (tk : Takes X (wOf F E)) (hs : X.stack = X.env :: X.outer := by rfl) (hf : X.env.frame = some X.env.locals := by rfl) : Tk X F E := ⟨tk, takesF_def hf tk, _, _, _, hs, hf, hf⟩
/-- what a block is run with -/
structure BlkD where
  s : Shared
  H : Hp
  C : Addr
  cl : List (Str × Addr)
  fp : List Addr
  xe : Value → Shared → Prop
abbrev bk (X : Cx) (scope : Scope) (b : BlkD) : Cx := { X with s_0 := b.s, H_0 := b.H, env := compEnvC scope b.cl b.C X.env, outer := X.stack, ex := b.fp, fn := fun x => scope.names.lookup x == some .cell, pn := [], xe := b.xe }
theorem Inv.bk {X : Cx} {pins : List (Addr × Obj)} {σ : St} {H : Hp} {s : Shared} {scope : Scope} {s0 : Shared} {H0 : Hp} {C : Addr} {cl : List (Str × Addr)} {fp : List Addr} (xe : Value → Shared → Prop) (I : Inv (X.blk s0 H0 scope (compEnvC scope cl C X.env) fp) pins σ H s) : Inv (bk X scope ⟨s0, H0, C, cl, fp, xe⟩) pins σ H s :=
  ⟨⟨I.ok.mod, I.ok.kind, I.ok.glob, I.ok.blt, I.ok.above, I.ok.inj, I.ok.has, I.ok.cab, I.ok.hd, I.ok.frames, I.ok.stk, I.ok.exf, I.ok.bs, I.ok.bsz, I.ok.noex, I.ok.exfs, I.ok.funs, I.ok.frf⟩, I.os, I.bare, I.base, I.loc, I.cell, I.free, I.freeC, I.pin, I.hok, I.len⟩
theorem exitX {X : Cx} {W : WX} {pins : List (Addr × Obj)} {σ : St} {H3 : Hp} {s3 : Shared} {scope : Scope} {b : BlkD} {what : String} {u : Value} {s' : Shared} (fr : FrOk X) (tf : TakesF X W) (I3 : Inv X pins σ H3 s3)
    (hb1 : b.s = s3) (hb2 : b.H = H3) (hC : b.C = s3.heap.objs.size) (f3 : ∀ c ∈ b.fp, FpOk X pins H3 c) (x : XEA (bk X scope b) (fun cls d _ H' => W cls d σ H') u s') :
    notedBy (model X.prog X.w) X.A (compEnvC scope b.cl b.C X.env) (fun e s'' => ∃ m, s''.heap.Ns b.C m ∧ ∀ h', Heap.SameBut b.C s''.heap h' → wpAny (model X.prog X.w) X.A (PySem.passOn what e (compEnvC scope b.cl b.C X.env) : Sem Value) (fun _ _ => False) X.xe { s'' with heap := h' }) u s' := by
  obtain ⟨a, B, sI, pins', σ', H', cls, d, rfl, I', nb, up, sky, na, os, ag, w⟩ := x
  obtain ⟨fe, out, L, hst, hfe, hxe⟩ := fr
  have hfr : X.A.frames = some (fe :: out) := by rw [← hst]; exact I'.ok.frames
  have hce : (compEnvC scope b.cl b.C X.env).frame = some L := hxe
  have sky : SkyA B X.stack a (Zc cls d) s'.heap := sky
  rw [hst] at sky
  unfold notedBy
  rw [note_frame (env := fe) (env' := compEnvC scope b.cl b.C X.env) (hce.trans hfe.symm)]
  refine noteA Zc.steady hfr hfe sky fun h1 nt up1 => ?_
  obtain ⟨m, hn, _⟩ := I'.loc
  have hn : sI.heap.Ns b.C m := hn
  have hn1 : h1.Ns b.C m := Heap.UpToSlots.ns (up.trans up1) hn
  refine ⟨m, hn1, fun h2 sb => ?_⟩
  have nC : H' b.C = none := I'.free
  have fC : FpOk X pins H' b.C := I3.fpOk (by rw [hC]; exact Nat.le_refl _) nC
  have nF : b.C ∉ frs X.stack := fun hm => by
    rcases List.mem_cons.mp (I3.stkSub _ hm) with z | z
    · exact fC.2.1 z
    · exact fC.2.2.1 z
  obtain ⟨o1, es1, ep1, e1, dd1, _⟩ := hn1
  have ne : ∀ c oc vs, h1.get? c = some oc → oc.data = .fields vs → c ≠ b.C := fun c oc vs e dd q => by
    rw [q, e1] at e
    cases e
    rw [dd1] at dd
    cases dd
  have nt2 : NotedA (PySem.W.hideAll B [b.C]) (fe :: out) a (Zc cls d) h2 := by
    obtain ⟨k1, k2, k3, fl, oe, vs, T, oT, ts, he, hz, hd, hv1, hnT, hTe, hT, hdT, h3⟩ := nt
    have hid : ∀ c, B.get? c = none → (PySem.W.hideAll B [b.C]).get? c = none := fun c e => by
      cases q : (PySem.W.hideAll B [b.C]).get? c with
      | none => rfl
      | some o => rw [PySem.W.of_hideAll _ q] at e; cases e
    refine ⟨fun c o e => ?_, hid _ k2, ?_, fl, oe, vs, T, oT, ts, (sb.2 _ (ne a oe vs he hd)).trans he, hz, hd, hv1, hid _ hnT, hTe, (sb.2 _ (ne T oT ts hT hdT)).trans hT, hdT, h3⟩
    · have nc : c ≠ b.C := fun q => by
        rw [q, PySem.W.hideAll_none _ (List.mem_singleton.mpr rfl)] at e
        cases e
      exact (sb.2 c nc).trans (k1 c o (PySem.W.of_hideAll _ e))
    · refine ff_same sb (funFrames_none k3 fun L' hL' => hid _ (k3.mem hL').1) ?_
      rw [← hst]; exact nF
  refine passA hce nt2 fun h4 held up4 => ?_
  have I7 : Inv X pins σ H' sI := I3.call' (ch := b.fp) (I'.os.trans (by rw [← hb1])) (by have z := I'.base; rw [← hb1, ← hb2]; exact z) I'.hok I'.bare fun c hc => ⟨(f3 c hc).2.2.2.1, (f3 c hc).2.1, (f3 c hc).2.2.2.2.1, (f3 c hc).2.2.2.2.2⟩
  have I8 : Inv X pins σ H' { sI with heap := PySem.W.hideAll sI.heap [b.C] } := I7.turned (t' := sI.toks) (it := b.C) (fun c o nc e => PySem.W.hideAll_get _ e (fun z => nc (List.mem_singleton.mp z))) nC fC.2.1 fC.2.2.2.1 fC.2.2.2.2.1 fC.2.2.2.2.2
  refine tf _ _ ⟨a, PySem.W.hideAll B [b.C], { sI with heap := PySem.W.hideAll sI.heap [b.C] }, pins, σ, H', cls, d, L, rfl, I8, fun c o e hc => ?_, fun c o e hnf => ?_, hxe, by rw [hst]; exact held, na, os, ag, w⟩
  · have nc : c ≠ b.C := fun q => by
      rw [show (PySem.W.hideAll sI.heap [b.C]).get? c = none from q ▸ PySem.W.hideAll_none _ (List.mem_singleton.mpr rfl)] at e
      cases e
    exact PySem.W.hideAll_get _ (nb c o (PySem.W.of_hideAll _ e) hc) (fun z => nc (List.mem_singleton.mp z))
  · have nc : c ≠ b.C := fun q => by
      rw [show (PySem.W.hideAll sI.heap [b.C]).get? c = none from q ▸ PySem.W.hideAll_none _ (List.mem_singleton.mpr rfl)] at e
      cases e
    obtain ⟨sl, q1⟩ := (up.trans up1) c o (PySem.W.of_hideAll _ e) hnf
    obtain ⟨sl2, q2⟩ := up4 c _ ((sb.2 c nc).trans q1) hnf
    exact ⟨sl2, q2⟩
end Q
set_option Elab.async false
set_option linter.all false
set_option maxRecDepth 100000
set_option maxHeartbeats 4000000
namespace Q
open PySem L2 PySem.Spec PyProof.Rows
def bS : Slot → Slot
  | .own o => .bor o
  | s => s
/-- in the block: what may change is handed in -/
def bE : Env → Env
  | [] => []
  | s :: Γ => bS s :: bE Γ
/-- behind the block -/
def rE : Env → Env → Env
  | .own _ :: Γ, .bor o :: Γ' => .own o :: rE Γ Γ'
  | .bor _ :: Γ, .bor o :: Γ' => .bor o :: rE Γ Γ'
  | s :: Γ, _ :: Γ' => s :: rE Γ Γ'
  | Γ, [] => Γ
  | [], _ => []
def pinE : St → Env → List (Option Addr)
  | some (.ref a) :: σ, .own _ :: Γ => some a :: pinE σ Γ
  | some (.ref a) :: σ, .bor _ :: Γ => some a :: pinE σ Γ
  | _ :: σ, _ :: Γ => none :: pinE σ Γ
  | _, _ => []
theorem bE_get {Γ : Env} : ∀ {i : Nat}, (bE Γ)[i]? = (Γ[i]?).map bS := by
  induction Γ with
  | nil => intro i; rfl
  | cons s Γ ih =>
    intro i
    cases i with
    | zero => rfl
    | succ i => exact ih
theorem bE_len {Γ : Env} : (bE Γ).length = Γ.length := by
  induction Γ with
  | nil => rfl
  | cons s Γ ih => show (bE Γ).length + 1 = _; rw [ih]; rfl
theorem mutA_bE : ∀ {σ : St} {Γ : Env}, mutA σ (bE Γ) = mutA σ Γ
  | [], Γ => by cases Γ <;> simp [mutA]
  | v :: σ, [] => by simp [bE]
  | v :: σ, s :: Γ => by
    have ih := mutA_bE (σ := σ) (Γ := Γ)
    show mutA (v :: σ) (bS s :: bE Γ) = _
    rw [mutA_cons, mutA_cons, ih]
    cases s <;> first | rfl | (cases v <;> first | rfl | (rename_i w; cases w <;> rfl))
theorem pinE_get : ∀ {σ : St} {Γ : Env} {i : Nat} {a : Addr}, (pinE σ Γ)[i]? = some (some a) → σ[i]? = some (some (V.ref a)) ∧ ∃ s, Γ[i]? = some s ∧ s.mo.isSome = true
  | [], Γ, i, a, h => by cases Γ <;> simp [pinE] at h
  | v :: σ, [], i, a, h => by
    have e : pinE (v :: σ) [] = [] := by cases v <;> first | rfl | (rename_i w; cases w <;> rfl)
    rw [e] at h; simp at h
  | v :: σ, s :: Γ, 0, a, h => by
    cases s <;> cases v <;> first | (simp [pinE] at h; done) | (rename_i w; cases w <;> first | (simp [pinE] at h; done) | (simp [pinE] at h; subst h; exact ⟨rfl, _, rfl, rfl⟩)) | (rename_i o w; cases w <;> first | (simp [pinE] at h; done) | (simp [pinE] at h; subst h; exact ⟨rfl, _, rfl, rfl⟩))
  | v :: σ, s :: Γ, i + 1, a, h => by
    have e : (pinE σ Γ)[i]? = some (some a) := by
      cases s <;> cases v <;> first | exact h | (rename_i w; cases w <;> exact h) | (rename_i o w; cases w <;> exact h)
    obtain ⟨q1, q2⟩ := pinE_get e
    exact ⟨q1, q2⟩
theorem pinE_of : ∀ {σ : St} {Γ : Env} {i : Nat} {a : Addr} {s : Slot}, σ[i]? = some (some (V.ref a)) → Γ[i]? = some s → s.mo.isSome = true → (pinE σ Γ)[i]? = some (some a)
  | [], _, _, _, _, h, _, _ => by simp at h
  | _ :: _, [], _, _, _, _, h, _ => by simp at h
  | v :: σ, t :: Γ, 0, a, s, h1, h2, z => by
    simp at h1 h2
    subst h1; subst h2
    cases t <;> first | rfl | cases z
  | v :: σ, t :: Γ, i + 1, a, s, h1, h2, z => by
    have ih := pinE_of (σ := σ) (Γ := Γ) (i := i) (a := a) (s := s) (by simpa using h1) (by simpa using h2) z
    cases t <;> cases v <;> first | exact ih | (rename_i w; cases w <;> exact ih) | (rename_i o w; cases w <;> exact ih)
theorem pinE_len : ∀ {σ : St} {Γ : Env}, (pinE σ Γ).length ≤ Γ.length
  | [], Γ => by cases Γ <;> simp [pinE]
  | v :: σ, [] => by
    have e : pinE (v :: σ) [] = [] := by cases v <;> first | rfl | (rename_i w; cases w <;> rfl)
    rw [e]; exact Nat.le_refl _
  | v :: σ, s :: Γ => by
    have ih := pinE_len (σ := σ) (Γ := Γ)
    have e : (pinE (v :: σ) (s :: Γ)).length = (pinE σ Γ).length + 1 := by
      cases s <;> cases v <;> first | rfl | (rename_i w; cases w <;> rfl) | (rename_i o w; cases w <;> rfl)
    rw [e, List.length_cons]
    omega
theorem rE_len : ∀ {Γ Γ' : Env}, (rE Γ Γ').length = Γ.length
  | [], Γ' => by cases Γ' <;> rfl
  | s :: Γ, [] => by cases s <;> rfl
  | s :: Γ, t :: Γ' => by
    have ih := rE_len (Γ := Γ) (Γ' := Γ')
    cases s <;> cases t <;> (simp only [rE, List.length_cons]; rw [ih])
/-- what stands behind the block at a place -/
def rS : Slot → Option Slot → Slot
  | .own _, some (.bor o) => .own o
  | .bor _, some (.bor o) => .bor o
  | s, _ => s
theorem rE_get : ∀ {Γ Γ' : Env} {i : Nat} {s : Slot}, Γ[i]? = some s → (rE Γ Γ')[i]? = some (rS s Γ'[i]?)
  | [], _, _, _, h => by simp at h
  | t :: Γ, [], i, s, h => by
    have e : rE (t :: Γ) [] = t :: Γ := by cases t <;> rfl
    rw [e, h]
    cases s <;> rfl
  | t :: Γ, u :: Γ', 0, s, h => by
    simp at h
    subst h
    cases t <;> cases u <;> rfl
  | t :: Γ, u :: Γ', i + 1, s, h => by
    have ih := rE_get (Γ := Γ) (Γ' := Γ') (i := i) (s := s) (by simpa using h)
    cases t <;> cases u <;> exact ih
theorem rS_kin (s : Slot) (t : Option Slot) : kin s (rS s t) := by
  cases s with
  | own o => cases t with
    | none => trivial
    | some t => cases t <;> trivial
  | bor o => cases t with
    | none => trivial
    | some t => cases t <;> trivial
  | no => exact kin_refl _
  | val d => exact kin_refl _
  | exc c fs => exact kin_refl _
theorem rE_kin {Γ Γ' : Env} {i : Nat} {s t : Slot} (h1 : Γ[i]? = some s) (h2 : (rE Γ Γ')[i]? = some t) : kin s t := by
  rw [rE_get h1] at h2
  cases h2
  exact rS_kin _ _
theorem mutA_at : ∀ {σ : St} {Γ : Env} {a : Addr}, a ∈ mutA σ Γ → ∃ (j : Nat) (s : Slot), σ[j]? = some (some (V.ref a)) ∧ Γ[j]? = some s ∧ s.mo.isSome = true
  | [], Γ, a, h => by cases Γ <;> simp [mutA] at h
  | v :: σ, [], a, h => by
    have e : mutA (v :: σ) [] = [] := by cases v <;> first | rfl | (rename_i w; cases w <;> rfl)
    rw [e] at h; simp at h
  | v :: σ, s :: Γ, a, h => by
    have tail : a ∈ mutA σ Γ → ∃ (j : Nat) (t : Slot), (v :: σ)[j]? = some (some (V.ref a)) ∧ (s :: Γ)[j]? = some t ∧ t.mo.isSome = true := fun m => by
      obtain ⟨j, t, e1, e2, z⟩ := mutA_at m
      exact ⟨j + 1, t, by simpa using e1, by simpa using e2, z⟩
    rw [mutA_cons] at h
    split at h
    · rcases List.mem_cons.mp h with e | e
      · subst e; exact ⟨0, _, rfl, rfl, rfl⟩
      · exact tail e
    · rcases List.mem_cons.mp h with e | e
      · subst e; exact ⟨0, _, rfl, rfl, rfl⟩
      · exact tail e
    · exact tail h
section
variable {F : Fx} {G H G' H' : Hp} {σ σ' : St} {Γ Γ' : Env}
abbrev blkF (F : Fx) (G H : Hp) (σ : St) (Γ : Env) : Fx := fbk F ⟨G, H, mutA σ Γ, pinE σ Γ⟩
theorem Ok.enter (k : Ok F G H σ Γ) : Ok (blkF F G H σ Γ) G H σ (bE Γ) := by
  refine ⟨k.sub, Inc.refl G, fun a o e => .inl e, fun a o e _ => e, fun a m => (mutA_there k.slots a m).1, ?_, by rw [mutA_bE]; exact k.nd, fun i a e => ?_, by rw [bE_len]; exact pinE_len⟩
  · refine Slots.mk (by rw [bE_len]; exact k.slots.len) fun i v s e1 e2 => ?_
    rw [bE_get] at e2
    cases hg : Γ[i]? with
    | none => rw [hg] at e2; cases e2
    | some t =>
      rw [hg] at e2
      cases e2
      obtain ⟨v', ev, okk⟩ := k.slots.get hg
      rw [e1] at ev
      cases ev
      cases t with
      | no => cases v <;> trivial
      | val d => cases v <;> exact okk
      | own o =>
        cases v with
        | none => exact okk
        | some v =>
          obtain ⟨a, rfl, g, m, z⟩ := okk
          exact ⟨a, rfl, g, m, mem_mutA e1 hg rfl⟩
      | bor o =>
        cases v with
        | none => exact okk
        | some v =>
          obtain ⟨a, rfl, g, m, z⟩ := okk
          exact ⟨a, rfl, g, m, mem_mutA e1 hg rfl⟩
      | exc c fs => cases v <;> exact okk
  · obtain ⟨e1, s, e2, z⟩ := pinE_get e
    refine ⟨e1, ?_⟩
    rw [bE_get, e2]
    cases s with
    | own o => exact ⟨o, rfl⟩
    | bor o => exact ⟨o, rfl⟩
    | no => cases z
    | val d => cases z
    | exc c fs => cases z
theorem Ok.leave (k0 : Ok F G H σ Γ) (k : Ok (blkF F G H σ Γ) G' H' σ' Γ') : Inc G G' ∧ Ok F G' H' σ (rE Γ Γ') := by
  have ig : Inc G G' := k.g0
  have kf : ∀ a o, H a = some o → a ∉ mutA σ Γ → H' a = some o := k.frame
  have fr : ∀ a o, G' a = some o → G a = some o ∨ H a = none := k.fresh
  have at_ : ∀ {i : Nat} {a : Addr} {s : Slot}, σ[i]? = some (some (V.ref a)) → Γ[i]? = some s → s.mo.isSome = true → ∃ o, Γ'[i]? = some (.bor o) ∧ G' a = none ∧ MRep F.toCf G' H' o a := fun {i a s} e1 e2 z => by
    obtain ⟨q1, o, q2⟩ := k.pin i a (pinE_of e1 e2 z)
    obtain ⟨b, eb, g, m, _⟩ := k.mut q2 rfl
    rw [q1] at eb
    cases eb
    exact ⟨o, q2, g, m⟩
  refine ⟨ig, k.sub, k0.g0.trans ig, fun a o e => ?_, fun a o e nb => ?_, fun a m => ?_, ?_, ?_, fun i a e => ?_, by rw [rE_len]; exact k0.pl⟩
  · rcases fr a o e with q | q
    · exact k0.fresh a o q
    · exact .inr (k0.h0 q)
  · have e1 := k0.frame a o e nb
    refine kf a o e1 fun m => ?_
    rcases (mutA_there k0.slots a m).2.2 with q | q
    · rw [e] at q; cases q
    · exact nb q
  · obtain ⟨o, e⟩ := k0.bor a m
    by_cases hm : a ∈ mutA σ Γ
    · exact k.bor a hm
    · exact ⟨o, kf a o e hm⟩
  · refine Slots.mk (by rw [rE_len]; exact k0.slots.len) fun i v t e1 e2 => ?_
    have hl : i < Γ.length := by rw [← rE_len (Γ := Γ) (Γ' := Γ')]; exact (List.getElem?_eq_some_iff.mp e2).1
    have g1 : Γ[i]? = some Γ[i] := List.getElem?_eq_getElem hl
    obtain ⟨v', ev, okk⟩ := k0.slots.get g1
    rw [e1] at ev
    cases ev
    rw [rE_get g1] at e2
    cases e2
    generalize Γ[i] = s at *
    cases s with
    | no => cases v <;> trivial
    | val d =>
      cases v with
      | none => exact okk
      | some v => exact Rep.inc ig okk
    | own o =>
      cases v with
      | none => exact okk.elim
      | some v =>
        obtain ⟨a, rfl, g, m, z⟩ := okk
        obtain ⟨o', q1, q2, q3⟩ := at_ e1 g1 rfl
        rw [q1]
        exact ⟨a, rfl, q2, q3, z⟩
    | bor o =>
      cases v with
      | none => exact okk.elim
      | some v =>
        obtain ⟨a, rfl, g, m, z⟩ := okk
        obtain ⟨o', q1, q2, q3⟩ := at_ e1 g1 rfl
        rw [q1]
        exact ⟨a, rfl, q2, q3, z⟩
    | exc c fs =>
      cases v with
      | none => exact okk.elim
      | some v =>
        obtain ⟨a, b, r⟩ := okk
        refine ⟨a, b, ?_⟩
        rcases r with r | ⟨dd, ws, e, q, r⟩
        · exact .inl r
        · refine .inr ⟨dd, ws, e, kf dd _ q fun m => ?_, r.inc ig⟩
          obtain ⟨j, s, ej, gj, zj⟩ : ∃ (j : Nat) (s : Slot), σ[j]? = some (some (V.ref dd)) ∧ Γ[j]? = some s ∧ s.mo.isSome = true := mutA_at m
          obtain ⟨o, ho⟩ := Option.isSome_iff_exists.mp zj
          obtain ⟨b, eb, _, mr, _⟩ := k0.mut gj ho
          rw [ej] at eb
          cases eb
          cases o with
          | lst xs => obtain ⟨vs, e, _⟩ := mr; rw [q] at e; cases e
          | dic lk xs => obtain ⟨vs, e, _⟩ := mr; rw [q] at e; cases lk <;> cases e
          | ins c xs => obtain ⟨dx, vs, e, _⟩ := mr; rw [q] at e; cases e
  · rw [mutA_kin rE_len fun i s t e1 e2 => rE_kin e1 e2]
    exact k0.nd
  · obtain ⟨e1, o, e2⟩ := k0.pin i a e
    refine ⟨e1, ?_⟩
    rw [rE_get e2]
    cases hq : Γ'[i]? with
    | none => exact ⟨o, rfl⟩
    | some t => cases t <;> exact ⟨_, rfl⟩
end
end Q
set_option Elab.async false
set_option linter.all false
set_option maxRecDepth 100000
set_option maxHeartbeats 4000000
namespace Q
open PySem L2 PySem.Spec PyProof.Rows
section
variable {M : Model} {A : Around} {E : Value → Shared → Prop} {s : Shared} {env : PySem.Env}
def cPost (M : Model) (A : Around) (E : Value → Shared → Prop) (use : Option (Value → Sem Unit)) (Q : Value → Shared → Prop) (acc : Value) (cenv : PySem.Env) (r : Result) (s' : Shared) : Prop :=
  match r, use with
  | .ok _, none => ∃ m, s'.heap.Ns cenv.locals m ∧ ∀ h', Heap.SameBut cenv.locals s'.heap h' → Q acc { s' with heap := h' }
  | .ok _, some u => wpAny M A (u acc) (fun _ s'' => ∃ m, s''.heap.Ns cenv.locals m ∧ ∀ h', Heap.SameBut cenv.locals s''.heap h' → Q .none { s'' with heap := h' }) E s'
  | .error x, _ => ∃ m, s'.heap.Ns cenv.locals m ∧ ∀ h', Heap.SameBut cenv.locals s'.heap h' → wpAny M A (PySem.passOn "comprehension.variables-let-go" x cenv : Sem Value) (fun _ _ => False) E { s' with heap := h' }
/-- the library's rule of a comprehension, with the block's frame kept for what is raised (statement and proof follow it) -/
theorem comp_fr {e : Expr} {scope : Scope} {pos : Pos} {newAcc first : Sem Value} {g : Comprehension} {gs : List Comprehension} {cl : List (Str × Addr)} {use : Option (Value → Sem Unit)}
    {Q : Value → Shared → Prop}
    (hcl : clausesOf e = g :: gs) (hs : ∀ x, foldedSetIterable g.iter env x = pure x) (hclos : closureFor scope env = pure cl)
    (hkind : scope.kind = .function) (hnames : ∀ x ∈ scope.names, x.2 = .local → scope.names.lookup x.1 = some .local)
    (h : wpAny M A first (fun x s₁ => wpAny M A (pyIter x) (fun it s₂ => wpAny M A newAcc (fun acc s₃ =>
      wpAny M A (newFunctionEnv scope env.globals cl [] env.qual none .none (some env)) (fun cenv s₄ =>
        codeAny M A (.compStart e 0 it acc { cenv with scope := relabel scope env }) (cPost M A E use Q acc { cenv with scope := relabel scope env }) s₄) E s₃) E s₂) E s₁) E s) :
    wpAny M A (comprehension e scope env pos newAcc false first use) Q E s := by
  unfold comprehension
  rw [hclos, hcl]
  refine wpAny_bind (wpAny_mono h (fun x s₁ h₁ => wpAny_bind (wpAny_standAt (wpAny_bind (wpAny_of_eq (hs x) (wpAny_bind (wpAny_holding (wpAny_mono h₁ (fun it s₂ h₂ =>
    wpAny_standIf (wpAny_bind (wpAny_mono h₂ (fun acc s₃ h₃ => wpAny_bind (wpAny_pure (wpAny_bind (wpAny_mono h₃ (fun cenv s₄ h₄ => ?_) fun _ _ h' => h')))) fun _ _ h' => h')))
      fun _ _ h' => h'))))))) fun _ _ h' => h')
  dsimp only
  have hv : ∀ x ∈ (scope.names.filter fun x => (x.2 == .local || x.2 == .cell) && x.1 != (".0" : Str)).reverse, x.2 = .local →
      Env.kindOf { cenv with scope := relabel scope env } x.1 = some .local := fun x hx hl => lookup_relabel_local (hnames x (List.mem_filter.mp (List.mem_reverse.mp hx)).1 hl)
  have hv' : ∀ x ∈ (scope.names.filter fun x => (x.2 == .local || x.2 == .cell) && x.1 != (".0" : Str)).reverse.drop 1 ++ (scope.names.filter fun x => (x.2 == .local || x.2 == .cell) && x.1 != (".0" : Str)).reverse.take 1,
      x.2 = .local → Env.kindOf { cenv with scope := relabel scope env } x.1 = some .local := fun x hx hl => by
    rcases List.mem_append.mp hx with h1 | h1
    · exact hv x (List.mem_of_mem_drop h1) hl
    · exact hv x (List.mem_of_mem_take h1) hl
  refine wpAny_holding (wpAny_bind (wpAny_attempt (wpAny_holding (wpAny_run (codeAny_mono h₄ fun r s' hr => ?_)))))
  cases r with
  | ok f =>
    cases use with
    | none =>
      obtain ⟨m, hn, hr⟩ := hr
      exact wpAny_bind (wpAny_holding (wpAny_comp_letGo (cenv := { cenv with scope := relabel scope env }) hkind _ s' m hv hn fun h' m' _ hs' => wpAny_pure (hr h' hs')))
    | some u =>
      refine wpAny_bind (wpAny_rule (wpAny_bind (wpAny_holding (wpAny_mono hr (fun _ s'' hr' => ?_) fun _ _ h' => h'))))
      obtain ⟨m, hn, hr'⟩ := hr'
      exact wpAny_bind (wpAny_comp_letGo (cenv := { cenv with scope := relabel scope env }) hkind _ s'' m hv' hn fun h' m' _ hs' => wpAny_pure (hr' h' hs'))
  | error x =>
    have hr' : ∃ m, s'.heap.Ns cenv.locals m ∧ ∀ h', Heap.SameBut cenv.locals s'.heap h' → wpAny M A (PySem.passOn "comprehension.variables-let-go" x { cenv with scope := relabel scope env } : Sem Value) (fun _ _ => False) E { s' with heap := h' } := by cases use <;> exact hr
    obtain ⟨m, hn, hr⟩ := hr'
    exact wpAny_bind (wpAny_holding (wpAny_comp_letGo (cenv := { cenv with scope := relabel scope env }) hkind _ s' m hv hn fun h' m' _ hs' => wpAny_mono (hr h' hs') (fun _ _ f => f.elim) fun _ _ y => y))
end
/-- gd: what is walked; vs: the block's names -/
def qLcGo (gd : Gd) (g : QG) (tt : QT) (pe : QE) (vs : List Nat) : List D → List D → Env → (MO → Env → Prop) → XP → Prop
  | [], acc => fun Γ Q _ => withG gd Γ (Q (.lst acc) Γ)
  | d :: ds, acc => fun Γ Q E => withG gd Γ (g d (wipeE (bE Γ) vs) fun Γ2 => tt Γ2 (fun b Γ3 => match b with
    | true => pe Γ3 (fun y Γ4 => acc.length < 100000 ∧ qLcGo gd g tt pe vs ds (acc ++ [y]) (rE Γ Γ4) Q E) (fun x Γ' => E x (rE Γ Γ'))
    | false => qLcGo gd g tt pe vs ds acc (rE Γ Γ3) Q E) (fun x Γ' => E x (rE Γ Γ')))
def qnLc (pi : QI) (g : QG) (tt : QT) (pe : QE) (vs : List Nat) : QN := fun Γ Q E => pi Γ (fun items gd Γ1 => match offs Γ1 vs with
  | true => qLcGo gd g tt pe vs items [] Γ1 Q E
  | false => False) E
theorem offs_bE {Γ : Env} : ∀ {vs : List Nat}, offs Γ vs = true → offs (bE Γ) vs = true
  | [], _ => rfl
  | v :: vs, h => by
    obtain ⟨h1, h2⟩ := Bool.and_eq_true_iff.mp h
    refine Bool.and_eq_true_iff.mpr ⟨?_, offs_bE h2⟩
    unfold offI at h1 ⊢
    rw [bE_get]
    cases hg : Γ[v]? with
    | none => rw [hg] at h1; cases h1
    | some s =>
      rw [hg] at h1
      cases s <;> first | rfl | cases h1
theorem offs_rE {Γ Γ' : Env} : ∀ {vs : List Nat}, offs Γ vs = true → offs (rE Γ Γ') vs = true
  | [], _ => rfl
  | v :: vs, h => by
    obtain ⟨h1, h2⟩ := Bool.and_eq_true_iff.mp h
    refine Bool.and_eq_true_iff.mpr ⟨?_, offs_rE h2⟩
    unfold offI at h1 ⊢
    cases hg : Γ[v]? with
    | none => rw [hg] at h1; cases h1
    | some s =>
      rw [hg] at h1
      rw [rE_get hg]
      cases s <;> first | rfl | cases h1
theorem gOk_of {gd : Gd} {σ : St} {Γ : Env} (h : gM gd Γ) : gOk gd σ σ Γ := by
  cases gd with
  | none => trivial
  | some p => exact ⟨h, rfl⟩
theorem gOk_bE {gd : Gd} {σ : St} {Γ : Env} (h : gM gd Γ) : gOk gd σ σ (bE Γ) := by
  cases gd with
  | none => trivial
  | some p =>
    obtain ⟨j, o⟩ := p
    refine ⟨?_, rfl⟩
    rw [bE_get]
    have h : (Γ[j]?).bind Slot.mo = some o := h
    cases hg : Γ[j]? with
    | none => rw [hg] at h; cases h
    | some s =>
      rw [hg] at h
      cases s <;> first | exact h | cases h
section
variable {X : Cx} {F : Fx} {E : XP}
/-- the block's air at one turn -/
theorem tk_turn {scope : Scope} {b : BlkD} {G H : Hp} {σ : St} {Γ : Env} (fr : FrOk X) (hx : b.xe = XEA (bk X scope b) (fun cls d _ H' => wOf F E cls d σ H')) (k : Ok F G H σ Γ) :
    Tk (bk X scope b) (blkF F G H σ Γ) (fun x Γ' => E x (rE Γ Γ')) := by
  have imp : ∀ cls d σ' H', wOf (blkF F G H σ Γ) (fun x Γ' => E x (rE Γ Γ')) cls d σ' H' → wOf F E cls d σ H' := fun cls d σ' H' ⟨G', Γ', x, k', xr, e⟩ => ⟨G', _, x, (k.leave k').2, xr, e⟩
  have key : ∀ u s', XEA (bk X scope b) (wOf (blkF F G H σ Γ) (fun x Γ' => E x (rE Γ Γ'))) u s' → b.xe u s' := fun u s' x => by
    obtain ⟨a, B, sI, pins, σ', H', cls, d, e, I, nb, up, sky, na, os, ag, w⟩ := x
    rw [hx]
    exact ⟨a, B, sI, pins, σ', H', cls, d, e, I, nb, up, sky, na, os, ag, imp _ _ _ _ w⟩
  refine ⟨fun u s' x => key u s' (.of x), fun u s' x => ?_, ?_⟩
  · obtain ⟨a, B, sI, pins, σ', H', cls, d, L, e, I, nb, up, hL, ⟨h1, h2, h3, h4⟩, na, os, ag, w⟩ := x
    exact key u s' ⟨a, B, sI, pins, σ', H', cls, d, e, I, nb, up, .inr ⟨h1, h2, h3, _, h4⟩, na, os, ag, w⟩
  · obtain ⟨fe, out, L, h1, h2, h3⟩ := fr
    exact ⟨fe, out, L, h1, h2, h3⟩
theorem thnX {α : Type} {t : Sem α} {Q Q' : α → Shared → Prop} {M : Model} {A : Around} {E1 E2 : Value → Shared → Prop} {s : Shared} (h : wpAny M A t Q E1 s) (hQ : ∀ a s, Q a s → Q' a s) (hE : ∀ e s, E1 e s → E2 e s) : wpAny M A t Q' E2 s := wpAny_mono h hQ hE
variable {pos : Pos}
theorem lx_core {pins : List (Addr × Obj)} {s : Shared} {σ : St} {H G : Hp} {Γ : Env} {Q : MO → Env → Prop} {elt tg iter : Expr} {ifs : List Expr} {scope : Scope} {own : List (Str × Nat)} {pos' : Pos} {pi : QI} {g : QG} {tt : QT} {pe : QE} {use : Option (Value → Sem Unit)} {Qf : Value → Shared → Prop}
    (hc : X.calm = true) (hN : X.N.Nodup) (tk : Tk X F E) (I : Inv X pins σ H s) (k : Ok F G H σ Γ) (hi : LI X F E tg iter pi) (ok : BlkOk X.N X.env.scope scope own)
    (hg : ∀ (b : BlkD) (q : FxD), LGv (bk X scope b) (fbk F q) tg g (own.map (·.2)))
    (ht : ∀ (b : BlkD) (q : FxD) (E' : XP), Tk (bk X scope b) (fbk F q) E' → LTs (bk X scope b) (fbk F q) E' ifs tt)
    (he : ∀ (b : BlkD) (q : FxD) (E' : XP), Tk (bk X scope b) (fbk F q) E' → LE (bk X scope b) (fbk F q) E' elt pe) (hs : ∀ x, foldedSetIterable iter X.env x = pure x)
    (h : qnLc pi g tt pe (own.map (·.2)) Γ Q E)
    (hRR : ∀ D C s' m H' (ce : PySem.Env), ce.locals = C → Inv X pins σ H' s' → FinN F G σ Q (.ref D) H' → s'.heap.Ns C m → FpOk X pins H' C → cPost (model X.prog X.w) X.A X.xe use Qf (.ref D) ce (.ok .next) s') :
    wpAny (model X.prog X.w) X.A (comprehension (.ListComp elt [⟨tg, iter, ifs, 0⟩] scope pos) scope X.env pos' (newList []) false (eval iter X.env) use) Qf X.xe s := by
  have hfree : ∀ y ∈ scope.names, y.2 = .free → ∃ c, X.env.cells.lookup y.1 = some c := fun y hy e => by
    rcases ok.free y hy e with k | k
    · exact I.ok.has _ (.inl k)
    · exact I.ok.has _ (.inr k)
  refine comp_fr (use := use) rfl hs (closure_ok hfree) ok.kind (fun y hy e => by rw [ok.uniq y hy, e])
    (thn (hi.run pins s σ H G Γ _ I k h) fun xv s1 hx => thn hx fun itv s2 h2 => ?_)
  obtain ⟨it, fp, tn, J, H2, e, I2, T, st2, f2, items, gd, Γ1, G1, q1, i1, k1, sw⟩ := h2
  subst e
  refine wpAny_newObj_type (newEnv_comp ?_) (by show 0 ≤ sizeLine; decide)
  generalize hD : s2.heap.objs.size = D
  have hDn : H2 D = none := I2.hok.fresh (Nat.le_of_eq hD)
  obtain ⟨ho, q1⟩ : offs Γ1 (own.map (·.2)) = true ∧ qLcGo gd g tt pe (own.map (·.2)) items [] Γ1 Q E := by
    revert q1
    cases offs Γ1 (own.map (·.2)) with
    | true => exact fun q => ⟨rfl, q⟩
    | false => exact fun q => q.elim
  -- the new list
  generalize hs3 : ({ s2 with heap := s2.heap.push { cls := .type "list", data := .seq ([] : List Value).toArray } } : Shared) = s3
  have I3 : Inv X pins σ (upd H2 D (.lst [])) s3 := by
    rw [← hs3]
    refine I2.laid (t' := s2.toks) (fun b o e => Heap.get?_push_of_some _ e) (Nat.le_of_eq hD) ⟨Nat.zero_le _, [], 0, .nil, ?_⟩
    rw [← hD]
    exact Heap.get?_push_size _ rfl
  have h3 : s3.heap = s2.heap.push { cls := .type "list", data := .seq ([] : List Value).toArray } := by rw [← hs3]
  have sz : ∀ b ∈ fp, b < s2.heap.objs.size := fun b hb => by
    obtain ⟨o, e, _⟩ := T.obj _ _ st2 b hb
    exact Heap.lt_size e
  have f3 : ∀ b ∈ fp, FpOk X pins (upd H2 D (.lst [])) b ∧ b < s3.heap.objs.size := fun b hb => by
    have hlt := sz b hb
    refine ⟨⟨?_, (f2 b hb).2⟩, by rw [h3, Heap.size_push]; exact Nat.lt_succ_of_lt hlt⟩
    rw [upd_ne (by rw [← hD]; exact Nat.ne_of_lt hlt)]
    exact (f2 b hb).1
  have st3 : tn 0 s3.heap := T.keep _ _ _ st2 fun b _ o e => by rw [h3]; exact Heap.get?_push_of_some _ e
  -- what stands behind a turn
  have h0D : F.H0 D = none := k1.h0 hDn
  have nB : D ∉ F.B := fun m => by
    obtain ⟨o, e⟩ := k1.bor D m
    rw [hDn] at e; cases e
  have g1D : G1 D = none := k1.sub.no hDn
  generalize hvs : own.map (·.2) = vs at q1 ho hg
  let W : Nat → Nat → Hp → Prop := fun i m H' => m = items.length - i ∧ i ≤ items.length ∧ ∃ acc vacc Γ' G', qLcGo gd g tt pe vs (items.drop i) acc Γ' Q E ∧ Inc G1 G' ∧ Ok F G' H' σ Γ' ∧ G' D = none ∧ H' D = some (.lst vacc) ∧ Reps F.toCf G' acc vacc ∧ D ∉ mutA σ Γ' ∧ offs Γ' vs = true
  have w0 : W 0 items.length (upd H2 D (.lst [])) := ⟨rfl, Nat.zero_le _, [], [], Γ1, G1, q1, Inc.refl G1, k1.new0 hDn _, g1D, upd_same, rfl, not_mut k1 hDn, ho⟩
  have I4 := block_start I3 ok hN f3
  show codeAny _ _ (.compStart (.ListComp elt [⟨tg, iter, ifs, 0⟩] scope pos) 0 (.ref it) (.ref D) (compEnvC scope (cellsFrom (s3.heap.objs.size + 1) scope.names (cloFrom X.env.cells scope.names [])) s3.heap.objs.size X.env)) (cPost (model X.prog X.w) X.A X.xe use Qf (.ref D) (compEnvC scope (cellsFrom (s3.heap.objs.size + 1) scope.names (cloFrom X.env.cells scope.names [])) s3.heap.objs.size X.env)) { s3 with heap := pushCells (s3.heap.push { cls := .type "dict", data := .dict #[] }) scope.names }
  have nfp : ∀ b ∈ fp, (upd H2 D (.lst [])) b = none := fun b hb => (f3 b hb).1.1
  generalize hcl : cellsFrom (s3.heap.objs.size + 1) scope.names (cloFrom X.env.cells scope.names []) = cl at I4 ⊢
  generalize hH3 : upd H2 D (.lst []) = H3 at I3 I4 w0 nfp f3
  generalize hs4 : ({ s3 with heap := pushCells (s3.heap.push { cls := .type "dict", data := .dict #[] }) scope.names } : Shared) = s4 at I4 ⊢
  have st4 : tn 0 s4.heap := T.keep _ _ _ st3 fun b _ o e => by rw [← hs4]; exact pushCells_keeps _ _ _ _ (Heap.get?_push_of_some _ e)
  -- the block's context
  obtain ⟨b, hb⟩ : ∃ b : BlkD, b = ⟨s3, H3, s3.heap.objs.size, cl, fp, fun u s' => XEA (X.blk s3 H3 scope (compEnvC scope cl s3.heap.objs.size X.env) fp) (fun cls d _ H' => wOf F E cls d σ H') u s'⟩ := ⟨_, rfl⟩
  have toB : ∀ {pins' : List (Addr × Obj)} {σ' : St} {H' : Hp} {s' : Shared}, Inv (X.blk s3 H3 scope (compEnvC scope cl s3.heap.objs.size X.env) fp) pins' σ' H' s' → Inv (bk X scope b) pins' σ' H' s' := fun {_ _ _ _} I' => by rw [hb]; exact Inv.bk _ I'
  have ofB : ∀ {pins' : List (Addr × Obj)} {σ' : St} {H' : Hp} {s' : Shared}, Inv (bk X scope b) pins' σ' H' s' → Inv (X.blk s3 H3 scope (compEnvC scope cl s3.heap.objs.size X.env) fp) pins' σ' H' s' := fun {_ _ _ _} I => by
    subst hb
    exact ⟨⟨I.ok.mod, I.ok.kind, I.ok.glob, I.ok.blt, I.ok.above, I.ok.inj, I.ok.has, I.ok.cab, I.ok.hd, I.ok.frames, I.ok.stk, I.ok.exf, I.ok.bs, I.ok.bsz, I.ok.noex, I.ok.exfs, I.ok.funs, I.ok.frf⟩, I.os, I.bare, I.base, I.loc, I.cell, I.free, I.freeC, I.pin, I.hok, I.len⟩
  have hxe : b.xe = XEA (bk X scope b) (fun cls d _ H' => wOf F E cls d σ H') := by
    funext u s'
    refine propext ⟨fun x => ?_, fun x => ?_⟩
    · obtain ⟨a, B, sI, pins', σ', H', cls, d, e, I, r⟩ := (show XEA (X.blk s3 H3 scope (compEnvC scope cl s3.heap.objs.size X.env) fp) (fun cls d _ H' => wOf F E cls d σ H') u s' by rw [hb] at x; exact x)
      exact ⟨a, B, sI, pins', σ', H', cls, d, e, toB I, r⟩
    · have x' : XEA (X.blk s3 H3 scope (compEnvC scope cl s3.heap.objs.size X.env) fp) (fun cls d _ H' => wOf F E cls d σ H') u s' := by
        obtain ⟨a, B, sI, pins', σ', H', cls, d, e, I, r⟩ := x
        exact ⟨a, B, sI, pins', σ', H', cls, d, e, ofB I, r⟩
      rw [hb]; exact x'
  have hce : compEnvC scope b.cl b.C X.env = compEnvC scope cl s3.heap.objs.size X.env := by rw [hb]
  have exit : ∀ u s', b.xe u s' → notedBy (model X.prog X.w) X.A (compEnvC scope b.cl b.C X.env) (fun e s'' => cPost (model X.prog X.w) X.A X.xe use Qf (.ref D) (compEnvC scope b.cl b.C X.env) (.error e) s'') u s' := fun u s' x => by
    rw [hxe] at x
    have z := exitX (what := "comprehension.variables-let-go") tk.fr tk.f I3 (by rw [hb]) (by rw [hb]) (by rw [hb]) (by rw [hb]; exact fun c hc => (f3 c hc).1) x
    cases use <;> exact z
  have pg := hg b
  have pt := ht b
  have pe' := he b
  have I4 := toB I4
  have stat : ∀ {σ' : St} {H' : Hp} {s' : Shared}, Inv (bk X scope b) [] σ' H' s' → (∀ c ∈ fp, H' c = none) → ∀ c ∈ fp, FpOk (bk X scope b) [] H' c := fun {σ' H' s'} I' hn c hb' => by
    have hb2 : c ∈ b.fp := by rw [hb]; exact hb'
    exact ⟨hn c hb', (I'.ok.exf c hb2).1, I'.ok.exfs c hb2, .inl hb2, fun x y e => (I'.ok.exf c hb2).2 x y e, fun p hp => absurd (show p ∈ ([] : List (Addr × Obj)) ++ [] from hp) (by simp)⟩
  have loop : codeAny (model X.prog X.w) X.A (.compLoop (.ListComp elt [⟨tg, iter, ifs, 0⟩] scope pos) 0 (.ref it) (.ref D) (compEnvC scope cl s3.heap.objs.size X.env)) (cPost (model X.prog X.w) X.A X.xe use Qf (.ref D) (compEnvC scope cl s3.heap.objs.size X.env)) s4 := by
    rw [hvs] at I4
    rw [← hce]
    refine compLoop_any (fun n s' => ∃ i H', Inv (bk X scope b) [] (wipe σ vs) H' s' ∧ tn i s'.heap ∧ (∀ c ∈ fp, H' c = none) ∧ W i n H') ?_ items.length ⟨0, H3, I4, st4, nfp, w0⟩
    rintro n s5 ⟨i, H5, I5, st5, n5, rfl, hile, acc, vacc, Γ2, G2, q2, i2, k2, g2D, h2D, r2, nm, ho2⟩
    by_cases hlt : i < items.length
    · have hd : items.drop i = items[i] :: items.drop (i + 1) := List.drop_eq_getElem_cons hlt
      rw [hd] at q2
      obtain ⟨gk, q2⟩ := withG_get q2
      have gk' : gOk gd σ σ (bE Γ2) := gOk_bE gk
      have ti := T.item (bk X scope b) rfl rfl rfl hc i [] s5 _ H5 (fun _ _ => False) I5 (stat I5 n5) st5 (sw.go i G2 H5 σ Γ2 i2 k2 (gOk_of gk) hlt)
      refine thnF ti fun r s6 ⟨u, hr, h6⟩ => ?_
      subst hr
      refine thnF h6 fun _ s7 ⟨x, H7, I7, r7, y7, st7, n7⟩ => ?_
      obtain ⟨d, G3, ed, i3, k3, r3⟩ := sw.yldH ⟨G2, H5, mutA σ Γ2, pinE σ Γ2⟩ i G2 H5 σ (bE Γ2) x H7 i2 k2.enter gk' hlt y7
      have ed' : items[i] = d := by
        rw [List.getElem?_eq_getElem hlt] at ed
        exact Option.some.inj ed
      rw [ed'] at q2
      have I7' := I7.pinned (stat I7 n7) (T.obj _ _ st7)
      obtain ⟨k4, _⟩ := k3.wipe (offs_bE ho2)
      have tkt := tk_turn (scope := scope) (b := b) tk.fr hxe k2
      -- the end of a turn
      have fin : ∀ {G4 H4 : Hp} {σ4 : St} {Γ4 : Env}, Ok (blkF F G2 H5 σ Γ2) G4 H4 σ4 Γ4 → Inc G2 G4 ∧ Ok F G4 H4 σ (rE Γ2 Γ4) ∧ H4 D = some (.lst vacc) ∧ G4 D = none ∧ D ∉ mutA σ (rE Γ2 Γ4) := by
        intro G4 H4 σ4 Γ4 k7
        obtain ⟨a1, a2⟩ := k2.leave k7
        refine ⟨a1, a2, k7.frame D _ h2D nm, ?_, ?_⟩
        · cases hg : G4 D with
          | none => rfl
          | some o =>
            rcases k7.fresh D o hg with z | z
            · have z : G2 D = some o := z
              rw [g2D] at z; cases z
            · have z : H5 D = none := z
              rw [h2D] at z; cases z
        · rw [mutA_kin rE_len fun i s t e1 e2 => rE_kin e1 e2]
          exact nm
      have back : ∀ {pins' : List (Addr × Obj)} {s' : Shared} {H' : Hp} {σ8 : St}, wipe σ8 vs = wipe σ vs → Inv (bk X scope b) ([] ++ pinsAt fp s7.heap) σ8 H' s' → W (i + 1) (items.length - (i + 1)) H' → ∃ m, m < items.length - i ∧ ∃ i H', Inv (bk X scope b) [] (wipe σ vs) H' s' ∧ tn i s'.heap ∧ (∀ c ∈ fp, H' c = none) ∧ W i m H' := fun {pins' s' H' σ8} hw8 I' w' => by
        have pin' : ∀ c ∈ fp, ∀ o, s7.heap.get? c = some o → s'.heap.get? c = some o ∧ H' c = none := fun c hb o e =>
          let z := I'.pin (c, o) (List.mem_append_right _ (List.mem_append_right _ (mem_pinsAt hb e)))
          ⟨z.1, z.2.1⟩
        have hl : (wipe σ vs).length = σ8.length := by rw [← hw8, wipe_length]
        refine ⟨items.length - (i + 1), by omega, i + 1, H', (I'.unpinned (pins := [])).weak hl (fun j v e => ?_), T.keep _ _ _ st7 fun c hb o e => (pin' c hb o e).1, fun c hb => ?_, w'⟩
        · rw [← hw8] at e
          exact (wipe_some e).1
        · obtain ⟨o, e, _⟩ := T.obj _ _ st7 c hb
          exact (pin' c hb o e).2
      refine thnX ((pg _).run _ s7 _ H7 G3 _ x u d _ I7' k4 r7 r3 q2) (fun _ s8 ⟨σ8, H8, I8, hw8, Γ4, q4, k5⟩ => ?_) exit
      have hw8 : wipe σ8 vs = wipe σ vs := hw8.trans wipe_idem
      refine thnX ((pt _ _ tkt).run _ s8 σ8 H8 G3 Γ4 _ I8 k5 q4) (fun bb s9 ⟨H9, I9, Γ5, G5, q5, i5, k6⟩ => ?_) exit
      cases bb with
      | false =>
        simp only [Bool.false_eq_true, if_false]
        obtain ⟨a1, a2, a3, a4, a5⟩ := fin k6
        exact back (pins' := []) hw8 I9 ⟨rfl, hlt, acc, vacc, _, G5, q5, i2.trans a1, a2, a4, a3, r2.inc a1, a5, offs_rE ho2⟩
      | true =>
        simp only [if_true]
        refine thnX ((pe' _ _ tkt).run _ s9 σ8 H9 G5 Γ5 _ I9 k6 q5) (fun z s10 ⟨yv, H10, I10, r10, dy, Γ6, G6, ⟨hl6, q6⟩, i6, k7, rp6⟩ => ?_) exit
        obtain ⟨a1, a2, a3, a4, a5⟩ := fin k7
        refine app_ok (X := bk X scope b) I10 a3 (by rw [r2.len]; exact szlt hl6) r10 fun s11 I11 => back (pins' := []) hw8 I11 ?_
        exact ⟨rfl, hlt, acc ++ [dy], vacc ++ [yv], _, G6, q6, i2.trans a1, a2.off a4 h0D nB a5 (fun ws z => by rw [a3] at z; cases z) _, a4, upd_same, (r2.inc a1).append (Reps.one rp6), a5, offs_rE ho2⟩
    · have e : i = items.length := by omega
      subst e
      rw [List.drop_length] at q2
      obtain ⟨gk, q2⟩ := withG_get q2
      have td := T.done (bk X scope b) rfl rfl rfl hc items.length [] s5 _ H5 (fun _ _ => False) I5 (stat I5 n5) st5 (sw.stop G2 H5 σ Γ2 i2 k2 (gOk_of gk))
      refine thnF td fun r s6 ⟨hr, I6⟩ => ?_
      subst hr
      have I6' := ofB I6
      have I7 : Inv X pins σ H5 s6 := I3.call' (ch := fp) I6'.os I6'.base I6'.hok I6'.bare fun c hb => ⟨(f3 c hb).1.2.2.2.1, (f3 c hb).1.2.1, (f3 c hb).1.2.2.2.2.1, (f3 c hb).1.2.2.2.2.2⟩
      have nC : H5 s3.heap.objs.size = none := I6'.free
      obtain ⟨m, hn, _⟩ := I6'.loc
      exact hRR D s3.heap.objs.size s6 m H5 _ (by rw [hb]; rfl) I7 ⟨.lst acc, D, Γ2, G2, q2, i1.trans i2, k2, rfl, g2D, ⟨vacc, h2D, r2⟩, h0D, nm⟩ hn (I3.fpOk (Nat.le_refl _) nC)
  exact codeAny_compStart_list loop (T.self X.A 0 _ _ _ st4 loop)
end
end Q
set_option Elab.async false
set_option linter.all false
set_option maxRecDepth 100000
set_option maxHeartbeats 4000000
namespace Q
open PySem L2 PySem.Spec PyProof.Rows
section
variable {X : Cx} {F : Fx} {E : XP} {e : Expr} {pn : QN} {pos : Pos}
/-- a new thing, told at once -/
def qTell (p : QN) : QE := fun Γ Q E => p Γ (fun o Γ1 => Q (dMo o) Γ1) E
theorem finN_tell {G H : Hp} {σ : St} {Q : D → Env → Prop} {v : V} (h : FinN F G σ (fun o Γ1 => Q (dMo o) Γ1) v H) : FinL F G σ Q v H := by
  obtain ⟨o, a, Γ', G', q, i, k, rfl, ga, m, h0, hm⟩ := h
  rcases mo_dic o with z | ⟨lk, kvs, rfl⟩
  · obtain ⟨z1, z2⟩ := moD_dMo' z
    obtain ⟨u, hu, ru⟩ := mrep_tell z1 z2 ga m
    exact .inl ⟨dMo o, Γ', upd G' a u, q, i.trans (Inc.new ga), k.tell hu ga h0 hm, ru⟩
  · obtain ⟨ws, hu, ru⟩ := mrep_tellD ga m
    cases lk with
    | some ob => exact .inl ⟨.dic kvs, Γ', upd G' a _, q, i.trans (Inc.new ga), k.tell hu ga h0 hm, ru ob⟩
    | none => exact .inr ⟨a, ws, hu, fun ob => ⟨.dic kvs, Γ', upd G' a (.frz ob (.dK ws)), q, i.trans (Inc.new ga), Ok.tell (k.offB ga h0 hm (fun ws z => by rw [hu] at z; cases z) _) upd_same ga h0 hm, ru ob⟩⟩
theorem le_tell (h : LN X F E e pn) : LE X F E e (qTell pn) := ⟨fun pins s σ H G Γ Q I k q =>
  thn (h.run pins s σ H G Γ _ I k q) fun u s' ⟨v, H', I', r, z⟩ => ep_lock ⟨v, H', I', r, finN_tell z⟩⟩
variable {elt tg iter : Expr} {ifs : List Expr} {scope : Scope} {own : List (Str × Nat)} {pi : QI} {g : QG} {tt : QT} {pe : QE}
theorem ln_lc (own : List (Str × Nat)) (hc : X.calm = true) (hN : X.N.Nodup) (tk : Tk X F E) (hi : LI X F E tg iter pi) (ok : BlkOk X.N X.env.scope scope own)
    (hg : ∀ (b : BlkD) (q : FxD), LGv (bk X scope b) (fbk F q) tg g (own.map (·.2)))
    (ht : ∀ (b : BlkD) (q : FxD) (E' : XP), Tk (bk X scope b) (fbk F q) E' → LTs (bk X scope b) (fbk F q) E' ifs tt)
    (he : ∀ (b : BlkD) (q : FxD) (E' : XP), Tk (bk X scope b) (fbk F q) E' → LE (bk X scope b) (fbk F q) E' elt pe) (hs : ∀ x, foldedSetIterable iter X.env x = pure x := by intro _; rfl) :
    LN X F E (.ListComp elt [⟨tg, iter, ifs, 0⟩] scope pos) (qnLc pi g tt pe (own.map (·.2))) := ⟨fun pins s σ H G Γ Q I k h => by
  rw [eval_ListComp]
  refine lx_core hc hN tk I k hi ok hg ht he hs h fun D C s' m H' ce hC I' q hn f => ⟨m, by rw [hC]; exact hn, fun h'' sb => ?_⟩
  rw [hC] at sb
  obtain ⟨f0, f1, f2, f3, f4, f5⟩ := f
  exact ⟨.ref D, H', I'.turned (t' := s'.toks) (fun b o hb e => (sb.2 b hb).trans e) f0 f1 f3 f4 f5, rfl, q⟩⟩
/-- name = [..], on one line, the name a local: the name is stored ahead of the block's end -/
theorem ls_lcCore (own : List (Str × Nat)) {i : Nat} {y : Str} {py spos : Pos} {P : PEnds} {Q : MO → Env → Prop} {pins : List (Addr × Obj)} {s : Shared} {σ : St} {H G : Hp} {Γ : Env} (hc : X.calm = true) (hN : X.N.Nodup) (tk : Tk X F E) (hy : X.N[i]? = some y) (hyl : X.env.scope.names.lookup y = some .local)
    (hsw : swapsWith (.ListComp elt [⟨tg, iter, ifs, 0⟩] scope pos) (some (.Name y py)) spos.line X.env = pure true) (hi : LI X F E tg iter pi) (ok : BlkOk X.N X.env.scope scope own)
    (hg : ∀ (b : BlkD) (q : FxD), LGv (bk X scope b) (fbk F q) tg g (own.map (·.2)))
    (ht : ∀ (b : BlkD) (q : FxD) (E' : XP), Tk (bk X scope b) (fbk F q) E' → LTs (bk X scope b) (fbk F q) E' ifs tt)
    (he : ∀ (b : BlkD) (q : FxD) (E' : XP), Tk (bk X scope b) (fbk F q) E' → LE (bk X scope b) (fbk F q) E' elt pe) (hs : ∀ x, foldedSetIterable iter X.env x = pure x)
    (I : Inv X pins σ H s) (k : Ok F G H σ Γ) (h : qnLc pi g tt pe (own.map (·.2)) Γ Q E)
    (fin : ∀ D H', FinN F G σ Q (.ref D) H' → (endsOf F G P).nx (σ.set i (some (.ref D))) H' ∨ ∃ a ws, H' a = some (.dK ws) ∧ ∀ ob, (endsOf F G P).nx (σ.set i (some (.ref D))) (upd H' a (.frz ob (.dK ws)))) :
    wpAny (model X.prog X.w) X.A (exec (.Assign [.Name y py] (.ListComp elt [⟨tg, iter, ifs, 0⟩] scope pos) spos) X.env) (SP X pins (endsOf F G P)) X.xe s := by
  rw [exec_Assign_Name_used _ _ _ _ hsw]
  refine wpAny_bind (wpAny_standAt (wpAny_bind ?_))
  show wpAny _ X.A (do let _ ← comprehension (.ListComp elt [⟨tg, iter, ifs, 0⟩] scope pos) scope X.env (firstIterPos [⟨tg, iter, ifs, 0⟩] pos) (newList []) false (eval iter X.env) (some (assign (.Name y py) X.env))) _ _ s
  refine wpAny_bind (thn (lx_core (Qf := fun _ s' => SP X pins (endsOf F G P) .next s') hc hN tk I k hi ok hg ht he hs h fun D C s' m H' ce hC I' q hn f => ?_) fun _ s' hq => wpAny_pure (wpAny_pure hq))
  show wpAny _ _ (assign (.Name y py) X.env (.ref D)) _ _ _
  refine wpAny_assign_Name (store_ok2 (v := V.ref D) I' hN hy (.inl hyl) rfl (fun s2 I2 ⟨a, sb, ha⟩ => ?_) (.inr hyl))
  obtain ⟨f0, f1, f2, f3, f4, f5⟩ := f
  have haC : C ≠ a := by
    rcases ha with z | z
    · rw [z]; exact f1
    · exact fun e => f4 y a z e.symm
  refine ⟨m, by rw [hC]; exact hn.sameBut sb haC, fun h3 sb3 => ?_⟩
  rw [hC] at sb3
  have I3 := I2.turned (t' := s2.toks) (fun b o hb e => (sb3.2 b hb).trans e) f0 f1 f3 f4 f5
  rcases fin D H' q with z | ⟨a, ws, e, z⟩
  · exact ⟨_, H', I3, z⟩
  · obtain ⟨ob, I4⟩ := I3.lock e trivial
    exact ⟨_, _, I4, z ob⟩
theorem ls_setLc (own : List (Str × Nat)) (i : Nat) {y : Str} {py spos : Pos} (hc : X.calm = true) (hN : X.N.Nodup) (tk : Tk X F E) (hi : LI X F E tg iter pi) (ok : BlkOk X.N X.env.scope scope own)
    (hg : ∀ (b : BlkD) (q : FxD), LGv (bk X scope b) (fbk F q) tg g (own.map (·.2)))
    (ht : ∀ (b : BlkD) (q : FxD) (E' : XP), Tk (bk X scope b) (fbk F q) E' → LTs (bk X scope b) (fbk F q) E' ifs tt)
    (he : ∀ (b : BlkD) (q : FxD) (E' : XP), Tk (bk X scope b) (fbk F q) E' → LE (bk X scope b) (fbk F q) E' elt pe) (hs : ∀ x, foldedSetIterable iter X.env x = pure x := by intro _; rfl)
    (hy : X.N[i]? = some y := by rfl) (hyl : X.env.scope.names.lookup y = some .local := by rfl) (hsw : swapsWith (.ListComp elt [⟨tg, iter, ifs, 0⟩] scope pos) (some (.Name y py)) spos.line X.env = pure true := by exact sw_true rfl rfl rfl rfl) :
    LS X F E (.Assign [.Name y py] (.ListComp elt [⟨tg, iter, ifs, 0⟩] scope pos) spos) (qSet i (qTell (qnLc pi g tt pe (own.map (·.2))))) :=
  ⟨fun pins s σ H G Γ P I k h => ls_lcCore own hc hN tk hy hyl hsw hi ok hg ht he hs I k h fun D H' z => by
    rcases finN_tell (Q := fun d Γ1 => setV Γ1 i d P.nx) z with ⟨d, Γ', G', q, i1, k1, r⟩ | ⟨a, ws, e, z⟩
    · obtain ⟨n, q2⟩ := setV_get q
      exact .inl ⟨_, G', q2, i1, k1.set n r⟩
    · refine .inr ⟨a, ws, e, fun ob => ?_⟩
      obtain ⟨d, Γ', G', q, i1, k1, r⟩ := z ob
      obtain ⟨n, q2⟩ := setV_get q
      exact ⟨_, G', q2, i1, k1.set n r⟩⟩
theorem ls_setLcN (own : List (Str × Nat)) (i : Nat) {y : Str} {py spos : Pos} (hc : X.calm = true) (hN : X.N.Nodup) (tk : Tk X F E) (hi : LI X F E tg iter pi) (ok : BlkOk X.N X.env.scope scope own)
    (hg : ∀ (b : BlkD) (q : FxD), LGv (bk X scope b) (fbk F q) tg g (own.map (·.2)))
    (ht : ∀ (b : BlkD) (q : FxD) (E' : XP), Tk (bk X scope b) (fbk F q) E' → LTs (bk X scope b) (fbk F q) E' ifs tt)
    (he : ∀ (b : BlkD) (q : FxD) (E' : XP), Tk (bk X scope b) (fbk F q) E' → LE (bk X scope b) (fbk F q) E' elt pe) (hs : ∀ x, foldedSetIterable iter X.env x = pure x := by intro _; rfl)
    (hy : X.N[i]? = some y := by rfl) (hyl : X.env.scope.names.lookup y = some .local := by rfl) (hsw : swapsWith (.ListComp elt [⟨tg, iter, ifs, 0⟩] scope pos) (some (.Name y py)) spos.line X.env = pure true := by exact sw_true rfl rfl rfl rfl) :
    LS X F E (.Assign [.Name y py] (.ListComp elt [⟨tg, iter, ifs, 0⟩] scope pos) spos) (qSetN i (qnLc pi g tt pe (own.map (·.2)))) :=
  ⟨fun pins s σ H G Γ P I k h => ls_lcCore own hc hN tk hy hyl hsw hi ok hg ht he hs I k h fun D H' z => by
    obtain ⟨o, a, Γ', G', q, i1, k1, e, ga, m, h0, hm⟩ := z
    cases e
    dsimp only [setN] at q
    split at q
    · rename_i hb
      exact .inl ⟨_, G', q, i1, k1.setOwn hb ga m h0 hm⟩
    · exact q.elim⟩
end
end Q
set_option Elab.async false
set_option linter.all false
set_option maxRecDepth 100000
set_option maxHeartbeats 4000000
namespace PySem
open Sem (wp)
open AutoSeq1 (wpAny_loadPart')
theorem q_enum_newT (l : Addr) (items : Array Value) (n : Nat) (dct : Option Addr) (sl : Array (Option Value)) :
    Meets (Builtin.«enumerate.__new__» ⟨[.type "enumerate", .ref l], []⟩) (fun _ R s => s.heap.get? l = some { cls := .type "tuple", dict := dct, data := .seq items n, slots := sl } ∧
      R (.ok (.ret (.ref (s.heap.push { cls := .type "tuple_iterator", data := .fields #[.ref l, .int 0 0] }).objs.size)))
        { s with heap := (s.heap.push { cls := .type "tuple_iterator", data := .fields #[.ref l, .int 0 0] }).push { cls := .type "enumerate", data := .fields #[.none, .bool false, .ref s.heap.objs.size, rawInt 0, .none, .none] } }) :=
  .of_wp fun prog w A R s h => by
    obtain ⟨hp, g, d, tk, os⟩ := s; obtain ⟨hl, h⟩ := h
    have hsub := sub_enumerate
    have hL : Heap.IsTuple (Shared.heap ⟨hp, g, d, tk, os⟩) l items := ⟨_, hl, rfl, n, rfl⟩
    wp_walk using wpAny_loadPart' hl
    refine wpAny_stack_any fun st => wpAny_pure ?_
    split
    · rename_i c _ _ _ _ _
      cases (c == Value.type "enumerate")
      · wp_walk using wpAny_loadPart' hl, wpAny_pyIter_tuple hL
        exact ⟨_, rfl, h⟩
      · wp_walk using wpAny_loadPart' hl, wpAny_pyIter_tuple hL
        exact ⟨_, rfl, h⟩
    · wp_walk using wpAny_loadPart' hl, wpAny_pyIter_tuple hL
      exact ⟨_, rfl, h⟩
section
variable {prog : Program} {w : World} {A : Around} {E : Value → Shared → Prop} {s : Shared}
theorem q_call_enumT {l : Addr} {items : Array Value} {Q : Value → Shared → Prop} (hL : s.heap.IsTuple l items)
    (h : ∀ h', IsEnum h' (s.heap.objs.size + 1) s.heap.objs.size 0 .none → h'.IsTupleIter s.heap.objs.size l 0 → h'.objs.size = s.heap.objs.size + 2 →
      (∀ b o, s.heap.get? b = some o → h'.get? b = some o) → Q (.ref (s.heap.objs.size + 1)) { s with heap := h' }) :
    wpAny (model prog w) A (call (.type "enumerate") [.ref l]) Q E s := by
  obtain ⟨⟨c, dct, dt, sl⟩, hl, hc, n, hd⟩ := hL
  replace hc : c = .type "tuple" := hc
  replace hd : dt = .seq items n := hd
  subst hc hd
  refine callType_new F.called_enumerate (by decide) (F.typeCall_enumerate_1 _) (F.newCall_enumerate_1 _) (fun obj => F.args_object_init_2 obj _) F.entry_enumerate_new
    (q_enum_newT l items n dct sl) ⟨hl, ?_⟩
  have hz : (s.heap.push { cls := .type "tuple_iterator", data := .fields #[.ref l, .int 0 0] }).objs.size = s.heap.objs.size + 1 := Heap.size_push ..
  show _ ∧ _
  rw [hz]
  have he : IsEnum ((s.heap.push { cls := .type "tuple_iterator", data := .fields #[.ref l, .int 0 0] }).push
      { cls := .type "enumerate", data := .fields #[.none, .bool false, .ref s.heap.objs.size, rawInt 0, .none, .none] }) (s.heap.objs.size + 1) s.heap.objs.size 0 .none := by
    have := Heap.get?_push_size (s.heap.push { cls := .type "tuple_iterator", data := .fields #[.ref l, .int 0 0] })
      (o := { cls := .type "enumerate", data := .fields #[.none, .bool false, .ref s.heap.objs.size, rawInt 0, .none, .none] }) rfl
    rw [hz] at this; exact this
  refine ⟨⟨_, he, rfl⟩, h _ he ⟨_, Heap.get?_push_of_some _ (Heap.get?_push_size _ rfl), rfl, rfl⟩ (by rw [Heap.size_push, hz]) fun b o x => Heap.get?_push_of_some _ (Heap.get?_push_of_some _ x)⟩
end
end PySem
namespace Q
open PySem L2 PySem.Spec PyProof.Rows
inductive Sk where
  | l (a : Addr) | t (a : Addr) | x (z : Str)
def Sk.v : Sk → V
  | .l a => .ref a
  | .t a => .ref a
  | .x z => .str z
def Sk.at (K : PySem.W.Frag) (H : Hp) : Sk → List V → Prop
  | .l a, vs => SqL K H a vs
  | .t a, vs => SqT K H a vs
  | .x z, vs => vs = z.cps.toList.map fun c => V.str ⟨#[c]⟩
def Sk.it (it : Addr) (i : Nat) (h : Heap) : Sk → Prop
  | .l a => h.IsListIter it a i
  | .t a => h.IsTupleIter it a i
  | .x z => ∃ t, h.IsStrIter it (strIterType z) z t i
def Sk.ne (b : Addr) : Sk → Prop
  | .l a => b ≠ a
  | .t a => b ≠ a
  | .x _ => True
theorem Sk.it_obj {k : Sk} {it : Addr} {i : Nat} {h : Heap} (x : k.it it i h) : ∃ o fs, h.get? it = some o ∧ o.data = .fields fs := by
  cases k with
  | l a => obtain ⟨o, e, _, d⟩ := x; exact ⟨o, _, e, d⟩
  | t a => obtain ⟨o, e, _, d⟩ := x; exact ⟨o, _, e, d⟩
  | x z => obtain ⟨t, o, e, _, d⟩ := x; exact ⟨o, _, e, d⟩
theorem Sk.it_at {k : Sk} {it : Addr} {i : Nat} {h h' : Heap} (x : k.it it i h) (hk : ∀ o, h.get? it = some o → h'.get? it = some o) : k.it it i h' := by
  cases k with
  | l a => obtain ⟨o, e, r⟩ := x; exact ⟨o, hk o e, r⟩
  | t a => obtain ⟨o, e, r⟩ := x; exact ⟨o, hk o e, r⟩
  | x z => obtain ⟨t, o, e, r⟩ := x; exact ⟨t, o, hk o e, r⟩
theorem vals_get' : ∀ {xs : List V} {us : List Value} {i : Nat} {u : Value}, Vals xs us → us[i]? = some u → ∃ x, xs[i]? = some x ∧ RelV x u
  | _, _, _, _, .nil, e => by simp at e
  | _, _, 0, _, .cons r _, e => by simp at e; subst e; exact ⟨_, rfl, r⟩
  | _, _, i + 1, _, .cons _ r, e => by
    obtain ⟨x, h1, h2⟩ := vals_get' (i := i) r (by simpa using e)
    exact ⟨x, by simpa using h1, h2⟩
section
variable {X : Cx} {pins : List (Addr × Obj)} {σ : St} {H : Hp} {s : Shared}
theorem Sk.inj {k : Sk} {xs ys : List V} (I : Inv X pins σ H s) (a : k.at X.K H xs) (b : k.at X.K H ys) : xs = ys := by
  cases k with
  | l _ => exact I.list_inj a b
  | t _ => exact I.tuple_inj a b
  | x z => exact (show xs = _ from a).trans (show ys = _ from b).symm
theorem sk_draws {A : Around} {k : Sk} {vs : List V} {it : Addr} {i : Nat} (I : Inv X pins σ H s) (hh : A.handled = none) (ha : k.at X.K H vs) (hi : k.it it i s.heap) :
    ∃ (fp : List Addr) (P : Nat → Value → Prop) (St : Nat → Heap → Prop), Draws X.prog X.w A it fp vs.length P St ∧ St i s.heap ∧ (∀ j x, P j x → ∃ v, vs[j]? = some v ∧ RelV v x) ∧ (∀ j h', St j h' → k.it it j h') ∧ it ∈ fp ∧ (∀ b, b ≠ it → k.ne b → b ∉ fp) ∧
      ∀ b o fs, s.heap.get? b = some o → o.data = .fields fs → k.ne b := by
  cases k with
  | l a =>
    obtain ⟨its, r, p, _⟩ := I.list ha
    have nf : ∀ b o fs, s.heap.get? b = some o → o.data = .fields fs → b ≠ a := fun b o fs e d q => by
      obtain ⟨o', n, e', _, _, d'⟩ := p
      rw [q, e'] at e
      cases e
      rw [d'] at d
      cases d
    have hne : a ≠ it := by
      obtain ⟨o, fs, e, d⟩ := Sk.it_obj hi
      exact (nf it o fs e d).symm
    have hl : its.toArray.size = vs.length := by rw [List.size_toArray, r.length]
    refine ⟨[it, a], _, _, hl ▸ Draws.list hh it a hne its.toArray, ⟨hi, p.isList⟩, fun j x q => ?_, fun j h' q => q.1, by simp, fun b h1 h2 m => ?_, nf⟩
    · have q' : its[j]? = some x := by simpa using q
      exact vals_get' r q'
    · rcases List.mem_cons.mp m with z | z
      · exact h1 z
      · exact h2 (List.mem_singleton.mp z)
  | t a =>
    obtain ⟨its, r, p, _⟩ := I.tuple ha
    have nf : ∀ b o fs, s.heap.get? b = some o → o.data = .fields fs → b ≠ a := fun b o fs e d q => by
      obtain ⟨o', e', _, n, d'⟩ := p
      rw [q, e'] at e
      cases e
      rw [d'] at d
      cases d
    have hne : a ≠ it := by
      obtain ⟨o, fs, e, d⟩ := Sk.it_obj hi
      exact (nf it o fs e d).symm
    have hl : its.toArray.size = vs.length := by rw [List.size_toArray, r.length]
    refine ⟨[it, a], _, _, hl ▸ Draws.tuple hh it a hne its.toArray, ⟨hi, p⟩, fun j x q => ?_, fun j h' q => q.1, by simp, fun b h1 h2 m => ?_, nf⟩
    · have q' : its[j]? = some x := by simpa using q
      exact vals_get' r q'
    · rcases List.mem_cons.mp m with z | z
      · exact h1 z
      · exact h2 (List.mem_singleton.mp z)
  | x z =>
    obtain ⟨t, hi⟩ := hi
    have ev : vs = z.cps.toList.map fun c => V.str ⟨#[c]⟩ := ha
    have hl : z.cps.size = vs.length := by rw [ev]; simp
    refine ⟨[it], _, _, hl ▸ Draws.text hh it z t, hi, fun j x q => ?_, fun j h' q => ⟨t, q⟩, by simp, fun b h1 h2 m => h1 (List.mem_singleton.mp m), fun _ _ _ _ _ => trivial⟩
    obtain ⟨c, u, hc, rfl⟩ := q
    refine ⟨V.str ⟨#[c]⟩, ?_, u, rfl⟩
    rw [ev, List.getElem?_map, Array.getElem?_toList, hc]
    rfl
end
def IteS (K : PySem.W.Frag) (k : Sk) : It :=
  ⟨fun i H => ∃ (xs : List V) (x : V), k.at K H xs ∧ xs[i]? = some x, fun i H v H' => ∃ T x, v = .ref T ∧ H T = none ∧ H' = upd H T (.tup [.int (i : Nat), x]) ∧ ∀ xs, k.at K H xs → xs[i]? = some x, fun i H => ∃ xs : List V, k.at K H xs ∧ xs.length = i⟩
theorem turn_enumS {P : Program} {w : World} {K : PySem.W.Frag} {elts : List Expr} {kk : Nat} {tpos : Pos} (k : Sk) (e it : Addr) :
    Turn P w K (.Tuple elts kk tpos) (IteS K k) [e, it] e (fun i h => (∃ old, IsEnum h e it ((i : Nat) : Int) old) ∧ k.it it i h ∧ e ≠ it) where
  mem := by simp
  obj := fun i h st b hb => by
    obtain ⟨⟨old, he⟩, hi, _⟩ := st
    obtain ⟨o, fs, ho, hd⟩ := Sk.it_obj hi
    have e' : b = e ∨ b = it := by simpa using hb
    rcases e' with z | z
    · rw [z]; exact ⟨_, he, fun v q => nomatch q⟩
    · rw [z]; exact ⟨o, ho, fun v q => by rw [hd] at q; cases q⟩
  keep := fun i h h' st k => let ⟨⟨old, he⟩, hi, hne⟩ := st; ⟨⟨old, k e (by simp) _ he⟩, Sk.it_at hi fun o q => k it (by simp) o q, hne⟩
  item := by
    intro X hP hw hK hc i pins s σ H E I hf st hg
    subst hP hw hK
    obtain ⟨⟨old, he⟩, hit, hne⟩ := st
    obtain ⟨xs, x, hq, hx⟩ := hg
    obtain ⟨fp, P, St, D, st, hP, hS, hm, hfp, hnf⟩ := sk_draws (A := X.A.in1) I (I.ok.hd hc) hq hit
    have hel : e < s.heap.objs.size := Heap.lt_size he
    have hil : it < s.heap.objs.size := by obtain ⟨o, _, q, _⟩ := Sk.it_obj hit; exact Heap.lt_size q
    have hlt : i < xs.length := (List.getElem?_eq_some_iff.mp hx).1
    refine wpAny_pyNext_enum_itemD D he st hlt hne (hfp e hne (hnf e _ _ he rfl)) fun u h' tk hPu ho hst' hT hsz hk => ?_
    obtain ⟨v, ev, ru⟩ := hP i u hPu
    rw [hx] at ev
    cases ev
    refine ⟨_, rfl, wpAny_letOwnedTupleGo_enum (s := { s with heap := h', toks := tk + 1 }) ho fun h'' he' sb => ?_⟩
    have hT2 : h''.get? s.heap.objs.size = some { cls := .type "tuple", data := .seq #[.int i tk, u] } := (sb.2 _ (Nat.ne_of_gt hel)).trans hT
    have new : ObjOk X.prog X.w (upd H s.heap.objs.size (.tup [.int (i : Nat), x])) h'' s.heap.objs.size (.tup [.int (i : Nat), x]) :=
      ⟨by show 2 ≤ sizeLine; decide, [.int i tk, u], .cons ⟨_, rfl⟩ (.cons ru .nil), ⟨_, hT2, rfl, _, rfl⟩⟩
    have I1 : Inv X pins σ (upd H s.heap.objs.size (.tup [.int (i : Nat), x])) { s with heap := h'', toks := tk + 1 } :=
      I.turnedNew (ch := [e, it]) (fun b ob hb q => (sb.2 b (fun z => hb (by simp [z]))).trans (hk b ob (fun z => hb (by simp [z])) (fun z => hb (by simp [z])) q)) hf (Nat.le_refl _) new
    refine ⟨.ref s.heap.objs.size, _, I1, rfl, ⟨_, x, rfl, I.hok.fresh (Nat.le_refl _), rfl, fun ys hy => by rw [Sk.inj I hy hq]; exact hx⟩, ⟨⟨u, ?_⟩, Sk.it_at (hS _ _ hst') fun o q => (sb.2 it (Ne.symm hne)).trans q, hne⟩, fun b hb => ?_⟩
    · have e1 : ((i + 1 : Nat) : Int) = (i : Int) + 1 := by omega
      rw [e1]; exact he'
    · have hb' : b < s.heap.objs.size := by
        have e' : b = e ∨ b = it := by simpa using hb
        rcases e' with z | z
        · rw [z]; exact hel
        · rw [z]; exact hil
      rw [upd_ne (Nat.ne_of_lt hb')]
      exact (hf b hb).1
  done := by
    intro X hP hw hK hc i pins s σ H E I hf st hg
    subst hP hw hK
    obtain ⟨⟨old, he⟩, hit, hne⟩ := st
    obtain ⟨xs, hq, hx⟩ := hg
    subst hx
    obtain ⟨fp, P, St, D, st, hP, hS, hm, hfp, hnf⟩ := sk_draws (A := X.A.in1) I (I.ok.hd hc) hq hit
    obtain ⟨f0, f1, f2, f3, f4, f5⟩ := hf it (by simp)
    exact wpAny_pyNext_enum_endD D he st fun h' eb => ⟨rfl, I.turned (t' := s.toks) (fun b o hb q => eb b o hb q) f0 f1 f3 f4 f5⟩
  self := fun A i s Q E st h => let ⟨⟨_, he⟩, _⟩ := st; wpAny_pyIter_enum he h
/-- the cells of a zip lie apart -/
structure Ap5 (z TI TO i1 i2 : Addr) (k1 k2 : Sk) : Prop where
  TIz : TI ≠ z
  TOz : TO ≠ z
  TITO : TI ≠ TO
  TIi1 : TI ≠ i1
  TIi2 : TI ≠ i2
  zi1 : z ≠ i1
  zi2 : z ≠ i2
  TOi1 : TO ≠ i1
  TOi2 : TO ≠ i2
  i12 : i1 ≠ i2
  k1o : k1.ne TO
  k2o : k2.ne TO
def ItzS (K : PySem.W.Frag) (k1 k2 : Sk) : It :=
  ⟨fun i H => ∃ (xs ys : List V) (x y : V), k1.at K H xs ∧ k2.at K H ys ∧ xs[i]? = some x ∧ ys[i]? = some y,
    fun i H v H' => ∃ T x y, v = .ref T ∧ H T = none ∧ H' = upd H T (.tup [x, y]) ∧ (∀ xs, k1.at K H xs → xs[i]? = some x) ∧ ∀ ys, k2.at K H ys → ys[i]? = some y,
    fun i H => ∃ xs ys : List V, k1.at K H xs ∧ k2.at K H ys ∧ i = min xs.length ys.length⟩
theorem turn_zipS {P : Program} {w : World} {K : PySem.W.Frag} {elts : List Expr} {kk : Nat} {tpos : Pos} {k1 k2 : Sk} {z TI TO i1 i2 : Addr} (D : Ap5 z TI TO i1 i2 k1 k2) :
    Turn P w K (.Tuple elts kk tpos) (ItzS K k1 k2) [z, TI, TO, i1, i2] z (fun i h => IsZip h z TI TO .none ∧ IsPair h TI (.ref i1) (.ref i2) ∧ (∃ x y, IsPair h TO x y) ∧ k1.it i1 i h ∧ k2.it i2 i h) where
  mem := by simp
  obj := fun i h st c hc => by
    obtain ⟨hz, hTI, ⟨x, y, hTO⟩, h1, h2⟩ := st
    obtain ⟨o1, _, e1, d1⟩ := Sk.it_obj h1
    obtain ⟨o2, _, e2, d2⟩ := Sk.it_obj h2
    have e' : c = z ∨ c = TI ∨ c = TO ∨ c = i1 ∨ c = i2 := by simpa using hc
    rcases e' with q | q | q | q | q
    · rw [q]; exact ⟨_, hz, fun v q => nomatch q⟩
    · rw [q]; exact ⟨_, hTI, fun v q => nomatch q⟩
    · rw [q]; exact ⟨_, hTO, fun v q => nomatch q⟩
    · rw [q]; exact ⟨o1, e1, fun v q => by rw [d1] at q; cases q⟩
    · rw [q]; exact ⟨o2, e2, fun v q => by rw [d2] at q; cases q⟩
  keep := fun i h h' st k => by
    obtain ⟨hz, hTI, ⟨x, y, hTO⟩, h1, h2⟩ := st
    exact ⟨k z (by simp) _ hz, k TI (by simp) _ hTI, ⟨x, y, k TO (by simp) _ hTO⟩, Sk.it_at h1 fun o q => k i1 (by simp) o q, Sk.it_at h2 fun o q => k i2 (by simp) o q⟩
  item := by
    intro X hP hw hK hc i pins s σ H E I hf st hg
    subst hP hw hK
    obtain ⟨hz, hTI, ⟨x0, y0, hTO⟩, h1, h2⟩ := st
    obtain ⟨xs, ys, x, y, hqx, hqy, hx, hy⟩ := hg
    obtain ⟨fp1, P1, St1, D1, st1, hP1, hS1, hm1, hfp1, hnf1⟩ := sk_draws (A := X.A.in1) I (I.ok.hd hc) hqx h1
    obtain ⟨fp2, P2, St2, D2, st2, hP2, hS2, hm2, hfp2, hnf2⟩ := sk_draws (A := X.A.in1) I (I.ok.hd hc) hqy h2
    obtain ⟨o1, fs1, e1, d1⟩ := Sk.it_obj h1
    obtain ⟨o2, fs2, e2, d2⟩ := Sk.it_obj h2
    have S : ZipSep2 z TI TO i1 i2 fp1 fp2 := ⟨D.TIz, D.TOz, D.TITO, D.TIi1, hm1, hfp1 z D.zi1 (hnf1 z _ _ hz rfl), hfp1 TO D.TOi1 D.k1o, D.TIi2, hm2, hfp2 z D.zi2 (hnf2 z _ _ hz rfl), hfp2 TO D.TOi2 D.k2o, hfp2 i1 D.i12 (hnf2 i1 _ _ e1 d1), hfp1 i2 (Ne.symm D.i12) (hnf1 i2 _ _ e2 d2)⟩
    have hzl : z < s.heap.objs.size := Heap.lt_size hz
    refine wpAny_pyNext_zipD2_item S D1 D2 hz hTI hTO st1 st2 (List.getElem?_eq_some_iff.mp hx).1 (List.getElem?_eq_some_iff.mp hy).1 fun u u2 h' tk p1 p2 z' TO' h1' h2' hT hsz hk => ?_
    obtain ⟨v, ev, ru⟩ := hP1 i u p1
    rw [hx] at ev
    cases ev
    obtain ⟨v, ev, ru2⟩ := hP2 i u2 p2
    rw [hy] at ev
    cases ev
    refine ⟨_, rfl, wpAny_letOwnedTupleGo_zip (s := { s with heap := h', toks := tk }) z' fun h'' z'' sb => ?_⟩
    have hT2 : h''.get? s.heap.objs.size = some { cls := .type "tuple", data := .seq #[u, u2] } := (sb.2 _ (Nat.ne_of_gt hzl)).trans hT
    have new : ObjOk X.prog X.w (upd H s.heap.objs.size (.tup [x, y])) h'' s.heap.objs.size (.tup [x, y]) :=
      ⟨by show 2 ≤ sizeLine; decide, [u, u2], .cons ru (.cons ru2 .nil), ⟨_, hT2, rfl, _, rfl⟩⟩
    have I1 : Inv X pins σ (upd H s.heap.objs.size (.tup [x, y])) { s with heap := h'', toks := tk } :=
      I.turnedNew (t' := tk) (ch := [z, TI, TO, i1, i2]) (fun c o hb q => (sb.2 c (fun q' => hb (by simp [q']))).trans (hk c o (fun q' => hb (by simp [q'])) (fun q' => hb (by simp [q'])) (fun q' => hb (by simp [q'])) (fun q' => hb (by simp [q'])) q)) hf (Nat.le_refl _) new
    refine ⟨.ref s.heap.objs.size, _, I1, rfl, ⟨_, x, y, rfl, I.hok.fresh (Nat.le_refl _), rfl, fun l hl => by rw [Sk.inj I hl hqx]; exact hx, fun l hl => by rw [Sk.inj I hl hqy]; exact hy⟩, ⟨z'', ?_, ⟨u, u2, ?_⟩, ?_, ?_⟩, fun c hcm => ?_⟩
    · exact (sb.2 _ D.TIz).trans (hk _ _ D.TIz D.TITO D.TIi1 D.TIi2 hTI)
    · exact (sb.2 _ D.TOz).trans TO'
    · exact Sk.it_at (hS1 _ _ h1') fun o q => (sb.2 _ (Ne.symm D.zi1)).trans q
    · exact Sk.it_at (hS2 _ _ h2') fun o q => (sb.2 _ (Ne.symm D.zi2)).trans q
    · have hlt : c < s.heap.objs.size := by
        have e' : c = z ∨ c = TI ∨ c = TO ∨ c = i1 ∨ c = i2 := by simpa using hcm
        rcases e' with q | q | q | q | q
        · rw [q]; exact hzl
        · rw [q]; exact Heap.lt_size hTI
        · rw [q]; exact Heap.lt_size hTO
        · rw [q]; exact Heap.lt_size e1
        · rw [q]; exact Heap.lt_size e2
      rw [upd_ne (Nat.ne_of_lt hlt)]
      exact (hf c hcm).1
  done := by
    intro X hP hw hK hc i pins s σ H E I hf st hg
    subst hP hw hK
    obtain ⟨hz, hTI, ⟨x0, y0, hTO⟩, h1, h2⟩ := st
    obtain ⟨xs, ys, hqx, hqy, hend⟩ := hg
    obtain ⟨fp1, P1, St1, D1, st1, hP1, hS1, hm1, hfp1, hnf1⟩ := sk_draws (A := X.A.in1) I (I.ok.hd hc) hqx h1
    obtain ⟨fp2, P2, St2, D2, st2, hP2, hS2, hm2, hfp2, hnf2⟩ := sk_draws (A := X.A.in1) I (I.ok.hd hc) hqy h2
    obtain ⟨o1, fs1, e1, d1⟩ := Sk.it_obj h1
    obtain ⟨o2, fs2, e2, d2⟩ := Sk.it_obj h2
    have S : ZipSep2 z TI TO i1 i2 fp1 fp2 := ⟨D.TIz, D.TOz, D.TITO, D.TIi1, hm1, hfp1 z D.zi1 (hnf1 z _ _ hz rfl), hfp1 TO D.TOi1 D.k1o, D.TIi2, hm2, hfp2 z D.zi2 (hnf2 z _ _ hz rfl), hfp2 TO D.TOi2 D.k2o, hfp2 i1 D.i12 (hnf2 i1 _ _ e1 d1), hfp1 i2 (Ne.symm D.i12) (hnf1 i2 _ _ e2 d2)⟩
    exact wpAny_pyNext_zipD2_end S D1 D2 hz hTI hTO st1 st2 (by omega) (by omega) (by omega) fun h' tk hk => ⟨rfl, I.turnedL (t' := tk) (ch := [z, TI, TO, i1, i2]) (fun c o hb q =>
      hk c o (fun q' => hb (by simp [q'])) (fun q' => hb (by simp [q'])) (fun q' => hb (by simp [q'])) (fun q' => hb (by simp [q'])) q) hf⟩
  self := fun A i s Q E st h => wpAny_pyIter_zip st.1 h
end Q
set_option Elab.async false
set_option linter.all false
set_option maxRecDepth 100000
set_option maxHeartbeats 4000000
namespace Q
open PySem L2 PySem.Spec PyProof.Rows
def seqD : D → Option (List D)
  | .lst xs => some xs
  | .tup xs => some xs
  | .str x => some (chars x)
  | _ => none
section
variable {X : Cx} {F : Fx} {E : XP} {a b : Expr} {pa pb : QE} {pr : QA} {pos p0 tpos : Pos} {tg : Expr}
theorem reps_chars {G : Hp} (cs : List Nat) : Reps F.toCf G (cs.map fun c => D.str ⟨#[c]⟩) (cs.map fun c => V.str ⟨#[c]⟩) := by
  induction cs with
  | nil => exact rfl
  | cons c cs ih => exact ⟨_, _, rfl, rfl, ih⟩
theorem sk_of {G : Hp} {d : D} {v : V} {ds : List D} (h : seqD d = some ds) (r : Rep F.toCf G d v) : ∃ k vs, v = Sk.v k ∧ Sk.at F.K G k vs ∧ Reps F.toCf G ds vs := by
  cases d with
  | lst xs =>
    cases h
    obtain ⟨c, vs, rfl, g, rs⟩ := r
    exact ⟨.l c, vs, rfl, SqL.of g, rs⟩
  | tup xs =>
    cases h
    obtain ⟨c, vs, rfl, g, rs⟩ := r
    exact ⟨.t c, vs, rfl, g, rs⟩
  | str z =>
    cases h
    cases (show v = .str z from r)
    exact ⟨.x z, _, rfl, rfl, reps_chars _⟩
  | _ => cases h
theorem Sk.up {K : PySem.W.Frag} {G G' H : Hp} {k : Sk} {vs : List V} (i : Inc G G') (s : Sub G' H) (h : Sk.at K G k vs) : Sk.at K H k vs := by
  cases k with
  | l a => exact s.l (sqL_inc i h)
  | t a => exact s.t (sqT_inc i h)
  | x z => exact h
theorem seqw_enumS {G : Hp} {σ0 : St} {k : Sk} {vs : List V} {ds : List D} (hG : Sk.at F.K G k vs) (r : Reps F.toCf G ds vs) : SeqW F G σ0 (IteS F.K k) (enumD ds) none where
  goH := fun _ i G' H' σ Γ i1 ok _ h => by
    have h1 : i < vs.length := by rw [r.len, ← enumD_len]; exact h
    exact ⟨vs, vs[i], Sk.up i1 ok.sub hG, List.getElem?_eq_getElem h1⟩
  stopH := fun _ G' H' σ Γ i1 ok _ => ⟨vs, Sk.up i1 ok.sub hG, by rw [r.len, enumD_len]⟩
  yldH := fun _ i G' H' σ Γ x H'' i1 ok _ h y => by
    obtain ⟨T, v, rfl, hT, rfl, e2⟩ := y
    obtain ⟨d, ed, rd⟩ := r.get' (e2 vs (Sk.up i1 ok.sub hG))
    have n1 := Inc.new (o := .tup [.int (i : Int), v]) (ok.sub.no hT)
    exact ⟨_, upd G' T (.tup [.int (i : Int), v]), enumD_at ed, n1, ok.new hT _, T, _, rfl, SqT.of upd_same, _, _, rfl, rfl, _, _, rfl, (rd.inc i1).inc n1, rfl⟩
def qiEn (p : QA) : QI := fun Γ Q E => p Γ (fun ds Γ1 => match ds with
  | [d] => match seqD d with
    | some xs => Q (enumD xs) none Γ1
    | none => False
  | _ => False) E
theorem li_en {elts : List Expr} {kk : Nat} (hK : F.K = X.K) (hm : X.mg "enumerate" = none) (ha : LA X F E [a] pr) (hg : Gl X "enumerate" := by rfl) (hs : starEach [a] X.env = [(false, eval a X.env)] := by rfl) : LI X F E (.Tuple elts kk tpos) (.Call (.Name "enumerate" p0) [a] [] pos) (qiEn pr) := by
  refine ⟨fun pins s σ H G Γ Q I k h => ?_⟩
  refine Call_ (ld_blt I hg hm boot_enumerate (PyProof.Rows.callWith_type1 (thn (ha.run pos pins s σ H G Γ _ I k h) fun us s1 ⟨vs, H1, I1, r1, ds, Γ1, G1, q1, i1, k1, rp⟩ => ?_) hs rfl))
  dsimp only at q1
  split at q1
  case h_2 => exact q1.elim
  rename_i d
  split at q1
  case h_2 => exact q1.elim
  rename_i xs ed
  obtain ⟨v, rfl, rv⟩ := reps1 rp
  obtain ⟨sk, ws, rfl, hat, rw'⟩ := sk_of ed rv
  have fin : ∀ h', IsEnum h' (s1.heap.objs.size + 1) s1.heap.objs.size 0 .none → Sk.it s1.heap.objs.size 0 h' sk → (∀ b o, s1.heap.get? b = some o → h'.get? b = some o) →
      wpAny (model X.prog X.w) X.A (pyIter (.ref (s1.heap.objs.size + 1))) (PIE X pins σ (.Tuple elts kk tpos) (FinI F G σ Q)) X.xe { s1 with heap := h' } := fun h' he hit hk => by
    refine wpAny_pyIter_enum he ?_
    have I2 : Inv X pins σ H1 { s1 with heap := h' } := I1.kept (t' := s1.toks) hk
    refine ⟨s1.heap.objs.size + 1, [s1.heap.objs.size + 1, s1.heap.objs.size], _, _, H1, rfl, I2, turn_enumS sk (s1.heap.objs.size + 1) s1.heap.objs.size, ⟨⟨.none, he⟩, hit, Nat.succ_ne_self _⟩, fun c hb => ?_, enumD xs, none, Γ1, G1, q1, i1, k1, hK ▸ seqw_enumS hat rw'⟩
    have e' : c = s1.heap.objs.size + 1 ∨ c = s1.heap.objs.size := by simpa using hb
    have hle : s1.heap.objs.size ≤ c := by
      rcases e' with z | z
      · rw [z]; exact Nat.le_add_right _ _
      · rw [z]; exact Nat.le_refl _
    exact I1.fpOk hle (I1.hok.fresh hle)
  cases r1 with
  | cons r rr =>
    cases rr
    cases sk with
    | l c =>
      cases r
      have hq : SqL X.K H1 c ws := hK ▸ Sk.up (Inc.refl _) k1.sub hat
      obtain ⟨its, rv, p', hz⟩ := I1.list hq
      exact call_enumerate_list p'.isList fun h' he hit hsz hk => fin h' he hit hk
    | t c =>
      cases r
      have hq : SqT X.K H1 c ws := hK ▸ Sk.up (k := .t c) (Inc.refl _) k1.sub hat
      obtain ⟨its, rv, p', hz⟩ := I1.tuple hq
      exact q_call_enumT p' fun h' he hit hsz hk => fin h' he hit hk
    | x z =>
      obtain ⟨t, rfl⟩ := r
      exact call_enumerate_str fun h' he hit hsz hk => fin h' he ⟨t, hit⟩ hk
/-- zip -/
def zipD : List D → List D → List D
  | x :: xs, y :: ys => .tup [x, y] :: zipD xs ys
  | _, _ => []
theorem zipD_len : ∀ {xs ys : List D}, (zipD xs ys).length = min xs.length ys.length
  | [], _ => by simp [zipD]
  | _ :: _, [] => by simp [zipD]
  | x :: xs, y :: ys => by simp only [zipD, List.length_cons, zipD_len]; omega
theorem zipD_at : ∀ {xs ys : List D} {i : Nat} {x y : D}, xs[i]? = some x → ys[i]? = some y → (zipD xs ys)[i]? = some (.tup [x, y])
  | [], _, _, _, _, h, _ => by simp at h
  | _ :: _, [], _, _, _, _, h => by simp at h
  | x :: xs, y :: ys, 0, a, b, h1, h2 => by simp at h1 h2; subst h1; subst h2; rfl
  | x :: xs, y :: ys, i + 1, a, b, h1, h2 => by
    have := zipD_at (xs := xs) (ys := ys) (i := i) (by simpa using h1) (by simpa using h2)
    simpa [zipD] using this
theorem seqw_zipS {G : Hp} {σ0 : St} {k1 k2 : Sk} {vs ws : List V} {ds es : List D} (h1 : Sk.at F.K G k1 vs) (h2 : Sk.at F.K G k2 ws) (r1 : Reps F.toCf G ds vs) (r2 : Reps F.toCf G es ws) : SeqW F G σ0 (ItzS F.K k1 k2) (zipD ds es) none where
  goH := fun _ i G' H' σ Γ i1 ok _ h => by
    rw [zipD_len] at h
    have e1 : i < vs.length := by rw [r1.len]; omega
    have e2 : i < ws.length := by rw [r2.len]; omega
    exact ⟨vs, ws, vs[i], ws[i], Sk.up i1 ok.sub h1, Sk.up i1 ok.sub h2, List.getElem?_eq_getElem e1, List.getElem?_eq_getElem e2⟩
  stopH := fun _ G' H' σ Γ i1 ok _ => ⟨vs, ws, Sk.up i1 ok.sub h1, Sk.up i1 ok.sub h2, by rw [zipD_len, r1.len, r2.len]⟩
  yldH := fun _ i G' H' σ Γ x H'' i1 ok _ h y => by
    obtain ⟨T, v, w, rfl, hT, rfl, e1, e2⟩ := y
    obtain ⟨d, ed, rd⟩ := r1.get' (e1 vs (Sk.up i1 ok.sub h1))
    obtain ⟨d2, ed2, rd2⟩ := r2.get' (e2 ws (Sk.up i1 ok.sub h2))
    have n1 := Inc.new (o := .tup [v, w]) (ok.sub.no hT)
    exact ⟨_, upd G' T (.tup [v, w]), zipD_at ed ed2, n1, ok.new hT _, T, _, rfl, SqT.of upd_same, _, _, rfl, (rd.inc i1).inc n1, _, _, rfl, (rd2.inc i1).inc n1, rfl⟩
def qiZip (p : QA) : QI := fun Γ Q E => p Γ (fun ds Γ1 => match ds with
  | [d, e] => match seqD d, seqD e with
    | some xs, some ys => Q (zipD xs ys) none Γ1
    | _, _ => False
  | _ => False) E
/-- what an iterator over a thing starts from -/
theorem sk_begins {pins : List (Addr × Obj)} {s : Shared} {σ : St} {H : Hp} {k : Sk} {vs : List V} {u : Value} (I : Inv X pins σ H s) (h : Sk.at X.K H k vs) (r : RelV (Sk.v k) u) :
    ∃ (o : Obj) (B : Heap → Prop), Begins u o B ∧ B s.heap ∧ (∀ (it : Addr) (h' : Heap), h'.get? it = some o → Sk.it it 0 h' k) ∧ ∀ b, s.heap.objs.size ≤ b → Sk.ne b k := by
  cases k with
  | l a =>
    cases r
    obtain ⟨its, rv, p', hz⟩ := I.list h
    exact ⟨_, _, begins_list a its.toArray, p'.isList, fun it h' e => ⟨_, e, rfl, rfl⟩, fun b hb => fun q => by
      have := p'.lt
      rw [← q] at this
      exact absurd (Nat.lt_of_lt_of_le this hb) (Nat.lt_irrefl _)⟩
  | t a =>
    cases r
    obtain ⟨its, rv, p', hz⟩ := I.tuple h
    exact ⟨_, _, begins_tuple a its.toArray, p', fun it h' e => ⟨_, e, rfl, rfl⟩, fun b hb => fun q => by
      obtain ⟨o, e, _⟩ := p'
      have := Heap.lt_size e
      rw [← q] at this
      exact absurd (Nat.lt_of_lt_of_le this hb) (Nat.lt_irrefl _)⟩
  | x z =>
    obtain ⟨t, rfl⟩ := r
    exact ⟨_, _, begins_text z t, trivial, fun it h' e => ⟨t, _, e, rfl, rfl⟩, fun _ _ => trivial⟩
theorem li_zip {elts : List Expr} {kk : Nat} (hK : F.K = X.K) (hm : X.mg "zip" = none) (ha : LA X F E [a, b] pr) (hg : Gl X "zip" := by rfl) (hs : starEach [a, b] X.env = (false, eval a X.env) :: starEach [b] X.env := by rfl) (hpl : (backTo pos (starEach [b] X.env)).any (·.1) = false := by rfl) :
    LI X F E (.Tuple elts kk tpos) (.Call (.Name "zip" p0) [a, b] [] pos) (qiZip pr) := by
  refine ⟨fun pins s σ H G Γ Q I k h => ?_⟩
  refine Call_ (ld_blt I hg hm PyProof.Rows.boot_zip (PyProof.Rows.callWith_type1 (thn (ha.run pos pins s σ H G Γ _ I k h) fun us s1 ⟨vs, H1, I1, r1, ds, Γ1, G1, q1, i1, k1, rp⟩ => ?_) hs hpl))
  dsimp only at q1
  split at q1
  case h_2 => exact q1.elim
  rename_i d e
  split at q1
  case h_2 => exact q1.elim
  rename_i xs ys ed ee
  obtain ⟨v, w, rfl, rv, rw'⟩ := reps2 rp
  obtain ⟨sk1, ws1, rfl, hat1, rw1⟩ := sk_of ed rv
  obtain ⟨sk2, ws2, rfl, hat2, rw2⟩ := sk_of ee rw'
  cases r1 with
  | cons r rr =>
    cases rr with
    | cons r' rr =>
      cases rr
      obtain ⟨o1, B1, b1, hb1, f1, n1⟩ := sk_begins I1 (hK ▸ Sk.up (Inc.refl _) k1.sub hat1) r
      obtain ⟨o2, B2, b2, hb2, f2, n2⟩ := sk_begins I1 (hK ▸ Sk.up (Inc.refl _) k1.sub hat2) r'
      refine zip_begins2 b1 b2 hb1 hb2 fun h' hz hTI hTO h1 h2 hsz hk => wpAny_pyIter_zip hz ?_
      have I2 : Inv X pins σ H1 { s1 with heap := h' } := I1.kept (t' := s1.toks) hk
      have ap : Ap5 (s1.heap.objs.size + 4) (s1.heap.objs.size + 2) (s1.heap.objs.size + 3) s1.heap.objs.size (s1.heap.objs.size + 1) sk1 sk2 :=
        have ne : ∀ {i j : Nat}, i ≠ j → s1.heap.objs.size + i ≠ s1.heap.objs.size + j := fun {i j} h q => h (Nat.add_left_cancel q)
        ⟨ne (by decide), ne (by decide), ne (by decide), ne (j := 0) (by decide), ne (by decide), ne (j := 0) (by decide), ne (by decide), ne (j := 0) (by decide), ne (by decide), ne (i := 0) (by decide), n1 _ (Nat.le_add_right _ _), n2 _ (Nat.le_add_right _ _)⟩
      refine ⟨s1.heap.objs.size + 4, [s1.heap.objs.size + 4, s1.heap.objs.size + 2, s1.heap.objs.size + 3, s1.heap.objs.size, s1.heap.objs.size + 1], _, _, H1, rfl, I2, turn_zipS ap, ⟨hz, hTI, ⟨_, _, hTO⟩, f1 _ _ h1, f2 _ _ h2⟩, fun c hcm => ?_, zipD xs ys, none, Γ1, G1, q1, i1, k1, hK ▸ seqw_zipS hat1 hat2 rw1 rw2⟩
      have e' : c = s1.heap.objs.size + 4 ∨ c = s1.heap.objs.size + 2 ∨ c = s1.heap.objs.size + 3 ∨ c = s1.heap.objs.size ∨ c = s1.heap.objs.size + 1 := by simpa using hcm
      have hle : s1.heap.objs.size ≤ c := by
        rcases e' with z | z | z | z | z
        · rw [z]; exact Nat.le_add_right _ _
        · rw [z]; exact Nat.le_add_right _ _
        · rw [z]; exact Nat.le_add_right _ _
        · rw [z]; exact Nat.le_refl _
        · rw [z]; exact Nat.le_add_right _ _
      exact I1.fpOk hle (I1.hok.fresh hle)
abbrev QO := Env → (Option Int → Env → Prop) → XP → Prop
def qoN : QO := fun Γ Q _ => Q none Γ
def qoS (p : QE) : QO := fun Γ Q E => p Γ (fun d Γ1 => match d with
  | .int i => Q (some i) Γ1
  | _ => False) E
structure LO (X : Cx) (F : Fx) (E : XP) (e : Option Expr) (p : QO) : Prop where
  run : ∀ (pins : List (Addr × Obj)) (s : Shared) (σ : St) (H G : Hp) (Γ : Env) (Q : Option Int → Env → Prop), Inv X pins σ H s → Ok F G H σ Γ → p Γ Q E →
    wpAny (model X.prog X.w) X.A (evalPart e X.env) (fun u s' => ∃ o H', Inv X pins σ H' s' ∧ IsPart u o ∧ ∃ Γ' G', Q o Γ' ∧ Inc G G' ∧ Ok F G' H' σ Γ') X.xe s
theorem lo_none : LO X F E none qoN := ⟨fun pins s σ H G Γ Q I k h => by
  rw [evalPart_none]
  exact wpAny_pure ⟨none, H, I, .none, Γ, G, h, Inc.refl G, k⟩⟩
theorem lo_some (h : LE X F E a pa) : LO X F E (some a) (qoS pa) := ⟨fun pins s σ H G Γ Q I k hw => by
  rw [evalPart_some]
  refine thn (h.run pins s σ H G Γ _ I k hw) fun u s1 ⟨x, H1, I1, r1, d, Γ1, G1, q1, i1, k1, rp⟩ => ?_
  cases d with
  | int i =>
    cases (show x = .int i from rp)
    obtain ⟨t, rfl⟩ := r1
    exact ⟨some i, H1, I1, .int i t, Γ1, G1, q1, i1, k1⟩
  | _ => exact q1.elim⟩
def cutDs (xs : List D) (lo hi : Option Int) : List D := (xs.drop (HT.sIx xs.length 0 lo)).take (HT.sIx xs.length xs.length hi - HT.sIx xs.length 0 lo)
def oSl : D → Option Int → Option Int → Env → (D → Env → Prop) → Prop := fun d lo hi Γ Q => match d with
  | .lst xs => Q (.lst (cutDs xs lo hi)) Γ
  | .tup xs => Q (.tup (cutDs xs lo hi)) Γ
  | .str z => z.length ≤ 100000 ∧ Q (.str (cutS z lo hi)) Γ
  | _ => False
def qSl (pa : QE) (pl ph : QO) : QE := fun Γ Q E => pa Γ (fun d Γ1 => pl Γ1 (fun lo Γ2 => ph Γ2 (fun hi Γ3 => oSl d lo hi Γ3 Q) E) E) E
theorem reps_cut {G : Hp} {ds : List D} {vs : List V} {lo hi : Option Int} (r : Reps F.toCf G ds vs) : Reps F.toCf G (cutDs ds lo hi) (cutV vs lo hi) := by
  unfold cutDs cutV
  rw [r.len]
  exact (r.drop _).take _
theorem le_sl {lo hi : Option Expr} {pl ph : QO} {p2 : Pos} (hK : F.K = X.K) (ha : LE X F E a pa) (hl : LO X F E lo pl) (hu : LO X F E hi ph) : LE X F E (.Subscript a (.Slice lo hi none p2) pos) (qSl pa pl ph) := by
  refine ⟨fun pins s σ H G Γ Q I k h => ?_⟩
  refine Subscript_ (thn (ha.run pins s σ H G Γ _ I k h) fun v s1 ⟨x, H1, I1, r1, d, Γ1, G1, q1, i1, k1, rp⟩ => ?_)
  refine wpAny_Slice (thn (hl.run pins s1 σ H1 G1 Γ1 _ I1 k1 q1) fun vl s2 ⟨l, H2, I2, pl, Γ2, G2, q2, i2, k2⟩ => thn (hu.run pins s2 σ H2 G2 Γ2 _ I2 k2 q2) fun vu s3 ⟨u, H3, I3, pu, Γ3, G3, q3, i3, k3⟩ => ?_)
  rw [evalPart_none]
  refine wpAny_pure ?_
  have I5 : Inv X pins σ H3 { s3 with heap := s3.heap.push { cls := .type "slice", data := .fields #[vl, vu, .none] } } := I3.kept (t' := s3.toks) fun b ob q => Heap.get?_push_of_some _ q
  have rp3 := rp.inc (i2.trans i3)
  have up := (i1.trans i2).trans i3
  have sl : ∀ {r : V → Option Int → Option Int → Hp → VK → Prop}, SlR X r → r x l u H3 (Fin F G σ Q) → wpAny (model X.prog X.w) X.A (subscriptTail a (.Slice lo hi none p2) v (.ref s3.heap.objs.size)) (EP X pins σ (Fin F G σ Q)) X.xe { s3 with heap := s3.heap.push { cls := .type "slice", data := .fields #[vl, vu, .none] } } := fun {r} hr q => by
    obtain ⟨T, id, hT, ty, hw⟩ := hr pins _ σ H3 x v vl vu l u s3.heap.objs.size _ I5 r1 (Heap.IsSliceOf.new _ vl vu .none) pl pu q
    exact tail_any ty hT hw (by with_unfolding_all rfl)
  unfold oSl at q3
  cases d with
  | lst xs =>
    obtain ⟨c, vs, rfl, g, rs⟩ := rp3
    exact sl sl_list ⟨c, vs, rfl, SqL.of (k3.sub.m g), fun p hp => fin_inc up (fin_lst k3 hp q3 (reps_cut rs))⟩
  | tup xs =>
    obtain ⟨c, vs, rfl, g, rs⟩ := rp3
    refine sl sl_tupA ⟨c, vs, rfl, hK ▸ k3.sub.t g, fun hw => ?_, fun _ p hp => fin_inc up (fin_tup k3 hp q3 (reps_cut rs))⟩
    have e : cutDs xs l u = xs := by
      unfold cutDs
      rw [← rs.len, hw.1, hw.2]
      simp [rs.len]
    have q3 : Q (.tup (cutDs xs l u)) Γ3 := q3
    rw [e] at q3
    exact fin_inc up (fin0 k3 q3 ⟨c, vs, rfl, g, rs⟩)
  | str z =>
    cases (show x = .str z from rp3)
    exact sl sl_str ⟨z, rfl, szl q3.1, fin_inc up (fin0 k3 q3.2 rfl)⟩
  | _ => exact q3.elim
end
end Q
set_option Elab.async false
set_option linter.all false
set_option maxRecDepth 100000
set_option maxHeartbeats 4000000
namespace Q
open PySem L2 PySem.Spec PyProof.Rows
section
variable {X : Cx} {F : Fx} {E : XP}
structure OwnLen (K : PySem.W.Frag) (C f : Addr) : Prop where
  at_ : PySem.W.findIn K (.ref C) "__len__" = some (some (.ref f))
  fn : PySem.W.isFn K (.ref f) = true
def lenQ (Q : D → Env → Prop) (Γ : Env) : D → Prop
  | .int n => 0 ≤ n ∧ n < 2 ^ 63 ∧ Q (.int n) Γ
  | _ => False
def oLenC (c : Cn) (ct : Ct) (o : ON) : ON := fun ds Γ Q E => match ds with
  | [d] => match isC c d with
    | true => ct [.val d] (fun r _ => lenQ Q Γ (unfr r)) (fun x _ => E x Γ)
    | false => o ds Γ Q E
  | _ => o ds Γ Q E
theorem bl_lenC {c : Cn} {ct : Ct} {o : ON} {f : Addr} (hK : F.K = X.K) (o1 : OwnLen F.K (F.cl c) f) (C : CodeOk X X.A.in1 F.toCf f 1 [] ct) (tk : Takes X (wOf F E)) (ho : BlL X F E (.builtin "len") o) : BlL X F E (.builtin "len") (oLenC c ct o) := by
  intro pins s σ H G Γ vs us ds Q I k rv rd q
  unfold oLenC at q
  split at q
  case h_2 => exact ho pins s σ H G Γ vs us _ Q I k rv rd q
  rename_i d
  split at q
  case h_2 => exact ho pins s σ H G Γ vs us _ Q I k rv rd q
  rename_i hd
  obtain ⟨v, rfl, r⟩ := reps1 rd
  cases rv with
  | cons rv rr =>
    cases rr
    obtain ⟨a, ox, od, rfl, J⟩ := inst_of I k hd r rv
    obtain ⟨m, hF⟩ := I.fr
    refine PySem.W.len_K hF (hK ▸ I.ok.mod.kin) J o1.at_ o1.fn ?_
    refine thn (run1 (Q := fun r Γ' => lenQ Q Γ' r) C tk I k rv r q) fun u s' ⟨w, H', I', rw', d', Γ', G', q', i', k', r'⟩ => ?_
    cases d' with
    | int n =>
      cases (show w = .int n from r')
      obtain ⟨t, rfl⟩ := rw'
      obtain ⟨h0, h1, q'⟩ := q'
      exact ⟨⟨h0, h1⟩, .int n, H', I'.kept (t' := s'.toks + 1) fun b o e => e, ⟨_, rfl⟩, .int n, Γ', G', q', i', k', rfl⟩
    | _ => exact q'.elim
variable {o a e : Expr} {pa pe : QE} {pn : QN} {pos p0 px apos cpos : Pos} {x : Str} {es : List Expr} {kws : List Keyword} {ks : List Str} {ph : QH}
/-- x.append(e), x a list that may change, in slot j -/
def lstAt (Γ : Env) (j : Nat) : Option (List D) := match Γ[j]? with
  | some (.own (.lst xs)) => some xs
  | some (.bor (.lst xs)) => some xs
  | _ => none
theorem lstAt_ok {G H : Hp} {σ : St} {Γ : Env} {j : Nat} {xs : List D} (k : Ok F G H σ Γ) (h : lstAt Γ j = some xs) : ∃ s b vs, Γ[j]? = some s ∧ s.mo.isSome = true ∧ σ[j]? = some (some (.ref b)) ∧ H b = some (.lst vs) ∧ Reps F.toCf G xs vs := by
  unfold lstAt at h
  split at h
  · rename_i ys e
    cases h
    obtain ⟨b, ea, g, ⟨vs, q, r⟩, _⟩ := k.mut e rfl
    exact ⟨_, b, vs, e, rfl, ea, q, r⟩
  · rename_i ys e
    cases h
    obtain ⟨b, ea, g, ⟨vs, q, r⟩, _⟩ := k.mut e rfl
    exact ⟨_, b, vs, e, rfl, ea, q, r⟩
  · cases h
def qAppend (j : Nat) (pe : QE) : QE := fun Γ Q E => match lstAt Γ j with
  | some _ => pe Γ (fun d Γ1 => match lstAt Γ1 j with
    | some xs => xs.length < 100000 ∧ Q .non (putM Γ1 j (.lst (xs ++ [d])))
    | none => False) E
  | none => False
theorem le_append (j : Nat) (he : LE X F E e pe) (hN : X.N[j]? = some x := by rfl) (hv : Vis X.env.scope x := by first | exact Or.inl rfl | exact Or.inr (Or.inl rfl) | exact Or.inr (Or.inr rfl)) (hd : (x == ("__debug__" : Str)) = false := by decide) (hcd : (x == ("__classdict__" : Str)) = false := by decide)
    (hbase : attributeBase (.Name x px) "append" X.env (eval (.Name x px) X.env) = eval (.Name x px) X.env := by rfl)
    (hfew : ((backTo cpos (starEach [e] X.env)).all (fun x => !x.1) && (backToKw cpos (keywordEach [] X.env)).all (fun x => x.1.isSome) && decide (([e] : List Expr).length + ([] : List Keyword).length + (if ([] : List Keyword).isEmpty then 0 else 1) < 30)) = true := by rfl)
    (hline : (apos.endLine == cpos.line) = true := by rfl) (hs : starEach [e] X.env = (false, eval e X.env) :: starEach [] X.env := by rfl) (hplain : (backTo cpos (starEach [] X.env)).any (·.1) = false := by rfl) :
    LE X F E (.Call (.Attribute (.Name x px) "append" apos) [e] [] cpos) (qAppend j pe) :=
  LE.of (pe_bm PySem.F.plainAttrs_list PySem.F.slot_list_append PySem.F.type_list_append mt_append (pe_var hN hv hd hcd) (pa_cons he.pe pa_nil hs) hbase hfew hline hs hplain) fun σ H G Γ Q k q => by
    unfold qAppend at q
    split at q
    case h_2 => exact q.elim
    rename_i xs ex
    obtain ⟨s, b, vs, e1, z, ea, hb, rs⟩ := lstAt_ok k ex
    refine ⟨.ref b, ea, .inl ⟨rfl, vs, SqL.of hb⟩, G, Γ, _, k, q, fun w H' ⟨d, Γ', G', q', i, k', r⟩ => ?_⟩
    dsimp only at q'
    split at q'
    case h_2 => exact q'.elim
    rename_i ys ey
    obtain ⟨s', b', vs', e1', z', ea', hb', rs'⟩ := lstAt_ok k' ey
    rw [ea] at ea'
    cases ea'
    refine ⟨b, vs', w, rfl, rfl, hb', by rw [rs'.len]; exact szlt q'.1, .non, _, G', q'.2, i, k'.put e1' z' ea (fun ws z => by rw [hb'] at z; cases z) ⟨_, upd_same, rs'.append (Reps.one r)⟩, rfl⟩
/-- x.pop() -/
def qPop (j : Nat) : QE := fun Γ Q _ => match lstAt Γ j with
  | some xs => match xs[xs.length - 1]? with
    | some d => Q d (putM Γ j (.lst xs.dropLast))
    | none => False
  | none => False
theorem reps_dropLast {G : Hp} {ds : List D} {vs : List V} (r : Reps F.toCf G ds vs) : Reps F.toCf G ds.dropLast vs.dropLast := by
  rw [List.dropLast_eq_take, List.dropLast_eq_take, r.len]
  exact r.take _
theorem le_pop (j : Nat) (hN : X.N[j]? = some x := by rfl) (hv : Vis X.env.scope x := by first | exact Or.inl rfl | exact Or.inr (Or.inl rfl) | exact Or.inr (Or.inr rfl)) (hd : (x == ("__debug__" : Str)) = false := by decide) (hcd : (x == ("__classdict__" : Str)) = false := by decide)
    (hbase : attributeBase (.Name x px) "pop" X.env (eval (.Name x px) X.env) = eval (.Name x px) X.env := by rfl) (hline : (apos.endLine == cpos.line) = true := by rfl) :
    LE X F E (.Call (.Attribute (.Name x px) "pop" apos) [] [] cpos) (qPop j) :=
  LE.of (pe_bm0 PySem.F.plainAttrs_list PySem.F.slot_list_pop PySem.F.type_list_pop mt_pop (pe_var hN hv hd hcd) hbase hline) fun σ H G Γ Q k q => by
    unfold qPop at q
    split at q
    case h_2 => exact q.elim
    rename_i xs ex
    obtain ⟨s, b, vs, e1, z, ea, hb, rs⟩ := lstAt_ok k ex
    split at q
    case h_2 => exact q.elim
    rename_i d ed
    obtain ⟨v, ev, rv⟩ := rs.get ed
    refine ⟨.ref b, ea, .inl ⟨rfl, vs, SqL.of hb⟩, b, vs, v, rfl, rfl, hb, by rw [rs.len]; exact ev, d, _, G, q, Inc.refl G, k.put e1 z ea (fun ws z => by rw [hb] at z; cases z) ⟨_, upd_same, reps_dropLast rs⟩, rv⟩
/-- x op= e, whole numbers -/
def qAug (i : Nat) (f : Int → Int → Int) (pe : QE) : QS := fun Γ P E => match Γ[i]? with
  | some (.val (.int n)) => pe Γ (fun d Γ1 => match Γ1[i]?, d with
    | some (.val (.int n')), .int m => P.nx (Γ1.set i (.val (.int (f n' m))))
    | _, _ => False) E
  | _ => False
theorem ls_aug (i : Nat) {op : Operator} {f : Int → Int → Int} {pos' : Pos} (hN : X.N.Nodup) (ho : PIp X op (ipI f)) (he : LE X F E e pe) (hi : X.N[i]? = some x := by rfl) (hx : Loc X.env.scope x := by first | exact Or.inl rfl | exact Or.inr rfl)
    (hf : X.fn x = true ∨ X.env.scope.names.lookup x = some .local := by first | exact .inl rfl | exact .inr rfl | assumption) : LS X F E (.AugAssign (.Name x pos') op e pos) (qAug i f pe) :=
  LS.of (ps_aug (i := i) hN hi hx he.pe ho) fun σ H G Γ P k q => by
    unfold qAug at q
    split at q
    case h_2 => exact q.elim
    rename_i n e1
    obtain ⟨v, ev, r⟩ := k.rep e1
    cases (show v = .int n from r)
    refine ⟨.int n, ev, G, Γ, _, k, q, fun w H' ⟨d, Γ', G', q', i1, k', r'⟩ => ?_⟩
    dsimp only at q'
    split at q'
    case h_2 => exact q'.elim
    rename_i n' m e2
    obtain ⟨v2, ev2, r2⟩ := k'.rep e2
    rw [ev] at ev2
    cases ev2
    have en : n' = n := by
      have z : V.int n = V.int n' := r2
      cases z; rfl
    subst en
    cases (show w = .int m from r')
    exact ⟨n', m, rfl, rfl, _, G', q', i1, k'.set (fun s hs => by rw [e2] at hs; cases hs; rfl) rfl⟩
end
end Q
set_option Elab.async false
set_option linter.all false
set_option maxRecDepth 100000
set_option maxHeartbeats 4000000
namespace PySem.SeqAt
open AutoSeq1 (wpAny_loadPart')
open MeetsSeq MeetsSeq2 MeetsSeq3 SeqRoads2
/-- == of two tuples whose items' == may change the state within J (statement and proof follow tuple_eqAt) -/
theorem q_tuple_eqJ {prog : Program} {w : World} (J : Shared → Prop) (l b : Addr) (items items2 : Array Value) (n n2 : Nat) (dd dd2 : Option Addr) (sl sl2 : Array (Option Value)) (e : Nat → Bool) :
    MeetsIn prog w (Builtin.«tuple.__eq__» ⟨[.ref l, .ref b], []⟩)
      (fun A R s => s.heap.get? l = some { cls := .type "tuple", dict := dd, data := .seq items n, slots := sl } ∧ s.heap.get? b = some { cls := .type "tuple", dict := dd2, data := .seq items2 n2, slots := sl2 } ∧ J s ∧
        (∀ j (h1 : j < items.size) (h2 : j < items2.size) s' (Q : Bool → Shared → Prop), J s' → (∀ s'', J s'' → Q (e j) s'') → wpAny (model prog w) A.in1 (eqBool items[j] items2[j]) Q (fun x s' => R (.error x) s') s') ∧
        ∀ s', J s' → R (.ok (.ret (.bool ((List.range (min items.size items2.size)).all e && items.size == items2.size)))) s') :=
  .of_wp fun A R s h => by
    obtain ⟨hp, g, d, tk, os⟩ := s; obtain ⟨hl, hb, hJ, he, h⟩ := h
    have f2 := AutoSeq1.sub_tuple_tuple
    have hZ : (items.toList.zip items2.toList).length = min items.size items2.size := by simp
    wp_walk using wpAny_loadPart' hl, wpAny_loadPart' hb, wpAny_forIn_list _ (fun rest b s' => b.1 = none ∧ J s' ∧ ∃ i, rest = (items.toList.zip items2.toList).drop i ∧
      ∀ s'', J s'' → R (.ok (.ret (.bool (((List.range (min items.size items2.size)).drop i).all e && items.size == items2.size)))) s'') _
    case turn =>
      rintro ⟨y, x⟩ rest b s' ⟨hb', hJ', i, hz, hR⟩
      have hlt : i < (items.toList.zip items2.toList).length := by
        rcases Nat.lt_or_ge i (items.toList.zip items2.toList).length with h' | h'
        · exact h'
        · rw [List.drop_of_length_le h'] at hz; cases hz
      have hm : i < min items.size items2.size := hZ ▸ hlt
      have h1 : i < items.size := Nat.lt_of_lt_of_le hm (Nat.min_le_left _ _)
      have h2 : i < items2.size := Nat.lt_of_lt_of_le hm (Nat.min_le_right _ _)
      rw [List.drop_eq_getElem_cons hlt] at hz
      injection hz with hyx hrest
      have hy : y = items[i] := by have := congrArg Prod.fst hyx; simpa using this
      have hx : x = items2[i] := by have := congrArg Prod.snd hyx; simpa using this
      subst hy hx
      have hd : (List.range (min items.size items2.size)).drop i = i :: (List.range (min items.size items2.size)).drop (i + 1) := by simp [List.drop_eq_getElem_cons, hm]
      rw [hd] at hR
      refine wpAny_bind (he i h1 h2 _ _ hJ' fun s'' hJ'' => ?_)
      cases hy : e i with
      | true =>
        wp_walk
        exact ⟨rfl, hJ'', i + 1, hrest, fun s3 h3 => by simpa [List.all_cons, hy] using hR s3 h3⟩
      | false =>
        wp_walk
        exact ⟨_, rfl, by simpa [List.all_cons, hy] using hR s'' hJ''⟩
    case fin =>
      rintro ⟨b1, b2⟩ s' ⟨hb', hJ', i, hz, hR⟩
      simp only at hb'
      subst hb'
      have hge : min items.size items2.size ≤ i := by
        rcases Nat.lt_or_ge i (items.toList.zip items2.toList).length with h' | h'
        · rw [List.drop_eq_getElem_cons h'] at hz; cases hz
        · exact hZ ▸ h'
      rw [List.drop_of_length_le (by simpa using hge)] at hR
      wp_walk
      exact ⟨_, rfl, by simpa [Builtin.Tuple.tupleCompareSizes] using hR s' hJ'⟩
    case h =>
      exact ⟨rfl, hJ, 0, rfl, by simpa using h⟩
theorem q_rcJ {prog : Program} {w : World} {A : Around} {s : Shared} {E : Value → Shared → Prop} {l b : Addr} {items items2 : Array Value} {e : Nat → Bool} {Q : Value → Shared → Prop} (J : Shared → Prop) (hl : s.heap.IsTuple l items) (hb : s.heap.IsTuple b items2) (hu : A.units < cLine) (hJ : J s)
    (he : ∀ j (h1 : j < items.size) (h2 : j < items2.size) s' (Q : Bool → Shared → Prop), J s' → (∀ s'', J s'' → Q (e j) s'') → wpAny (model prog w) A.in1 (eqBool items[j] items2[j]) Q E s')
    (h : ∀ s', J s' → Q (.bool ((List.range (min items.size items2.size)).all e && items.size == items2.size)) s') :
    wpAny (model prog w) A (richCompare .Eq (.ref l) (.ref b)) Q E s := by
  obtain ⟨⟨cls, dd, data, sl⟩, ho, hc, n, hd⟩ := id hl
  obtain ⟨⟨cls2, dd2, data2, sl2⟩, ho2, hc2, n2, hd2⟩ := id hb
  simp only at hc hd hc2 hd2
  subst hc hd hc2 hd2
  exact wpAny_richCompare_same_room (T := "tuple") (op := .Eq) ⟨_, ho, rfl⟩ ⟨_, ho2, rfl⟩ F.slot_tuple_eq (call_meetsIn F.slot_tuple_eq ⟨_, ho, rfl⟩ F.entry_tuple_eq (F.args_tuple_eq_2 _ _) (q_tuple_eqJ J l b items items2 n n2 dd dd2 sl sl2 e)
    ⟨ho, ho2, hJ, he, fun s' h' => show Value.bool ((List.range (min items.size items2.size)).all e && items.size == items2.size) ≠ Value.notImplemented ∧ Q (.bool ((List.range (min items.size items2.size)).all e && items.size == items2.size)) s' from ⟨(fun x => nomatch x), h s' h'⟩⟩) hu
end PySem.SeqAt
namespace Q
open PySem L2 PySem.Spec PyProof.Rows
/-- eqBool of two data gives b, whatever stands; what is read stays -/
def EqL (X : Cx) (F : Fx) (A : Around) (d e : D) (b : Bool) : Prop :=
  (∀ (pins : List (Addr × Obj)) (s : Shared) (σ : St) (H G : Hp) (Γ : Env) (x y : V) (v u : Value) (Q : Bool → Shared → Prop), Inv X pins σ H s → Ok F G H σ Γ → RelV x v → RelV y u → Rep F.toCf G d x → Rep F.toCf G e y →
    (∀ s' H' G', Inv X pins σ H' s' → Inc G G' → Ok F G' H' σ Γ → Q b s') → wpAny (model X.prog X.w) A (eqBool v u) Q X.xe s) ∧
  (∀ (pins : List (Addr × Obj)) (s : Shared) (σ : St) (H G : Hp) (Γ : Env) (v : V), Inv X pins σ H s → Ok F G H σ Γ → Rep F.toCf G d v → Rep F.toCf G e v → b = true)
section
variable {X : Cx} {F : Fx} {E : XP}
theorem takes_no : Takes X (fun _ _ _ _ => False) := fun u s' ⟨_, _, _, _, _, _, _, _, _, _, _, _, _, _, _, _, w⟩ => w.elim
/-- a def of two data that raises nothing -/
theorem run2N {c : Ct} {A : Around} {f : Addr} {pins : List (Addr × Obj)} {s : Shared} {σ : St} {G H : Hp} {Γ : Env} {x y : V} {v u : Value} {d e : D} {b : Bool} (C : CodeOk X A F.toCf f 2 [] c) (I : Inv X pins σ H s) (k : Ok F G H σ Γ) (rv : RelV x v) (ru : RelV y u) (rx : Rep F.toCf G d x) (ry : Rep F.toCf G e y)
    (h : ∀ (Q : D → List Slot → Prop) (Ex : Exn → List Slot → Prop), Q (.bl b) [.val d, .val e] → c [.val d, .val e] Q Ex) : wpAny (model X.prog X.w) A (call (.ref f) [v, u]) (EP X pins σ (fun w H' => w = .bl b ∧ ∃ G', Inc G G' ∧ Ok F G' H' σ Γ)) X.xe s := by
  have sp : spC F.toCf c [x, y] H (FinL F G σ (fun r Γ' => r = .bl b ∧ Γ' = Γ)) (WE (fun _ _ _ _ => False) σ) := by
    have z := sp_vals (F := F) (E := fun _ _ => False) (c := c) (ds := [d, e]) (vs := [x, y]) (Q := fun r Γ' => r = .bl b ∧ Γ' = Γ) k ⟨x, [y], rfl, rx, y, [], rfl, ry, rfl⟩ (h _ _ ⟨rfl, rfl⟩)
    obtain ⟨G1, args, s1, a1, n1, Qc, Ec, hc, hq, he⟩ := z
    refine ⟨G1, args, s1, a1, n1, Qc, Ec, hc, fun dd outs w H' G' q p a sh r => ?_, fun xx outs cls d' H' G' q p a sh r => ?_⟩
    · exact hq dd outs w H' G' q p a sh r
    · obtain ⟨_, _, _, _, _, z⟩ := he xx outs cls d' H' G' q p a sh r
      exact z.elim
  refine thn (back_call (C.run pins s σ H [x, y] [v, u] [] [] _ _ takes_no I (.cons rv (.cons ru .nil)) .nil rfl rfl sp)) fun u s2 z => ?_
  obtain ⟨w, H', I', r, d', Γ', G2, ⟨rfl, rfl⟩, i, kk, rr⟩ := ep_lock z
  exact ⟨w, H', I', r, rr, G2, i, kk⟩
/-- own instances by their own == -/
theorem eq_own {A : Around} {c : Cn} {t : CmpT} {ct : Ct} {f : Addr} {d e : D} {b : Bool} (hK : F.K = X.K) (hu : A.units < cLine) (T : CmpOk F.toCf c t) (o1 : OwnCmp F.K (F.cl c) .Eq f) (C : CodeOk X A F.toCf f 2 [] ct) (hd : isC c d = true) (he : isC c e = true) (hte : t.ok e = true)
    (hct : ∀ (Q : D → List Slot → Prop) (Ex : Exn → List Slot → Prop), Q (.bl b) [.val d, .val e] → ct [.val d, .val e] Q Ex) (same : ∀ G v, Rep F.toCf G d v → Rep F.toCf G e v → b = true) : EqL X F A d e b := by
  refine ⟨fun pins s σ H G Γ x y v u Q I k rv ru rx ry hQ => ?_, fun _ _ _ _ G _ v _ _ => same G v⟩
  obtain ⟨a, ox, od, rfl, J⟩ := inst_of I k hd rx rv
  obtain ⟨a', ox', od', rfl, J'⟩ := inst_of I k he ry ru
  unfold eqBool
  refine wpAny_holding ?_
  refine wpAny_ite_split (fun hab => ?_) (fun hab => ?_)
  · have e1 : a = a' := by have := eq_of_beq hab; injection this
    subst e1
    have ex : x = .ref a := by
      cases x <;> first | (obtain ⟨t, z⟩ := rv; cases z) | (cases rv; rfl) | cases rv
    have ey : y = .ref a := by
      cases y <;> first | (obtain ⟨t, z⟩ := ru; cases z) | (cases ru; rfl) | cases ru
    subst ex
    subst ey
    have eb := same G _ rx ry
    subst eb
    exact wpAny_bind (wpAny_rule (wpAny_pure (hQ s H G I (Inc.refl G) k)))
  · obtain ⟨m, hF⟩ := I.fr
    obtain ⟨ty, h1, h2⟩ := T.get hte
    refine wpAny_bind (PySem.W.cmp_K (op := .Eq) (tb := ty) hu hF (hK ▸ I.ok.mod.kin) J (looks_ty hK I k h1 ry ru _) h2 o1.at_ o1.fn (wpAny_mono (run2N C I k rv ru rx ry hct) (fun w s' z => ?_) fun _ _ x => x))
    obtain ⟨z', H', I', rz, rfl, G', i, kk⟩ := z
    cases rz
    exact wpAny_truthy_bool (hQ s' H' G' I' i kk)
/-- the items of two tuples -/
def eqsB (f : D → D → Bool) : List D → List D → Bool
  | [], [] => true
  | x :: xs, y :: ys => f x y && eqsB f xs ys
  | _, _ => false
theorem eqsB_range {f : D → D → Bool} : ∀ {xs ys : List D}, ((List.range (min xs.length ys.length)).all (fun j => f (xs.getD j .non) (ys.getD j .non)) && xs.length == ys.length) = eqsB f xs ys
  | [], [] => rfl
  | [], _ :: _ => by simp [eqsB]
  | _ :: _, [] => by simp [eqsB]
  | x :: xs, y :: ys => by
    have ih := eqsB_range (f := f) (xs := xs) (ys := ys)
    have e : min (x :: xs).length (y :: ys).length = min xs.length ys.length + 1 := by simp only [List.length_cons]; omega
    rw [e, List.range_succ_eq_map, List.all_cons, List.all_map]
    show ((f x y && _) && _) = (f x y && eqsB f xs ys)
    rw [← ih, Bool.and_assoc]
    congr 1
    congr 1
    simp
theorem rc_tup {A : Around} {f : D → D → Bool} {xs ys : List D} (hK : F.K = X.K) (hu : A.units < cLine) (hi : ∀ (j : Nat) d e, xs[j]? = some d → ys[j]? = some e → EqL X F A.in1 d e (f d e))
    {pins : List (Addr × Obj)} {s : Shared} {σ : St} {H G : Hp} {Γ : Env} {x y : V} {v u : Value} {Q : Value → Shared → Prop} (I : Inv X pins σ H s) (k : Ok F G H σ Γ) (rv : RelV x v) (ru : RelV y u) (rx : Rep F.toCf G (.tup xs) x) (ry : Rep F.toCf G (.tup ys) y)
    (hQ : ∀ s' H' G', Inv X pins σ H' s' → Inc G G' → Ok F G' H' σ Γ → Q (.bool (eqsB f xs ys)) s') : wpAny (model X.prog X.w) A (richCompare .Eq v u) Q X.xe s := by
  obtain ⟨a, vs, rfl, ga, ra⟩ := rx
  obtain ⟨b, ws, rfl, gb, rb⟩ := ry
  cases rv
  cases ru
  obtain ⟨its, r1, p1, _⟩ := I.tuple (hK ▸ k.sub.t ga)
  obtain ⟨its2, r2, p2, _⟩ := I.tuple (hK ▸ k.sub.t gb)
  have l1 : its.toArray.size = xs.length := by rw [List.size_toArray, ← r1.length, ra.len]
  have l2 : its2.toArray.size = ys.length := by rw [List.size_toArray, ← r2.length, rb.len]
  refine SeqAt.q_rcJ (e := fun j => f (xs.getD j .non) (ys.getD j .non)) (fun s' => ∃ H' G', Inv X pins σ H' s' ∧ Inc G G' ∧ Ok F G' H' σ Γ) p1 p2 hu ⟨H, G, I, Inc.refl G, k⟩ (fun j h1 h2 s' Q' ⟨H', G', I', i', k'⟩ hq => ?_) (fun s' ⟨H', G', I', i', k'⟩ => ?_)
  · have hx : xs[j]? = some xs[j] := List.getElem?_eq_getElem (by omega)
    have hy : ys[j]? = some ys[j] := List.getElem?_eq_getElem (by omega)
    obtain ⟨x1, ex, rx1⟩ := ra.get hx
    obtain ⟨y1, ey, ry1⟩ := rb.get hy
    obtain ⟨u1, eu, ru1⟩ := r1.get ex
    obtain ⟨u2, eu2, ru2⟩ := r2.get ey
    have e1 : its.toArray[j] = u1 := by
      have := (List.getElem?_eq_some_iff.mp eu).2
      simpa using this
    have e2 : its2.toArray[j] = u2 := by
      have := (List.getElem?_eq_some_iff.mp eu2).2
      simpa using this
    rw [e1, e2]
    have g1 : xs.getD j .non = xs[j] := by rw [List.getD_eq_getElem?_getD, hx]; rfl
    have g2 : ys.getD j .non = ys[j] := by rw [List.getD_eq_getElem?_getD, hy]; rfl
    rw [g1, g2] at hq
    exact (hi j _ _ hx hy).1 pins s' σ H' G' Γ x1 y1 u1 u2 Q' I' k' ru1 ru2 (rx1.inc i') (ry1.inc i') fun s2 H2 G2 I2 i2 k2 => hq s2 ⟨H2, G2, I2, i'.trans i2, k2⟩
  · rw [l1, l2, eqsB_range]
    exact hQ s' H' G' I' i' k'
/-- rats -/
def eqR : D → D → Bool
  | .rat p, .rat q => decide (q = p)
  | _, _ => false
def isR : D → Bool
  | .rat _ => true
  | _ => false
theorem eqR_same {G : Hp} {p q : Rat} {v : V} (h1 : Rep F.toCf G (.rat p) v) (h2 : Rep F.toCf G (.rat q) v) : decide (q = p) = true := by
  obtain ⟨a, dx, rfl, e1⟩ := h1
  obtain ⟨a', dx', e, e2⟩ := h2
  cases e
  rw [e1] at e2
  have z := Option.some.inj e2
  injection z with _ _ z3
  have z4 : p.num = q.num ∧ (p.den : Int) = (q.den : Int) := by simpa using z3
  refine decide_eq_true (Rat.ext z4.1.symm ?_)
  have := z4.2
  omega
theorem eq_rat {A : Around} {t : CmpT} {ct : Ct} {f : Addr} (hK : F.K = X.K) (hu : A.units < cLine) (T : CmpOk F.toCf .ratio t) (o1 : OwnCmp F.K (F.cl .ratio) .Eq f) (C : CodeOk X A F.toCf f 2 [] ct) (ht : ∀ q, t.ok (.rat q) = true)
    (hct : ∀ (p q : Rat) (Q : D → List Slot → Prop) (Ex : Exn → List Slot → Prop), Q (.bl (decide (q = p))) [.val (.rat p), .val (.rat q)] → ct [.val (.rat p), .val (.rat q)] Q Ex) {d e : D} (hd : isR d = true) (he : isR e = true) : EqL X F A d e (eqR d e) := by
  cases d with
  | rat p =>
    cases e with
    | rat q => exact eq_own hK hu T o1 C rfl rfl (ht q) (hct p q) fun G v => eqR_same
    | _ => cases he
  | _ => cases hd
def oEqT1 : O2 := fun d e Γ Q _ => match d, e with
  | .tup xs, .tup ys => xs.all isR = true ∧ ys.all isR = true ∧ Q (.bl (eqsB eqR xs ys)) Γ
  | _, _ => False
theorem all_get {p : D → Bool} {xs : List D} {j : Nat} {d : D} (h : xs.all p = true) (e : xs[j]? = some d) : p d = true := List.all_eq_true.mp h d (List.mem_of_getElem? e)
theorem ol_eqT1 {t : CmpT} {ct : Ct} {f : Addr} {kk : Nat} (hK : F.K = X.K) (hr : Room (kk + 1) X.A) (T : CmpOk F.toCf .ratio t) (o1 : OwnCmp F.K (F.cl .ratio) .Eq f) (C : CodeOk X X.A.in1 F.toCf f 2 [] ct) (ht : ∀ q, t.ok (.rat q) = true)
    (hct : ∀ (p q : Rat) (Q : D → List Slot → Prop) (Ex : Exn → List Slot → Prop), Q (.bl (decide (q = p))) [.val (.rat p), .val (.rat q)] → ct [.val (.rat p), .val (.rat q)] Q Ex) : OpL X F E (compareOp .Eq) oEqT1 := by
  intro pins s σ H G Γ x y v u d e Q I k rv ru rx ry q
  unfold oEqT1 at q
  split at q
  · rename_i xs ys
    obtain ⟨hx, hy, q⟩ := q
    show wpAny _ _ (richCompare .Eq v u) _ _ _
    exact rc_tup hK hr.units0 (fun j d e e1 e2 => eq_rat hK hr.in1.units0 T o1 C ht hct (all_get hx e1) (all_get hy e2)) I k rv ru rx ry fun s' H' G' I' i' k' => ⟨.bl _, H', I', rfl, .bl _, Γ, G', q, i', k', rfl⟩
  · exact q.elim
end
end Q
set_option Elab.async false
set_option linter.all false
set_option maxRecDepth 100000
set_option maxHeartbeats 4000000
namespace Q
open PySem L2 PySem.Spec PyProof.Rows
section
variable {X : Cx} {F : Fx} {E : XP} {a b c : Expr} {pa pb pc : QE} {pr : QA} {pos p0 : Pos} {tg : Expr} {es : List Expr}
def qiSeq (pa : QE) : QI := fun Γ Q E => pa Γ (fun d Γ1 => match seqD d with
  | some xs => Q xs none Γ1
  | none => False) E
theorem li_seq (hK : F.K = X.K) (ha : LE X F E a pa) : LI X F E tg a (qiSeq pa) := by
  refine ⟨fun pins s σ H G Γ Q I k h => ?_⟩
  refine thn (ha.run pins s σ H G Γ _ I k h) fun u s1 ⟨x, H1, I1, r1, d, Γ1, G1, q1, i1, k1, rp⟩ => ?_
  dsimp only at q1
  split at q1
  case h_2 => exact q1.elim
  rename_i xs ed
  cases d with
  | lst ds =>
    cases ed
    obtain ⟨c, vs, rfl, g, rs⟩ := rp
    cases r1
    obtain ⟨its, rv, p, hz⟩ := I1.list (SqL.of (k1.sub.m g))
    exact wpAny_pyIter_list p.isList (pi_one (tk := s1.toks) I1 _ (turn_list c _) ⟨_, Heap.get?_push_size _ rfl, rfl, rfl⟩ ⟨xs, none, Γ1, G1, q1, i1, k1, seqw_list g rs⟩)
  | tup ds =>
    cases ed
    obtain ⟨c, vs, rfl, g, rs⟩ := rp
    cases r1
    obtain ⟨its, rv, p, hz⟩ := I1.tuple (hK ▸ k1.sub.t g)
    exact wpAny_pyIter_tuple (show s1.heap.IsTuple c its.toArray from p) (pi_one (tk := s1.toks) I1 _ (turn_tuple c _) ⟨_, Heap.get?_push_size _ rfl, rfl, rfl⟩ ⟨xs, none, Γ1, G1, q1, i1, k1, hK ▸ seqw_tup g rs⟩)
  | str z =>
    cases ed
    cases (show x = .str z from rp)
    obtain ⟨t, rfl⟩ := r1
    have fin : FinI F G σ Q (Its z) H1 := ⟨chars z, none, Γ1, G1, q1, i1, k1, seqw_str⟩
    cases ha' : z.cps.all (· < 128)
    · exact wpAny_pyIter_wide ha' (pi_one (tk := s1.toks) I1 _ (turn_str _ z t "str_iterator" (.inr rfl)) ⟨_, Heap.get?_push_size _ rfl, rfl, rfl⟩ fin)
    · exact wpAny_pyIter_ascii ha' (pi_one (tk := s1.toks) I1 _ (turn_str _ z t "str_ascii_iterator" (.inl rfl)) ⟨_, Heap.get?_push_size _ rfl, rfl, rfl⟩ fin)
  | _ => cases ed
/-- list(x), a new thing -/
def qnList (p : QA) : QN := fun Γ Q E => p Γ (fun ds Γ1 => match ds with
  | [.lst xs] => Q (.lst xs) Γ1
  | [.tup xs] => Q (.lst xs) Γ1
  | _ => False) E
theorem ln_list (hK : F.K = X.K) (ha : LA X F E (a :: es) pr) (hm : X.mg "list" = none) (hg : Gl X "list" := by rfl) (hv : bootBuiltins "list" = some (.type "list") := by rfl)
    (he : starEach (a :: es) X.env = (false, eval a X.env) :: starEach es X.env := by rfl) (hpl : (backTo pos (starEach es X.env)).any (·.1) = false := by rfl) : LN X F E (.Call (.Name "list" p0) (a :: es) [] pos) (qnList pr) := by
  refine ⟨fun pins s σ H G Γ Q I k h => ?_⟩
  refine wpAny_Call_Name_kw (ld_blt I hg hm hv ?_ (by decide) (by decide))
  refine PyProof.Rows.callWith_type1 (thn (ha.run pos pins s σ H G Γ _ I k h) fun us s1 ⟨vs, H1, I1, r1, ds, Γ1, G1, q1, i1, k1, rp⟩ => ?_) he hpl
  refine call_list_of pins s1 σ H1 vs us _ I1 r1 ?_
  dsimp only at q1
  have fin : ∀ {xs : List D} {ws : List V} {l : Addr}, H1 l = none → Q (.lst xs) Γ1 → Reps F.toCf G1 xs ws → FinN F G σ Q (.ref l) (upd H1 l (.lst ws)) := fun {xs ws l} hl q rs =>
    ⟨.lst xs, l, Γ1, G1, q, i1, k1.new0 hl _, rfl, k1.sub.no hl, ⟨ws, upd_same, rs⟩, k1.h0 hl, not_mut k1 hl⟩
  split at q1
  · obtain ⟨v, rfl, r⟩ := reps1 rp
    obtain ⟨a, ws, rfl, g, rs⟩ := r
    exact ⟨a, ws, rfl, .inl (SqL.of (k1.sub.m g)), fun l hl => fin hl q1 rs⟩
  · obtain ⟨v, rfl, r⟩ := reps1 rp
    obtain ⟨a, ws, rfl, g, rs⟩ := r
    exact ⟨a, ws, rfl, .inr (hK ▸ k1.sub.t g), fun l hl => fin hl q1 rs⟩
  · exact q1.elim
end
end Q
set_option Elab.async false
set_option linter.all false
set_option maxRecDepth 100000
set_option maxHeartbeats 4000000
namespace Q
open PySem L2 PySem.Spec PyProof.Rows
section
variable {X : Cx} {F : Fx} {E : XP} {a e : Expr} {pa pe : QE} {pr : QH} {pos px : Pos} {tg : Expr} {es : List Expr} {x : Str}
def qVF (j : Nat) : QE := fun Γ Q E => match Γ[j]? with
  | some (.own _) => qFrz j Γ Q E
  | _ => qVar j Γ Q E
theorem le_vF (j : Nat) (hN : X.N[j]? = some x := by rfl) (hv : Vis X.env.scope x := by first | exact Or.inl rfl | exact Or.inr (Or.inl rfl) | exact Or.inr (Or.inr rfl)) (hd : (x == ("__debug__" : Str)) = false := by decide)
    (hcd : (x == ("__classdict__" : Str)) = false := by decide) : LE X F E (.Name x px) (qVF j) := ⟨fun pins s σ H G Γ Q I k h => by
  unfold qVF at h
  split at h
  · exact (le_frz (X := X) (F := F) (E := E) (px := px) j hN hv hd hcd).run pins s σ H G Γ Q I k h
  · exact (le_var (X := X) (F := F) (E := E) (pos := px) j hN hv hd hcd).run pins s σ H G Γ Q I k h⟩
def qhAny (j : Nat) (pr : QH) : QH := fun Γ Q E => match Γ[j]? with
  | some (.val d) => pr Γ (fun hs Γ2 => Q (.val d :: hs) Γ2) E
  | _ => qhSlot j pr Γ Q E
theorem lh_any (j : Nat) (hr : LH X F E es pr) (hN : X.N[j]? = some x := by rfl) (hv : Vis X.env.scope x := by first | exact Or.inl rfl | exact Or.inr (Or.inl rfl) | exact Or.inr (Or.inr rfl)) (hd : (x == ("__debug__" : Str)) = false := by decide)
    (hcd : (x == ("__classdict__" : Str)) = false := by decide) (hs : starEach (.Name x px :: es) X.env = (false, eval (.Name x px) X.env) :: starEach es X.env := by rfl) : LH X F E (.Name x px :: es) (qhAny j pr) := ⟨fun pos pins s σ H G Γ Q I k h => by
  unfold qhAny at h
  split at h
  · rename_i d e
    refine (lh_val (le_var (X := X) (F := F) (E := E) (pos := px) j hN hv hd hcd) hr hs).run pos pins s σ H G Γ Q I k ?_
    unfold qhVal qVar
    rw [e]
    exact h
  · exact (lh_slot j hr hN hv hd hcd hs).run pos pins s σ H G Γ Q I k h⟩
/-- what is walked: a datum, or a list that may change and is left as it is -/
def qiAny (j : Nat) : QI := fun Γ Q E => match Γ[j]? with
  | some (.val d) => (match seqD d with
    | some xs => Q xs none Γ
    | none => False)
  | some (.own (.lst xs)) => Q xs (some (j, .lst xs)) Γ
  | some (.bor (.lst xs)) => Q xs (some (j, .lst xs)) Γ
  | _ => False
theorem seqw_mut {G : Hp} {σ : St} {j : Nat} {xs : List D} {c : Addr} {K : PySem.W.Frag} (hc : σ[j]? = some (some (.ref c))) : SeqW F G σ (Itl K c) xs (some (j, .lst xs)) := by
  have at_ : ∀ (q : FxD) (G' H' : Hp) (σ' : St) (Γ' : Env), Ok (fbk F q) G' H' σ' Γ' → gOk (some (j, .lst xs)) σ σ' Γ' → ∃ vs, H' c = some (.lst vs) ∧ Reps F.toCf G' xs vs := fun q G' H' σ' Γ' k' g => by
    obtain ⟨g1, g2⟩ := g
    obtain ⟨s', e1, e2⟩ := bindmo g1
    obtain ⟨b, eb, _, ⟨vs, hv, rv⟩, _⟩ := k'.mut e1 e2
    rw [g2, hc] at eb
    cases eb
    exact ⟨vs, hv, rv⟩
  refine ⟨fun q i G' H' σ' Γ' i1 k' g h => ?_, fun q G' H' σ' Γ' i1 k' g => ?_, fun q i G' H' σ' Γ' x H'' i1 k' g h y => ?_⟩
  · obtain ⟨vs, hv, rv⟩ := at_ q G' H' σ' Γ' k' g
    have h1 : i < vs.length := by rw [rv.len]; exact h
    exact ⟨vs, vs[i], SqL.of hv, List.getElem?_eq_getElem h1⟩
  · obtain ⟨vs, hv, rv⟩ := at_ q G' H' σ' Γ' k' g
    exact ⟨vs, SqL.of hv, by rw [rv.len]; exact Nat.le_refl _⟩
  · obtain ⟨vs, hv, rv⟩ := at_ q G' H' σ' Γ' k' g
    obtain ⟨e, z⟩ := y
    subst e
    obtain ⟨d, ed, rd⟩ := rv.get' (z vs (SqL.of hv))
    exact ⟨d, G', ed, Inc.refl _, k', rd⟩
theorem li_any (j : Nat) (hK : F.K = X.K) (hN : X.N[j]? = some x := by rfl) (hv : Vis X.env.scope x := by first | exact Or.inl rfl | exact Or.inr (Or.inl rfl) | exact Or.inr (Or.inr rfl)) (hd : (x == ("__debug__" : Str)) = false := by decide)
    (hcd : (x == ("__classdict__" : Str)) = false := by decide) : LI X F E tg (.Name x px) (qiAny j) := ⟨fun pins s σ H G Γ Q I k h => by
  have mutc : ∀ {s0 : Slot} {xs : List D}, Γ[j]? = some s0 → s0.mo = some (.lst xs) → Q xs (some (j, .lst xs)) Γ → wpAny (model X.prog X.w) X.A (eval (.Name x px) X.env) (fun v s1 => wpAny (model X.prog X.w) X.A (pyIter v) (PIE X pins σ tg (FinI F G σ Q)) X.xe s1) X.xe s := fun {s0 xs} e1 e2 q => by
    obtain ⟨b, eb, _, ⟨vs, hv', rv⟩, _⟩ := k.mut e1 e2
    refine thn ((pe_var (X := X) (i := j) hN hv hd hcd).run pins s σ H (fun v H' => v = .ref b ∧ H' = H) I ⟨.ref b, eb, rfl, rfl⟩) fun u s1 ⟨y, H1, I1, r1, ey, eH⟩ => ?_
    subst ey
    subst eH
    cases r1
    obtain ⟨its, rv', p, hz⟩ := I1.list (SqL.of (K := X.K) hv')
    exact wpAny_pyIter_list p.isList (pi_one (tk := s1.toks) I1 _ (turn_list b _) ⟨_, Heap.get?_push_size _ rfl, rfl, rfl⟩ ⟨xs, some (j, .lst xs), Γ, G, q, Inc.refl G, k, seqw_mut eb⟩)
  unfold qiAny at h
  split at h
  · rename_i d e
    refine (li_seq (tg := tg) hK (le_var (X := X) (F := F) (E := E) (pos := px) j hN hv hd hcd)).run pins s σ H G Γ Q I k ?_
    unfold qiSeq qVar
    rw [e]
    exact h
  · rename_i xs e; exact mutc e rfl h
  · rename_i xs e; exact mutc e rfl h
  · exact h.elim⟩
def viewS : Slot → Slot
  | .own (.dic _ _) => .no
  | .bor (.dic _ _) => .no
  | .own o => .val (dMo o)
  | .bor o => .val (dMo o)
  | s => s
theorem viewS_mo (s : Slot) : (viewS s).mo = none := by
  cases s with
  | own o => cases o <;> rfl
  | bor o => cases o <;> rfl
  | _ => rfl
theorem mutA_nomo {v : Option V} {s : Slot} {σ : St} {Γ : Env} (h : s.mo = none) : mutA (v :: σ) (s :: Γ) = mutA σ Γ := by
  rw [mutA_cons]
  cases s with
  | own o => cases h
  | bor o => cases h
  | no => cases v with
    | none => rfl
    | some w => cases w <;> rfl
  | val d => cases v with
    | none => rfl
    | some w => cases w <;> rfl
  | exc c fs => cases v with
    | none => rfl
    | some w => cases w <;> rfl
def viewE : Env → Env
  | [] => []
  | s :: Γ => viewS s :: viewE Γ
theorem viewE_get {Γ : Env} : ∀ {i : Nat}, (viewE Γ)[i]? = (Γ[i]?).map viewS := by
  induction Γ with
  | nil => intro i; rfl
  | cons s Γ ih =>
    intro i
    cases i with
    | zero => rfl
    | succ i => exact ih
/-- all the things that may change, told -/
theorem tellAll {G H : Hp} {Γ : Env} : ∀ {σ : St} {Γ0 : Env}, Slots F G H σ Γ0 → (mutA σ Γ0).Nodup → ∃ G', Inc G G' ∧ (∀ a o, G' a = some o → G a = some o ∨ (H a = some o ∧ a ∈ mutA σ Γ0 ∧ G a = none)) ∧ Slots F G' H σ (viewE Γ0)
  | [], [], _, _ => ⟨G, Inc.refl G, fun a o e => .inl e, trivial⟩
  | v :: σ, s :: Γ0, h, nd => by
    obtain ⟨G1, i1, f1, s1⟩ := tellAll (Γ := Γ) h.2 (nd_tail nd)
    have keep : ∀ G2, Inc G1 G2 → Slots F G2 H σ (viewE Γ0) := fun G2 i2 => by
      refine s1.step i2 (fun a ha => ?_) (fun _ _ _ q => q)
      exfalso
      revert ha
      have : ∀ {σ : St} {Γ : Env}, mutA σ (viewE Γ) = [] := by
        intro σ Γ
        induction σ generalizing Γ with
        | nil => cases Γ <;> simp [mutA, viewE]
        | cons v σ ih =>
          cases Γ with
          | nil => cases v <;> first | rfl | (rename_i w; cases w <;> rfl)
          | cons t Γ =>
            show mutA (v :: σ) (viewS t :: viewE Γ) = []
            rw [mutA_nomo (viewS_mo t), ih]
      rw [this]
      simp
    have mutc : ∀ {o : MO} {a : Addr}, (∀ lk kvs, o ≠ .dic lk kvs) → v = some (.ref a) → s.mo = some o → G a = none → MRep F.toCf G H o a → ∃ G', Inc G G' ∧ (∀ b u, G' b = some u → G b = some u ∨ (H b = some u ∧ b ∈ mutA (v :: σ) (s :: Γ0) ∧ G b = none)) ∧ Slots F G' H (v :: σ) (viewE (s :: Γ0)) := fun {o a} hod ev es ga m => by
      subst ev
      have am : a ∈ mutA (some (V.ref a) :: σ) (s :: Γ0) := mem_mutA (i := 0) rfl rfl (by rw [es]; rfl)
      have nin : a ∉ mutA σ Γ0 := by
        rw [mutA_cons] at nd
        cases s with
        | own o => exact (List.nodup_cons.mp nd).1
        | bor o => exact (List.nodup_cons.mp nd).1
        | no => cases es
        | val d => cases es
        | exc c fs => cases es
      have g1a : G1 a = none := by
        cases hq : G1 a with
        | none => rfl
        | some u =>
          rcases f1 a u hq with z | ⟨_, z, _⟩
          · rw [ga] at z; cases z
          · exact absurd z nin
      obtain ⟨z1, z2⟩ := moD_dMo' hod
      obtain ⟨u, hu, ru⟩ := mrep_tell z1 z2 g1a (m.inc i1 rfl)
      refine ⟨upd G1 a u, i1.trans (Inc.new g1a), fun b w e => ?_, ?_, keep _ (Inc.new g1a)⟩
      · by_cases hb : b = a
        · subst hb
          rw [upd_same] at e
          cases e
          exact .inr ⟨hu, am, ga⟩
        · rw [upd_ne hb] at e
          rcases f1 b w e with z | ⟨z1, z2, z3⟩
          · exact .inl z
          · exact .inr ⟨z1, mutA_tail z2, z3⟩
      · cases s with
        | own o' => cases es; cases o with
          | dic lk xs => exact absurd rfl (hod lk xs)
          | lst xs => exact ru
          | ins c xs => exact ru
        | bor o' => cases es; cases o with
          | dic lk xs => exact absurd rfl (hod lk xs)
          | lst xs => exact ru
          | ins c xs => exact ru
        | no => cases es
        | val d => cases es
        | exc c fs => cases es
    have h1 := h.1
    cases s with
    | own o =>
      cases v with
      | none => exact h1.elim
      | some v =>
        obtain ⟨a, rfl, g, m, _⟩ := h1
        cases o with
        | dic lk xs => exact ⟨G1, i1, fun a o e => (f1 a o e).imp id fun ⟨z1, z2, z3⟩ => ⟨z1, mutA_tail z2, z3⟩, trivial, s1⟩
        | lst xs => exact mutc (fun _ _ q => by cases q) rfl rfl g m
        | ins c xs => exact mutc (fun _ _ q => by cases q) rfl rfl g m
    | bor o =>
      cases v with
      | none => exact h1.elim
      | some v =>
        obtain ⟨a, rfl, g, m, _⟩ := h1
        cases o with
        | dic lk xs => exact ⟨G1, i1, fun a o e => (f1 a o e).imp id fun ⟨z1, z2, z3⟩ => ⟨z1, mutA_tail z2, z3⟩, trivial, s1⟩
        | lst xs => exact mutc (fun _ _ q => by cases q) rfl rfl g m
        | ins c xs => exact mutc (fun _ _ q => by cases q) rfl rfl g m
    | no => exact ⟨G1, i1, fun a o e => (f1 a o e).imp id fun ⟨z1, z2, z3⟩ => ⟨z1, mutA_tail z2, z3⟩, by cases v <;> trivial, s1⟩
    | val d =>
      refine ⟨G1, i1, fun a o e => (f1 a o e).imp id fun ⟨z1, z2, z3⟩ => ⟨z1, mutA_tail z2, z3⟩, ?_, s1⟩
      cases v with
      | none => exact h1.elim
      | some v => exact Rep.inc i1 h1
    | exc c fs =>
      refine ⟨G1, i1, fun a o e => (f1 a o e).imp id fun ⟨z1, z2, z3⟩ => ⟨z1, mutA_tail z2, z3⟩, ?_, s1⟩
      exact SlotOk.step i1 (fun a _ z => nomatch z) (fun _ _ _ q => q) h1
  | [], _ :: _, h, _ => h.elim
  | _ :: _, [], h, _ => h.elim
theorem mutA_view : ∀ {σ : St} {Γ : Env}, mutA σ (viewE Γ) = []
  | [], Γ => by cases Γ <;> simp [mutA, viewE]
  | v :: σ, [] => by cases v <;> first | rfl | (rename_i w; cases w <;> rfl)
  | v :: σ, t :: Γ => by
    show mutA (v :: σ) (viewS t :: viewE Γ) = []
    rw [mutA_nomo (viewS_mo t), mutA_view]
theorem Ok.view {G H : Hp} {σ : St} {Γ : Env} (k : Ok F G H σ Γ) : ∃ G1, Ok (fbk F ⟨G1, H, [], []⟩) G1 H σ (viewE Γ) := by
  obtain ⟨G1, i1, f1, s1⟩ := tellAll (Γ := Γ) k.slots k.nd
  refine ⟨G1, ⟨fun a o e => ?_, Inc.refl _, fun a o e => .inl e, fun a o e _ => e, fun a m => (nomatch m), ?_, by rw [mutA_view]; exact List.nodup_nil, fun i a e => by simp at e, Nat.zero_le _⟩⟩
  · rcases f1 a o e with z | ⟨z, _, _⟩
    · exact k.sub a o z
    · exact .inl z
  · refine Slots.mk s1.len fun i v s e1 e2 => ?_
    obtain ⟨v', ev, okk⟩ := s1.get e2
    rw [e1] at ev
    cases ev
    have nm : s.mo = none := by
      rw [viewE_get] at e2
      cases hg : Γ[i]? with
      | none => rw [hg] at e2; cases e2
      | some t => rw [hg] at e2; cases e2; exact viewS_mo t
    cases s with
    | own o => cases nm
    | bor o => cases nm
    | no => cases v <;> trivial
    | val d => cases v <;> exact okk
    | exc c fs => cases v <;> exact okk
/-- nothing was changed -/
theorem Ok.unview {G H G1 G2 H2 : Hp} {σ σ2 : St} {Γ Γ2 : Env} (k : Ok F G H σ Γ) (k2 : Ok (fbk F ⟨G1, H, [], []⟩) G2 H2 σ2 Γ2) : Ok F G H2 σ Γ := by
  have kp : ∀ a o, H a = some o → H2 a = some o := fun a o e => k2.frame a o e (fun m => nomatch m)
  refine ⟨fun a o e => ?_, k.g0, k.fresh, fun a o e nb => kp a o (k.frame a o e nb), fun a m => ?_, ?_, k.nd, k.pin, k.pl⟩
  · rcases k.sub a o e with z | ⟨z, ob, z2⟩
    · exact .inl (kp a o z)
    · exact .inr ⟨z, ob, kp _ _ z2⟩
  · obtain ⟨o, e⟩ := k.bor a m
    exact ⟨o, kp a o e⟩
  · refine k.slots.step (Inc.refl G) (fun a ha => ?_) (fun dd ws _ q => kp _ _ q)
    obtain ⟨⟨o, e⟩, g, _⟩ := mutA_there k.slots a ha
    exact ⟨by rw [kp a o e, e], g⟩
def qPeekT (p : QT) : QT := fun Γ Q _ => p (viewE Γ) (fun b _ => Q b Γ) noE
theorem tk_no {q : FxD} : Takes X (wOf (fbk F q) noE) := fun u s' ⟨_, _, _, _, _, _, _, _, _, _, _, _, _, _, _, _, w⟩ => by
  obtain ⟨_, _, _, _, _, z⟩ := w
  exact z.elim
theorem lt_peek {tt : QT} (h : ∀ q : FxD, Takes X (wOf (fbk F q) noE) → LT X (fbk F q) noE e tt) : LT X F E e (qPeekT tt) := ⟨fun pins s σ H G Γ Q I k q => by
  obtain ⟨G1, k1⟩ := k.view
  exact thn ((h _ tk_no).run pins s σ H G1 _ _ I k1 q) fun u s' ⟨H', I', Γ', G', q', i, k'⟩ => ⟨H', I', Γ, G, q', Inc.refl G, k.unview k'⟩⟩
end
end Q
set_option Elab.async false
set_option linter.all false
set_option maxRecDepth 100000
set_option maxHeartbeats 4000000
namespace Q
open He5 (DefA fnA wf wrapB cmet_of)
open PySem L2 PySem.Spec PyProof.Rows He PySem.W
theorem len_ok {c : Cn} {K : Frag} (h : pMeth c "__len__" K) : OwnLen K ((cf K).cl c) (ma K (ga K (cname c)) "__len__") := ⟨h.1, h.2.1⟩
variable {P : Program} {w : World} {K : Frag} {mg : Str → Option Value} {base : Heap}
end Q
set_option Elab.async false
set_option linter.all false
set_option maxRecDepth 100000
set_option maxHeartbeats 4000000
namespace Q
open PySem L2 PySem.Spec PyProof.Rows
section
variable {X : Cx} {F : Fx} {E : XP} {a b : Expr} {pa pb : QE} {pos : Pos}
theorem finN_new {G H : Hp} {σ : St} {Γ : Env} {Q : MO → Env → Prop} {ds : List D} {vs : List V} {p : Addr} (k : Ok F G H σ Γ) (hp : H p = none) (q : Q (.lst ds) Γ) (r : Reps F.toCf G ds vs) : FinN F G σ Q (.ref p) (upd H p (.lst vs)) :=
  ⟨.lst ds, p, Γ, G, q, Inc.refl G, k.new0 hp _, rfl, k.sub.no hp, ⟨vs, upd_same, r⟩, k.h0 hp, not_mut k hp⟩
def qnMul (pa pb : QE) : QN := fun Γ Q E => pa Γ (fun d Γ1 => pb Γ1 (fun e Γ2 => match d, e with
  | .lst xs, .int n => xs.length * n.toNat ≤ 100000 ∧ -100000 ≤ n ∧ n ≤ 100000 ∧ Q (.lst (List.flatten (List.replicate n.toNat xs))) Γ2
  | _, _ => False) E) E
theorem ln_mul (ha : LE X F E a pa) (hb : LE X F E b pb) : LN X F E (.BinOp a .Mult b pos) (qnMul pa pb) := ⟨fun pins s σ H G Γ Q I k h => by
  refine wpAny_BinOp (thn (ha.run pins s σ H G Γ _ I k h) fun v s1 ⟨x, H1, I1, r1, d, Γ1, G1, q1, i1, k1, p1⟩ => thn (hb.run pins s1 σ H1 G1 Γ1 _ I1 k1 q1) fun u s2 ⟨y, H2, I2, r2, e, Γ2, G2, q2, i2, k2, p2⟩ => ?_)
  dsimp only at q2
  split at q2
  case h_2 => exact q2.elim
  obtain ⟨h1, h2, h3, q⟩ := q2
  obtain ⟨c, vs, rfl, sa, ra⟩ := p1.inc i2
  refine op_rep pins s2 σ H2 _ _ v u _ I2 r1 r2 ⟨c, _, vs, rfl, p2, k2.sub.m sa, by omega, by omega, ?_, fun p hp => finN_inc (i1.trans i2) (finN_new k2 hp q (reps_rep ra _))⟩
  rw [ra.len]
  exact szl h1⟩
end
end Q
set_option Elab.async false
set_option linter.all false
set_option maxRecDepth 100000
set_option maxHeartbeats 4000000
namespace Q
open PySem L2
theorem lc_inv {g : QG} {pe : QE} {vs : List Nat} {E : XP} {Q : MO → Env → Prop} {gd : Gd} {items : List D} {Γ : Env} (I : Nat → List D → Env → Prop) (hlen : items.length ≤ 100000) (hG : ∀ i acc Γ, i ≤ items.length → I i acc Γ → gM gd Γ) (h0 : I 0 [] Γ)
    (turn : ∀ (i : Nat) (d : D) (acc : List D) (Γ : Env) (Z : D → Env → Prop) (X : XP), items[i]? = some d → acc.length = i → I i acc Γ → (∀ y Γ4, I (i + 1) (acc ++ [y]) (rE Γ Γ4) → Z y Γ4) → (∀ x Γ', E x (rE Γ Γ') → X x Γ') → g d (wipeE (bE Γ) vs) fun Γ2 => pe Γ2 Z X)
    (hend : ∀ acc Γ, acc.length = items.length → I items.length acc Γ → Q (.lst acc) Γ) : qLcGo gd g qYes pe vs items [] Γ Q E := by
  have wG : ∀ {Γ : Env} {R : Prop}, gM gd Γ → R → withG gd Γ R := fun {Γ R} a b => by
    cases gd with
    | none => exact b
    | some p => exact ⟨a, b⟩
  have key : ∀ (rest : List D) (i : Nat) (acc : List D) (Γ : Env), items.drop i = rest → i ≤ items.length → acc.length = i → I i acc Γ → qLcGo gd g qYes pe vs rest acc Γ Q E := by
    intro rest
    induction rest with
    | nil =>
      intro i acc Γ e hi hl hI
      have : items.length ≤ i := by
        have := congrArg List.length e
        simp at this
        omega
      have ei : i = items.length := by omega
      subst ei
      exact wG (hG _ _ _ (Nat.le_refl _) hI) (hend acc Γ hl hI)
    | cons d rest ih =>
      intro i acc Γ e hi hl hI
      have hlt : i < items.length := by
        have := congrArg List.length e
        simp at this
        omega
      have ed : items[i]? = some d := by
        have := congrArg List.head? e
        rwa [List.head?_drop] at this
      have er : items.drop (i + 1) = rest := by
        have := congrArg List.tail e
        rwa [List.tail_drop] at this
      exact wG (hG _ _ _ hi hI) (turn i d acc Γ _ _ ed hl hI (fun y Γ4 hy => ⟨by omega, ih (i + 1) (acc ++ [y]) (rE Γ Γ4) er hlt (by simp [hl]) hy⟩) (fun x Γ' hx => hx))
  exact key items 0 [] Γ rfl (Nat.zero_le _) rfl h0
/-- .. whose items don't change anything: the item at i is f i -/
theorem lc_map {g : QG} {pe : QE} {vs : List Nat} {E : XP} {Q : MO → Env → Prop} {gd : Gd} {items : List D} {Γ : Env} (f : Nat → D) (hlen : items.length ≤ 100000) (hG : gM gd Γ)
    (turn : ∀ (i : Nat) (d : D) (Z : D → Env → Prop) (X : XP), items[i]? = some d → (∀ Γ4, rE Γ Γ4 = Γ → Z (f i) Γ4) → g d (wipeE (bE Γ) vs) fun Γ2 => pe Γ2 Z X)
    (hend : Q (.lst ((List.range items.length).map f)) Γ) : qLcGo gd g qYes pe vs items [] Γ Q E := by
  refine lc_inv (fun i acc Γ' => Γ' = Γ ∧ acc = (List.range i).map f) hlen (fun i acc Γ' _ h => by rw [h.1]; exact hG) ⟨rfl, rfl⟩ (fun i d acc Γ' Z X ed hl h hZ hX => ?_) (fun acc Γ' _ h => by rw [h.1, h.2]; exact hend)
  obtain ⟨rfl, rfl⟩ := h
  exact turn i d Z X ed fun Γ4 e4 => hZ _ _ ⟨e4, by rw [List.range_succ, List.map_append]; rfl⟩
theorem loop_inv {g : QG} {u : QS} {E : XP} {P : PEnds} {items : List D} {Γ : Env} (I : Nat → Env → Prop) (h0 : I 0 Γ)
    (turn : ∀ (i : Nat) (d : D) (Γ : Env) (K : Env → Prop), items[i]? = some d → I i Γ → (∀ Γ', I (i + 1) Γ' → K Γ') → g d Γ fun Γ1 => u Γ1 { nx := K, ct := K, bk := P.nx, rt := P.rt } E)
    (hend : ∀ Γ, I items.length Γ → P.nx Γ) : qLoop none g u items Γ P E := by
  have key : ∀ (rest : List D) (i : Nat) (Γ : Env), items.drop i = rest → i ≤ items.length → I i Γ → qLoop none g u rest Γ P E := by
    intro rest
    induction rest with
    | nil =>
      intro i Γ e hi hI
      have : items.length ≤ i := by
        have := congrArg List.length e
        simp at this
        omega
      have ei : i = items.length := by omega
      subst ei
      exact hend Γ hI
    | cons d rest ih =>
      intro i Γ e hi hI
      have hlt : i < items.length := by
        have := congrArg List.length e
        simp at this
        omega
      have ed : items[i]? = some d := by
        have := congrArg List.head? e
        rwa [List.head?_drop] at this
      have er : items.drop (i + 1) = rest := by
        have := congrArg List.tail e
        rwa [List.tail_drop] at this
      exact turn i d Γ _ ed hI fun Γ' h => ih (i + 1) Γ' er hlt h
  exact key items 0 Γ rfl (Nat.zero_le _) h0
theorem isPys_map {α : Type} (f : α → D) (h : ∀ x, isPy (f x) = true) : ∀ xs : List α, isPys (xs.map f) = true
  | [] => rfl
  | x :: xs => by show (isPy (f x) && isPys (xs.map f)) = true; rw [h, isPys_map f h xs]; rfl
theorem canLay_map {α : Type} (f : α → D) (h : ∀ x, (toPy (f x)).canLay0 = true) : ∀ xs : List α, PyData.canLayAll0 (toPys (xs.map f)) = true
  | [] => rfl
  | x :: xs => by show ((toPy (f x)).canLay0 && PyData.canLayAll0 (toPys (xs.map f))) = true; rw [h, canLay_map f h xs]; rfl
theorem depth_map {α : Type} (f : α → D) (n : Nat) (h : ∀ x, (toPy (f x)).depth ≤ n) : ∀ xs : List α, PyData.depthAll (toPys (xs.map f)) ≤ n
  | [] => Nat.zero_le _
  | x :: xs => by
    show max (toPy (f x)).depth (PyData.depthAll (toPys (xs.map f))) ≤ n
    have := h x
    have := depth_map f n h xs
    omega
theorem plain_lst {α : Type} (f : α → D) (h1 : ∀ x, isPy (f x) = true) (h2 : ∀ x, (toPy (f x)).canLay0 = true) (n : Nat) (h3 : ∀ x, (toPy (f x)).depth ≤ n) (hn : n ≤ 60) (xs : List α) : plainD (.lst (xs.map f)) = true := by
  have a := isPys_map f h1 xs
  have b := canLay_map f h2 xs
  have c := depth_map f n h3 xs
  show (isPys (xs.map f) && (PyData.canLayAll0 (toPys (xs.map f)) && decide (PyData.depthAll (toPys (xs.map f)) + 1 ≤ 64))) = true
  rw [a, b, decide_eq_true (by omega)]
  rfl
theorem eqv_map_dec {α : Type} [DecidableEq α] (f : α → D) (h : ∀ x y, PyData.eqv (toPy (f x)) (toPy (f y)) = decide (x = y)) : ∀ xs ys : List α, PyData.eqvAll (toPys (xs.map f)) (toPys (ys.map f)) = decide (xs = ys)
  | [], [] => rfl
  | [], _ :: _ => rfl
  | _ :: _, [] => rfl
  | x :: xs, y :: ys => by
    show (PyData.eqv (toPy (f x)) (toPy (f y)) && PyData.eqvAll (toPys (xs.map f)) (toPys (ys.map f))) = _
    rw [h, eqv_map_dec f h xs ys]
    by_cases e : x = y <;> by_cases e2 : xs = ys <;> simp [e, e2]
def lstR (qs : List Rat) : D := .lst (qs.map tupR)
theorem plain_lstR (qs : List Rat) : plainD (lstR qs) = true := plain_lst tupR (fun _ => rfl) (fun _ => rfl) 1 (fun _ => Nat.le_of_ble_eq_true rfl) (by decide) qs
theorem eqv_lstR (ps qs : List Rat) : PyData.eqv (toPy (lstR ps)) (toPy (lstR qs)) = decide (ps = qs) := eqv_map_dec tupR eqv_tupR ps qs
def rts (qs : List Rat) : List D := qs.map D.rat
theorem rts_len (qs : List Rat) : (rts qs).length = qs.length := by simp [rts]
theorem rts_isR (qs : List Rat) : (rts qs).all isR = true := by
  simp [rts, isR]
theorem eqsB_rts : ∀ (ps qs : List Rat), eqsB eqR (rts ps) (rts qs) = decide (qs = ps)
  | [], [] => rfl
  | [], _ :: _ => by simp [rts, eqsB]
  | _ :: _, [] => by simp [rts, eqsB]
  | p :: ps, q :: qs => by
    show (decide (q = p) && eqsB eqR (rts ps) (rts qs)) = _
    rw [eqsB_rts ps qs]
    by_cases e : q = p <;> by_cases e2 : qs = ps <;> simp [e, e2]
theorem rts_get {qs : List Rat} {i : Nat} {d : D} (h : (rts qs)[i]? = some d) : ∃ q, qs[i]? = some q ∧ d = .rat q := by
  unfold rts at h
  rw [List.getElem?_map] at h
  cases e : qs[i]? with
  | none => rw [e] at h; cases h
  | some q => rw [e] at h; cases h; exact ⟨q, rfl, rfl⟩
theorem atD_nat {xs : List D} {i : Int} (h : 0 ≤ i) : atD xs i = xs[i.toNat]? := by unfold atD; rw [if_pos h]
theorem Sz.mono {n m : Nat} {q : Rat} (h : Sz n q) (l : n ≤ m) : Sz m q := ⟨h.num.mono l, h.den.mono l⟩
theorem Sz.mul {n m : Nat} {p q : Rat} (h : Sz n p) (k : Sz m q) : Sz (n + m) (p * q) := by
  rw [← mul_divInt]
  exact divInt_sz (h.num.mul k.num) (h.den.mul k.den) (fun e => by
    rcases Int.mul_eq_zero.mp e with z | z
    · exact den_ne p z
    · exact den_ne q z)
theorem Sz.add {n m : Nat} {p q : Rat} (h : Sz n p) (k : Sz m q) : Sz (n + m + 1) (p + q) := by
  rw [← add_divInt]
  refine divInt_sz (Bd.add (h.num.mul k.den) ((k.num.mul h.den).mono (by omega))) ((h.den.mul k.den).mono (by omega)) (fun e => ?_)
  rcases Int.mul_eq_zero.mp e with z | z
  · exact den_ne p z
  · exact den_ne q z
theorem Sz.sub {n m : Nat} {p q : Rat} (h : Sz n p) (k : Sz m q) : Sz (n + m + 1) (p - q) := by
  rw [← sub_divInt]
  refine divInt_sz (Bd.sub (h.num.mul k.den) ((k.num.mul h.den).mono (by omega))) ((h.den.mul k.den).mono (by omega)) (fun e => ?_)
  rcases Int.mul_eq_zero.mp e with z | z
  · exact den_ne p z
  · exact den_ne q z
theorem Sz.neg {n : Nat} {p : Rat} (h : Sz n p) : Sz n (-p) := ⟨by rw [Rat.neg_num]; exact h.num.neg, by rw [Rat.neg_den]; exact h.den⟩
theorem Sz.zero {n : Nat} (h : 1 ≤ n) : Sz n 0 := ⟨Bd.mono (n := 1) (bd_of rfl) h, Bd.mono (n := 1) (bd_of rfl) h⟩
theorem Sz.int {n : Nat} {i : Int} (h : Bd n i) (l : 1 ≤ n) : Sz n (i : Rat) := ⟨h, Bd.mono (n := 1) (bd_of rfl) l⟩
end Q
set_option Elab.async false
set_option linter.all false
set_option maxRecDepth 100000
set_option maxHeartbeats 4000000
namespace Q
open PySem L2 PySem.Spec PyProof.Rows
/-- x stands in y -/
def hasT (x y : Str) : Bool := !(Builtin.Str.occurrences y x 0 y.length 1).isEmpty
def oNotIn : O2 := fun d e Γ Q _ => match e with
  | .str y => match d with
    | .str x => Q (.bl (!hasT x y)) Γ
    | _ => False
  | .lst ys => plainD d = true ∧ plainD (.lst ys) = true ∧ Q (.bl (!(toPys ys).any fun z => PyData.eqv z (toPy d))) Γ
  | _ => False
section
variable {X : Cx} {F : Fx} {E : XP} {a b o e : Expr} {pa pb : QE} {pr : QA} {pos apos : Pos}
theorem ol_notIn (hK : F.K = X.K) (hu : X.A.units + 100 < cLine) : OpL X F E (compareOp .NotIn) oNotIn := by
  intro pins s σ H G Γ x y v u d e Q I k rv ru rx ry q
  unfold oNotIn at q
  split at q
  · split at q
    · exact op_notin_str pins s σ H x y v u _ I rv ru ⟨_, _, rx, ry, fin0 k q rfl⟩
    · exact q.elim
  · obtain ⟨h1, h2, q⟩ := q
    exact op_notInD (X := X) (by omega) pins s σ H x y v u _ I rv ru ⟨toPy d, _, hK ▸ dp_of k.sub (plain_py h1).1 rx, hK ▸ dp_of k.sub (plain_py h2).1 ry, (plain_py h1).2, (plain_py h2).2, fin0 k q rfl⟩
  · exact q.elim
end
end Q
set_option Elab.async false
set_option linter.all false
set_option maxRecDepth 100000
set_option maxHeartbeats 4000000
namespace Q
open PySem L2 PySem.Spec PyProof.Rows He PySem.W
open He5 (DefA fnA wf wrapB cmet_of)
end Q
set_option Elab.async false
set_option linter.all false
set_option maxRecDepth 100000
set_option maxHeartbeats 4000000
namespace Q
open PySem L2 PySem.Spec PyProof.Rows
end Q
set_option Elab.async false
set_option linter.all false
set_option maxRecDepth 100000
set_option maxHeartbeats 4000000
namespace Q
open PySem L2 PySem.Spec PyProof.Rows
/-- the value of k in a dict of data -/
def getD (kvs : List (Key × D)) (k : Key) : Option D := (kvs.find? fun p => decide (p.1 = k)).map (·.2)
/-- d[k] = x -/
def putD (kvs : List (Key × D)) (k : Key) (x : D) : List (Key × D) := if (kvs.any fun p => decide (p.1 = k)) then kvs.map (fun p => if p.1 = k then (p.1, x) else p) else kvs ++ [(k, x)]
theorem RepK.keys {F : Cf} {G : Hp} : ∀ {ds : List (Key × D)} {ws : List (Key × V)}, RepK F G ds ws → ws.map (·.1) = ds.map (·.1)
  | [], _, h => by cases (show _ = [] from h); rfl
  | (k, d) :: ds, _, h => by
    obtain ⟨v, r, rfl, _, b⟩ := h
    rw [List.map_cons, List.map_cons, RepK.keys b]
theorem RepK.len {F : Cf} {G : Hp} {ds : List (Key × D)} {ws : List (Key × V)} (h : RepK F G ds ws) : ws.length = ds.length := by
  have e := congrArg List.length h.keys
  rwa [List.length_map, List.length_map] at e
theorem RepK.get {F : Cf} {G : Hp} (k : Key) : ∀ {ds : List (Key × D)} {ws : List (Key × V)}, RepK F G ds ws → (getD ds k = none ∧ valV ws k = none) ∨ ∃ d v, getD ds k = some d ∧ valV ws k = some v ∧ Rep F G d v
  | [], _, h => by cases (show _ = [] from h); exact .inl ⟨rfl, rfl⟩
  | (k', d) :: ds, _, h => by
    obtain ⟨v, r, rfl, a, b⟩ := h
    by_cases e : k' = k
    · exact .inr ⟨d, v, by simp [getD, e], valV_pos (p := (k', v)) e, a⟩
    · have ih := RepK.get k b
      have e1 : getD ((k', d) :: ds) k = getD ds k := by simp [getD, List.find?_cons, e]
      have e2 := valV_neg (p := (k', v)) (r := r) (k := k) e
      rw [e1, e2]
      exact ih
theorem RepK.any {F : Cf} {G : Hp} (k : Key) : ∀ {ds : List (Key × D)} {ws : List (Key × V)}, RepK F G ds ws → (ws.any fun p => decide (p.1 = k)) = (ds.any fun p => decide (p.1 = k))
  | [], _, h => by cases (show _ = [] from h); rfl
  | (k', d) :: ds, _, h => by
    obtain ⟨v, r, rfl, a, b⟩ := h
    rw [List.any_cons, List.any_cons, RepK.any k b]
theorem RepK.repl {F : Cf} {G : Hp} (k : Key) {x : D} {u : V} (rx : Rep F G x u) : ∀ {ds : List (Key × D)} {ws : List (Key × V)}, RepK F G ds ws → RepK F G (ds.map fun p => if p.1 = k then (p.1, x) else p) (ws.map fun p => if p.1 = k then (p.1, u) else p)
  | [], _, h => by cases (show _ = [] from h); exact rfl
  | (k', d) :: ds, _, h => by
    obtain ⟨v, r, rfl, a, b⟩ := h
    by_cases e : k' = k
    · simp only [List.map_cons, if_pos e]
      exact ⟨u, _, rfl, rx, RepK.repl k rx b⟩
    · simp only [List.map_cons, if_neg e]
      exact ⟨v, _, rfl, a, RepK.repl k rx b⟩
theorem RepK.snoc {F : Cf} {G : Hp} (k : Key) {x : D} {u : V} (rx : Rep F G x u) : ∀ {ds : List (Key × D)} {ws : List (Key × V)}, RepK F G ds ws → RepK F G (ds ++ [(k, x)]) (ws ++ [(k, u)])
  | [], _, h => by cases (show _ = [] from h); exact ⟨u, [], rfl, rx, rfl⟩
  | (k', d) :: ds, _, h => by
    obtain ⟨v, r, rfl, a, b⟩ := h
    exact ⟨v, _, rfl, a, RepK.snoc k rx b⟩
theorem RepK.put {F : Cf} {G : Hp} (k : Key) {x : D} {u : V} (rx : Rep F G x u) {ds : List (Key × D)} {ws : List (Key × V)} (h : RepK F G ds ws) : RepK F G (putD ds k x) (putK ws k u) := by
  unfold putD putK
  have e := h.any k
  by_cases c : (ds.any fun p => decide (p.1 = k)) = true
  · rw [if_pos c, if_pos (e.trans c)]
    exact h.repl k rx
  · rw [if_neg c, if_neg (fun z => c (e.symm.trans z))]
    exact h.snoc k rx
end Q
set_option Elab.async false
set_option linter.all false
set_option maxRecDepth 100000
set_option maxHeartbeats 4000000
namespace PySem
open Sem (wp)
def xsOf (h : Heap) (a : Addr) : Array Value := match h.get? a with
  | some o => match o.data with
    | .seq items _ => items
    | _ => #[]
  | none => #[]
theorem xsOf_tup {h : Heap} {a : Addr} {items : Array Value} (t : h.IsTuple a items) : xsOf h a = items := by
  obtain ⟨o, e, c, n, d⟩ := t
  unfold xsOf
  rw [e]
  show (match o.data with | .seq items _ => items | _ => #[]) = items
  rw [d]
end PySem
namespace Q
open PySem L2 PySem.Spec PyProof.Rows
def TRows (K : PySem.W.Frag) (H : Hp) : List Addr → List (List V) → Prop
  | [], vss => vss = []
  | a :: as, vss => ∃ vs r, vss = vs :: r ∧ SqT K H a vs ∧ TRows K H as r
section
variable {X : Cx} {pins : List (Addr × Obj)} {σ : St} {H : Hp} {s : Shared}
theorem TRows.inj (I : Inv X pins σ H s) : ∀ {as : List Addr} {xs ys : List (List V)}, TRows X.K H as xs → TRows X.K H as ys → xs = ys
  | [], _, _, a, b => (show _ = [] from a).trans (show _ = [] from b).symm
  | _ :: _, _, _, a, b => by
    obtain ⟨v, r, rfl, h1, h2⟩ := a
    obtain ⟨v', r', rfl, h1', h2'⟩ := b
    rw [I.tuple_inj h1 h1', TRows.inj I h2 h2']
theorem TRows.tup (I : Inv X pins σ H s) : ∀ {as : List Addr} {vss : List (List V)}, TRows X.K H as vss → ∀ a ∈ as, ∃ vs ∈ vss, (xsOf s.heap a).size = vs.length ∧ s.heap.IsTuple a (xsOf s.heap a)
  | [], _, _, a, ha => by cases ha
  | b :: as, _, h, a, ha => by
    obtain ⟨v, r, rfl, h1, h2⟩ := h
    rcases List.mem_cons.mp ha with rfl | hm
    · obtain ⟨its, rv, t, _⟩ := I.tuple h1
      refine ⟨v, List.mem_cons_self, ?_, by rw [xsOf_tup t]; exact t⟩
      rw [xsOf_tup t, List.size_toArray, rv.length]
    · obtain ⟨vs, m, e⟩ := TRows.tup I h2 a hm
      exact ⟨vs, List.mem_cons_of_mem _ m, e⟩
theorem TRows.len : ∀ {as : List Addr} {vss : List (List V)}, TRows X.K H as vss → vss.length = as.length
  | [], _, h => by cases (show _ = [] from h); rfl
  | _ :: _, _, h => by obtain ⟨v, r, rfl, h1, h2⟩ := h; rw [List.length_cons, List.length_cons, TRows.len h2]
end
end Q
set_option Elab.async false
set_option linter.all false
set_option maxRecDepth 100000
set_option maxHeartbeats 4000000
namespace Q
open PySem L2 PySem.Spec PyProof.Rows
section
variable {X : Cx} {F : Fx} {E : XP} {a : Expr} {pa : QE} {pos p0 px p1 : Pos} {x : Str}
theorem TRows.up {K : PySem.W.Frag} {G G' H : Hp} (i : Inc G G') (s : Sub G' H) : ∀ {as : List Addr} {vss : List (List V)}, TRows K G as vss → TRows K H as vss
  | [], _, h => h
  | _ :: _, _, h => by
    obtain ⟨v, r, rfl, h1, h2⟩ := h
    exact ⟨v, r, rfl, s.t (sqT_inc i h1), TRows.up i s h2⟩
end
end Q
set_option Elab.async false
set_option linter.all false
set_option maxRecDepth 100000
set_option maxHeartbeats 4000000
namespace Q
open PySem L2 PySem.Spec PyProof.Rows PySem.W
end Q
set_option Elab.async false
set_option linter.all false
set_option maxRecDepth 100000
set_option maxHeartbeats 4000000
namespace Q
open PySem L2 PySem.Spec PyProof.Rows
structure Own1 (F : Fx) (G : Hp) (σ : St) (Γ : Env) (a : Addr) : Prop where
  g : G a = none
  h0 : F.H0 a = none
  nm : a ∉ mutA σ Γ
  nb : a ∉ F.B
def Rws (F : Fx) (G H : Hp) : List Addr → List (List D) → Prop
  | [], xss => xss = []
  | a :: as, xss => ∃ xs r, xss = xs :: r ∧ (∃ ws, H a = some (.lst ws) ∧ Reps F.toCf G xs ws) ∧ Rws F G H as r
structure RowsR (F : Fx) (G H : Hp) (σ : St) (Γ : Env) (as : List Addr) (xss : List (List D)) : Prop where
  nd : as.Nodup
  own : ∀ a ∈ as, Own1 F G σ Γ a
  rows : Rws F G H as xss
theorem Rws.len {F : Fx} {G H : Hp} : ∀ {as : List Addr} {xss : List (List D)}, Rws F G H as xss → as.length = xss.length
  | [], _, h => by cases (show _ = [] from h); rfl
  | _ :: _, _, h => by obtain ⟨xs, r, rfl, _, h2⟩ := h; rw [List.length_cons, List.length_cons, h2.len]
theorem Rws.there {F : Fx} {G H : Hp} : ∀ {as : List Addr} {xss : List (List D)}, Rws F G H as xss → ∀ a ∈ as, ∃ ws, H a = some (.lst ws)
  | [], _, _, a, ha => by cases ha
  | _ :: _, _, h, a, ha => by
    obtain ⟨xs, r, rfl, ⟨ws, hw, _⟩, h2⟩ := h
    rcases List.mem_cons.mp ha with rfl | m
    · exact ⟨ws, hw⟩
    · exact h2.there a m
theorem Rws.step {F : Fx} {G G' H H' : Hp} (i : Inc G G') : ∀ {as : List Addr} {xss : List (List D)}, (∀ a ∈ as, H' a = H a) → Rws F G H as xss → Rws F G' H' as xss
  | [], _, _, h => h
  | a :: as, _, hh, h => by
    obtain ⟨xs, r, rfl, ⟨ws, hw, rw'⟩, h2⟩ := h
    exact ⟨xs, r, rfl, ⟨ws, (hh a List.mem_cons_self).trans hw, rw'.inc i⟩, h2.step i fun b hb => hh b (List.mem_cons_of_mem _ hb)⟩
theorem Rws.snoc {F : Fx} {G H : Hp} {a : Addr} {xs : List D} (hr : ∃ ws, H a = some (.lst ws) ∧ Reps F.toCf G xs ws) : ∀ {as : List Addr} {xss : List (List D)}, Rws F G H as xss → Rws F G H (as ++ [a]) (xss ++ [xs])
  | [], _, h => by cases (show _ = [] from h); exact ⟨xs, [], rfl, hr, rfl⟩
  | _ :: _, _, h => by
    obtain ⟨ys, r, rfl, h1, h2⟩ := h
    exact ⟨ys, _, rfl, h1, h2.snoc hr⟩
section
variable {F : Fx} {G G' H H' : Hp} {σ σ' : St} {Γ Γ' : Env} {as : List Addr} {xss : List (List D)}
theorem RowsR.nil : RowsR F G H σ Γ [] [] := ⟨List.nodup_nil, fun a h => (List.not_mem_nil h).elim, rfl⟩
theorem RowsR.len (r : RowsR F G H σ Γ as xss) : as.length = xss.length := r.rows.len
theorem RowsR.there (r : RowsR F G H σ Γ as xss) (a : Addr) (h : a ∈ as) : ∃ ws, H a = some (.lst ws) := r.rows.there a h
theorem RowsR.step (r : RowsR F G H σ Γ as xss) (i : Inc G G') (hm : mutA σ' Γ' = mutA σ Γ) (fr : ∀ a o, H a = some o → a ∉ mutA σ Γ → H' a = some o) (fs : ∀ a o, G' a = some o → G a = some o ∨ H a = none) : RowsR F G' H' σ' Γ' as xss := by
  refine ⟨r.nd, fun a ha => ?_, r.rows.step i fun a ha => ?_⟩
  · obtain ⟨ws, hw⟩ := r.there a ha
    have o := r.own a ha
    refine ⟨?_, o.h0, by rw [hm]; exact o.nm, o.nb⟩
    cases e : G' a with
    | none => rfl
    | some u =>
      rcases fs a u e with z | z
      · rw [o.g] at z; cases z
      · rw [hw] at z; cases z
  · obtain ⟨ws, hw⟩ := r.there a ha
    rw [hw]
    exact fr a _ hw (r.own a ha).nm
theorem RowsR.off (r : RowsR F G H σ Γ as xss) {D : Addr} {o : HO} (n : D ∉ as) : RowsR F G (upd H D o) σ Γ as xss :=
  ⟨r.nd, r.own, r.rows.step (Inc.refl _) fun a ha => upd_ne (fun e => n (e ▸ ha))⟩
theorem RowsR.snoc (r : RowsR F G H σ Γ as xss) {a : Addr} {xs : List D} (n : a ∉ as) (o : Own1 F G σ Γ a) (hr : ∃ ws, H a = some (.lst ws) ∧ Reps F.toCf G xs ws) : RowsR F G H σ Γ (as ++ [a]) (xss ++ [xs]) := by
  refine ⟨?_, fun b hb => ?_, r.rows.snoc hr⟩
  · rw [List.nodup_append]
    exact ⟨r.nd, List.nodup_cons.mpr ⟨List.not_mem_nil, List.nodup_nil⟩, fun x hx y hy e => by
      rw [List.mem_singleton] at hy
      exact n (by rw [← hy, ← e]; exact hx)⟩
  · rcases List.mem_append.mp hb with m | m
    · exact r.own b m
    · rw [List.mem_singleton.mp m]; exact o
end
end Q
set_option Elab.async false
set_option linter.all false
set_option maxRecDepth 100000
set_option maxHeartbeats 4000000
namespace Q
open PySem L2 PySem.Spec PyProof.Rows
end Q
set_option Elab.async false
set_option linter.all false
set_option maxRecDepth 100000
set_option maxHeartbeats 4000000
namespace Q
open PySem L2 PySem.Spec PyProof.Rows
end Q
set_option Elab.async false
set_option linter.all false
set_option maxRecDepth 100000
set_option maxHeartbeats 4000000
namespace Q
open PySem L2 PySem.Spec PyProof.Rows
end Q
set_option Elab.async false
set_option linter.all false
set_option maxRecDepth 100000
set_option maxHeartbeats 4000000
namespace Q
open PySem L2 PySem.Spec PyProof.Rows
end Q
set_option Elab.async false
set_option linter.all false
set_option maxRecDepth 100000
set_option maxHeartbeats 4000000
namespace Q
open PySem L2 PySem.Spec PyProof.Rows
end Q
set_option Elab.async false
set_option linter.all false
set_option maxRecDepth 100000
set_option maxHeartbeats 4000000
namespace Q
open PySem L2 PySem.Spec PyProof.Rows
end Q
set_option Elab.async false
set_option linter.all false
set_option maxRecDepth 100000
set_option maxHeartbeats 4000000
namespace PySem.W
open Lean Elab Tactic Meta PySem PySem.Calls PyProof.Rows PyProof.V PySem.Spec
end PySem.W
namespace Q
open PySem L2 PySem.Spec PyProof.Rows
end Q
set_option Elab.async false
set_option linter.all false
set_option maxRecDepth 100000
set_option maxHeartbeats 4000000
namespace Q
open PySem L2 PySem.Spec PyProof.Rows
section
variable {X : Cx} {F : Fx} {E : XP} {e i : Expr} {pe pi : QE} {pos px pt : Pos} {x : Str}
/-- what is one's own was not locked at the entry -/
def Mine (X : Cx) (F : Fx) : Prop := ∀ a, F.H0 a = none → ∀ o u, X.H_0 a ≠ some (.frz o u)
theorem Mine.of (h : F.H0 = X.H_0) : Mine X F := fun a e o u z => by rw [h] at e; rw [e] at z; cases z
end
end Q
set_option Elab.async false
set_option linter.all false
set_option maxRecDepth 100000
set_option maxHeartbeats 4000000
namespace Q
open PySem L2 PySem.Spec PyProof.Rows
end Q
set_option Elab.async false
set_option linter.all false
set_option maxRecDepth 100000
set_option maxHeartbeats 4000000
namespace Q
open PySem L2 PySem.Spec PyProof.Rows
end Q
set_option Elab.async false
set_option linter.all false
set_option maxRecDepth 100000
set_option maxHeartbeats 4000000
namespace Q
open PySem L2 PySem.Spec PyProof.Rows
end Q
set_option Elab.async false
set_option linter.all false
set_option maxRecDepth 100000
set_option maxHeartbeats 4000000
namespace Q
open PySem L2 PySem.Spec PyProof.Rows
end Q
set_option Elab.async false
set_option linter.all false
set_option maxRecDepth 100000
set_option maxHeartbeats 4000000
namespace Q
open PySem L2 PySem.Spec PyProof.Rows
end Q
set_option Elab.async false
set_option linter.all false
set_option maxRecDepth 100000
set_option maxHeartbeats 4000000
namespace Q
open PySem L2 PySem.Spec PyProof.Rows
end Q
set_option Elab.async false
set_option linter.all false
set_option maxRecDepth 100000
set_option maxHeartbeats 4000000
namespace Q
open He5 (DefA)
open PySem L2 PySem.Spec PyProof.Rows He PySem.W
def spS (F : Cf) (c : Ct) : Sp := fun vs H Q E => vs.length ≤ 1000 ∧ ∀ p, H p = none → spC F c [V.ref p] (upd H p (.tup vs)) Q E
structure FnS (P : Program) (w : World) (K : Frag) (mg : Str → Option Value) (base : Heap) (d : DefA) (k : Nat) (c : Ct) : Prop where
  kp : keepIn K (.ref (d.at_ K)) = true
  run : FnR P w K mg base (L2.CX P w) k (d.at_ K) (spS (cf K) c)
section
variable {P : Program} {w : World} {K : Frag} {mg : Str → Option Value} {base : Heap}
/-- THE RULE for such a def -/
theorem FnS.of {d : DefA} {k : Nat} {N : List Str} {pv : Str} {c : Ct} {r : QS} (Fn : ∃ fd, FunD K d.name d.qual d.params d.body d.scope (d.dvs K) (d.kws K) (d.at_ K) fd) (S : FnScope N [pv] d.scope) (hdf : d.dfl = [])
    (hbd : ∀ (kV doc pm : Value) (an : Option Addr) (cdv ct : Value) (rest : List Value), bindArgs (fnOf d.name d.qual d.params d.body d.scope .none kV doc pm an cdv ct) ⟨rest, []⟩ = (newTuple rest >>= fun t => pure [(pv, t)]))
    (hlen : ∀ args Q E, c args Q E → args.length = 1) (hw : ∀ args Q E, c args Q E → r (startE N.length args) (endsC args Q) (exnC args E))
    (hd : ∀ (f : Addr) (cdv : Value) (A : Around) (outer : List PySem.Env) (s : Shared) (H : Hp) (E0 : XK), Room k (A.deeper (envOfC d.qual d.scope s.heap.objs.size f cdv)) → ∀ (G0 H0 : Hp) (B : List Addr) (pin : List (Option Addr)) (xa : Addr) (xd : Option Addr) (xc : Cn) (E : XP),
      Takes (cxOf (L2.CX P w) P w K mg base N d.qual d.scope f cdv A outer s H E0) (wOf ⟨cf K, G0, H0, B, pin, xa, xd, xc⟩ E) → PassesOwn (model P w) (A.deeper (envOfC d.qual d.scope s.heap.objs.size f cdv)) (envOfC d.qual d.scope s.heap.objs.size f cdv) (cxOf (L2.CX P w) P w K mg base N d.qual d.scope f cdv A outer s H E0).xe → H0 = H →
      LSs (cxOf (L2.CX P w) P w K mg base N d.qual d.scope f cdv A outer s H E0) ⟨cf K, G0, H0, B, pin, xa, xd, xc⟩ E d.body r) : FnS P w K mg base d (k + 1) c := by
  obtain ⟨fd, F⟩ := Fn
  refine ⟨F.kp, ?_⟩
  obtain ⟨oc, od, dV, kV, doc, pm, an, cdv, ct, osl, rfl, lk, hcd, hD, hKw⟩ := F.ex
  have hdv : d.dvs K = [] := by unfold DefA.dvs; rw [hdf]; rfl
  rw [hdv] at hD
  have hN : dV = .none := by
    rcases hD with ⟨_, e⟩ | ⟨e, _⟩
    · exact e
    · exact absurd rfl e
  subst hN
  refine FnR.imp (StX.fn_star (ps := []) (pv := pv) (sp := spC (cf K) c) lk hcd S StX.cxUp (fun us rest hu => ?_) (fun A outer s H vs Q E hr h => ?_)) fun vs H Q E h => ?_
  · have : us = [] := List.eq_nil_of_length_eq_zero hu
    subst this
    exact hbd kV doc pm an cdv ct rest
  · obtain ⟨G, args, sb, ha, nd, Qc, Ec, hc, hq, he⟩ := h
    have tk0 : Takes (cxOf (L2.CX P w) P w K mg base N d.qual d.scope (d.at_ K) cdv A outer s H E) (fun cls dd _ H' => E cls dd H') := takes_of rfl rfl rfl rfl
    have tk : Takes (cxOf (L2.CX P w) P w K mg base N d.qual d.scope (d.at_ K) cdv A outer s H E) (wOf (fxOf (cf K) G H args vs) (exnC args Ec)) := fun u s' ⟨a, B, sI, pins, σ, H', cls, dd, e, I, nb, up, sky, na, os, ag, G', Γ', xx, kk, xr, q⟩ => by
      obtain ⟨p, o1, o2⟩ := post_end ha kk
      exact tk0 u s' ⟨a, B, sI, pins, σ, H', cls, dd, e, I, nb, up, sky, na, os, ag, he xx _ cls dd H' G' q p o1 o2 xr⟩
    have D := hd (d.at_ K) cdv A outer s H E hr G H (argA args vs) (pinOf args vs) 0 none .byZero (exnC args Ec) tk PassesOwn.leaving rfl
    refine ⟨fun D' σ H1 => D' = { nx := fun _ H' => Q .non H', rt := Q } ∧ σ = L2.start N vs ∧ H1 = H, ⟨fun pins s1 σ H1 D' I ⟨e1, e2, e3⟩ => ?_⟩, rfl, rfl, rfl⟩
    subst e1; subst e2; subst e3
    refine thn (D.run pins s1 _ H1 G (startE N.length args) (endsC args Qc) I (ok_start sb ha nd) (hw args Qc Ec hc)) fun fl s2 z => ?_
    cases fl with
    | next =>
      obtain ⟨σ', H', I', Γ', G', q, i, kk⟩ := z
      obtain ⟨p, o1, o2⟩ := post_end ha kk
      exact ⟨σ', H', I', hq _ _ .non H' G' q p o1 o2 rfl⟩
    | ret u =>
      obtain ⟨v, σ', H', I', rv, dd, Γ', G', σ2, q, i, kk, rp⟩ := z
      obtain ⟨p, o1, o2⟩ := post_end ha kk
      exact ⟨v, σ', H', I', rv, hq _ _ v H' G' q p o1 o2 rp⟩
    | brk =>
      obtain ⟨σ', H', I', Γ', G', q, i, kk⟩ := z
      exact q.elim
    | cont =>
      obtain ⟨σ', H', I', Γ', G', q, i, kk⟩ := z
      exact q.elim
  · obtain ⟨hl, h⟩ := h
    exact ⟨[], vs, rfl, rfl, Nat.le_trans hl (by decide), fun p hp => h p hp⟩
end
end Q
set_option Elab.async false
set_option linter.all false
set_option maxRecDepth 100000
set_option maxHeartbeats 4000000
namespace Q
open PySem L2 PySem.Spec PyProof.Rows PySem.W
end Q
set_option Elab.async false
set_option linter.all false
set_option maxRecDepth 100000
set_option maxHeartbeats 4000000
namespace Q
open PySem L2 PySem.Spec PyProof.Rows
end Q
set_option Elab.async false
set_option linter.all false
set_option maxRecDepth 100000
set_option maxHeartbeats 4000000
namespace Q
open PySem L2 PySem.Spec PyProof.Rows He PySem.W
open He5 (DefA fnA)
def goF (g : Addr → Option Obj) : Nat → List Addr → List Addr → List Addr
  | 0, _, seen => seen
  | n + 1, fr, seen => (fun nw => goF g n nw (seen ++ nw)) ((fr.flatMap fun a => match g a with
    | some o => refsD o
    | none => []).eraseDups.filter fun a => !seen.contains a)
end Q
set_option Elab.async false
set_option linter.all false
set_option maxRecDepth 100000
set_option maxHeartbeats 4000000
namespace Q
open PySem L2 PySem.Spec PyProof.Rows
end Q
set_option Elab.async false
set_option linter.all false
set_option maxRecDepth 100000
set_option maxHeartbeats 4000000
namespace Q
open PySem L2 PySem.Spec PyProof.Rows
inductive HdsL (X : Cx) (F : Fx) : List ExceptHandler → List (Value × List (Cn × Bool) × QS) → Prop
  | nil : HdsL X F [] []
  | cons {x : Str} {cv : Value} {t : List (Cn × Bool)} {ts : QS} {b₀ : Stmt} {suite : List Stmt} {np pos' : Pos} {hds : List ExceptHandler} {l : List (Value × List (Cn × Bool) × QS)} (hc : Names X x cv) (T : ExmOk F.toCf cv t)
      (hsu : ∀ (a : Addr) (oe : Obj) (pn : List (Addr × Obj)), LSs (X.suite a ((a, oe) :: pn)) F (fun _ _ => False) (b₀ :: suite) ts) (r : HdsL X F hds l) :
      HdsL X F (.ExceptHandler (some (.Name x np)) none (b₀ :: suite) pos' :: hds) ((cv, t, ts) :: l)
def hdT (F : Fx) (l : List (Value × List (Cn × Bool) × QS)) : List (Value × (Addr → Value → Option Addr → TS)) := l.map fun p => (p.1, fun _ _ _ => tS F (fun _ _ => False) p.2.2)
section
variable {X : Cx} {F : Fx} {E : XP} {body : List Stmt} {h₀ : ExceptHandler} {hds : List ExceptHandler} {l : List (Value × List (Cn × Bool) × QS)} {pos : Pos} {tb : QS}
theorem HdsL.ok {hds : List ExceptHandler} {l : List (Value × List (Cn × Bool) × QS)} (h : HdsL X F hds l) : L2.HdsOk X hds (hdT F l) := by
  induction h with
  | nil => exact .nil
  | cons hc T hsu r ih => exact .cons hc (fun a oe cls d pn hz hv => (hsu a oe pn).ps) ih
end
end Q
namespace Q
open PySem L2 PySem.Spec PyProof.Rows
end Q
set_option Elab.async false
set_option linter.all false
set_option maxRecDepth 100000
set_option maxHeartbeats 4000000
namespace Q
open PySem L2 PySem.Spec PyProof.Rows He PySem.W
open He5 (DefA fnA)
def skB (es : List DictEntry) : Bool := es.all fun e => match e.key with
  | .str _ _ => true
  | _ => false
def nsB (K : Frag) (a : Addr) (xs : List Str) : Bool := match K.lookup a with
  | some ⟨_, _, .dict es _, _⟩ => skB es.toList && xs.all fun x => (nsFind es x).isNone
  | _ => false
theorem nsB_ok {K : Frag} {a : Addr} {xs : List Str} {h : Heap} (q : nsB K a xs = true) (hK : K.In h) : ∃ m, h.Ns a m ∧ ∀ x ∈ xs, m x = none := by
  unfold nsB at q
  split at q
  · rename_i c d es ep sl e
    obtain ⟨q1, q2⟩ := Bool.and_eq_true_iff.mp q
    refine ⟨nsFind es, ⟨_, es, ep, hK _ _ e, rfl, fun en hen => ?_, fun _ => rfl⟩, fun x hx => ?_⟩
    · have := List.all_eq_true.mp q1 en (Array.mem_toList_iff.mpr hen)
      revert this
      cases hk : en.key <;> intro this <;> first | exact ⟨_, _, rfl⟩ | cases this
    · exact Option.isNone_iff_eq_none.mp (List.all_eq_true.mp q2 x hx)
  · cases q
def bmB (K : Frag) : Bool := match nsIn K mainGlobals "__builtins__" with
  | some (some (.ref bm)) => (match K.lookup bm with
    | some o => (match o.cls with
      | .type n => n == "module"
      | _ => false) && o.dict == some builtinsNs
    | none => false)
  | _ => false
abbrev pPy (K : Frag) : Prop := nsB K cStatics ["sys.audit-hooks", "sys.dict"] = true ∧ nsB K sysModules ["_pylong"] = true ∧ bmB K = true
theorem pPy_seer {K : Frag} {mg : Str → Option Value} {base : Heap} (q : pPy K) (M : L2.Mod K mg base) : base.NoSeer := by
  obtain ⟨q1, q2, q3⟩ := q
  obtain ⟨mc, c1, c2⟩ := nsB_ok q1 M.kin
  obtain ⟨mm, d1, d2⟩ := nsB_ok q2 M.kin
  refine ⟨⟨mc, c1, c2 _ (by simp), c2 _ (by simp)⟩, ⟨mm, d1, d2 _ (by simp)⟩, M.blt, ?_⟩
  unfold bmB at q3
  split at q3
  · rename_i bm e
    split at q3
    · rename_i o eo
      obtain ⟨z1, z2⟩ := Bool.and_eq_true_iff.mp q3
      refine ⟨mg, bm, o, M.glob, PySem.W.mg_of M.kin M.glob e, M.kin _ _ eo, ?_, ?_⟩
      · split at z1
        · rename_i n en
          rw [en, beq_iff_eq.mp z1]
        · cases z1
      · exact beq_iff_eq.mp z2
    · cases q3
  · cases q3
/-- what a frame must hold that C's division may run in it -/
structure PyR (X : Cx) : Prop where
  k : pPy X.K
  t : X.prog.given.tree = none
  s : X.stack = X.env :: X.outer
  g : X.env.scope.isGenerator = false
  c : X.env.scope.isCoroutine = false
  d : X.A.depth + 100 < 1000
theorem PyR.room {X : Cx} (R : PyR X) {pins : List (Addr × Obj)} {σ : St} {H : Hp} {s : Shared} (I : Inv X pins σ H s) : PylongRoom (model X.prog X.w) X.A s := by
  have M := I.ok.mod
  have keep := I.bk
  have ns : s.heap.NoSeer := (pPy_seer R.k M).keeps keep
  have fr : X.A.frames = some (X.env :: X.outer) := by rw [I.ok.frames, R.s]
  exact PylongRoom.of (M.nolimit.keeps keep) R.d (SeerAt.of ns R.t fr R.g R.c I.ok.blt I.ok.glob)
theorem PyR.of {X : Cx} {k : Nat} (hk : 40 ≤ k) (hr : L2.Room k X.A) (q : pPy X.K) (hT : X.prog.given.tree = none) (hs : X.stack = X.env :: X.outer) (hg : X.env.scope.isGenerator = false) (hc : X.env.scope.isCoroutine = false) : PyR X := ⟨q, hT, hs, hg, hc, by
  have h := hr.dp
  have e : recursionLimit = 1000 := rfl
  omega⟩
def oDivP : O2 := fun d e Γ Q _ => match d, e with
  | .int i, .int j => j ≠ 0 ∧ Q (.int (i.fdiv j)) Γ
  | _, _ => False
theorem ol_divP {X : Cx} {F : Fx} {E : XP} (R : PyR X) : OpL X F E (binaryOp .FloorDiv) oDivP := by
  intro pins s σ H G Γ x y v u d e Q I k rv ru rx ry q
  cases d with
  | int i =>
    cases e with
    | int j =>
      cases (show x = .int i from rx)
      cases (show y = .int j from ry)
      obtain ⟨t, rfl⟩ := (show ∃ t, v = Value.int i t from rv)
      obtain ⟨t2, rfl⟩ := (show ∃ t, u = Value.int j t from ru)
      refine floordiv_int q.1 ?_ (.inr (R.room I))
      exact ⟨.int (i.fdiv j), H, I.kept (fun _ _ h => h), ⟨_, rfl⟩, fin0 (d := .int (i.fdiv j)) k q.2 rfl⟩
    | _ => exact q.elim
  | _ => exact q.elim
def asP (g : Addr → Option Obj) (n : Nat) : List Addr := goF g n [mainGlobals] [mainGlobals, cStatics, sysModules]
def obsPG (n : Nat) (fa : List DP) (fn : List DefA) (g : Addr → Option Obj) : AlD := obsQ fa fn (frG g (asP g n))
def hookP (n : Nat) (fa : List DP) (fn : List DefA) : Hook where
  α := AlD
  obs := fun s => obsPG n fa fn s.heap.get?
  val := fun _ => valA fn
  says := fun _ h => ∃ K : Frag, K.In h ∧ SaysQ fa fn K
  of := fun _ _ e => ⟨_, frG_in, e⟩
  keeps := fun _ _ _ ⟨K, hK, c⟩ k => ⟨K, Frag.In.keeps hK k, c⟩
theorem obsPG_eq {n : Nat} {fa : List DP} {fn : List DefA} {g : Addr → Option Obj} {s : Shared} (h : ∀ a, g a = s.heap.get? a) : obsPG n fa fn g = (hookP n fa fn).obs s := by
  have e : g = s.heap.get? := funext h
  rw [e] <;> rfl
end Q
set_option Elab.async false
set_option linter.all false
set_option maxRecDepth 100000
set_option maxHeartbeats 4000000
namespace K06
open PySem L2 PySem.Spec PyProof.Rows He PySem.W Q
abbrev PR : Program := PySem.Challenge.pw_filterorders_k06_divided_polynomials
def top (i : Nat) : Stmt := PR.main.body.getD i (.Pass ⟨0, 0, 0, 0⟩)
def meth (i j : Nat) : Stmt := match top i with
  | .ClassDef _ _ _ b _ _ _ _ _ _ _ => b.getD j (.Pass ⟨0, 0, 0, 0⟩)
  | s => s
def isa_int : IsaT := { bl := true, int := true, own := [(.ratio, false), (.poly, false)] }
def isa_bool : IsaT := { bl := true, own := [(.ratio, false), (.poly, false)] }
def isa_tuple : IsaT := { tup := true, own := [(.ratio, false), (.poly, false)] }
def isa_Ratio : IsaT := { own := [(.ratio, true), (.poly, false)] }
def isa_Polynomial : IsaT := { own := [(.ratio, false), (.poly, true)] }
def exm_ByZero : List (Cn × Bool) := [(.byZero, true)]
def exm_ZeroPolynomial : List (Cn × Bool) := [(.zeroPolynomial, true)]
def cmt : CmpT := { blt := true, own := [.ratio, .poly] }
abbrev s_ByZero_uinitu : Stmt := (meth 3 0)
def d_ByZero_uinitu : He5.DefA := ⟨fun K => fAd K ("ByZero", some "__init__"), "__init__", "ByZero.__init__", defArgs s_ByZero_uinitu, defBody s_ByZero_uinitu, defScope s_ByZero_uinitu, [], []⟩
abbrev s_BadNumber_uinitu : Stmt := (meth 4 0)
def d_BadNumber_uinitu : He5.DefA := ⟨fun K => fAd K ("BadNumber", some "__init__"), "__init__", "BadNumber.__init__", defArgs s_BadNumber_uinitu, defBody s_BadNumber_uinitu, defScope s_BadNumber_uinitu, [], []⟩
abbrev s_ZeroPolynomial_uinitu : Stmt := (meth 6 0)
def d_ZeroPolynomial_uinitu : He5.DefA := ⟨fun K => fAd K ("ZeroPolynomial", some "__init__"), "__init__", "ZeroPolynomial.__init__", defArgs s_ZeroPolynomial_uinitu, defBody s_ZeroPolynomial_uinitu, defScope s_ZeroPolynomial_uinitu, [], []⟩
abbrev s_is_integer : Stmt := (top 8)
def d_is_integer : He5.DefA := ⟨fun K => fAd K ("is_integer", none), "is_integer", "is_integer", defArgs s_is_integer, defBody s_is_integer, defScope s_is_integer, [], []⟩
abbrev s_greatest : Stmt := (top 9)
def d_greatest : He5.DefA := ⟨fun K => fAd K ("greatest", none), "greatest", "greatest", defArgs s_greatest, defBody s_greatest, defScope s_greatest, [], []⟩
abbrev s_parts : Stmt := (top 10)
def d_parts : He5.DefA := ⟨fun K => fAd K ("parts", none), "parts", "parts", defArgs s_parts, defBody s_parts, defScope s_parts, [], []⟩
abbrev s_checked : Stmt := (top 11)
def d_checked : He5.DefA := ⟨fun K => fAd K ("checked", none), "checked", "checked", defArgs s_checked, defBody s_checked, defScope s_checked, [], []⟩
abbrev s_Ratio_uinitu : Stmt := (meth 12 0)
def d_Ratio_uinitu : He5.DefA := ⟨fun K => fAd K ("Ratio", some "__init__"), "__init__", "Ratio.__init__", defArgs s_Ratio_uinitu, defBody s_Ratio_uinitu, defScope s_Ratio_uinitu, [.int 1], []⟩
abbrev s_Ratio_uaddu : Stmt := (meth 12 2)
def d_Ratio_uaddu : He5.DefA := ⟨fun K => fAd K ("Ratio", some "__add__"), "__add__", "Ratio.__add__", defArgs s_Ratio_uaddu, defBody s_Ratio_uaddu, defScope s_Ratio_uaddu, [], []⟩
abbrev s_Ratio_usubu : Stmt := (meth 12 3)
def d_Ratio_usubu : He5.DefA := ⟨fun K => fAd K ("Ratio", some "__sub__"), "__sub__", "Ratio.__sub__", defArgs s_Ratio_usubu, defBody s_Ratio_usubu, defScope s_Ratio_usubu, [], []⟩
abbrev s_Ratio_umulu : Stmt := (meth 12 4)
def d_Ratio_umulu : He5.DefA := ⟨fun K => fAd K ("Ratio", some "__mul__"), "__mul__", "Ratio.__mul__", defArgs s_Ratio_umulu, defBody s_Ratio_umulu, defScope s_Ratio_umulu, [], []⟩
abbrev s_Ratio_unegu : Stmt := (meth 12 5)
def d_Ratio_unegu : He5.DefA := ⟨fun K => fAd K ("Ratio", some "__neg__"), "__neg__", "Ratio.__neg__", defArgs s_Ratio_unegu, defBody s_Ratio_unegu, defScope s_Ratio_unegu, [], []⟩
abbrev s_Ratio_uequ : Stmt := (meth 12 6)
def d_Ratio_uequ : He5.DefA := ⟨fun K => fAd K ("Ratio", some "__eq__"), "__eq__", "Ratio.__eq__", defArgs s_Ratio_uequ, defBody s_Ratio_uequ, defScope s_Ratio_uequ, [], []⟩
abbrev s_Ratio_over : Stmt := (meth 12 9)
def d_Ratio_over : He5.DefA := ⟨fun K => fAd K ("Ratio", some "over"), "over", "Ratio.over", defArgs s_Ratio_over, defBody s_Ratio_over, defScope s_Ratio_over, [], []⟩
abbrev s_as_ratio : Stmt := (top 14)
def d_as_ratio : He5.DefA := ⟨fun K => fAd K ("as_ratio", none), "as_ratio", "as_ratio", defArgs s_as_ratio, defBody s_as_ratio, defScope s_as_ratio, [], []⟩
abbrev s_shortened : Stmt := (top 16)
def d_shortened : He5.DefA := ⟨fun K => fAd K ("shortened", none), "shortened", "shortened", defArgs s_shortened, defBody s_shortened, defScope s_shortened, [], []⟩
abbrev s_Polynomial_uinitu : Stmt := (meth 17 0)
def d_Polynomial_uinitu : He5.DefA := ⟨fun K => fAd K ("Polynomial", some "__init__"), "__init__", "Polynomial.__init__", defArgs s_Polynomial_uinitu, defBody s_Polynomial_uinitu, defScope s_Polynomial_uinitu, [], []⟩
abbrev s_Polynomial_terms : Stmt := (meth 17 1)
def d_Polynomial_terms : He5.DefA := ⟨fun K => fAd K ("Polynomial", some "terms"), "terms", "Polynomial.terms", defArgs s_Polynomial_terms, defBody s_Polynomial_terms, defScope s_Polynomial_terms, [], []⟩
abbrev s_Polynomial_ulenu : Stmt := (meth 17 2)
def d_Polynomial_ulenu : He5.DefA := ⟨fun K => fAd K ("Polynomial", some "__len__"), "__len__", "Polynomial.__len__", defArgs s_Polynomial_ulenu, defBody s_Polynomial_ulenu, defScope s_Polynomial_ulenu, [], []⟩
abbrev s_Polynomial_uequ : Stmt := (meth 17 3)
def d_Polynomial_uequ : He5.DefA := ⟨fun K => fAd K ("Polynomial", some "__eq__"), "__eq__", "Polynomial.__eq__", defArgs s_Polynomial_uequ, defBody s_Polynomial_uequ, defScope s_Polynomial_uequ, [], []⟩
abbrev s_term_at : Stmt := (top 18)
def d_term_at : He5.DefA := ⟨fun K => fAd K ("term_at", none), "term_at", "term_at", defArgs s_term_at, defBody s_term_at, defScope s_term_at, [], []⟩
abbrev s_Polynomial_uaddu : Stmt := (meth 17 4)
def d_Polynomial_uaddu : He5.DefA := ⟨fun K => fAd K ("Polynomial", some "__add__"), "__add__", "Polynomial.__add__", defArgs s_Polynomial_uaddu, defBody s_Polynomial_uaddu, defScope s_Polynomial_uaddu, [], []⟩
abbrev s_Polynomial_usubu : Stmt := (meth 17 5)
def d_Polynomial_usubu : He5.DefA := ⟨fun K => fAd K ("Polynomial", some "__sub__"), "__sub__", "Polynomial.__sub__", defArgs s_Polynomial_usubu, defBody s_Polynomial_usubu, defScope s_Polynomial_usubu, [], []⟩
abbrev s_folded : Stmt := (top 19)
def d_folded : He5.DefA := ⟨fun K => fAd K ("folded", none), "folded", "folded", defArgs s_folded, defBody s_folded, defScope s_folded, [], []⟩
abbrev s_Polynomial_umulu : Stmt := (meth 17 7)
def d_Polynomial_umulu : He5.DefA := ⟨fun K => fAd K ("Polynomial", some "__mul__"), "__mul__", "Polynomial.__mul__", defArgs s_Polynomial_umulu, defBody s_Polynomial_umulu, defScope s_Polynomial_umulu, [], []⟩
abbrev s_Polynomial_slope : Stmt := (meth 17 9)
def d_Polynomial_slope : He5.DefA := ⟨fun K => fAd K ("Polynomial", some "slope"), "slope", "Polynomial.slope", defArgs s_Polynomial_slope, defBody s_Polynomial_slope, defScope s_Polynomial_slope, [], []⟩
abbrev s_Polynomial_parted : Stmt := (meth 17 10)
def d_Polynomial_parted : He5.DefA := ⟨fun K => fAd K ("Polynomial", some "parted"), "parted", "Polynomial.parted", defArgs s_Polynomial_parted, defBody s_Polynomial_parted, defScope s_Polynomial_parted, [], []⟩
abbrev s_scaled : Stmt := (top 20)
def d_scaled : He5.DefA := ⟨fun K => fAd K ("scaled", none), "scaled", "scaled", defArgs s_scaled, defBody s_scaled, defScope s_scaled, [], []⟩
abbrev s_levelled : Stmt := (top 21)
def d_levelled : He5.DefA := ⟨fun K => fAd K ("levelled", none), "levelled", "levelled", defArgs s_levelled, defBody s_levelled, defScope s_levelled, [], []⟩
abbrev s_common : Stmt := (top 22)
def d_common : He5.DefA := ⟨fun K => fAd K ("common", none), "common", "common", defArgs s_common, defBody s_common, defScope s_common, [], []⟩
abbrev s_single : Stmt := (top 23)
def d_single : He5.DefA := ⟨fun K => fAd K ("single", none), "single", "single", defArgs s_single, defBody s_single, defScope s_single, [], []⟩
abbrev s__law_cell : Stmt := (top 25)
def d__law_cell : He5.DefA := ⟨fun K => fAd K ("_law_cell", none), "_law_cell", "_law_cell", defArgs s__law_cell, defBody s__law_cell, defScope s__law_cell, [], []⟩
abbrev s__law_box : Stmt := (top 26)
def d__law_box : He5.DefA := ⟨fun K => fAd K ("_law_box", none), "_law_box", "_law_box", defArgs s__law_box, defBody s__law_box, defScope s__law_box, [], []⟩
abbrev s__law_take : Stmt := (top 27)
def d__law_take : He5.DefA := ⟨fun K => fAd K ("_law_take", none), "_law_take", "_law_take", defArgs s__law_take, defBody s__law_take, defScope s__law_take, [], []⟩
abbrev s__law_frac : Stmt := (top 28)
def d__law_frac : He5.DefA := ⟨fun K => fAd K ("_law_frac", none), "_law_frac", "_law_frac", defArgs s__law_frac, defBody s__law_frac, defScope s__law_frac, [], []⟩
abbrev s__law_plus : Stmt := (top 29)
def d__law_plus : He5.DefA := ⟨fun K => fAd K ("_law_plus", none), "_law_plus", "_law_plus", defArgs s__law_plus, defBody s__law_plus, defScope s__law_plus, [], []⟩
abbrev s__law_times : Stmt := (top 30)
def d__law_times : He5.DefA := ⟨fun K => fAd K ("_law_times", none), "_law_times", "_law_times", defArgs s__law_times, defBody s__law_times, defScope s__law_times, [], []⟩
abbrev s__law_minus : Stmt := (top 31)
def d__law_minus : He5.DefA := ⟨fun K => fAd K ("_law_minus", none), "_law_minus", "_law_minus", defArgs s__law_minus, defBody s__law_minus, defScope s__law_minus, [], []⟩
abbrev s__law_number : Stmt := (top 33)
def d__law_number : He5.DefA := ⟨fun K => fAd K ("_law_number", none), "_law_number", "_law_number", defArgs s__law_number, defBody s__law_number, defScope s__law_number, [], []⟩
abbrev s__law_trimmed : Stmt := (top 36)
def d__law_trimmed : He5.DefA := ⟨fun K => fAd K ("_law_trimmed", none), "_law_trimmed", "_law_trimmed", defArgs s__law_trimmed, defBody s__law_trimmed, defScope s__law_trimmed, [], []⟩
abbrev s__law_product : Stmt := (top 38)
def d__law_product : He5.DefA := ⟨fun K => fAd K ("_law_product", none), "_law_product", "_law_product", defArgs s__law_product, defBody s__law_product, defScope s__law_product, [], []⟩
abbrev s__law_made : Stmt := (top 40)
def d__law_made : He5.DefA := ⟨fun K => fAd K ("_law_made", none), "_law_made", "_law_made", defArgs s__law_made, defBody s__law_made, defScope s__law_made, [], []⟩
abbrev s__law_factors : Stmt := (top 42)
def d__law_factors : He5.DefA := ⟨fun K => fAd K ("_law_factors", none), "_law_factors", "_law_factors", defArgs s__law_factors, defBody s__law_factors, defScope s__law_factors, [], []⟩
abbrev s__law_powered : Stmt := (top 43)
def d__law_powered : He5.DefA := ⟨fun K => fAd K ("_law_powered", none), "_law_powered", "_law_powered", defArgs s__law_powered, defBody s__law_powered, defScope s__law_powered, [], []⟩
abbrev s__law_least : Stmt := (top 44)
def d__law_least : He5.DefA := ⟨fun K => fAd K ("_law_least", none), "_law_least", "_law_least", defArgs s__law_least, defBody s__law_least, defScope s__law_least, [], []⟩
abbrev s__law_zero : Stmt := (top 45)
def d__law_zero : He5.DefA := ⟨fun K => fAd K ("_law_zero", none), "_law_zero", "_law_zero", defArgs s__law_zero, defBody s__law_zero, defScope s__law_zero, [], []⟩
abbrev s__law_parted : Stmt := (top 46)
def d__law_parted : He5.DefA := ⟨fun K => fAd K ("_law_parted", none), "_law_parted", "_law_parted", defArgs s__law_parted, defBody s__law_parted, defScope s__law_parted, [], []⟩
abbrev s_law : Stmt := (top 47)
def d_law : He5.DefA := ⟨fun K => fAd K ("law", none), "law", "law", defArgs s_law, defBody s_law, defScope s_law, [], []⟩
def fn : List He5.DefA := [d_is_integer, d_greatest, d_parts, d_checked, d_Ratio_uinitu, d_Ratio_uaddu, d_Ratio_usubu, d_Ratio_umulu, d_Ratio_unegu, d_Ratio_uequ, d_Ratio_over, d_as_ratio, d_shortened, d_Polynomial_uinitu, d_Polynomial_terms, d_Polynomial_ulenu, d_Polynomial_uequ, d_term_at, d_Polynomial_uaddu, d_Polynomial_usubu, d_folded, d_Polynomial_umulu, d_Polynomial_slope, d_Polynomial_parted, d_scaled, d_levelled, d_common, d_single, d__law_cell, d__law_box, d__law_take, d__law_frac, d__law_plus, d__law_times, d__law_minus, d__law_number, d__law_trimmed, d__law_product, d__law_made, d__law_factors, d__law_powered, d__law_least, d__law_zero, d__law_parted, d_law, d_ByZero_uinitu, d_BadNumber_uinitu, d_ZeroPolynomial_uinitu]
def fa : List DP := [dp (pFree "isinstance"),
  dp (pFree "int"),
  dp (pFree "bool"),
  dp (pFree "abs"),
  dp (pFree "max"),
  dp (pFree "min"),
  dp (pFree "len"),
  dp (pFree "range"),
  dp (pFree "list"),
  dp (pFree "tuple"),
  dp (pFree "enumerate"),
  dp (pFree "zip"),
  dp (pGlo "is_integer"),
  dp (pGlo "greatest"),
  dp (pGlo "parts"),
  dp (pGlo "checked"),
  dp (pGlo "as_ratio"),
  dp (pGlo "shortened"),
  dp (pGlo "term_at"),
  dp (pGlo "folded"),
  dp (pGlo "scaled"),
  dp (pGlo "levelled"),
  dp (pGlo "common"),
  dp (pGlo "single"),
  dp (pGlo "_law_cell"),
  dp (pGlo "_law_box"),
  dp (pGlo "_law_take"),
  dp (pGlo "_law_frac"),
  dp (pGlo "_law_plus"),
  dp (pGlo "_law_times"),
  dp (pGlo "_law_minus"),
  dp (pGlo "_law_number"),
  dp (pGlo "_law_trimmed"),
  dp (pGlo "_law_product"),
  dp (pGlo "_law_made"),
  dp (pGlo "_law_factors"),
  dp (pGlo "_law_powered"),
  dp (pGlo "_law_least"),
  dp (pGlo "_law_zero"),
  dp (pGlo "_law_parted"),
  dp (pGlo "law"),
  dp (pGlo "FilterError"),
  dp (pGlo "ByZero"),
  dp (pGlo "BadNumber"),
  dp (pGlo "ZeroPolynomial"),
  dp (pGlo "Ratio"),
  dp (pGlo "Polynomial"),
  dp (pCls .ratio),
  dp (pNo .ratio "top"),
  dp (pNo .ratio "bottom"),
  dp (pMk .ratio),
  dp (pFirst .ratio),
  dp (pMeth .ratio "__add__"),
  dp (pOpT .ratio .Add "int"),
  dp (pMeth .ratio "__sub__"),
  dp (pOpT .ratio .Sub "int"),
  dp (pMeth .ratio "__mul__"),
  dp (pOpT .ratio .Mult "int"),
  dp (pMeth .ratio "__neg__"),
  dp (pMeth .ratio "__eq__"),
  dp (pNe .ratio),
  dp (pNF .ratio [.ratio, .poly]),
  dp (pMeth .ratio "over"),
  dp (pCls .poly),
  dp (pNo .poly "kept"),
  dp (pMk .poly),
  dp (pFirst .poly),
  dp (pMeth .poly "terms"),
  dp (pMeth .poly "__len__"),
  dp (pMeth .poly "__eq__"),
  dp (pNe .poly),
  dp (pNF .poly [.ratio, .poly]),
  dp (pMeth .poly "__add__"),
  dp (pMeth .poly "__sub__"),
  dp (pMeth .poly "__mul__"),
  dp (pMeth .poly "slope"),
  dp (pMeth .poly "parted"),
  dp (pIsa [.ty "int"] isa_int),
  dp (pIsa [.ty "bool"] isa_bool),
  dp (pIsa [.ty "tuple"] isa_tuple),
  dp (pIsa [.own .ratio] isa_Ratio),
  dp (pIsa [.own .poly] isa_Polynomial),
  dp (pErrB),
  dp (pErr .byZero),
  dp (pExm .byZero exm_ByZero),
  dp (pErr .badNumber),
  dp (pNo .badNumber "given"),
  dp (pErr .zeroPolynomial),
  dp (pExm .zeroPolynomial exm_ZeroPolynomial),
  dp (pPy)]
abbrev R : PySem.W.OpenRow := PySem.W.OpenLaw.row PySem.Challenge.rw_filterorders_k06_divided_polynomials
abbrev hk : PySem.W.Hook := hookP 5 fa fn
def ob (s : PySem.W.SharedT) : AlD := obsPG 5 fa fn (HandSHeadRun.getT s)
theorem ob_eq (s : PySem.W.SharedT) : ob s = hk.obs s.abs := obsPG_eq (HandSHeadRun.getT_eq s)
def loose : List Str := "_wall" :: "FilterError" :: "ByZero" :: "BadNumber" :: "BadText" :: "ZeroPolynomial" :: "is_integer" :: "greatest" :: "parts" :: "checked" :: "Ratio" :: "read_integer" :: "as_ratio" :: "shortened" :: "Polynomial" :: "term_at" :: "folded" :: "scaled" :: "levelled" :: "common" :: "single" :: "_law_cell" :: "_law_box" :: "_law_take" :: "_law_frac" :: "_law_plus" :: "_law_times" :: "_law_minus" :: "_law_less" :: "_law_number" :: "_law_handed" :: "_law_told" :: "_law_trimmed" :: "_law_sum" :: "_law_product" :: "_law_at" :: "_law_made" :: "_law_terms" :: "_law_factors" :: "_law_powered" :: "_law_least" :: "_law_zero" :: "_law_parted" :: []
theorem map3 {α β γ δ : Type} {x : Option α} {f : α → β} {g : α → γ} {h : α → δ} {b : β} {c : γ} {d : δ} (h1 : x.map f = some b) (h2 : x.map g = some c) (h3 : x.map h = some d) : x.map (fun s => (f s, g s, h s)) = some (b, c, d) := by
  cases x with
  | none => cases h1
  | some s =>
    cases h1
    cases h2
    cases h3
    rfl
open PySem PySem.W HandSHeadRun in
theorem run1 (w : World) : ∀ os : OsState, (HandSHeadRun.endF (HandSHeadRun.stepQ (HandSHeadRun.denQ HandSHeadRun.tabQ) R.prog w) 12000 R.prog w os).map (fun s => looksF R.prog (boot_heap w.params) s.abs) = some true := by
  intro os
  kernel_rfl
open PySem PySem.W HandSHeadRun in
theorem run2 (w : World) : ∀ os : OsState, (HandSHeadRun.endF (HandSHeadRun.stepQ (HandSHeadRun.denQ HandSHeadRun.tabQ) R.prog w) 12000 R.prog w os).map (fun s => seenQ (PySem.W.view R.prog [47]) loose (importedModules R.prog.main.body) (fun s => xlAt (PySem.W.view R.prog [47]) [] s && recOk R.toRowW.records s) s.abs) = some (openGood (PySem.W.view R.prog [47]) loose) := by
  intro os
  kernel_rfl
theorem map3b {α γ : Type} {x : Option α} {f g : α → Bool} {h : α → γ} {d : γ} (h1 : x.map f = some true) (h2 : x.map g = some true) (h3 : x.map h = some d) : x.map (fun s => ((f s && g s), h s)) = some (true, d) := by
  cases x with
  | none => cases h1
  | some s =>
    have e1 := Option.some.inj h1
    have e2 := Option.some.inj h2
    have e3 := Option.some.inj h3
    show some ((f s && g s), h s) = some (true, d)
    rw [e1, e2, e3] <;> rfl
def frag (s : PySem.W.SharedT) : PySem.W.Frag := frG (HandSHeadRun.getT s) (asP (HandSHeadRun.getT s) 5)
theorem all_cut {α β : Type} {x : Option α} {p : α → β → Bool} (k : Nat) {l : List β} (h1 : x.map (fun s => (l.take k).all fun d => p s d) = some true) (h2 : x.map (fun s => (l.drop k).all fun d => p s d) = some true) : x.map (fun s => l.all fun d => p s d) = some true := by
  cases x with
  | none => cases h1
  | some s =>
    have e1 : ((l.take k).all fun d => p s d) = true := Option.some.inj h1
    have e2 : ((l.drop k).all fun d => p s d) = true := Option.some.inj h2
    have e : (l.all fun d => p s d) = true := by rw [← List.take_append_drop k l, List.all_append, e1, e2] <;> rfl
    exact congrArg some e
theorem map_cut {α β γ : Type} {x : Option α} {f : α → β → γ} {g : β → γ} (k : Nat) {l : List β} (h1 : x.map (fun s => (l.take k).map fun d => f s d) = some ((l.take k).map g)) (h2 : x.map (fun s => (l.drop k).map fun d => f s d) = some ((l.drop k).map g)) : x.map (fun s => l.map fun d => f s d) = some (l.map g) := by
  cases x with
  | none => cases h1
  | some s =>
    have e1 : ((l.take k).map fun d => f s d) = (l.take k).map g := Option.some.inj h1
    have e2 : ((l.drop k).map fun d => f s d) = (l.drop k).map g := Option.some.inj h2
    have e : (l.map fun d => f s d) = l.map g := by rw [← List.take_append_drop k l, List.map_append, List.map_append, e1, e2]
    exact congrArg some e
open PySem PySem.W HandSHeadRun in
theorem run3a_0 (w : World) : ∀ os : OsState, (HandSHeadRun.endF (HandSHeadRun.stepQ (HandSHeadRun.denQ HandSHeadRun.tabQ) R.prog w) 12000 R.prog w os).map (fun s => (fa.take 30).all fun d => d.b (frag s)) = some true := by
  intro os
  kernel_rfl
open PySem PySem.W HandSHeadRun in
theorem run3a_1 (w : World) : ∀ os : OsState, (HandSHeadRun.endF (HandSHeadRun.stepQ (HandSHeadRun.denQ HandSHeadRun.tabQ) R.prog w) 12000 R.prog w os).map (fun s => ((fa.drop 30).take 30).all fun d => d.b (frag s)) = some true := by
  intro os
  kernel_rfl
open PySem PySem.W HandSHeadRun in
theorem run3a_2 (w : World) : ∀ os : OsState, (HandSHeadRun.endF (HandSHeadRun.stepQ (HandSHeadRun.denQ HandSHeadRun.tabQ) R.prog w) 12000 R.prog w os).map (fun s => ((fa.drop 30).drop 30).all fun d => d.b (frag s)) = some true := by
  intro os
  kernel_rfl
theorem run3a (w : World) : ∀ os : OsState, (HandSHeadRun.endF (HandSHeadRun.stepQ (HandSHeadRun.denQ HandSHeadRun.tabQ) R.prog w) 12000 R.prog w os).map (fun s => fa.all fun d => d.b (frag s)) = some true := fun os => all_cut 30 (run3a_0 w os) (all_cut 30 (run3a_1 w os) (run3a_2 w os))
open PySem PySem.W HandSHeadRun in
theorem run3b_0 (w : World) : ∀ os : OsState, (HandSHeadRun.endF (HandSHeadRun.stepQ (HandSHeadRun.denQ HandSHeadRun.tabQ) R.prog w) 12000 R.prog w os).map (fun s => (fn.take 12).all fun d => d.ok (frag s)) = some true := by
  intro os
  kernel_rfl
open PySem PySem.W HandSHeadRun in
theorem run3b_1 (w : World) : ∀ os : OsState, (HandSHeadRun.endF (HandSHeadRun.stepQ (HandSHeadRun.denQ HandSHeadRun.tabQ) R.prog w) 12000 R.prog w os).map (fun s => ((fn.drop 12).take 12).all fun d => d.ok (frag s)) = some true := by
  intro os
  kernel_rfl
open PySem PySem.W HandSHeadRun in
theorem run3b_2 (w : World) : ∀ os : OsState, (HandSHeadRun.endF (HandSHeadRun.stepQ (HandSHeadRun.denQ HandSHeadRun.tabQ) R.prog w) 12000 R.prog w os).map (fun s => (((fn.drop 12).drop 12).take 12).all fun d => d.ok (frag s)) = some true := by
  intro os
  kernel_rfl
open PySem PySem.W HandSHeadRun in
theorem run3b_3 (w : World) : ∀ os : OsState, (HandSHeadRun.endF (HandSHeadRun.stepQ (HandSHeadRun.denQ HandSHeadRun.tabQ) R.prog w) 12000 R.prog w os).map (fun s => (((fn.drop 12).drop 12).drop 12).all fun d => d.ok (frag s)) = some true := by
  intro os
  kernel_rfl
theorem run3b (w : World) : ∀ os : OsState, (HandSHeadRun.endF (HandSHeadRun.stepQ (HandSHeadRun.denQ HandSHeadRun.tabQ) R.prog w) 12000 R.prog w os).map (fun s => fn.all fun d => d.ok (frag s)) = some true := fun os => all_cut 12 (run3b_0 w os) (all_cut 12 (run3b_1 w os) (all_cut 12 (run3b_2 w os) (run3b_3 w os)))
open PySem PySem.W HandSHeadRun in
theorem run3c_0 (w : World) : ∀ os : OsState, (HandSHeadRun.endF (HandSHeadRun.stepQ (HandSHeadRun.denQ HandSHeadRun.tabQ) R.prog w) 12000 R.prog w os).map (fun s => (fn.take 24).map fun d => He5.fnA (frag s) (d.at_ (frag s))) = some ((fn.take 24).map He5.DefA.val) := by
  intro os
  kernel_rfl
open PySem PySem.W HandSHeadRun in
theorem run3c_1 (w : World) : ∀ os : OsState, (HandSHeadRun.endF (HandSHeadRun.stepQ (HandSHeadRun.denQ HandSHeadRun.tabQ) R.prog w) 12000 R.prog w os).map (fun s => (fn.drop 24).map fun d => He5.fnA (frag s) (d.at_ (frag s))) = some ((fn.drop 24).map He5.DefA.val) := by
  intro os
  kernel_rfl
theorem run3c (w : World) : ∀ os : OsState, (HandSHeadRun.endF (HandSHeadRun.stepQ (HandSHeadRun.denQ HandSHeadRun.tabQ) R.prog w) 12000 R.prog w os).map (fun s => fn.map fun d => He5.fnA (frag s) (d.at_ (frag s))) = some (fn.map He5.DefA.val) := fun os => map_cut 24 (run3c_0 w os) (run3c_1 w os)
open PySem PySem.W HandSHeadRun in
theorem run3 (w : World) : ∀ os : OsState, (HandSHeadRun.endF (HandSHeadRun.stepQ (HandSHeadRun.denQ HandSHeadRun.tabQ) R.prog w) 12000 R.prog w os).map (fun s => ob s) = some (hk.val w) := fun os => map3b (run3a w os) (run3b w os) (run3c w os)
theorem run (w : World) : HandSHeadRun.RunEq R (PySem.W.view R.prog [47]) hk ob 12000 loose w := fun os => map3 (run1 w os) (run2 w os) (run3 w os)
end K06
set_option Elab.async false
set_option linter.all false
set_option maxRecDepth 100000
set_option maxHeartbeats 4000000
namespace Q
open PySem L2 TL PySem.NumText
end Q
set_option Elab.async false
set_option linter.all false
set_option maxRecDepth 100000
set_option maxHeartbeats 4000000
namespace Q
open PySem L2
def cf0 (qs : List Rat) (k : Nat) : Rat := qs.getD k 0
theorem cf0_nil (k : Nat) : cf0 [] k = 0 := by simp [cf0]
theorem cf0_zero (q : Rat) (qs : List Rat) : cf0 (q :: qs) 0 = q := by simp [cf0]
theorem cf0_succ (q : Rat) (qs : List Rat) (k : Nat) : cf0 (q :: qs) (k + 1) = cf0 qs k := by simp [cf0]
theorem cf0_lt {qs : List Rat} {k : Nat} (h : k < qs.length) : cf0 qs k = qs[k] := by simp [cf0, h]
theorem cf0_ge {qs : List Rat} {k : Nat} (h : qs.length ≤ k) : cf0 qs k = 0 := by simp [cf0, h]
/-- without zeros at the end -/
def trimR : List Rat → List Rat
  | [] => []
  | q :: qs => match trimR qs with
    | [] => if q = 0 then [] else [q]
    | r :: rs => q :: r :: rs
theorem trim_cf : ∀ (qs : List Rat) (k : Nat), cf0 (trimR qs) k = cf0 qs k
  | [], k => rfl
  | q :: qs, k => by
    have ih := trim_cf qs
    unfold trimR
    cases h : trimR qs with
    | nil =>
      rw [h] at ih
      by_cases hq : q = 0
      · simp only [hq, if_true]
        cases k with
        | zero => rw [cf0_zero, cf0_nil]
        | succ k => rw [cf0_succ, ← ih k, cf0_nil, cf0_nil]
      · simp only [hq, if_false]
        cases k with
        | zero => rw [cf0_zero, cf0_zero]
        | succ k => rw [cf0_succ, cf0_succ, ← ih k]
    | cons r rs =>
      rw [h] at ih
      cases k with
      | zero => rw [cf0_zero, cf0_zero]
      | succ k => show cf0 (q :: r :: rs) (k + 1) = _; rw [cf0_succ, cf0_succ, ← ih k]
theorem trim_nil_of : ∀ (qs : List Rat), (∀ k, cf0 qs k = 0) → trimR qs = []
  | [], _ => rfl
  | q :: qs, h => by
    have h0 := h 0
    rw [cf0_zero] at h0
    have ih := trim_nil_of qs fun k => by have := h (k + 1); rwa [cf0_succ] at this
    unfold trimR
    rw [ih]
    simp [h0]
theorem trim_ext : ∀ (as bs : List Rat), (∀ k, cf0 as k = cf0 bs k) → trimR as = trimR bs
  | [], bs, h => (trim_nil_of bs fun k => by rw [← h k, cf0_nil]).symm
  | as, [], h => trim_nil_of as fun k => by rw [h k, cf0_nil]
  | a :: as, b :: bs, h => by
    have h0 := h 0
    rw [cf0_zero, cf0_zero] at h0
    have ih := trim_ext as bs fun k => by have := h (k + 1); rwa [cf0_succ, cf0_succ] at this
    subst h0
    unfold trimR
    rw [ih]
theorem trim_trim (as : List Rat) : trimR (trimR as) = trimR as := trim_ext _ _ (trim_cf as)
theorem trim_len : ∀ (qs : List Rat), (trimR qs).length ≤ qs.length
  | [] => Nat.le_refl _
  | q :: qs => by
    have ih := trim_len qs
    unfold trimR
    cases h : trimR qs with
    | nil =>
      by_cases hq : q = 0
      · simp [hq]
      · simp [hq]
    | cons r rs => rw [h] at ih; simpa using ih
theorem trim_mem : ∀ {qs : List Rat} {q : Rat}, q ∈ trimR qs → q ∈ qs
  | [], q, h => h
  | p :: qs, q, h => by
    unfold trimR at h
    cases e : trimR qs with
    | nil =>
      rw [e] at h
      by_cases hq : p = 0
      · simp [hq] at h
      · simp [hq] at h; simp [h]
    | cons r rs =>
      rw [e] at h
      rcases List.mem_cons.mp h with z | z
      · simp [z]
      · rw [← e] at z
        exact List.mem_cons_of_mem _ (trim_mem z)
/-- the last item is no zero: nothing to trim -/
theorem trim_take {qs : List Rat} {l : Nat} (hl : l ≤ qs.length) (hz : ∀ k, l ≤ k → cf0 qs k = 0) (hn : l = 0 ∨ cf0 qs (l - 1) ≠ 0) : trimR qs = qs.take l := by
  have e1 : ∀ k, cf0 (qs.take l) k = cf0 qs k := fun k => by
    by_cases h : k < l
    · unfold cf0
      simp [List.getD_eq_getElem?_getD, List.getElem?_take, h]
    · rw [hz k (by omega), cf0_ge (by simp; omega)]
  rw [trim_ext qs (qs.take l) fun k => (e1 k).symm]
  have key : ∀ (as : List Rat), (as = [] ∨ cf0 as (as.length - 1) ≠ 0) → trimR as = as := by
    intro as
    induction as with
    | nil => intro _; rfl
    | cons a as ih =>
      intro h
      rcases h with h | h
      · cases h
      · unfold trimR
        cases as with
        | nil =>
          have : a ≠ 0 := by simpa [cf0] using h
          simp [trimR, this]
        | cons b bs =>
          rw [ih (.inr (by simpa [cf0] using h))]
  refine key _ ?_
  rcases hn with rfl | hn
  · exact .inl (by simp)
  · refine .inr ?_
    have : (qs.take l).length = l := by simp; omega
    rw [this, e1]
    exact hn
def addL (ps qs : List Rat) : List Rat := (List.range (if qs.length < ps.length then ps.length else qs.length)).map fun k => cf0 ps k + cf0 qs k
def subL (ps qs : List Rat) : List Rat := (List.range (if qs.length < ps.length then ps.length else qs.length)).map fun k => cf0 ps k - cf0 qs k
theorem cf0_map_range (n : Nat) (f : Nat → Rat) (k : Nat) : cf0 ((List.range n).map f) k = if k < n then f k else 0 := by
  unfold cf0
  by_cases h : k < n
  · simp [h]
  · simp [h]
theorem addL_cf (ps qs : List Rat) (k : Nat) : cf0 (addL ps qs) k = cf0 ps k + cf0 qs k := by
  unfold addL
  rw [cf0_map_range]
  generalize hm : (if qs.length < ps.length then ps.length else qs.length) = m
  have e1 : ps.length ≤ m := by rw [← hm]; split <;> omega
  have e2 : qs.length ≤ m := by rw [← hm]; split <;> omega
  by_cases h : k < m
  · rw [if_pos h]
  · rw [if_neg h, cf0_ge (show ps.length ≤ k by omega), cf0_ge (show qs.length ≤ k by omega)]
    grind
theorem subL_cf (ps qs : List Rat) (k : Nat) : cf0 (subL ps qs) k = cf0 ps k - cf0 qs k := by
  unfold subL
  rw [cf0_map_range]
  generalize hm : (if qs.length < ps.length then ps.length else qs.length) = m
  have e1 : ps.length ≤ m := by rw [← hm]; split <;> omega
  have e2 : qs.length ≤ m := by rw [← hm]; split <;> omega
  by_cases h : k < m
  · rw [if_pos h]
  · rw [if_neg h, cf0_ge (show ps.length ≤ k by omega), cf0_ge (show qs.length ≤ k by omega)]
    grind
theorem cf0_map (f : Rat → Rat) (h0 : f 0 = 0) (qs : List Rat) (k : Nat) : cf0 (qs.map f) k = f (cf0 qs k) := by
  unfold cf0
  simp only [List.getD_eq_getElem?_getD, List.getElem?_map]
  cases qs[k]? with
  | none => simp [h0]
  | some q => rfl
def sumTo : Nat → (Nat → Rat) → Rat
  | 0, _ => 0
  | n + 1, f => sumTo n f + f n
/-- the coefficient of a product -/
def conv (ps qs : List Rat) (k : Nat) : Rat := sumTo (k + 1) fun j => cf0 ps j * cf0 qs (k - j)
theorem sumTo_ext {n : Nat} {f g : Nat → Rat} (h : ∀ j, j < n → f j = g j) : sumTo n f = sumTo n g := by
  induction n with
  | zero => rfl
  | succ n ih => show sumTo n f + f n = sumTo n g + g n; rw [ih fun j hj => h j (by omega), h n (by omega)]
/-- the program's product: rows are added -/
def shiftRow (n : Nat) (p : Rat) (j : Nat) (qs : List Rat) : List Rat := List.replicate j 0 ++ qs.map (fun q => p * q) ++ List.replicate (n - j) 0
def zipAdd (as bs : List Rat) : List Rat := List.zipWith (fun a b => a + b) as bs
def mulGo (n : Nat) (qs : List Rat) : List Rat → Nat → List Rat → List Rat
  | [], _, acc => acc
  | p :: ps, j, acc => mulGo n qs ps (j + 1) (zipAdd acc (shiftRow n p j qs))
def mulL (ps qs : List Rat) : List Rat := mulGo ps.length qs ps 0 (List.replicate (ps.length + qs.length) 0)
theorem cf0_rep (n k : Nat) : cf0 (List.replicate n 0) k = 0 := by
  unfold cf0
  simp only [List.getD_eq_getElem?_getD, List.getElem?_replicate]
  split <;> rfl
theorem cf0_append (as bs : List Rat) (k : Nat) : cf0 (as ++ bs) k = if k < as.length then cf0 as k else cf0 bs (k - as.length) := by
  unfold cf0
  simp only [List.getD_eq_getElem?_getD, List.getElem?_append]
  split <;> rfl
theorem shiftRow_len {n j : Nat} {p : Rat} {qs : List Rat} (h : j ≤ n) : (shiftRow n p j qs).length = n + qs.length := by
  simp [shiftRow]
  omega
theorem shiftRow_cf {n j : Nat} {p : Rat} {qs : List Rat} (k : Nat) : cf0 (shiftRow n p j qs) k = if j ≤ k then p * cf0 qs (k - j) else 0 := by
  unfold shiftRow
  rw [cf0_append, cf0_append]
  simp only [List.length_append, List.length_replicate, List.length_map, cf0_rep]
  by_cases h1 : k < j
  · rw [if_pos (by omega), if_pos h1, if_neg (by omega)]
  · rw [if_neg h1, if_pos (show j ≤ k by omega), cf0_map _ (by grind)]
    by_cases h2 : k < j + qs.length
    · rw [if_pos h2]
    · rw [if_neg h2, cf0_ge (show qs.length ≤ k - j by omega)]
      grind
theorem zipAdd_cf {as bs : List Rat} (h : as.length = bs.length) (k : Nat) : cf0 (zipAdd as bs) k = cf0 as k + cf0 bs k := by
  unfold zipAdd
  by_cases hk : k < as.length
  · rw [cf0_lt (by simp; omega), cf0_lt hk, cf0_lt (by omega)]
    simp
  · rw [cf0_ge (by simp; omega), cf0_ge (by omega), cf0_ge (by omega)]
    grind
theorem zipAdd_len {as bs : List Rat} (h : as.length = bs.length) : (zipAdd as bs).length = as.length := by simp [zipAdd, h]
theorem sumTo_add (n : Nat) (f g : Nat → Rat) : sumTo n (fun j => f j + g j) = sumTo n f + sumTo n g := by
  induction n with
  | zero => show (0 : Rat) = 0 + 0; grind
  | succ n ih => show sumTo n _ + _ = (sumTo n f + f n) + (sumTo n g + g n); rw [ih]; grind
/-- rows from place j on -/
def rowsSum (qs : List Rat) : List Rat → Nat → Nat → Rat
  | [], _, _ => 0
  | p :: ps, j, k => (if j ≤ k then p * cf0 qs (k - j) else 0) + rowsSum qs ps (j + 1) k
theorem mulGo_cf (n : Nat) (qs : List Rat) : ∀ (ps : List Rat) (j : Nat) (acc : List Rat), j + ps.length ≤ n → acc.length = n + qs.length → (mulGo n qs ps j acc).length = n + qs.length ∧ ∀ k, cf0 (mulGo n qs ps j acc) k = cf0 acc k + rowsSum qs ps j k
  | [], j, acc, _, h => ⟨h, fun k => by show cf0 acc k = cf0 acc k + 0; grind⟩
  | p :: ps, j, acc, hj, h => by
    simp only [List.length_cons] at hj
    have hs : (shiftRow n p j qs).length = n + qs.length := shiftRow_len (by omega)
    obtain ⟨h1, h2⟩ := mulGo_cf n qs ps (j + 1) (zipAdd acc (shiftRow n p j qs)) (by omega) (by rw [zipAdd_len (by omega)]; exact h)
    refine ⟨h1, fun k => ?_⟩
    show cf0 (mulGo n qs ps (j + 1) _) k = _
    rw [h2 k, zipAdd_cf (by omega), shiftRow_cf]
    show _ = cf0 acc k + ((if j ≤ k then p * cf0 qs (k - j) else 0) + rowsSum qs ps (j + 1) k)
    grind
theorem rowsSum_conv (qs : List Rat) : ∀ (ps : List Rat) (j k : Nat), rowsSum qs ps j k = if j ≤ k then conv ps qs (k - j) else 0
  | [], j, k => by
    show (0 : Rat) = _
    split
    · unfold conv
      have : ∀ n, sumTo n (fun i => cf0 [] i * cf0 qs (k - j - i)) = 0 := by
        intro n
        induction n with
        | zero => rfl
        | succ n ih => show sumTo n _ + cf0 [] n * cf0 qs (k - j - n) = _; rw [ih, cf0_nil]; grind
      rw [this]
    · rfl
  | p :: ps, j, k => by
    show (if j ≤ k then p * cf0 qs (k - j) else 0) + rowsSum qs ps (j + 1) k = _
    rw [rowsSum_conv qs ps (j + 1) k]
    by_cases h : j ≤ k
    · rw [if_pos h, if_pos h]
      have shift : ∀ (m n : Nat), m + 1 ≤ n + 1 → sumTo (m + 1) (fun i => cf0 (p :: ps) i * cf0 qs (n - i)) = p * cf0 qs n + sumTo m (fun i => cf0 ps i * cf0 qs (n - (i + 1))) := by
        intro m n hm
        induction m with
        | zero => show (0 : Rat) + cf0 (p :: ps) 0 * cf0 qs (n - 0) = _ + 0; rw [cf0_zero, Nat.sub_zero]; grind
        | succ m ih =>
          show sumTo (m + 1) _ + cf0 (p :: ps) (m + 1) * cf0 qs (n - (m + 1)) = p * cf0 qs n + (sumTo m _ + cf0 ps m * cf0 qs (n - (m + 1)))
          rw [ih (by omega), cf0_succ]
          grind
      unfold conv
      rw [shift (k - j) (k - j) (Nat.le_refl _)]
      by_cases h2 : j + 1 ≤ k
      · rw [if_pos h2, show k - j = (k - (j + 1)) + 1 by omega]
        congr 1
        exact sumTo_ext fun i hi => by rw [show k - (j + 1) + 1 - (i + 1) = k - (j + 1) - i by omega]
      · rw [if_neg h2, show k - j = 0 by omega]
        show _ = _ + (0 : Rat)
        rfl
    · rw [if_neg h, if_neg h, if_neg (by omega)]
      grind
theorem mulL_cf (ps qs : List Rat) (k : Nat) : cf0 (mulL ps qs) k = conv ps qs k := by
  have h := (mulGo_cf ps.length qs ps 0 (List.replicate (ps.length + qs.length) 0) (by omega) (by simp)).2 k
  unfold mulL
  rw [h, cf0_rep, rowsSum_conv, if_pos (Nat.zero_le _), Nat.sub_zero]
  grind
theorem mulL_len (ps qs : List Rat) : (mulL ps qs).length = ps.length + qs.length := (mulGo_cf ps.length qs ps 0 (List.replicate (ps.length + qs.length) 0) (by omega) (by simp)).1
def horner (x : Rat) : List Rat → Rat
  | [] => 0
  | q :: qs => horner x qs * x + q
theorem horner_ext (x : Rat) : ∀ (as bs : List Rat), (∀ k, cf0 as k = cf0 bs k) → horner x as = horner x bs
  | [], [], _ => rfl
  | [], b :: bs, h => by
    have ih := horner_ext x [] bs fun k => by have := h (k + 1); rw [cf0_succ] at this; rw [← this, cf0_nil, cf0_nil]
    have h0 := h 0
    rw [cf0_zero, cf0_nil] at h0
    show 0 = horner x bs * x + b
    rw [← ih, ← h0]
    show (0 : Rat) = 0 * x + 0
    grind
  | a :: as, [], h => by
    have ih := horner_ext x as [] fun k => by have := h (k + 1); rw [cf0_succ] at this; rw [this, cf0_nil, cf0_nil]
    have h0 := h 0
    rw [cf0_zero, cf0_nil] at h0
    show horner x as * x + a = 0
    rw [ih, h0]
    show (0 : Rat) * x + 0 = 0
    grind
  | a :: as, b :: bs, h => by
    have ih := horner_ext x as bs fun k => by have := h (k + 1); rwa [cf0_succ, cf0_succ] at this
    have h0 := h 0
    rw [cf0_zero, cf0_zero] at h0
    show horner x as * x + a = horner x bs * x + b
    rw [ih, h0]
theorem horner_trim (x : Rat) (qs : List Rat) : horner x (trimR qs) = horner x qs := horner_ext x _ _ (trim_cf qs)
def slopeL (qs : List Rat) : List Rat := ((List.range qs.length).map fun k => cf0 qs k * ((k : Int) : Rat)).drop 1
theorem slopeL_cf (qs : List Rat) (k : Nat) : cf0 (slopeL qs) k = cf0 qs (k + 1) * (((k + 1 : Nat) : Int) : Rat) := by
  have e : cf0 (slopeL qs) k = cf0 ((List.range qs.length).map fun k => cf0 qs k * ((k : Int) : Rat)) (k + 1) := by
    unfold slopeL cf0
    simp [List.getD_eq_getElem?_getD, List.getElem?_drop, Nat.add_comm]
  rw [e, cf0_map_range]
  split
  · rfl
  · rename_i h
    rw [cf0_ge (by omega)]
    grind
end Q
namespace Q
open PySem L2
def numsQ : List D → Option (List Rat)
  | [] => some []
  | d :: ds => match numQ d, numsQ ds with
    | some x, some xs => some (x :: xs)
    | _, _ => none
def firstBad : List D → Option D
  | [] => none
  | d :: ds => match numQ d with
    | some _ => firstBad ds
    | none => some d
def slotSeq : Slot → Option (List D)
  | .val d => seqD d
  | .bor (.lst xs) => some xs
  | _ => none
theorem numsQ_snoc : ∀ {ds : List D} {qs : List Rat} {d : D} {x : Rat}, numsQ ds = some qs → numQ d = some x → numsQ (ds ++ [d]) = some (qs ++ [x])
  | [], qs, d, x, h, hx => by
    cases h
    show (match numQ d, (some [] : Option (List Rat)) with | some x, some xs => some (x :: xs) | _, _ => none) = _
    rw [hx]
    rfl
  | e :: ds, qs, d, x, h, hx => by
    have h : (match numQ e, numsQ ds with | some x, some xs => some (x :: xs) | _, _ => none) = some qs := h
    cases he : numQ e with
    | none => rw [he] at h; cases h
    | some y =>
      cases hs : numsQ ds with
      | none => rw [he, hs] at h; cases h
      | some ys =>
        rw [he, hs] at h
        cases h
        show (match numQ e, numsQ (ds ++ [d]) with | some x, some xs => some (x :: xs) | _, _ => none) = _
        rw [he, numsQ_snoc hs hx]
        rfl
theorem firstBad_at : ∀ {ds : List D} {i : Nat} {qs : List Rat} {d : D}, numsQ (ds.take i) = some qs → ds[i]? = some d → numQ d = none → firstBad ds = some d
  | [], i, _, _, _, h, _ => by simp at h
  | e :: ds, 0, _, d, _, h, hn => by
    simp at h
    subst h
    show (match numQ e with | some _ => firstBad ds | none => some e) = _
    rw [hn]
  | e :: ds, i + 1, qs, d, hq, h, hn => by
    have hq : (match numQ e, numsQ (ds.take i) with | some x, some xs => some (x :: xs) | _, _ => none) = some qs := hq
    cases he : numQ e with
    | none => rw [he] at hq; cases hq
    | some y =>
      cases hs : numsQ (ds.take i) with
      | none => rw [he, hs] at hq; cases hq
      | some ys =>
        show (match numQ e with | some _ => firstBad ds | none => some e) = _
        rw [he]
        exact firstBad_at hs (by simpa using h) hn
theorem numsQ_rts : ∀ qs : List Rat, numsQ (rts qs) = some qs
  | [] => rfl
  | q :: qs => by
    show (match numQ (.rat q), numsQ (rts qs) with | some x, some xs => some (x :: xs) | _, _ => none) = _
    rw [numsQ_rts qs]
    rfl
theorem firstBad_rts : ∀ qs : List Rat, firstBad (rts qs) = none
  | [] => rfl
  | q :: qs => firstBad_rts qs
def polyD (qs : List Rat) : D := .ins .poly [.tup (rts qs)]
theorem take_succ_get {α : Type} {xs : List α} {i : Nat} {x : α} (h : xs[i]? = some x) : xs.take (i + 1) = xs.take i ++ [x] := by
  rw [List.take_add_one, h]
  rfl
end Q
set_option Elab.async false
set_option linter.all false
set_option maxRecDepth 100000
set_option maxHeartbeats 4000000
namespace Q
open PySem L2 PySem.Spec PyProof.Rows
def mulF (n : Nat) (f g : Nat → Nat → Rat) (i j : Nat) : Rat := sumTo n fun k => f i k * g k j
end Q
set_option Elab.async false
set_option linter.all false
set_option maxRecDepth 100000
set_option maxHeartbeats 4000000
namespace Q
open PySem L2 PySem.Spec PyProof.Rows
abbrev Rw := List Nat
/-- one of equal letters side by side; o is the letter ahead -/
def shG : Option Nat → Rw → Rw
  | _, [] => []
  | o, a :: r => if o = some a then shG (some a) r else a :: shG (some a) r
def sh (r : Rw) : Rw := shG none r
theorem shG_idem : ∀ (a : Rw) (o : Option Nat), shG o (shG o a) = shG o a
  | [], _ => rfl
  | x :: a, o => by
    by_cases h : o = some x
    · show shG o (if o = some x then shG (some x) a else x :: shG (some x) a) = (if o = some x then shG (some x) a else x :: shG (some x) a)
      rw [if_pos h, h, shG_idem a]
    · show shG o (if o = some x then shG (some x) a else x :: shG (some x) a) = (if o = some x then shG (some x) a else x :: shG (some x) a)
      rw [if_neg h]
      show (if o = some x then shG (some x) (shG (some x) a) else x :: shG (some x) (shG (some x) a)) = _
      rw [if_neg h, shG_idem a]
theorem sh_sh (a : Rw) : sh (sh a) = sh a := shG_idem a none
theorem shG_sub : ∀ (a : Rw) (o : Option Nat), (shG o a).Sublist a
  | [], _ => .slnil
  | x :: a, o => by
    show (if o = some x then shG (some x) a else x :: shG (some x) a).Sublist (x :: a)
    split
    · exact .cons _ (shG_sub a _)
    · exact .cons₂ _ (shG_sub a _)
theorem sh_len (a : Rw) : (sh a).length ≤ a.length := (shG_sub a none).length_le
/-- letters p and q alone -/
def PQ (a : Rw) : Prop := ∀ c ∈ a, c = 112 ∨ c = 113
theorem PQ.sh {a : Rw} (h : PQ a) : PQ (sh a) := fun c hc => h c ((shG_sub a none).subset hc)
theorem PQ.rev {a : Rw} (h : PQ a) : PQ a.reverse := fun c hc => h c (List.mem_reverse.mp hc)
structure Rk (a : Rw) : Prop where
  sh : sh a = a
  pq : PQ a
theorem Rk.of {a : Rw} (h : PQ a) : Rk (Q.sh a) := ⟨sh_sh a, h.sh⟩
theorem Rk.nil : Rk [] := ⟨rfl, fun _ h => by cases h⟩
theorem fix_cons {x y : Nat} {a : Rw} (h : shG (some x) (y :: a) = y :: a) : y ≠ x ∧ shG (some y) a = a := by
  have h' : (if some x = some y then shG (some y) a else y :: shG (some y) a) = y :: a := h
  by_cases e : x = y
  · subst e
    rw [if_pos rfl] at h'
    have := (shG_sub a (some x)).length_le
    rw [h'] at this
    simp at this
    omega
  · rw [if_neg (fun z => e (Option.some.inj z))] at h'
    exact ⟨fun z => e z.symm, (List.cons.inj h').2⟩
theorem fix_eq : ∀ (a b : Rw) (x : Nat), (x = 112 ∨ x = 113) → PQ a → PQ b → shG (some x) a = a → shG (some x) b = b → a.length = b.length → a = b
  | [], [], _, _, _, _, _, _, _ => rfl
  | [], _ :: _, _, _, _, _, _, _, h => by cases h
  | _ :: _, [], _, _, _, _, _, _, h => by cases h
  | y :: a, z :: b, x, hx, pa, pb, ha, hb, hl => by
    obtain ⟨y1, ha⟩ := fix_cons ha
    obtain ⟨z1, hb⟩ := fix_cons hb
    have hy := pa y List.mem_cons_self
    have hz := pb z List.mem_cons_self
    have e : y = z := by omega
    subst e
    rw [fix_eq a b y hy (fun c hc => pa c (List.mem_cons_of_mem _ hc)) (fun c hc => pb c (List.mem_cons_of_mem _ hc)) ha hb (by simpa using hl)]
theorem Rk.eq {a b : Rw} (ha : Rk a) (hb : Rk b) (hl : a.length = b.length) (hh : a.head? = b.head?) : a = b := by
  cases a with
  | nil => cases b with
    | nil => rfl
    | cons _ _ => cases hl
  | cons x a =>
    cases b with
    | nil => cases hl
    | cons y b =>
      cases hh
      have h1 : shG (some x) a = a := (List.cons.inj ha.sh).2
      have h2 : shG (some x) b = b := (List.cons.inj hb.sh).2
      rw [fix_eq a b x (ha.pq x List.mem_cons_self) (fun c hc => ha.pq c (List.mem_cons_of_mem _ hc)) (fun c hc => hb.pq c (List.mem_cons_of_mem _ hc)) h1 h2 (by simpa using hl)]
/-- a number for a short row -/
def codeR : Rw → Nat
  | [] => 0
  | x :: a => 2 * a.length + (if x = 112 then 1 else 2)
theorem codeR_inj {a b : Rw} (ha : Rk a) (hb : Rk b) (h : codeR a = codeR b) : a = b := by
  cases a with
  | nil => cases b with
    | nil => rfl
    | cons y b =>
      have h' : 0 = 2 * b.length + (if y = 112 then 1 else 2) := h
      split at h' <;> omega
  | cons x a =>
    cases b with
    | nil =>
      have h' : 2 * a.length + (if x = 112 then 1 else 2) = 0 := h
      split at h' <;> omega
    | cons y b =>
      have h' : 2 * a.length + (if x = 112 then 1 else 2) = 2 * b.length + (if y = 112 then 1 else 2) := h
      have hx := ha.pq x List.mem_cons_self
      have hy := hb.pq y List.mem_cons_self
      have h1 : a.length = b.length ∧ x = y := by
        split at h' <;> split at h' <;> omega
      exact ha.eq hb (by simp [h1.1]) (by simp [h1.2])
theorem nodup_lt : ∀ (n : Nat) (l : List Nat), l.Nodup → (∀ x ∈ l, x < n) → l.length ≤ n
  | 0, l, _, h => by
    cases l with
    | nil => exact Nat.le_refl 0
    | cons x l => exact absurd (h x List.mem_cons_self) (Nat.not_lt_zero _)
  | n + 1, l, hd, h => by
    have h1 := nodup_lt n (l.erase n) (hd.erase n) (fun x hx => by
      have := h x (List.mem_of_mem_erase hx)
      have h2 : x ≠ n := fun e => by subst e; exact hd.not_mem_erase hx
      omega)
    have h2 := List.length_erase (a := n) (l := l)
    split at h2 <;> omega
theorem nodup_map_inj {α β : Type} (f : α → β) : ∀ {l : List α}, (∀ a ∈ l, ∀ b ∈ l, f a = f b → a = b) → l.Nodup → (l.map f).Nodup
  | [], _, _ => List.nodup_nil
  | x :: l, hi, hd => by
    rw [List.map_cons, List.nodup_cons]
    rw [List.nodup_cons] at hd
    refine ⟨fun hm => ?_, nodup_map_inj f (fun a ha b hb => hi a (List.mem_cons_of_mem _ ha) b (List.mem_cons_of_mem _ hb)) hd.2⟩
    obtain ⟨y, hy, e⟩ := List.mem_map.mp hm
    have := hi y (List.mem_cons_of_mem _ hy) x List.mem_cons_self e
    subst this
    exact hd.1 hy
theorem few_rows {l : List Rw} (hd : l.Nodup) (hr : ∀ a ∈ l, Rk a) (hl : ∀ a ∈ l, a.length ≤ 31) : l.length < 64 := by
  have := nodup_lt 63 (l.map codeR) (nodup_map_inj codeR (fun a ha b hb => codeR_inj (hr a ha) (hr b hb)) hd) (fun x hx => by
    obtain ⟨a, ha, rfl⟩ := List.mem_map.mp hx
    have := hl a ha
    cases a with
    | nil => exact Nat.zero_lt_succ _
    | cons y a =>
      show 2 * a.length + (if y = 112 then 1 else 2) < 63
      simp at this
      split <;> omega)
  rw [List.length_map] at this
  omega
theorem ltC_irr : ∀ a : Rw, ltCps a a = false
  | [] => rfl
  | x :: a => by simp [ltCps, ltC_irr a]
theorem ltC_trans : ∀ {a b c : Rw}, ltCps a b = true → ltCps b c = true → ltCps a c = true
  | [], [], _, h, _ => by cases h
  | [], _ :: _, [], _, h => by cases h
  | [], _ :: _, _ :: _, _, _ => rfl
  | _ :: _, [], _, h, _ => by cases h
  | _ :: _, _ :: _, [], _, h => by cases h
  | x :: a, y :: b, z :: c, h, k => by
    simp only [ltCps, Bool.or_eq_true, decide_eq_true_eq, Bool.and_eq_true, beq_iff_eq] at h k ⊢
    rcases h with h | ⟨h, h'⟩
    · rcases k with k | ⟨k, k'⟩
      · exact .inl (by omega)
      · exact .inl (by omega)
    · rcases k with k | ⟨k, k'⟩
      · exact .inl (by omega)
      · exact .inr ⟨by omega, ltC_trans h' k'⟩
def ltR (a b : Rw) : Prop := a.length < b.length ∨ (a.length = b.length ∧ ltCps a b = true)
theorem ltR_irr (a : Rw) : ¬ ltR a a := by
  rintro (h | ⟨_, h⟩)
  · omega
  · rw [ltC_irr] at h; cases h
theorem ltR_trans {a b c : Rw} (h : ltR a b) (k : ltR b c) : ltR a c := by
  rcases h with h | ⟨h, h'⟩
  · rcases k with k | ⟨k, k'⟩
    · exact .inl (by omega)
    · exact .inl (by omega)
  · rcases k with k | ⟨k, k'⟩
    · exact .inl (by omega)
    · exact .inr ⟨by omega, ltC_trans h' k'⟩
theorem ord_nodup {l : List Rw} (h : l.Pairwise ltR) : l.Nodup := h.imp fun {a b} r e => by
  subst e
  exact ltR_irr a r
theorem ord_uniq : ∀ {l m : List Rw}, l.Pairwise ltR → m.Pairwise ltR → (∀ x, x ∈ l ↔ x ∈ m) → l = m
  | [], [], _, _, _ => rfl
  | [], y :: m, _, _, h => by have := (h y).mpr List.mem_cons_self; cases this
  | x :: l, [], _, _, h => by have := (h x).mp List.mem_cons_self; cases this
  | x :: l, y :: m, h1, h2, h => by
    have p1 := List.pairwise_cons.mp h1
    have p2 := List.pairwise_cons.mp h2
    have e : x = y := by
      rcases List.mem_cons.mp ((h x).mp List.mem_cons_self) with e | e
      · exact e
      · rcases List.mem_cons.mp ((h y).mpr List.mem_cons_self) with e2 | e2
        · exact e2.symm
        · exact absurd (ltR_trans (p1.1 y e2) (p2.1 x e)) (ltR_irr x)
    subst e
    have : l = m := ord_uniq p1.2 p2.2 fun z => by
      constructor
      · intro hz
        rcases List.mem_cons.mp ((h z).mp (List.mem_cons_of_mem _ hz)) with e | e
        · subst e; exact absurd (p1.1 z hz) (ltR_irr z)
        · exact e
      · intro hz
        rcases List.mem_cons.mp ((h z).mpr (List.mem_cons_of_mem _ hz)) with e | e
        · subst e; exact absurd (p2.1 z hz) (ltR_irr z)
        · exact e
    rw [this]
/-- the number of a row in a list of rows with numbers -/
def co : List (Rw × Rat) → Rw → Rat
  | [], _ => 0
  | p :: ps, k => (if sh p.1 = k then p.2 else 0) + co ps k
def keysF (f : List (Rw × Rat)) : List Rw := f.map (·.1)
structure Fm (f : List (Rw × Rat)) : Prop where
  ord : (keysF f).Pairwise ltR
  nz : ∀ p ∈ f, p.2 ≠ 0
  row : ∀ k ∈ keysF f, Rk k
theorem co_not : ∀ {f : List (Rw × Rat)} {k : Rw}, (∀ p ∈ f, sh p.1 ≠ k) → co f k = 0
  | [], _, _ => rfl
  | p :: f, k, h => by
    show (if sh p.1 = k then p.2 else 0) + co f k = 0
    rw [if_neg (h p List.mem_cons_self), co_not fun q hq => h q (List.mem_cons_of_mem _ hq)]
    exact Rat.zero_add 0
theorem co_mem : ∀ {f : List (Rw × Rat)} {p : Rw × Rat}, (keysF f).Nodup → (∀ k ∈ keysF f, Rk k) → p ∈ f → co f p.1 = p.2
  | [], _, _, _, h => by cases h
  | q :: f, p, hd, hr, h => by
    have hd' := List.nodup_cons.mp (show (q.1 :: keysF f).Nodup from hd)
    have hr' : ∀ k ∈ keysF f, Rk k := fun k hk => hr k (List.mem_cons_of_mem _ hk)
    show (if sh q.1 = p.1 then q.2 else 0) + co f p.1 = p.2
    rw [(hr q.1 List.mem_cons_self).sh]
    rcases List.mem_cons.mp h with e | e
    · subst e
      rw [if_pos rfl, co_not, Rat.add_zero]
      intro z hz
      rw [(hr' z.1 (List.mem_map_of_mem hz)).sh]
      intro e
      exact hd'.1 (e ▸ List.mem_map_of_mem (f := fun x : Rw × Rat => x.1) hz)
    · rw [if_neg, co_mem hd'.2 hr' e, Rat.zero_add]
      intro z
      exact hd'.1 (z ▸ List.mem_map_of_mem (f := fun x : Rw × Rat => x.1) e)
theorem Fm.mem {f : List (Rw × Rat)} (h : Fm f) {p : Rw × Rat} (hp : p ∈ f) : co f p.1 = p.2 := co_mem (ord_nodup h.ord) h.row hp
theorem Fm.key {f : List (Rw × Rat)} (h : Fm f) (k : Rw) : k ∈ keysF f ↔ co f k ≠ 0 := by
  constructor
  · intro hk
    obtain ⟨p, hp, rfl⟩ := List.mem_map.mp hk
    rw [h.mem hp]
    exact h.nz p hp
  · intro hk
    refine Classical.byContradiction fun hn => hk (co_not fun p hp e => hn ?_)
    rw [(h.row p.1 (List.mem_map_of_mem hp)).sh] at e
    exact e ▸ List.mem_map_of_mem (f := fun x : Rw × Rat => x.1) hp
theorem Fm.eta {f : List (Rw × Rat)} (h : Fm f) : f = (keysF f).map fun k => (k, co f k) := by
  unfold keysF
  rw [List.map_map]
  conv => lhs; rw [← List.map_id f]
  refine List.map_congr_left fun p hp => ?_
  show p = (p.1, co f p.1)
  rw [h.mem hp]
theorem Fm.uniq {f g : List (Rw × Rat)} (hf : Fm f) (hg : Fm g) (h : ∀ k, co f k = co g k) : f = g := by
  have e : keysF f = keysF g := ord_uniq hf.ord hg.ord fun k => by rw [hf.key, hg.key, h]
  rw [hf.eta, hg.eta, e]
  exact List.map_congr_left fun k _ => by rw [h]
theorem co_neg : ∀ (f : List (Rw × Rat)) (k : Rw), co (f.map fun p => (p.1, -p.2)) k = -co f k
  | [], _ => by show (0 : Rat) = -0; decide
  | p :: f, k => by
    show (if sh p.1 = k then -p.2 else 0) + co (f.map fun p => (p.1, -p.2)) k = -((if sh p.1 = k then p.2 else 0) + co f k)
    rw [co_neg f k]
    split <;> grind
end Q
set_option Elab.async false
set_option linter.all false
set_option maxRecDepth 100000
set_option maxHeartbeats 4000000
namespace Q
open PySem L2 PySem.Spec PyProof.Rows
abbrev Ps := List (Rw × Rat)
/-- a number is at most B over M -/
def Dn (M B : Nat) (q : Rat) : Prop := ∃ n : Int, q * (M : Rat) = (n : Rat) ∧ n.natAbs ≤ B
theorem Dn.mono {M B C : Nat} {q : Rat} (h : Dn M B q) (l : B ≤ C) : Dn M C q := let ⟨n, e, b⟩ := h; ⟨n, e, Nat.le_trans b l⟩
theorem Dn.zero {M : Nat} : Dn M 0 0 := ⟨0, by rw [Rat.zero_mul]; rfl, Nat.le_refl 0⟩
theorem Dn.neg {M B : Nat} {q : Rat} (h : Dn M B q) : Dn M B (-q) := by
  obtain ⟨n, e, b⟩ := h
  refine ⟨-n, ?_, by omega⟩
  rw [Rat.neg_mul, e]
  exact (Rat.intCast_neg n).symm
theorem Dn.add {M B C : Nat} {p q : Rat} (h : Dn M B p) (k : Dn M C q) : Dn M (B + C) (p + q) := by
  obtain ⟨n, e, b⟩ := h
  obtain ⟨m, f, c⟩ := k
  refine ⟨n + m, ?_, by omega⟩
  rw [Rat.add_mul, e, f]
  exact (Rat.intCast_add n m).symm
theorem Dn.sub {M B C : Nat} {p q : Rat} (h : Dn M B p) (k : Dn M C q) : Dn M (B + C) (p - q) := by
  rw [Rat.sub_eq_add_neg]
  exact h.add k.neg
theorem Dn.mul {M N B C : Nat} {p q : Rat} (h : Dn M B p) (k : Dn N C q) : Dn (M * N) (B * C) (p * q) := by
  obtain ⟨n, e, b⟩ := h
  obtain ⟨m, f, c⟩ := k
  refine ⟨n * m, ?_, ?_⟩
  · have : p * q * ((M * N : Nat) : Rat) = (p * (M : Rat)) * (q * (N : Rat)) := by
      rw [Rat.natCast_mul]
      grind
    rw [this, e, f]
    exact (Rat.intCast_mul n m).symm
  · rw [Int.natAbs_mul]
    exact Nat.mul_le_mul b c
theorem Dn.up {M B : Nat} {q : Rat} (h : Dn M B q) (k : Nat) : Dn (M * k) (B * k) q := by
  have := h.mul (N := k) (C := k) (q := 1) ⟨(k : Int), by rw [Rat.one_mul]; rfl, by omega⟩
  rwa [Rat.mul_one] at this
theorem Dn.sz {M B n : Nat} {q : Rat} (h : Dn M B q) (h0 : 0 < M) (hM : M < 2 ^ n) (hB : B < 2 ^ n) : Sz n q := by
  obtain ⟨m, e, b⟩ := h
  have hM0 : (M : Int) ≠ 0 := by omega
  have hM1 : ((M : Nat) : Rat) ≠ 0 := fun z => by
    have : ((M : Int) : Rat) = ((0 : Int) : Rat) := z
    exact hM0 (Rat.intCast_inj.mp this)
  have e2 : q = Rat.divInt m M := by
    have : q = (q * (M : Rat)) / (M : Rat) := by
      rw [Rat.div_def, Rat.mul_assoc, Rat.mul_inv_cancel _ hM1, Rat.mul_one]
    rw [this, e, Rat.div_def, Rat.divInt_eq_div, Rat.div_def]
    rfl
  rw [e2]
  exact divInt_sz (show m.natAbs < 2 ^ n by omega) (show (M : Int).natAbs < 2 ^ n by omega) hM0
theorem Dn.int {n : Int} : Dn 1 n.natAbs (n : Rat) := ⟨n, by rw [show (((1 : Nat)) : Rat) = 1 from rfl, Rat.mul_one], Nat.le_refl _⟩
end Q
set_option Elab.async false
set_option linter.all false
set_option maxRecDepth 100000
set_option maxHeartbeats 4000000
namespace Q
open PySem L2 PySem.Spec PyProof.Rows
def IsF (ps f : Ps) : Prop := Fm f ∧ ∀ k, co f k = co ps k
theorem IsF.uniq {ps f g : Ps} (h : IsF ps f) (k : IsF ps g) : f = g := h.1.uniq k.1 fun x => by rw [h.2, k.2]
theorem IsF.self {f : Ps} (h : Fm f) : IsF f f := ⟨h, fun _ => rfl⟩
theorem Fm.nd {f : Ps} (h : Fm f) : (keysF f).Nodup := ord_nodup h.ord
theorem Fm.pq {f : Ps} (h : Fm f) {p : Rw × Rat} (hp : p ∈ f) : PQ p.1 := (h.row p.1 (List.mem_map_of_mem hp)).pq
/-- where a row has a number not 0, its short form is one of a list's -/
theorem co_ne {ps : Ps} {k : Rw} (h : co ps k ≠ 0) : ∃ p ∈ ps, sh p.1 = k := Classical.byContradiction fun z => h (co_not fun p hp e => z ⟨p, hp, e⟩)
end Q
namespace Q
open PySem L2 PySem.Spec PyProof.Rows
end Q
namespace Q
open PySem L2 PySem.Spec PyProof.Rows
end Q
namespace Q
open PySem L2 PySem.Spec PyProof.Rows
structure PsOk (M C : Nat) (ps : Ps) : Prop where
  row : ∀ p ∈ ps, PQ p.1 ∧ p.1.length ≤ 31
  one : ∀ p ∈ ps, Dn M C p.2
  co : ∀ i k, Dn M C (co (ps.take i) k)
  m0 : 0 < M
  m : M < 2 ^ 3900000
  b : C < 2 ^ 3900000
  len : ps.length ≤ 5000
theorem PsOk.sz {M B : Nat} {ps : Ps} (h : PsOk M B ps) {C : Nat} {q : Rat} (d : Dn M C q) (hc : C < 2 ^ 3900000) : Sz 4000000 q := (d.sz h.m0 h.m hc).mono (by decide)
theorem Fm.take {f : Ps} (h : Fm f) (i : Nat) : Fm (f.take i) := by
  refine ⟨?_, fun p hp => h.nz p (List.mem_of_mem_take hp), fun k hk => ?_⟩
  · unfold keysF
    rw [List.map_take]
    exact h.ord.sublist (List.take_sublist i _)
  · obtain ⟨p, hp, rfl⟩ := List.mem_map.mp hk
    exact h.row p.1 (List.mem_map_of_mem (List.mem_of_mem_take hp))
theorem PsOk.of_form {M C : Nat} {f : Ps} (F : Fm f) (hl : ∀ p ∈ f, p.1.length ≤ 31) (num : ∀ p ∈ f, Dn M C p.2) (m0 : 0 < M) (m : M < 2 ^ 3900000) (b : C < 2 ^ 3900000) : PsOk M C f := by
  refine ⟨fun p hp => ⟨F.pq hp, hl p hp⟩, num, fun i k => ?_, m0, m, b, ?_⟩
  · by_cases h : k ∈ keysF (f.take i)
    · obtain ⟨p, hp, rfl⟩ := List.mem_map.mp h
      rw [(F.take i).mem hp]
      exact num p (List.mem_of_mem_take hp)
    · have : _root_.Q.co (f.take i) k = 0 := Classical.not_not.mp fun z => h (((F.take i).key k).mpr z)
      rw [this]
      exact Dn.zero.mono (Nat.zero_le _)
  · have := few_rows F.nd F.row (fun a ha => by
      obtain ⟨p, hp, rfl⟩ := List.mem_map.mp ha
      exact hl p hp)
    unfold keysF at this
    rw [List.length_map] at this
    omega
theorem PsOk.norm {M C : Nat} {ps h : Ps} (ok : PsOk M C ps) (hh : IsF ps h) : PsOk M C h := by
  refine PsOk.of_form hh.1 (fun p hp => ?_) (fun p hp => ?_) ok.m0 ok.m ok.b
  · have h1 := hh.1.mem hp
    have h2 := hh.1.nz p hp
    rw [← h1, hh.2] at h2
    obtain ⟨q, hq, e⟩ := co_ne h2
    have := (ok.row q hq).2
    have := sh_len q.1
    rw [e] at this
    omega
  · rw [← hh.1.mem hp, hh.2]
    have := ok.co ps.length p.1
    rwa [List.take_length] at this
end Q
namespace Q
open PySem L2 PySem.Spec PyProof.Rows
def negF (f : Ps) : Ps := f.map fun p => (p.1, -p.2)
theorem negF_keys (f : Ps) : keysF (negF f) = keysF f := by
  unfold keysF negF
  rw [List.map_map]
  rfl
theorem Fm.neg {f : Ps} (h : Fm f) : Fm (negF f) := by
  refine ⟨by rw [negF_keys]; exact h.ord, fun p hp => ?_, by rw [negF_keys]; exact h.row⟩
  obtain ⟨q, hq, rfl⟩ := List.mem_map.mp hp
  have := h.nz q hq
  intro e
  apply this
  have e : -q.2 = 0 := e
  grind
theorem PsOk.neg {M C : Nat} {f : Ps} (h : PsOk M C f) : PsOk M C (negF f) := by
  refine ⟨fun p hp => ?_, fun p hp => ?_, fun i k => ?_, h.m0, h.m, h.b, by unfold negF; rw [List.length_map]; exact h.len⟩
  · obtain ⟨q, hq, rfl⟩ := List.mem_map.mp hp
    exact h.row q hq
  · obtain ⟨q, hq, rfl⟩ := List.mem_map.mp hp
    exact (h.one q hq).neg
  · unfold negF
    rw [← List.map_take, co_neg]
    exact (h.co i k).neg
theorem Fm.one : Fm [([], 1)] := ⟨List.pairwise_singleton _ _, fun p hp => by
  rw [List.mem_singleton.mp hp]
  decide, fun k hk => by
  rw [List.mem_singleton.mp hk]
  exact Rk.nil⟩
end Q
set_option Elab.async false
set_option linter.all false
set_option maxRecDepth 100000
set_option maxHeartbeats 4000000
namespace Q
open PySem L2 PySem.Spec PyProof.Rows
theorem dn_frac {a z : Int} (h1 : 1 ≤ z) (h2 : z ≤ 10) (h3 : -9 ≤ a) (h4 : a ≤ 9) : Dn 2520 22680 (Rat.divInt a z) := by
  obtain ⟨k, hk, k1, k2⟩ : ∃ k : Int, z * k = 2520 ∧ 1 ≤ k ∧ k ≤ 2520 := by
    have : z = 1 ∨ z = 2 ∨ z = 3 ∨ z = 4 ∨ z = 5 ∨ z = 6 ∨ z = 7 ∨ z = 8 ∨ z = 9 ∨ z = 10 := by omega
    rcases this with rfl | rfl | rfl | rfl | rfl | rfl | rfl | rfl | rfl | rfl
    · exact ⟨2520, rfl, by decide, by decide⟩
    · exact ⟨1260, rfl, by decide, by decide⟩
    · exact ⟨840, rfl, by decide, by decide⟩
    · exact ⟨630, rfl, by decide, by decide⟩
    · exact ⟨504, rfl, by decide, by decide⟩
    · exact ⟨420, rfl, by decide, by decide⟩
    · exact ⟨360, rfl, by decide, by decide⟩
    · exact ⟨315, rfl, by decide, by decide⟩
    · exact ⟨280, rfl, by decide, by decide⟩
    · exact ⟨252, rfl, by decide, by decide⟩
  refine ⟨a * k, ?_, ?_⟩
  · have hz : ((z : Int) : Rat) ≠ 0 := fun e => by
      have : ((z : Int) : Rat) = ((0 : Int) : Rat) := e
      have := Rat.intCast_inj.mp this
      omega
    have e : ((2520 : Nat) : Rat) = (z : Rat) * (k : Rat) := by
      rw [← Rat.intCast_mul, hk]
      rfl
    rw [e, Rat.divInt_eq_div, Rat.div_def, Rat.intCast_mul, Rat.mul_assoc, ← Rat.mul_assoc _ (z : Rat), Rat.inv_mul_cancel _ hz, Rat.one_mul]
  · rw [Int.natAbs_mul]
    have h5 : a.natAbs ≤ 9 := by omega
    have h6 : k.natAbs ≤ 2520 := by omega
    exact Nat.mul_le_mul h5 h6
end Q
namespace Q
open PySem L2 PySem.Spec PyProof.Rows
end Q
set_option Elab.async false
set_option linter.all false
set_option maxRecDepth 100000
set_option maxHeartbeats 4000000
namespace Q
open PySem L2 PySem.Spec PyProof.Rows
theorem lt3900 {n : Nat} (h : n < 2 ^ 200) : n < 2 ^ 3900000 := Nat.lt_of_lt_of_le h (Nat.pow_le_pow_right (by decide) (by decide))
structure FB (M C R : Nat) (f : Ps) : Prop where
  fm : Fm f
  row : ∀ p ∈ f, p.1.length ≤ R
  num : ∀ p ∈ f, Dn M C p.2
  len : f.length ≤ 63
theorem fm_len {f : Ps} (F : Fm f) (h : ∀ p ∈ f, p.1.length ≤ 31) : f.length ≤ 63 := by
  have := few_rows F.nd F.row (fun a ha => by
    obtain ⟨p, hp, rfl⟩ := List.mem_map.mp ha
    exact h p hp)
  unfold keysF at this
  rw [List.length_map] at this
  omega
theorem FB.of {M C R : Nat} {ps f : Ps} (ok : PsOk M C ps) (hr : ∀ p ∈ ps, p.1.length ≤ R) (hR : R ≤ 31) (h : IsF ps f) : FB M C R f := by
  have r : ∀ p ∈ f, p.1.length ≤ R := fun p hp => by
    have h1 := h.1.mem hp
    have h2 := h.1.nz p hp
    rw [← h1, h.2] at h2
    obtain ⟨q, hq, e⟩ := co_ne h2
    have := hr q hq
    have := sh_len q.1
    rw [e] at this
    omega
  exact ⟨h.1, r, (ok.norm h).one, fm_len h.1 fun p hp => by have := r p hp; omega⟩
theorem FB.ok {M C R : Nat} {f : Ps} (h : FB M C R f) (hR : R ≤ 31) (m0 : 0 < M) (m : M < 2 ^ 200) (c : C < 2 ^ 200) : PsOk M C f := PsOk.of_form h.fm (fun p hp => by have := h.row p hp; omega) h.num m0 (lt3900 m) (lt3900 c)
theorem FB.sz {M C R : Nat} {f : Ps} (h : FB M C R f) (m0 : 0 < M) (m : M < 2 ^ 200) (c : C < 2 ^ 200) : ∀ p ∈ f, Sz 4000000 p.2 := fun p hp => ((h.num p hp).sz m0 m c).mono (by decide)
theorem FB.neg {M C R : Nat} {f : Ps} (h : FB M C R f) : FB M C R (negF f) := by
  refine ⟨h.fm.neg, fun p hp => ?_, fun p hp => ?_, by unfold negF; rw [List.length_map]; exact h.len⟩
  · obtain ⟨q, hq, rfl⟩ := List.mem_map.mp hp
    exact h.row q hq
  · obtain ⟨q, hq, rfl⟩ := List.mem_map.mp hp
    exact (h.num q hq).neg
end Q
set_option Elab.async false
set_option linter.all false
set_option maxRecDepth 100000
set_option maxHeartbeats 4000000
namespace Q
open PySem L2 PySem.Spec PyProof.Rows
def powR (x : Rat) : Nat → Rat
  | 0 => 1
  | n + 1 => x * powR x n
def mono (e : Nat) (q : Rat) : List Rat := List.replicate e 0 ++ [q]
theorem mono_len (e : Nat) (q : Rat) : (mono e q).length = e + 1 := by simp [mono]
theorem mono_cf (e : Nat) (q : Rat) (k : Nat) : cf0 (mono e q) k = if k = e then q else 0 := by
  unfold mono
  rw [cf0_append, cf0_rep, List.length_replicate]
  by_cases h : k < e
  · rw [if_pos h, if_neg (by omega)]
  · rw [if_neg h]
    by_cases h2 : k = e
    · subst h2
      rw [if_pos rfl, Nat.sub_self, cf0_zero]
    · rw [if_neg h2, show k - e = (k - e - 1) + 1 by omega, cf0_succ, cf0_nil]
theorem horner_mono (x q : Rat) : ∀ e, horner x (mono e q) = q * powR x e
  | 0 => by
    show 0 * x + q = q * 1
    grind
  | e + 1 => by
    have e1 : mono (e + 1) q = 0 :: mono e q := rfl
    rw [e1]
    show horner x (mono e q) * x + 0 = q * (x * powR x e)
    rw [horner_mono x q e]
    grind
theorem horner_addL (x : Rat) : ∀ (as bs : List Rat), horner x (addL as bs) = horner x as + horner x bs := by
  have key : ∀ (as bs : List Rat), ∃ cs, (∀ k, cf0 cs k = cf0 as k + cf0 bs k) ∧ horner x cs = horner x as + horner x bs := by
    intro as
    induction as with
    | nil => exact fun bs => ⟨bs, fun k => by rw [cf0_nil]; grind, by show _ = 0 + _; grind⟩
    | cons a as ih =>
      intro bs
      cases bs with
      | nil => exact ⟨a :: as, fun k => by rw [cf0_nil]; grind, by show _ = _ + 0; grind⟩
      | cons b bs =>
        obtain ⟨cs, h1, h2⟩ := ih bs
        refine ⟨(a + b) :: cs, fun k => ?_, ?_⟩
        · cases k with
          | zero => rw [cf0_zero, cf0_zero, cf0_zero]
          | succ k => rw [cf0_succ, cf0_succ, cf0_succ, h1]
        · show horner x cs * x + (a + b) = (horner x as * x + a) + (horner x bs * x + b)
          rw [h2]
          grind
  intro as bs
  obtain ⟨cs, h1, h2⟩ := key as bs
  rw [← h2]
  exact horner_ext x _ _ fun k => by rw [addL_cf, h1]
theorem horner_scale (x c : Rat) : ∀ (as : List Rat), horner x (as.map fun a => c * a) = c * horner x as
  | [] => (Rat.mul_zero c).symm
  | a :: as => by
    show horner x (as.map fun a => c * a) * x + c * a = c * (horner x as * x + a)
    rw [horner_scale x c as]
    grind
theorem horner_subL (x : Rat) (as bs : List Rat) : horner x (subL as bs) = horner x as - horner x bs := by
  have e : horner x (subL as bs) = horner x (addL as (bs.map fun b => (-1) * b)) := horner_ext x _ _ fun k => by
    rw [subL_cf, addL_cf, cf0_map (fun b => (-1) * b) (by grind)]
    grind
  rw [e, horner_addL, horner_scale]
  grind
theorem sumTo_first (n : Nat) (f : Nat → Rat) : sumTo (n + 1) f = f 0 + sumTo n (fun j => f (j + 1)) := by
  induction n with
  | zero => show 0 + f 0 = f 0 + 0; grind
  | succ n ih =>
    show sumTo (n + 1) f + f (n + 1) = f 0 + (sumTo n (fun j => f (j + 1)) + f (n + 1))
    rw [ih]
    grind
theorem sumTo_zero {n : Nat} {f : Nat → Rat} (h : ∀ j, j < n → f j = 0) : sumTo n f = 0 := by
  induction n with
  | zero => rfl
  | succ n ih =>
    show sumTo n f + f n = 0
    rw [ih fun j hj => h j (by omega), h n (by omega)]
    grind
def mulR : List Rat → List Rat → List Rat
  | [], _ => []
  | p :: ps, qs => addL (qs.map fun q => p * q) (0 :: mulR ps qs)
theorem mulR_cf (qs : List Rat) : ∀ (ps : List Rat) (k : Nat), cf0 (mulR ps qs) k = conv ps qs k
  | [], k => by
    show cf0 [] k = _
    rw [cf0_nil]
    exact (sumTo_zero fun j _ => by rw [cf0_nil, Rat.zero_mul]).symm
  | p :: ps, k => by
    show cf0 (addL (qs.map fun q => p * q) (0 :: mulR ps qs)) k = sumTo (k + 1) fun j => cf0 (p :: ps) j * cf0 qs (k - j)
    rw [addL_cf, cf0_map (fun q => p * q) (Rat.mul_zero p), sumTo_first, cf0_zero, Nat.sub_zero]
    congr 1
    cases k with
    | zero => rw [cf0_zero]; rfl
    | succ k =>
      rw [cf0_succ, mulR_cf qs ps k]
      exact sumTo_ext fun j hj => by rw [cf0_succ, show k + 1 - (j + 1) = k - j by omega]
theorem horner_mulL (x : Rat) (ps qs : List Rat) : horner x (mulL ps qs) = horner x ps * horner x qs := by
  have e : horner x (mulL ps qs) = horner x (mulR ps qs) := horner_ext x _ _ fun k => by rw [mulL_cf, mulR_cf]
  rw [e]
  induction ps with
  | nil => exact (Rat.zero_mul _).symm
  | cons p ps ih =>
    have e2 : horner x (mulL ps qs) = horner x (mulR ps qs) := horner_ext x _ _ fun k => by rw [mulL_cf, mulR_cf]
    show horner x (addL (qs.map fun q => p * q) (0 :: mulR ps qs)) = (horner x ps * x + p) * horner x qs
    rw [horner_addL, horner_scale]
    show p * horner x qs + (horner x (mulR ps qs) * x + 0) = _
    rw [ih e2]
    grind
def CD (M C : Nat) (qs : List Rat) : Prop := ∀ k, Dn M C (cf0 qs k)
theorem CD.trim {M C : Nat} {qs : List Rat} (h : CD M C qs) : CD M C (trimR qs) := fun k => by rw [trim_cf]; exact h k
theorem CD.add {M C D : Nat} {as bs : List Rat} (h : CD M C as) (k : CD M D bs) : CD M (C + D) (addL as bs) := fun j => by rw [addL_cf]; exact (h j).add (k j)
theorem CD.sub {M C D : Nat} {as bs : List Rat} (h : CD M C as) (k : CD M D bs) : CD M (C + D) (subL as bs) := fun j => by rw [subL_cf]; exact (h j).sub (k j)
theorem CD.mono {M C D : Nat} {as : List Rat} (h : CD M C as) (l : C ≤ D) : CD M D as := fun j => (h j).mono l
theorem CD.one {M C : Nat} {q : Rat} (h : Dn M C q) (e : Nat) : CD M C (Q.mono e q) := fun j => by
  rw [mono_cf]
  split
  · exact h
  · exact Dn.zero.mono (Nat.zero_le _)
theorem CD.nil {M C : Nat} : CD M C [] := fun j => by rw [cf0_nil]; exact Dn.zero.mono (Nat.zero_le _)
theorem sum_dn {M C : Nat} {f : Nat → Rat} : ∀ {n L : Nat}, (∀ j, Dn M C (f j)) → (∀ j, L ≤ j → f j = 0) → Dn M (L * C) (sumTo n f)
  | 0, L, _, _ => Dn.zero.mono (Nat.zero_le _)
  | n + 1, L, h, h0 => by
    show Dn M (L * C) (sumTo n f + f n)
    by_cases hL : L ≤ n
    · rw [h0 n hL, Rat.add_zero]
      exact sum_dn h h0
    · have h1 := sum_dn (n := n) (L := n) (f := fun j => if j < n then f j else 0) (fun j => by
        show Dn M C (if j < n then f j else 0)
        split
        · exact h j
        · exact Dn.zero.mono (Nat.zero_le _)) (fun j hj => if_neg (by omega))
      have e : sumTo n (fun j => if j < n then f j else 0) = sumTo n f := sumTo_ext fun j hj => if_pos hj
      rw [e] at h1
      refine (h1.add (h n)).mono ?_
      have : (n + 1) * C ≤ L * C := Nat.mul_le_mul_right _ (by omega)
      rw [Nat.add_mul, Nat.one_mul] at this
      exact this
theorem CD.mul {M C N D : Nat} {as bs : List Rat} (h : CD M C as) (k : CD N D bs) : CD (M * N) (as.length * (C * D)) (mulL as bs) := fun j => by
  rw [mulL_cf]
  exact sum_dn (fun i => (h i).mul (k _)) (fun i hi => by rw [cf0_ge hi, Rat.zero_mul])
theorem CD.sz {M C n : Nat} {qs : List Rat} (h : CD M C qs) (h0 : 0 < M) (hM : M < 2 ^ n) (hC : C < 2 ^ n) : ∀ q ∈ qs, Sz n q := fun q hq => by
  obtain ⟨i, hi, rfl⟩ := List.mem_iff_getElem.mp hq
  rw [← cf0_lt hi]
  exact (h i).sz h0 hM hC
structure E4 where
  a : List Rat
  b : List Rat
  c : List Rat
  d : List Rat
def rowE (r : Rw) (x : Rat) : E4 := match r with
  | [] => ⟨trimR [x], [], [], trimR [x]⟩
  | h :: t =>
    let k := ((h :: t).length - 1) / 2
    let F := trimR (mono k x)
    let M := trimR (mono (k + 1) x)
    if h = 112 then (if (h :: t).getLast? = some 112 then ⟨F, [], [], []⟩ else ⟨M, F, [], []⟩)
    else (if (h :: t).getLast? = some 112 then ⟨M, [], F, []⟩ else ⟨M, F, F, trimR (subL F M)⟩)
def E4.add (e f : E4) : E4 := ⟨trimR (addL e.a f.a), trimR (addL e.b f.b), trimR (addL e.c f.c), trimR (addL e.d f.d)⟩
def E4.nil : E4 := ⟨[], [], [], []⟩
def entF (f : Ps) : E4 := f.foldl (fun e p => e.add (rowE p.1 p.2)) .nil
/-- the four numbers of a short row at t -/
def ep (t : Rat) (r : Rw) : Rat × Rat × Rat × Rat := match r with
  | [] => (1, 0, 0, 1)
  | h :: tl =>
    let k := ((h :: tl).length - 1) / 2
    let F := powR t k
    let M := powR t (k + 1)
    if h = 112 then (if (h :: tl).getLast? = some 112 then (F, 0, 0, 0) else (M, F, 0, 0))
    else (if (h :: tl).getLast? = some 112 then (M, 0, F, 0) else (M, F, F, F - M))
end Q
set_option Elab.async false
set_option linter.all false
set_option maxRecDepth 100000
set_option maxHeartbeats 4000000
namespace Q
open PySem L2 PySem.Spec PyProof.Rows
theorem trim_le : ∀ qs : List Rat, (trimR qs).length ≤ qs.length := trim_len
theorem addL_le {n : Nat} {as bs : List Rat} (h : as.length ≤ n) (k : bs.length ≤ n) : (addL as bs).length ≤ n := by
  unfold addL; rw [List.length_map, List.length_range]; split <;> omega
theorem subL_le {n : Nat} {as bs : List Rat} (h : as.length ≤ n) (k : bs.length ≤ n) : (subL as bs).length ≤ n := by
  unfold subL; rw [List.length_map, List.length_range]; split <;> omega
theorem tle {n : Nat} {qs : List Rat} (h : qs.length ≤ n) : (trimR qs).length ≤ n := Nat.le_trans (trim_le qs) h
structure EB (n M C : Nat) (e : E4) : Prop where
  la : e.a.length ≤ n
  lb : e.b.length ≤ n
  lc : e.c.length ≤ n
  ld : e.d.length ≤ n
  ca : CD M C e.a
  cb : CD M C e.b
  cc : CD M C e.c
  cd : CD M C e.d
theorem EB.add {n M C D : Nat} {e f : E4} (h : EB n M C e) (k : EB n M D f) : EB n M (C + D) (e.add f) :=
  ⟨tle (addL_le h.la k.la), tle (addL_le h.lb k.lb), tle (addL_le h.lc k.lc), tle (addL_le h.ld k.ld), (h.ca.add k.ca).trim, (h.cb.add k.cb).trim, (h.cc.add k.cc).trim, (h.cd.add k.cd).trim⟩
theorem EB.nil {n M : Nat} : EB n M 0 .nil := ⟨Nat.zero_le _, Nat.zero_le _, Nat.zero_le _, Nat.zero_le _, CD.nil, CD.nil, CD.nil, CD.nil⟩
theorem rowE_b {M C : Nat} {r : Rw} {x : Rat} (h : r.length ≤ 12) (d : Dn M C x) : EB 7 M (2 * C) (rowE r x) := by
  have m : ∀ e, CD M (2 * C) (trimR (mono e x)) := fun e => ((CD.one d e).trim).mono (by omega)
  have l : ∀ e, e ≤ 6 → (trimR (mono e x)).length ≤ 7 := fun e he => tle (by rw [mono_len]; omega)
  have z : CD M (2 * C) [] := CD.nil
  have zl : ([] : List Rat).length ≤ 7 := Nat.zero_le _
  cases r with
  | nil => exact ⟨l 0 (by omega), zl, zl, l 0 (by omega), m 0, z, z, m 0⟩
  | cons a t =>
    have hk : ((a :: t).length - 1) / 2 ≤ 5 := by omega
    unfold rowE
    dsimp only
    generalize ((a :: t).length - 1) / 2 = k at hk ⊢
    have s : CD M (2 * C) (trimR (subL (trimR (mono k x)) (trimR (mono (k + 1) x)))) := by
      have := (((CD.one d k).trim).sub ((CD.one d (k + 1)).trim)).trim
      rw [← Nat.two_mul] at this
      exact this
    have sl : (trimR (subL (trimR (mono k x)) (trimR (mono (k + 1) x)))).length ≤ 7 := tle (subL_le (l k (by omega)) (l (k + 1) (by omega)))
    split
    · split
      · exact ⟨l k (by omega), zl, zl, zl, m k, z, z, z⟩
      · exact ⟨l (k + 1) (by omega), l k (by omega), zl, zl, m _, m k, z, z⟩
    · split
      · exact ⟨l (k + 1) (by omega), zl, l k (by omega), zl, m _, z, m k, z⟩
      · exact ⟨l (k + 1) (by omega), l k (by omega), l k (by omega), sl, m _, m k, m k, s⟩
theorem entF_b {M C : Nat} : ∀ {f : Ps}, (∀ p ∈ f, p.1.length ≤ 12) → (∀ p ∈ f, Dn M C p.2) → EB 7 M (f.length * (2 * C)) (entF f) := by
  have key : ∀ (f : Ps) (e : E4) (B : Nat), (∀ p ∈ f, p.1.length ≤ 12) → (∀ p ∈ f, Dn M C p.2) → EB 7 M B e → EB 7 M (B + f.length * (2 * C)) (f.foldl (fun e p => e.add (rowE p.1 p.2)) e) := by
    intro f
    induction f with
    | nil =>
      intro e B _ _ h
      rw [List.length_nil, Nat.zero_mul, Nat.add_zero]
      exact h
    | cons p f ih =>
      intro e B h1 h2 h
      have := ih (e.add (rowE p.1 p.2)) (B + 2 * C) (fun q hq => h1 q (List.mem_cons_of_mem _ hq)) (fun q hq => h2 q (List.mem_cons_of_mem _ hq)) (h.add (rowE_b (h1 p (List.mem_cons_self ..)) (h2 p (List.mem_cons_self ..))))
      rw [show B + 2 * C + f.length * (2 * C) = B + (p :: f).length * (2 * C) by rw [List.length_cons, Nat.add_mul, Nat.one_mul]; omega] at this
      exact this
  intro f h1 h2
  have := key f .nil 0 h1 h2 EB.nil
  rw [Nat.zero_add] at this
  exact this
/-- a formula small enough for shape -/
structure Sm (f : Ps) : Prop where
  fm : Fm f
  row : ∀ p ∈ f, p.1.length ≤ 12
  len : f.length ≤ 16
  num : ∃ M, 0 < M ∧ M ≤ 6350400 ∧ ∀ p ∈ f, Dn M 8230118400 p.2
theorem Sm.eb {f : Ps} (h : Sm f) : ∃ M, 0 < M ∧ M ≤ 6350400 ∧ EB 7 M 263363788800 (entF f) := by
  obtain ⟨M, h0, h1, hn⟩ := h.num
  have e := entF_b h.row hn
  have hl : f.length * (2 * 8230118400) ≤ 263363788800 := Nat.le_trans (Nat.mul_le_mul_right _ h.len) (by decide)
  exact ⟨M, h0, h1, e.la, e.lb, e.lc, e.ld, e.ca.mono hl, e.cb.mono hl, e.cc.mono hl, e.cd.mono hl⟩
theorem Sm.sz {f : Ps} (h : Sm f) : (∀ q ∈ (entF f).a, Sz 38 q) ∧ (∀ q ∈ (entF f).b, Sz 38 q) ∧ (∀ q ∈ (entF f).c, Sz 38 q) ∧ (∀ q ∈ (entF f).d, Sz 38 q) := by
  obtain ⟨M, h0, h1, e⟩ := h.eb
  have hm : M < 2 ^ 38 := Nat.lt_of_le_of_lt h1 (by decide)
  exact ⟨e.ca.sz h0 hm (by decide), e.cb.sz h0 hm (by decide), e.cc.sz h0 hm (by decide), e.cd.sz h0 hm (by decide)⟩
theorem CD.pq : CD 1 1 [0, 1, -1] := fun k => match k with
  | 0 => by rw [show cf0 [0, 1, -1] 0 = ((0 : Int) : Rat) by decide +kernel]; exact (Dn.int (n := 0)).mono (by decide)
  | 1 => by rw [show cf0 [0, 1, -1] 1 = ((1 : Int) : Rat) by decide +kernel]; exact (Dn.int (n := 1)).mono (by decide)
  | 2 => by rw [show cf0 [0, 1, -1] 2 = ((-1 : Int) : Rat) by decide +kernel]; exact (Dn.int (n := -1)).mono (by decide)
  | k + 3 => by rw [cf0_succ, cf0_succ, cf0_succ, cf0_nil]; exact Dn.zero.mono (by decide)
end Q
set_option Elab.async false
set_option linter.all false
set_option maxRecDepth 100000
set_option maxHeartbeats 4000000
namespace Q
open PySem L2 PySem.Spec PyProof.Rows
structure M2 where
  a : Rat
  b : Rat
  c : Rat
  d : Rat
theorem M2.eq {X Y : M2} (h1 : X.a = Y.a) (h2 : X.b = Y.b) (h3 : X.c = Y.c) (h4 : X.d = Y.d) : X = Y := by
  cases X; cases Y; cases h1; cases h2; cases h3; cases h4; rfl
def M2.mul (X Y : M2) : M2 := ⟨X.a * Y.a + X.b * Y.c, X.a * Y.b + X.b * Y.d, X.c * Y.a + X.d * Y.c, X.c * Y.b + X.d * Y.d⟩
def M2.add (X Y : M2) : M2 := ⟨X.a + Y.a, X.b + Y.b, X.c + Y.c, X.d + Y.d⟩
def M2.tr (X : M2) : M2 := ⟨X.a, X.c, X.b, X.d⟩
def M2.one : M2 := ⟨1, 0, 0, 1⟩
def M2.zero : M2 := ⟨0, 0, 0, 0⟩
theorem M2.one_mul (X : M2) : M2.one.mul X = X := M2.eq (by simp only [M2.mul, M2.one]; grind) (by simp only [M2.mul, M2.one]; grind) (by simp only [M2.mul, M2.one]; grind) (by simp only [M2.mul, M2.one]; grind)
theorem M2.mul_one (X : M2) : X.mul M2.one = X := M2.eq (by simp only [M2.mul, M2.one]; grind) (by simp only [M2.mul, M2.one]; grind) (by simp only [M2.mul, M2.one]; grind) (by simp only [M2.mul, M2.one]; grind)
/-- the matrix of a letter, of a word -/
def lt2 (A B : M2) (c : Nat) : M2 := if c = 112 then A else B
def wd (A B : M2) (M : M2) (r : Rw) : M2 := r.foldl (fun M c => M.mul (lt2 A B c)) M
theorem M2.add_assoc (X Y Z : M2) : (X.add Y).add Z = X.add (Y.add Z) := M2.eq (by simp only [M2.add]; grind) (by simp only [M2.add]; grind) (by simp only [M2.add]; grind) (by simp only [M2.add]; grind)
theorem M2.zero_add (X : M2) : M2.zero.add X = X := M2.eq (by simp only [M2.add, M2.zero]; grind) (by simp only [M2.add, M2.zero]; grind) (by simp only [M2.add, M2.zero]; grind) (by simp only [M2.add, M2.zero]; grind)
theorem M2.add_zero (X : M2) : X.add M2.zero = X := M2.eq (by simp only [M2.add, M2.zero]; grind) (by simp only [M2.add, M2.zero]; grind) (by simp only [M2.add, M2.zero]; grind) (by simp only [M2.add, M2.zero]; grind)
end Q
set_option Elab.async false
set_option linter.all false
set_option maxRecDepth 100000
set_option maxHeartbeats 4000000
namespace Q
open PySem L2 PySem.Spec PyProof.Rows
structure DM (M C : Nat) (X : M2) : Prop where
  a : Dn M C X.a
  b : Dn M C X.b
  c : Dn M C X.c
  d : Dn M C X.d
theorem DM.mul {M C N D : Nat} {X Y : M2} (h : DM M C X) (k : DM N D Y) : DM (M * N) (C * D + C * D) (X.mul Y) := ⟨(h.a.mul k.a).add (h.b.mul k.c), (h.a.mul k.b).add (h.b.mul k.d), (h.c.mul k.a).add (h.d.mul k.c), (h.c.mul k.b).add (h.d.mul k.d)⟩
theorem DM.add {M C D : Nat} {X Y : M2} (h : DM M C X) (k : DM M D Y) : DM M (C + D) (X.add Y) := ⟨h.a.add k.a, h.b.add k.b, h.c.add k.c, h.d.add k.d⟩
theorem DM.mono {M C D : Nat} {X : M2} (h : DM M C X) (l : C ≤ D) : DM M D X := ⟨h.a.mono l, h.b.mono l, h.c.mono l, h.d.mono l⟩
theorem DM.up {M C : Nat} {X : M2} (h : DM M C X) (k : Nat) : DM (M * k) (C * k) X := ⟨h.a.up k, h.b.up k, h.c.up k, h.d.up k⟩
theorem DM.sz {M C n : Nat} {X : M2} (h : DM M C X) (h0 : 0 < M) (hM : M < 2 ^ n) (hC : C < 2 ^ n) : Sz n X.a ∧ Sz n X.b ∧ Sz n X.c ∧ Sz n X.d := ⟨h.a.sz h0 hM hC, h.b.sz h0 hM hC, h.c.sz h0 hM hC, h.d.sz h0 hM hC⟩
theorem dn_one : Dn 1 1 1 := by
  have := Dn.int (n := 1)
  exact this
theorem dn_zero {M C : Nat} : Dn M C 0 := Dn.zero.mono (Nat.zero_le _)
theorem DM.one : DM 1 1 .one := ⟨dn_one, dn_zero, dn_zero, dn_one⟩
end Q
set_option Elab.async false
set_option linter.all false
set_option maxRecDepth 100000
set_option maxHeartbeats 4000000
namespace Q
open PySem L2 PySem.Spec PyProof.Rows
end Q
set_option Elab.async false
set_option linter.all false
set_option maxRecDepth 100000
set_option maxHeartbeats 4000000
namespace Q
open PySem L2 PySem.Spec PyProof.Rows
theorem sumTo_scale (n : Nat) (x : Rat) (f : Nat → Rat) : sumTo n (fun j => x * f j) = x * sumTo n f := by
  induction n with
  | zero => show (0 : Rat) = x * 0; grind
  | succ n ih => show sumTo n _ + x * f n = x * (sumTo n f + f n); rw [ih]; grind
theorem sumTo_swap (n : Nat) (f : Nat → Nat → Rat) : ∀ m, sumTo m (fun i => sumTo n fun j => f i j) = sumTo n fun j => sumTo m fun i => f i j
  | 0 => (sumTo_zero fun _ _ => rfl).symm
  | m + 1 => by
    show sumTo m (fun i => sumTo n fun j => f i j) + sumTo n (fun j => f m j) = _
    rw [sumTo_swap n f m, ← sumTo_add]
    rfl
theorem sumTo_pick {n : Nat} {k : Nat} (h : k < n) (f : Nat → Rat) : sumTo n (fun j => if j = k then f j else 0) = f k := by
  induction n with
  | zero => omega
  | succ n ih =>
    show sumTo n _ + (if n = k then f n else 0) = _
    by_cases e : n = k
    · subst e
      rw [if_pos rfl, sumTo_zero fun j hj => by rw [if_neg (by omega)]]
      grind
    · rw [if_neg e, ih (by omega)]
      grind
def EqN (n : Nat) (f g : Nat → Nat → Rat) : Prop := ∀ i j, i < n → j < n → f i j = g i j
theorem EqN.refl {n : Nat} {f : Nat → Nat → Rat} : EqN n f f := fun _ _ _ _ => rfl
theorem EqN.symm {n : Nat} {f g : Nat → Nat → Rat} (h : EqN n f g) : EqN n g f := fun i j hi hj => (h i j hi hj).symm
theorem EqN.trans {n : Nat} {f g h : Nat → Nat → Rat} (a : EqN n f g) (b : EqN n g h) : EqN n f h := fun i j hi hj => (a i j hi hj).trans (b i j hi hj)
theorem EqN.mul {n : Nat} {f f' g g' : Nat → Nat → Rat} (a : EqN n f f') (b : EqN n g g') : EqN n (mulF n f g) (mulF n f' g') := fun i j hi hj =>
  sumTo_ext fun k hk => by rw [a i k hi hk, b k j hk hj]
def ltF (p q : Nat → Nat → Rat) (c : Nat) : Nat → Nat → Rat := if c = 112 then p else q
def DF (n M C : Nat) (f : Nat → Nat → Rat) : Prop := ∀ i j, i < n → j < n → Dn M C (f i j)
theorem dn_sum {M C : Nat} {f : Nat → Rat} : ∀ {n : Nat}, (∀ j, j < n → Dn M C (f j)) → Dn M (n * C) (sumTo n f)
  | 0, _ => by rw [Nat.zero_mul]; exact Dn.zero
  | n + 1, h => by
    rw [Nat.succ_mul]
    exact (dn_sum fun j hj => h j (by omega)).add (h n (by omega))
theorem DF.mul {n M C N D : Nat} {f g : Nat → Nat → Rat} (h : DF n M C f) (k : DF n N D g) : DF n (M * N) (n * (C * D)) (mulF n f g) := fun i j hi hj =>
  dn_sum fun l hl => (h i l hi hl).mul (k l j hl hj)
theorem DF.sz {n M C s : Nat} {f : Nat → Nat → Rat} (h : DF n M C f) (h0 : 0 < M) (hM : M < 2 ^ s) (hC : C < 2 ^ s) : ∀ i j, i < n → j < n → Sz s (f i j) := fun i j hi hj => (h i j hi hj).sz h0 hM hC
theorem DF.lt {n N D : Nat} {p q : Nat → Nat → Rat} (hp : DF n N D p) (hq : DF n N D q) (c : Nat) : DF n N D (ltF p q c) := by unfold ltF; split <;> assumption
end Q
set_option Elab.async false
set_option linter.all false
set_option maxRecDepth 100000
set_option maxHeartbeats 4000000
namespace Q
open PySem L2 PySem.Spec PyProof.Rows
/-- the quotient by x - a -/
def quoL (a : Rat) : List Rat → List Rat
  | [] => []
  | [_] => []
  | _ :: b :: l => horner a (b :: l) :: quoL a (b :: l)
theorem quoL_len (a : Rat) : ∀ l : List Rat, (quoL a l).length = l.length - 1
  | [] => rfl
  | [_] => rfl
  | _ :: b :: l => by
    have := quoL_len a (b :: l)
    simp only [quoL, List.length_cons] at this ⊢
    omega
theorem horner_quo (a x : Rat) : ∀ l : List Rat, horner x l - horner a l = (x - a) * horner x (quoL a l)
  | [] => by show (0 : Rat) - 0 = (x - a) * 0; grind
  | [c] => by show ((0 : Rat) * x + c) - (0 * a + c) = (x - a) * 0; grind
  | c :: b :: l => by
    have ih := horner_quo a x (b :: l)
    show (horner x (b :: l) * x + c) - (horner a (b :: l) * a + c) = (x - a) * (horner x (quoL a (b :: l)) * x + horner a (b :: l))
    generalize horner x (b :: l) = X at ih ⊢
    generalize horner a (b :: l) = A at ih ⊢
    generalize horner x (quoL a (b :: l)) = Z at ih ⊢
    have e : X = A + (x - a) * Z := by rw [← ih]; grind
    rw [e]
    grind
theorem zero_poly : ∀ (n : Nat) (l ts : List Rat), l.length = n → ts.Nodup → n ≤ ts.length → (∀ t ∈ ts, horner t l = 0) → ∀ x, horner x l = 0
  | 0, l, ts, hl, _, _, _ => fun x => by
    rw [List.eq_nil_of_length_eq_zero hl]
    rfl
  | n + 1, l, [], _, _, h, _ => by simp at h
  | n + 1, l, a :: ts, hl, hd, hn, hz => fun x => by
    have hd' := List.nodup_cons.mp hd
    have hq : ∀ x, horner x l = (x - a) * horner x (quoL a l) := fun x => by
      have := horner_quo a x l
      rw [hz a List.mem_cons_self] at this
      rw [← this]
      grind
    have hr : ∀ t ∈ ts, horner t (quoL a l) = 0 := fun t ht => by
      have h1 := hq t
      rw [hz t (List.mem_cons_of_mem _ ht)] at h1
      have hne : t - a ≠ 0 := fun z => hd'.1 (by
        have : t = a := by grind
        rw [← this]; exact ht)
      rcases Rat.mul_eq_zero.mp h1.symm with z | z
      · exact absurd z hne
      · exact z
    have ih := zero_poly n (quoL a l) ts (by rw [quoL_len, hl]; rfl) hd'.2 (by simpa using hn) hr x
    rw [hq x, ih]
    grind
def ptsR (m : Nat) : List Rat := (List.range m).map fun i => ((i + 1 : Nat) : Rat)
theorem ptsR_nd (m : Nat) : (ptsR m).Nodup := by
  unfold ptsR
  rw [List.nodup_iff_pairwise_ne, List.pairwise_map]
  refine (List.nodup_range (n := m)).imp fun {a b} h e => h ?_
  have : a + 1 = b + 1 := Rat.natCast_inj.mp e
  omega
theorem ptsR_ne {m : Nat} {t : Rat} (h : t ∈ ptsR m) : t ≠ 0 := by
  obtain ⟨i, _, rfl⟩ := List.mem_map.mp h
  intro z
  have : i + 1 = 0 := Rat.natCast_inj.mp (z.trans (by rfl))
  omega
theorem all_zero : ∀ l : List Rat, (∀ x, horner x l = 0) → ∀ k, cf0 l k = 0
  | [], _, k => cf0_nil k
  | c :: l, h, k => by
    have hc : c = 0 := by
      have := h 0
      have e : horner 0 (c :: l) = horner 0 l * 0 + c := rfl
      rw [e] at this
      grind
    have hl : ∀ x, horner x l = 0 := zero_poly l.length l (ptsR l.length) rfl (ptsR_nd _) (by unfold ptsR; rw [List.length_map, List.length_range]; exact Nat.le_refl _) fun t ht => by
      have := h t
      have e : horner t (c :: l) = horner t l * t + c := rfl
      rw [e, hc, Rat.add_zero] at this
      rcases Rat.mul_eq_zero.mp this with z | z
      · exact z
      · exact absurd z (ptsR_ne ht)
    cases k with
    | zero => exact hc
    | succ k => exact all_zero l hl k
def kk (r : Rw) : Nat := (r.length - 1) / 2
end Q
set_option Elab.async false
set_option linter.all false
set_option maxRecDepth 100000
set_option maxHeartbeats 4000000
namespace Q
open PySem L2 PySem.Spec PyProof.Rows
structure Pol where
  l : List Rat
  tr : trimR l = l
def Pol.ev (p : Pol) (x : Rat) : Rat := horner x p.l
theorem Pol.cf_ext {p q : Pol} (h : ∀ k, cf0 p.l k = cf0 q.l k) : p = q := by
  obtain ⟨a, ha⟩ := p
  obtain ⟨b, hb⟩ := q
  have e : a = b := by rw [← ha, ← hb]; exact trim_ext _ _ h
  subst e
  rfl
theorem Pol.ext {p q : Pol} (h : ∀ x, p.ev x = q.ev x) : p = q := Pol.cf_ext fun k => by
  have z : ∀ x, horner x (subL p.l q.l) = 0 := fun x => by
    rw [horner_subL]
    have := h x
    unfold Pol.ev at this
    rw [this]
    grind
  have := all_zero _ z k
  rw [subL_cf] at this
  grind
def mkP (l : List Rat) : Pol := ⟨trimR l, trim_trim l⟩
theorem ev_mk (l : List Rat) (x : Rat) : (mkP l).ev x = horner x l := horner_trim x l
theorem mkP_l (p : Pol) : mkP p.l = p := Pol.cf_ext fun k => trim_cf _ k
def Pol.add (p q : Pol) : Pol := mkP (addL p.l q.l)
def Pol.sub (p q : Pol) : Pol := mkP (subL p.l q.l)
def Pol.mul (p q : Pol) : Pol := mkP (mulL p.l q.l)
def Pol.neg (p : Pol) : Pol := mkP (p.l.map fun q => -q)
def Pol.C (c : Rat) : Pol := mkP [c]
def Pol.X : Pol := mkP [0, 1]
instance : Add Pol := ⟨Pol.add⟩
instance : _root_.Sub Pol := ⟨Pol.sub⟩
instance : Mul Pol := ⟨Pol.mul⟩
instance : Neg Pol := ⟨Pol.neg⟩
instance (n : Nat) : OfNat Pol n := ⟨Pol.C (n : Rat)⟩
theorem ev_add (p q : Pol) (x : Rat) : (p + q).ev x = p.ev x + q.ev x := (ev_mk _ x).trans (horner_addL x _ _)
theorem ev_sub (p q : Pol) (x : Rat) : (p - q).ev x = p.ev x - q.ev x := (ev_mk _ x).trans (horner_subL x _ _)
theorem ev_mul (p q : Pol) (x : Rat) : (p * q).ev x = p.ev x * q.ev x := (ev_mk _ x).trans (horner_mulL x _ _)
theorem ev_neg (p : Pol) (x : Rat) : (-p).ev x = -p.ev x := (ev_mk _ x).trans (by
  have e : (fun q : Rat => -q) = fun q => (-1) * q := funext fun q => by grind
  rw [e, horner_scale]
  unfold Pol.ev
  grind)
theorem ev_C (c x : Rat) : (Pol.C c).ev x = c := (ev_mk _ x).trans (by show 0 * x + c = c; grind)
theorem ev_X (x : Rat) : Pol.X.ev x = x := (ev_mk _ x).trans (by show (0 * x + 1) * x + 0 = x; grind)
theorem ev_zero (x : Rat) : (0 : Pol).ev x = 0 := ev_C _ x
theorem ev_one (x : Rat) : (1 : Pol).ev x = 1 := ev_C _ x
def Pol.powN (p : Pol) : Nat → Pol
  | 0 => 1
  | n + 1 => Pol.powN p n * p
instance : NatCast Pol := ⟨fun n => Pol.C (n : Rat)⟩
instance : IntCast Pol := ⟨fun n => Pol.C (n : Rat)⟩
instance : HPow Pol Nat Pol := ⟨Pol.powN⟩
instance : SMul Nat Pol := ⟨fun n p => Pol.C (n : Rat) * p⟩
instance : SMul Int Pol := ⟨fun n p => Pol.C (n : Rat) * p⟩
theorem ev_nat (n : Nat) (x : Rat) : (OfNat.ofNat n : Pol).ev x = (n : Rat) := ev_C _ x
theorem ev_icast (n : Int) (x : Rat) : ((n : Int) : Pol).ev x = (n : Rat) := ev_C _ x
theorem ev_nsmul (n : Nat) (p : Pol) (x : Rat) : (n • p).ev x = (n : Rat) * p.ev x := (ev_mul _ _ x).trans (by rw [ev_C])
theorem ev_zsmul (n : Int) (p : Pol) (x : Rat) : (n • p).ev x = (n : Rat) * p.ev x := (ev_mul _ _ x).trans (by rw [ev_C])
instance : Lean.Grind.CommRing Pol where
  add_zero a := Pol.ext fun x => by rw [ev_add, show (0 : Pol) = OfNat.ofNat 0 from rfl, ev_nat]; grind
  add_comm a b := Pol.ext fun x => by rw [ev_add, ev_add]; grind
  add_assoc a b c := Pol.ext fun x => by rw [ev_add, ev_add, ev_add, ev_add]; grind
  mul_assoc a b c := Pol.ext fun x => by rw [ev_mul, ev_mul, ev_mul, ev_mul]; grind
  mul_one a := Pol.ext fun x => by rw [ev_mul, show (1 : Pol) = OfNat.ofNat 1 from rfl, ev_nat]; grind
  mul_comm a b := Pol.ext fun x => by rw [ev_mul, ev_mul]; grind
  one_mul a := Pol.ext fun x => by rw [ev_mul, show (1 : Pol) = OfNat.ofNat 1 from rfl, ev_nat]; grind
  left_distrib a b c := Pol.ext fun x => by rw [ev_mul, ev_add, ev_add, ev_mul, ev_mul]; grind
  right_distrib a b c := Pol.ext fun x => by rw [ev_mul, ev_add, ev_add, ev_mul, ev_mul]; grind
  zero_mul a := Pol.ext fun x => by rw [ev_mul, show (0 : Pol) = OfNat.ofNat 0 from rfl, ev_nat]; grind
  mul_zero a := Pol.ext fun x => by rw [ev_mul, show (0 : Pol) = OfNat.ofNat 0 from rfl, ev_nat]; grind
  pow_zero a := rfl
  pow_succ a n := rfl
  ofNat_succ n := Pol.ext fun x => by rw [ev_add, ev_nat, ev_nat, ev_nat]; grind
  ofNat_eq_natCast n := rfl
  nsmul_eq_natCast_mul n a := rfl
  neg_add_cancel a := Pol.ext fun x => by rw [ev_add, ev_neg, show (0 : Pol) = OfNat.ofNat 0 from rfl, ev_nat]; grind
  sub_eq_add_neg a b := Pol.ext fun x => by rw [ev_sub, ev_add, ev_neg]; grind
  neg_zsmul i a := Pol.ext fun x => by rw [ev_neg, ev_zsmul, ev_zsmul]; grind
  zsmul_natCast_eq_nsmul n a := Pol.ext fun x => by rw [ev_nsmul, ev_zsmul]; rfl
  intCast_ofNat n := Pol.ext fun x => by rw [ev_icast, ev_nat]; rfl
  intCast_neg i := Pol.ext fun x => by rw [ev_neg, ev_icast, ev_icast]; grind
end Q
set_option Elab.async false
set_option linter.all false
set_option maxRecDepth 100000
set_option maxHeartbeats 4000000
namespace Q
open PySem L2 PySem.Spec PyProof.Rows
def Pol.len (p : Pol) : Nat := p.l.length
def Pol.cf (p : Pol) (k : Nat) : Rat := cf0 p.l k
theorem Pol.cfe {p q : Pol} (h : ∀ k, p.cf k = q.cf k) : p = q := Pol.cf_ext h
theorem mk_cf (l : List Rat) (k : Nat) : (mkP l).cf k = cf0 l k := trim_cf l k
theorem cf_add (p q : Pol) (k : Nat) : (p + q).cf k = p.cf k + q.cf k := (mk_cf _ k).trans (addL_cf _ _ k)
theorem cf_sub (p q : Pol) (k : Nat) : (p - q).cf k = p.cf k - q.cf k := (mk_cf _ k).trans (subL_cf _ _ k)
theorem cf_mul (p q : Pol) (k : Nat) : (p * q).cf k = conv p.l q.l k := (mk_cf _ k).trans (mulL_cf _ _ k)
theorem cf_C (c : Rat) (k : Nat) : (Pol.C c).cf k = if k = 0 then c else 0 := by
  rw [Pol.C, mk_cf]
  cases k with
  | zero => exact cf0_zero c []
  | succ k => rw [cf0_succ, cf0_nil, if_neg (by omega)]
theorem cf_zero (k : Nat) : (0 : Pol).cf k = 0 := (cf_C _ k).trans (by split <;> rfl)
theorem last_ne : ∀ l : List Rat, trimR l = l → l ≠ [] → cf0 l (l.length - 1) ≠ 0
  | [], _, h => absurd rfl h
  | q :: qs, h, _ => by
    unfold trimR at h
    split at h
    · rename_i e
      split at h
      · cases h
      · rename_i hq
        have : qs = [] := (List.cons.inj h).2.symm
        subst this
        show cf0 [q] 0 ≠ 0
        rw [cf0_zero]
        exact hq
    · rename_i r rs e
      have e2 : trimR qs = qs := by rw [e]; exact (List.cons.inj h).2
      have hne : qs ≠ [] := fun z => by rw [z] at e; cases e
      have ih := last_ne qs e2 hne
      obtain ⟨n, hn⟩ : ∃ n, qs.length = n + 1 := ⟨qs.length - 1, by have := List.length_pos_iff.mpr hne; omega⟩
      rw [hn] at ih
      rw [List.length_cons, hn]
      show cf0 (q :: qs) (n + 1) ≠ 0
      rw [cf0_succ]
      exact ih
def Pol.lc (p : Pol) : Rat := p.cf (p.len - 1)
theorem len_zero : (0 : Pol).len = 0 := by decide +kernel
theorem len_eq0 {p : Pol} : p.len = 0 ↔ p = 0 := ⟨fun h => Pol.cfe fun k => by
  rw [cf_zero]
  exact cf0_ge (by have : p.l.length = 0 := h; omega), fun h => by rw [h]; exact len_zero⟩
theorem len_pos {p : Pol} (h : p ≠ 0) : 0 < p.len := Nat.pos_of_ne_zero fun z => h (len_eq0.mp z)
theorem lc_ne {p : Pol} (h : p ≠ 0) : p.lc ≠ 0 := last_ne p.l p.tr fun z => h (len_eq0.mp (by show p.l.length = 0; rw [z]; rfl))
theorem cf_ge {p : Pol} {k : Nat} (h : p.len ≤ k) : p.cf k = 0 := cf0_ge h
theorem len_le {p : Pol} {n : Nat} : p.len ≤ n ↔ ∀ k, n ≤ k → p.cf k = 0 := ⟨fun h k hk => cf_ge (Nat.le_trans h hk), fun h => by
  by_cases hp : p = 0
  · rw [hp, len_zero]; exact Nat.zero_le _
  · have h0 := len_pos hp
    by_cases hn : p.len ≤ n
    · exact hn
    · exact absurd (h (p.len - 1) (by omega)) (lc_ne hp)⟩
theorem len_lt_of {p : Pol} {n : Nat} (h : p.len ≤ n + 1) (z : p.cf n = 0) : p.len ≤ n := len_le.mpr fun k hk => by
  by_cases e : k = n
  · rw [e]; exact z
  · exact cf_ge (by omega)
theorem len_add {p q : Pol} {n : Nat} (hp : p.len ≤ n) (hq : q.len ≤ n) : (p + q).len ≤ n := len_le.mpr fun k hk => by rw [cf_add, cf_ge (Nat.le_trans hp hk), cf_ge (Nat.le_trans hq hk)]; grind
theorem len_sub {p q : Pol} {n : Nat} (hp : p.len ≤ n) (hq : q.len ≤ n) : (p - q).len ≤ n := len_le.mpr fun k hk => by rw [cf_sub, cf_ge (Nat.le_trans hp hk), cf_ge (Nat.le_trans hq hk)]; grind
theorem conv_zero {a b : List Rat} {m n k : Nat} (ha : a.length ≤ m + 1) (hb : b.length ≤ n + 1) (hk : m + n < k) : conv a b k = 0 := sumTo_zero fun j hj => by
  by_cases h : j ≤ m
  · rw [cf0_ge (qs := b) (by omega)]; grind
  · rw [cf0_ge (qs := a) (by omega)]; grind
theorem conv_top {a b : List Rat} {m n : Nat} (ha : a.length ≤ m + 1) (hb : b.length ≤ n + 1) : conv a b (m + n) = cf0 a m * cf0 b n := by
  have e : conv a b (m + n) = sumTo (m + n + 1) fun j => if j = m then cf0 a j * cf0 b (m + n - j) else 0 := sumTo_ext fun j hj => by
    by_cases h : j = m
    · rw [if_pos h]
    · rw [if_neg h]
      by_cases h2 : j < m
      · rw [cf0_ge (qs := b) (by omega)]; grind
      · rw [cf0_ge (qs := a) (by omega)]; grind
  rw [e, sumTo_pick (show m < m + n + 1 by omega) fun j => cf0 a j * cf0 b (m + n - j), Nat.add_sub_cancel_left]
theorem len_mul_le {p q : Pol} {m n : Nat} (hp : p.len ≤ m + 1) (hq : q.len ≤ n + 1) : (p * q).len ≤ m + n + 1 := len_le.mpr fun k hk => by rw [cf_mul]; exact conv_zero hp hq (by omega)
theorem mul_top {p q : Pol} (hp : p ≠ 0) (hq : q ≠ 0) : (p * q).cf (p.len - 1 + (q.len - 1)) = p.lc * q.lc := by
  have h1 := len_pos hp
  have h2 := len_pos hq
  rw [cf_mul]
  exact conv_top (by show p.len ≤ _; omega) (by show q.len ≤ _; omega)
theorem mul_ne {p q : Pol} (hp : p ≠ 0) (hq : q ≠ 0) : p * q ≠ 0 := fun e => by
  have h := mul_top hp hq
  rw [e, cf_zero] at h
  rcases Rat.mul_eq_zero.mp h.symm with z | z
  · exact lc_ne hp z
  · exact lc_ne hq z
theorem len_mul {p q : Pol} (hp : p ≠ 0) (hq : q ≠ 0) : (p * q).len = p.len + q.len - 1 := by
  have h1 := len_pos hp
  have h2 := len_pos hq
  refine Nat.le_antisymm ?_ ?_
  · have := len_mul_le (p := p) (q := q) (m := p.len - 1) (n := q.len - 1) (by omega) (by omega)
    omega
  · by_cases h : p.len + q.len - 1 ≤ (p * q).len
    · exact h
    · have e : (p * q).cf (p.len - 1 + (q.len - 1)) = 0 := cf_ge (by omega)
      rw [mul_top hp hq] at e
      rcases Rat.mul_eq_zero.mp e with z | z
      · exact absurd z (lc_ne hp)
      · exact absurd z (lc_ne hq)
theorem lc_mul {p q : Pol} (hp : p ≠ 0) (hq : q ≠ 0) : (p * q).lc = p.lc * q.lc := by
  have h1 := len_pos hp
  have h2 := len_pos hq
  unfold Pol.lc
  rw [len_mul hp hq, show p.len + q.len - 1 - 1 = p.len - 1 + (q.len - 1) by omega]
  exact mul_top hp hq
theorem mul_eq0 {p q : Pol} (h : p * q = 0) : p = 0 ∨ q = 0 := by
  by_cases hp : p = 0
  · exact .inl hp
  · by_cases hq : q = 0
    · exact .inr hq
    · exact absurd h (mul_ne hp hq)
/-- constants -/
theorem C_ne {c : Rat} (h : c ≠ 0) : Pol.C c ≠ 0 := fun e => h (by
  have := ev_C c 0
  rw [e, ev_zero] at this
  exact this.symm)
theorem C_mul (a b : Rat) : Pol.C a * Pol.C b = Pol.C (a * b) := Pol.ext fun x => by rw [ev_mul, ev_C, ev_C, ev_C]
theorem C_zero : Pol.C 0 = 0 := Pol.ext fun x => by rw [ev_C, ev_zero]
theorem cf_Cmul (c : Rat) (p : Pol) (k : Nat) : (Pol.C c * p).cf k = c * p.cf k := by
  have e : Pol.C c * p = mkP (p.l.map fun a => c * a) := Pol.ext fun x => by rw [ev_mul, ev_C, ev_mk, horner_scale]; rfl
  rw [e, mk_cf]
  exact cf0_map (fun a => c * a) (by grind) _ k
theorem len_Cmul {c : Rat} (h : c ≠ 0) (p : Pol) : (Pol.C c * p).len = p.len := by
  refine Nat.le_antisymm (len_le.mpr fun k hk => by rw [cf_Cmul, cf_ge hk]; grind) (len_le.mpr fun k hk => ?_)
  have := cf_ge hk
  rw [cf_Cmul] at this
  rcases Rat.mul_eq_zero.mp this with z | z
  · exact absurd z h
  · exact z
theorem lc_Cmul {c : Rat} (h : c ≠ 0) (p : Pol) : (Pol.C c * p).lc = c * p.lc := by
  unfold Pol.lc
  rw [len_Cmul h, cf_Cmul]
theorem len_C {c : Rat} (h : c ≠ 0) : (Pol.C c).len = 1 := by
  refine Nat.le_antisymm (len_le.mpr fun k hk => by rw [cf_C, if_neg (by omega)]) (len_pos (C_ne h))
theorem len_one {p : Pol} (h : p.len ≤ 1) : p = Pol.C (p.cf 0) := Pol.cfe fun k => by
  rw [cf_C]
  by_cases e : k = 0
  · rw [if_pos e, e]
  · rw [if_neg e]; exact cf_ge (by omega)
def Dv (p q : Pol) : Prop := ∃ r, q = p * r
theorem Dv.refl (p : Pol) : Dv p p := ⟨1, by grind⟩
theorem Dv.zero (p : Pol) : Dv p 0 := ⟨0, by grind⟩
theorem Dv.trans {p q r : Pol} (h : Dv p q) (k : Dv q r) : Dv p r := by
  obtain ⟨a, rfl⟩ := h
  obtain ⟨b, rfl⟩ := k
  exact ⟨a * b, by grind⟩
theorem Dv.mulL {p q : Pol} (h : Dv p q) (r : Pol) : Dv p (r * q) := by
  obtain ⟨a, rfl⟩ := h
  exact ⟨a * r, by grind⟩
theorem Dv.add {p q r : Pol} (h : Dv p q) (k : Dv p r) : Dv p (q + r) := by
  obtain ⟨a, rfl⟩ := h
  obtain ⟨b, rfl⟩ := k
  exact ⟨a + b, by grind⟩
theorem Dv.sub {p q r : Pol} (h : Dv p q) (k : Dv p r) : Dv p (q - r) := by
  obtain ⟨a, rfl⟩ := h
  obtain ⟨b, rfl⟩ := k
  exact ⟨a - b, by grind⟩
theorem Dv.len {p q : Pol} (h : Dv p q) (hq : q ≠ 0) : p.len ≤ q.len := by
  obtain ⟨a, rfl⟩ := h
  have hp : p ≠ 0 := fun e => hq (by rw [e]; grind)
  have ha : a ≠ 0 := fun e => hq (by rw [e]; grind)
  have := len_mul hp ha
  have := len_pos ha
  omega
/-- two that divide one another, with the same last coefficient -/
theorem Dv.anti {p q : Pol} (h : Dv p q) (k : Dv q p) (hl : p.lc = q.lc) : p = q := by
  by_cases hq : q = 0
  · obtain ⟨b, e⟩ := k
    rw [hq] at e ⊢
    rw [e]; grind
  · by_cases hp : p = 0
    · obtain ⟨b, e⟩ := h
      rw [hp] at e
      exact absurd (by rw [e]; grind) hq
    · have l1 := h.len hq
      have l2 := k.len hp
      obtain ⟨a, rfl⟩ := h
      have ha : a ≠ 0 := fun e => hq (by rw [e]; grind)
      have e := len_mul hp ha
      have h0 := len_pos ha
      have h1 := len_pos hp
      have ec := len_one (p := a) (by omega)
      have el := lc_mul hp ha
      rw [← hl] at el
      have hc : a.lc = 1 := by
        have := lc_ne hp
        have h2 : p.lc * (a.lc - 1) = 0 := by grind
        rcases Rat.mul_eq_zero.mp h2 with z | z
        · exact absurd z this
        · grind
      have : a = 1 := by
        have e0 : a.lc = a.cf 0 := by unfold Pol.lc; rw [show a.len - 1 = 0 by omega]
        rw [ec, ← e0, hc]
        rfl
      rw [this]
      grind
end Q
set_option Elab.async false
set_option linter.all false
set_option maxRecDepth 100000
set_option maxHeartbeats 4000000
namespace Q
open PySem L2 PySem.Spec PyProof.Rows
def monoP (e : Nat) (c : Rat) : Pol := mkP (mono e c)
theorem cf_mono (e : Nat) (c : Rat) (k : Nat) : (monoP e c).cf k = if k = e then c else 0 := (mk_cf _ k).trans (mono_cf e c k)
theorem mono_ne {e : Nat} {c : Rat} (h : c ≠ 0) : monoP e c ≠ 0 := fun z => h (by
  have := cf_mono e c e
  rw [z, cf_zero, if_pos rfl] at this
  exact this.symm)
theorem len_mono {e : Nat} {c : Rat} (h : c ≠ 0) : (monoP e c).len = e + 1 := by
  refine Nat.le_antisymm (len_le.mpr fun k hk => by rw [cf_mono, if_neg (by omega)]) ?_
  by_cases hl : e + 1 ≤ (monoP e c).len
  · exact hl
  · have : (monoP e c).cf e = 0 := cf_ge (by omega)
    rw [cf_mono, if_pos rfl] at this
    exact absurd this h
theorem lc_mono {e : Nat} {c : Rat} (h : c ≠ 0) : (monoP e c).lc = c := by
  unfold Pol.lc
  rw [len_mono h, Nat.add_sub_cancel, cf_mono, if_pos rfl]
def pstep (g : Pol) (q r : Pol) : Pol × Pol := (q + monoP (r.len - g.len) (r.lc / g.lc), r - monoP (r.len - g.len) (r.lc / g.lc) * g)
def pgo : Nat → Pol → Pol → Pol → Pol × Pol
  | 0, _, q, r => (q, r)
  | n + 1, g, q, r => if g.len ≤ r.len then pgo n g (pstep g q r).1 (pstep g q r).2 else (q, r)
def partedP (f g : Pol) : Pol × Pol := pgo (f.len + 1) g 0 f
theorem div_ne {a b : Rat} (ha : a ≠ 0) (hb : b ≠ 0) : a / b ≠ 0 := fun h => ha (by
  have : a = a / b * b := by rw [Rat.div_mul_cancel hb]
  rw [h] at this
  rw [this]; grind)
theorem step_len {g q r : Pol} (hg : g ≠ 0) (h : g.len ≤ r.len) : (pstep g q r).2.len < r.len := by
  have hg0 := len_pos hg
  have hr : r ≠ 0 := fun e => by rw [e, len_zero] at h; omega
  have hc : r.lc / g.lc ≠ 0 := div_ne (lc_ne hr) (lc_ne hg)
  have hm := mono_ne (e := r.len - g.len) hc
  have lm := len_mul hm hg
  rw [len_mono hc] at lm
  have hr0 := len_pos hr
  have hlen : (monoP (r.len - g.len) (r.lc / g.lc) * g).len = r.len := by omega
  have hlc := lc_mul hm hg
  rw [lc_mono hc, Rat.div_mul_cancel (lc_ne hg)] at hlc
  have : (pstep g q r).2.len ≤ r.len - 1 := by
    refine len_lt_of (by show (r - _).len ≤ _; exact len_sub (by omega) (by omega)) ?_
    show (r - _).cf _ = 0
    rw [cf_sub]
    have e1 : (monoP (r.len - g.len) (r.lc / g.lc) * g).cf (r.len - 1) = r.lc := by
      refine Eq.trans ?_ hlc
      show _ = (monoP (r.len - g.len) (r.lc / g.lc) * g).cf ((monoP (r.len - g.len) (r.lc / g.lc) * g).len - 1)
      rw [hlen]
    rw [e1]
    show r.cf (r.len - 1) - r.cf (r.len - 1) = 0
    grind
  omega
theorem step_eq (g q r : Pol) : (pstep g q r).1 * g + (pstep g q r).2 = q * g + r := by
  show (q + _) * g + (r - _ * g) = _
  grind
theorem pgo_spec {g : Pol} (hg : g ≠ 0) : ∀ (n : Nat) (q r : Pol), r.len < n → (pgo n g q r).1 * g + (pgo n g q r).2 = q * g + r ∧ (pgo n g q r).2.len < g.len
  | 0, _, _, h => absurd h (by omega)
  | n + 1, q, r, h => by
    unfold pgo
    by_cases hl : g.len ≤ r.len
    · rw [if_pos hl]
      have s := step_len (q := q) hg hl
      obtain ⟨h1, h2⟩ := pgo_spec hg n (pstep g q r).1 (pstep g q r).2 (by omega)
      exact ⟨h1.trans (step_eq g q r), h2⟩
    · rw [if_neg hl]
      exact ⟨rfl, Nat.lt_of_not_le hl⟩
theorem parted_spec {f g : Pol} (hg : g ≠ 0) : (partedP f g).1 * g + (partedP f g).2 = f ∧ (partedP f g).2.len < g.len := by
  have h := pgo_spec hg (f.len + 1) 0 f (by omega)
  exact ⟨h.1.trans (by grind), h.2⟩
/-- one quotient, one rest -/
theorem div_uniq {g q r q' r' : Pol} (hg : g ≠ 0) (e : q * g + r = q' * g + r') (h : r.len < g.len) (h' : r'.len < g.len) : q = q' ∧ r = r' := by
  have hz : (q - q') * g = r' - r := by grind
  have hl : (r' - r).len ≤ g.len - 1 := len_sub (by omega) (by omega)
  by_cases hq : q - q' = 0
  · have e1 : q = q' := by grind
    subst e1
    exact ⟨rfl, by grind⟩
  · have := len_mul hq hg
    rw [hz] at this
    have := len_pos hq
    omega
/-- the lengths of a quotient -/
theorem quo_len {f g q r : Pol} (hg : g ≠ 0) (e : q * g + r = f) (h : r.len < g.len) : (f.len < g.len → q = 0) ∧ (g.len ≤ f.len → q.len + g.len = f.len + 1) := by
  refine ⟨fun hl => ?_, fun hl => ?_⟩
  · by_cases hq : q = 0
    · exact hq
    · exfalso
      have h1 := len_mul hq hg
      have h2 : (q * g).len ≤ g.len - 1 := by
        have : q * g = f - r := by grind
        rw [this]
        exact len_sub (by omega) (by omega)
      have := len_pos hq
      have := len_pos hg
      omega
  · have hg0 := len_pos hg
    have hq : q ≠ 0 := fun z => by
      have : f = r := by rw [← e, z]; grind
      rw [this] at hl
      omega
    have h1 := len_mul hq hg
    have hq0 := len_pos hq
    have h2 : f.len ≤ (q * g).len := by
      rw [← e]
      exact len_add (Nat.le_refl _) (by omega)
    have h3 : (q * g).len ≤ f.len := by
      have : q * g = f - r := by grind
      rw [this]
      exact len_sub (Nat.le_refl _) (by omega)
    omega
def absR (a : Rat) : Rat := if 0 < a.num then a else -a
theorem absR_pos {a : Rat} (h : a ≠ 0) : 0 < absR a := by
  unfold absR
  by_cases h0 : 0 < a.num
  · rw [if_pos h0]; exact (Rat.lt_iff _ _).mpr (by simpa using h0)
  · rw [if_neg h0]
    have : ¬ 0 < a := fun z => h0 (by have := (Rat.lt_iff _ _).mp z; simpa using this)
    grind
theorem absR_ne {a : Rat} (h : a ≠ 0) : absR a ≠ 0 := fun e => by have := absR_pos h; rw [e] at this; exact absurd this (by decide)
def divC (p : Pol) (a : Rat) : Pol := mkP (p.l.map fun t => t / a)
theorem divC_eq (p : Pol) (a : Rat) : divC p a = Pol.C (1 / a) * p := Pol.cfe fun k => by
  rw [divC, mk_cf, cf_Cmul, cf0_map (fun t => t / a) (by rw [Rat.div_def]; grind)]
  show cf0 p.l k / a = 1 / a * cf0 p.l k
  rw [Rat.div_def, Rat.div_def]
  grind
def lev (p : Pol) : Pol := if p.len = 0 then p else divC p (absR p.lc)
def scl (p : Pol) : Pol := if p.len = 0 then p else divC p p.lc
theorem one_div_ne {a : Rat} (h : a ≠ 0) : 1 / a ≠ 0 := div_ne (by decide) h
theorem lev_eq {p : Pol} (h : p ≠ 0) : lev p = Pol.C (1 / absR p.lc) * p := by
  unfold lev
  rw [if_neg fun z => h (len_eq0.mp z), divC_eq]
theorem lev_zero : lev 0 = 0 := by unfold lev; rw [if_pos len_zero]
theorem scl_eq {p : Pol} (h : p ≠ 0) : scl p = Pol.C (1 / p.lc) * p := by
  unfold scl
  rw [if_neg fun z => h (len_eq0.mp z), divC_eq]
theorem scl_zero : scl 0 = 0 := by unfold scl; rw [if_pos len_zero]
theorem lev_ex (p : Pol) : ∃ c, c ≠ 0 ∧ 0 < c ∧ lev p = Pol.C c * p := by
  by_cases h : p = 0
  · exact ⟨1, by decide, by decide, by rw [h, lev_zero]; grind⟩
  · have hp := absR_pos (lc_ne h)
    refine ⟨_, one_div_ne (absR_ne (lc_ne h)), ?_, lev_eq h⟩
    rw [Rat.div_def]
    have := Rat.inv_pos.mpr hp
    grind
theorem lev_len (p : Pol) : (lev p).len = p.len := by
  obtain ⟨c, hc, _, e⟩ := lev_ex p
  rw [e, len_Cmul hc]
theorem lev_ne {p : Pol} : lev p = 0 ↔ p = 0 := by rw [← len_eq0, lev_len, len_eq0]
theorem lev_lc {p : Pol} (h : p ≠ 0) : (lev p).lc = 1 ∨ (lev p).lc = -1 := by
  rw [lev_eq h, lc_Cmul (one_div_ne (absR_ne (lc_ne h)))]
  have h0 := lc_ne h
  unfold absR
  rw [Rat.div_def]
  split
  · left
    have := Rat.mul_inv_cancel _ h0
    grind
  · right
    have : -p.lc ≠ 0 := by grind
    have := Rat.mul_inv_cancel _ this
    grind
theorem scl_ex {p : Pol} (h : p ≠ 0) : ∃ c, c ≠ 0 ∧ scl p = Pol.C c * p := ⟨_, one_div_ne (lc_ne h), scl_eq h⟩
theorem scl_lc {p : Pol} (h : p ≠ 0) : (scl p).lc = 1 := by
  rw [scl_eq h, lc_Cmul (one_div_ne (lc_ne h)), Rat.div_mul_cancel (lc_ne h)]
def gcdP : Nat → Pol → Pol → Pol
  | 0, f, _ => scl f
  | n + 1, f, g => if g.len = 0 then scl f else gcdP n g (lev (partedP f g).2)
def commonP (f g : Pol) : Pol := gcdP (g.len + 1) f g
structure IsG (f g d : Pol) : Prop where
  df : Dv d f
  dg : Dv d g
  c : ∃ u v, d = u * f + v * g
theorem IsG.most {f g d e : Pol} (h : IsG f g d) (h1 : Dv e f) (h2 : Dv e g) : Dv e d := by
  obtain ⟨u, v, rfl⟩ := h.c
  exact (h1.mulL u).add (h2.mulL v)
theorem IsG.Cl {f g d : Pol} {c : Rat} (hc : c ≠ 0) (h : IsG f g d) : IsG f g (Pol.C c * d) := by
  have inv : Pol.C (1 / c) * Pol.C c = 1 := by rw [C_mul, Rat.div_mul_cancel hc]; rfl
  refine ⟨?_, ?_, ?_⟩
  · obtain ⟨a, e⟩ := h.df
    exact ⟨Pol.C (1 / c) * a, by grind⟩
  · obtain ⟨a, e⟩ := h.dg
    exact ⟨Pol.C (1 / c) * a, by grind⟩
  · obtain ⟨u, v, e⟩ := h.c
    exact ⟨Pol.C c * u, Pol.C c * v, by grind⟩
theorem IsG.base (f : Pol) : IsG f 0 f := ⟨Dv.refl f, Dv.zero f, 1, 0, by grind⟩
theorem IsG.step {f g q r d : Pol} {c : Rat} (hc : c ≠ 0) (e : q * g + r = f) (h : IsG g (Pol.C c * r) d) : IsG f g d := by
  have inv : Pol.C (1 / c) * Pol.C c = 1 := by rw [C_mul, Rat.div_mul_cancel hc]; rfl
  have hr : Dv d r := by
    obtain ⟨a, e2⟩ := h.dg
    exact ⟨Pol.C (1 / c) * a, by grind⟩
  refine ⟨?_, h.df, ?_⟩
  · rw [← e]
    exact (h.df.mulL q).add hr
  · obtain ⟨u, v, e2⟩ := h.c
    exact ⟨v * Pol.C c, u - v * Pol.C c * q, by grind⟩
theorem gcdP_is : ∀ (n : Nat) (f g : Pol), g.len < n → IsG f g (gcdP n f g)
  | 0, _, _, h => absurd h (by omega)
  | n + 1, f, g, h => by
    unfold gcdP
    by_cases hg : g.len = 0
    · rw [if_pos hg]
      have e := len_eq0.mp hg
      subst e
      by_cases hf : f = 0
      · rw [hf, scl_zero]; exact IsG.base 0
      · obtain ⟨c, hc, e⟩ := scl_ex hf
        rw [e]
        exact (IsG.base f).Cl hc
    · rw [if_neg hg]
      have hg0 : g ≠ 0 := fun e => hg (by rw [e, len_zero])
      obtain ⟨s1, s2⟩ := parted_spec (f := f) hg0
      obtain ⟨c, hc, _, e⟩ := lev_ex (partedP f g).2
      have ih := gcdP_is n g (lev (partedP f g).2) (by rw [lev_len]; omega)
      rw [e] at ih ⊢
      exact ih.step hc s1
theorem gcdP_lc : ∀ (n : Nat) (f g : Pol), g.len < n → gcdP n f g = 0 ∨ (gcdP n f g).lc = 1
  | 0, _, _, h => absurd h (by omega)
  | n + 1, f, g, h => by
    unfold gcdP
    by_cases hg : g.len = 0
    · rw [if_pos hg]
      by_cases hf : f = 0
      · left; rw [hf, scl_zero]
      · exact .inr (scl_lc hf)
    · rw [if_neg hg]
      have hg0 : g ≠ 0 := fun e => hg (by rw [e, len_zero])
      obtain ⟨_, s2⟩ := parted_spec (f := f) hg0
      exact gcdP_lc n g _ (by rw [lev_len]; omega)
theorem common_is (f g : Pol) : IsG f g (commonP f g) := gcdP_is _ f g (by omega)
theorem common_lc (f g : Pol) : commonP f g = 0 ∨ (commonP f g).lc = 1 := gcdP_lc _ f g (by omega)
theorem IsG.symm {f g d : Pol} (h : IsG f g d) : IsG g f d := ⟨h.dg, h.df, by obtain ⟨u, v, e⟩ := h.c; exact ⟨v, u, by grind⟩⟩
/-- the greatest common divisor is one -/
theorem common_uniq {f g d : Pol} (h : IsG f g d) (hl : d.lc = 1) (hd : d ≠ 0) : commonP f g = d := by
  have k := common_is f g
  have h1 : Dv (commonP f g) d := h.most k.df k.dg
  have h2 : Dv d (commonP f g) := k.most h.df h.dg
  have hne : commonP f g ≠ 0 := fun e => hd (by
    obtain ⟨a, ha⟩ := h1
    rw [e] at ha
    rw [ha]; grind)
  refine Dv.anti h1 h2 ?_
  rcases common_lc f g with e | e
  · exact absurd e hne
  · rw [e, hl]
end Q
set_option Elab.async false
set_option linter.all false
set_option maxRecDepth 100000
set_option maxHeartbeats 4000000
namespace Q
open PySem L2 PySem.Spec PyProof.Rows
abbrev Rwf := Nat → Rat
def skp (j c : Nat) : Nat := if c < j then c else c + 1
def usk (j c : Nat) : Nat := if c < j then c else c - 1
def sgn (j : Nat) : Rat := if j % 2 = 0 then 1 else -1
theorem sgn_succ (j : Nat) : sgn (j + 1) = -sgn j := by
  unfold sgn
  by_cases h : j % 2 = 0
  · rw [if_pos h, if_neg (by omega)]
  · rw [if_neg h, if_pos (by omega)]; grind
theorem sgn_ne (j : Nat) : sgn j ≠ 0 := by unfold sgn; split <;> decide
def subC (φ : Nat → Nat) (l : List Rwf) : List Rwf := l.map fun r c => r (φ c)
def det : Nat → List Rwf → Rat
  | 0, _ => 1
  | _ + 1, [] => 0
  | n + 1, a :: l => sumTo (n + 1) fun j => sgn j * a j * det n (subC (skp j) l)
theorem subC_sub (φ ψ : Nat → Nat) (l : List Rwf) : subC ψ (subC φ l) = subC (fun c => φ (ψ c)) l := by
  unfold subC
  rw [List.map_map]
  rfl
theorem subC_len (φ : Nat → Nat) (l : List Rwf) : (subC φ l).length = l.length := List.length_map _
theorem subC_id (l : List Rwf) : subC (fun c => c) l = l := List.map_id l
theorem sum_skip {n p : Nat} (h : Nat → Rat) (hp : p ≤ n) : sumTo n (fun k => h (skp p k)) + h p = sumTo (n + 1) h := by
  induction n with
  | zero =>
    have : p = 0 := by omega
    subst this
    rfl
  | succ n ih =>
    by_cases e : p = n + 1
    · subst e
      have : sumTo (n + 1) (fun k => h (skp (n + 1) k)) = sumTo (n + 1) h := sumTo_ext fun k hk => by unfold skp; rw [if_pos hk]
      rw [this]
      rfl
    · have ih := ih (by omega)
      show sumTo n (fun k => h (skp p k)) + h (skp p n) + h p = sumTo (n + 1) h + h (n + 1)
      rw [← ih, show skp p n = n + 1 by unfold skp; rw [if_neg (by omega)]]
      grind
def dT (n : Nat) (a b : Rwf) (l : List Rwf) (p q : Nat) : Rat := if q = p then 0 else sgn p * a p * (sgn (usk p q) * b q * det n (subC (fun c => skp p (skp (usk p q) c)) l))
theorem det2 (n : Nat) (a b : Rwf) (l : List Rwf) : det (n + 2) (a :: b :: l) = sumTo (n + 2) fun p => sumTo (n + 2) fun q => dT n a b l p q := by
  show sumTo (n + 2) (fun j => sgn j * a j * det (n + 1) (subC (skp j) (b :: l))) = _
  refine sumTo_ext fun p hp => ?_
  show sgn p * a p * sumTo (n + 1) (fun k => sgn k * b (skp p k) * det n (subC (skp k) (subC (skp p) l))) = _
  rw [← sumTo_scale]
  have h := sum_skip (n := n + 1) (p := p) (fun q => dT n a b l p q) (by omega)
  rw [← h]
  have z : dT n a b l p p = 0 := by unfold dT; rw [if_pos rfl]
  rw [z, Rat.add_zero]
  refine sumTo_ext fun k hk => ?_
  unfold dT
  have e1 : skp p k ≠ p := by unfold skp; split <;> omega
  have e2 : usk p (skp p k) = k := by
    unfold usk skp
    by_cases hk : k < p
    · rw [if_pos hk, if_pos hk]
    · rw [if_neg hk, if_neg (by omega)]
      omega
  rw [if_neg e1, e2, subC_sub]
theorem dT_swap (n : Nat) (a b : Rwf) (l : List Rwf) (p q : Nat) : dT n b a l p q = -dT n a b l q p := by
  unfold dT
  by_cases h : q = p
  · rw [if_pos h, if_pos h.symm]; grind
  · rw [if_neg h, if_neg (Ne.symm h)]
    have e : (fun c => skp p (skp (usk p q) c)) = fun c => skp q (skp (usk q p) c) := funext fun c => by
      unfold skp usk
      repeat' split
      all_goals omega
    rw [e]
    have s : sgn p * sgn (usk p q) = -(sgn q * sgn (usk q p)) := by
      rcases Nat.lt_or_gt_of_ne h with z | z
      · have e1 : usk p q = q := by unfold usk; rw [if_pos z]
        have e2 : usk q p = p - 1 := by unfold usk; rw [if_neg (by omega)]
        rw [e1, e2]
        obtain ⟨m, rfl⟩ : ∃ m, p = m + 1 := ⟨p - 1, by omega⟩
        rw [sgn_succ, Nat.add_sub_cancel]
        grind
      · have e1 : usk q p = p := by unfold usk; rw [if_pos z]
        have e2 : usk p q = q - 1 := by unfold usk; rw [if_neg (by omega)]
        rw [e1, e2]
        obtain ⟨m, rfl⟩ : ∃ m, q = m + 1 := ⟨q - 1, by omega⟩
        rw [sgn_succ, Nat.add_sub_cancel]
        grind
    generalize det n (subC (fun c => skp q (skp (usk q p) c)) l) = D
    grind
theorem det_swap (n : Nat) (a b : Rwf) (l : List Rwf) : det (n + 2) (b :: a :: l) = -det (n + 2) (a :: b :: l) := by
  rw [det2, det2, sumTo_swap]
  have e : (fun q => sumTo (n + 2) fun p => dT n b a l p q) = fun q => -1 * sumTo (n + 2) fun p => dT n a b l q p := funext fun q => by
    rw [← sumTo_scale]
    exact sumTo_ext fun p _ => by rw [dT_swap]; grind
  rw [e, sumTo_scale]
  grind
/-- a row from the midst to the front -/
theorem det_mid (x : Rwf) (post : List Rwf) : ∀ (pre : List Rwf) (n : Nat) (φ : Nat → Nat), n = pre.length + post.length + 1 → det n (subC φ (pre ++ x :: post)) = sgn pre.length * det n (subC φ (x :: (pre ++ post)))
  | [], n, φ, _ => by
    show det n (subC φ (x :: post)) = 1 * det n (subC φ (x :: post))
    rw [Rat.one_mul]
  | y :: pre, n, φ, h => by
    obtain ⟨m, rfl⟩ : ∃ m, n = m + 2 := ⟨pre.length + post.length, by rw [h]; simp; omega⟩
    have hm : m + 1 = pre.length + post.length + 1 := by simp at h; omega
    have e1 : det (m + 2) (subC φ (y :: (pre ++ x :: post))) = sgn pre.length * det (m + 2) (subC φ (y :: x :: (pre ++ post))) := by
      show sumTo (m + 2) (fun j => sgn j * y (φ j) * det (m + 1) (subC (skp j) (subC φ (pre ++ x :: post)))) = sgn pre.length * sumTo (m + 2) (fun j => sgn j * y (φ j) * det (m + 1) (subC (skp j) (subC φ (x :: (pre ++ post)))))
      rw [← sumTo_scale]
      refine sumTo_ext fun j _ => ?_
      rw [subC_sub, subC_sub, det_mid x post pre (m + 1) _ hm]
      grind
    refine e1.trans ?_
    have e2 : det (m + 2) (subC φ (y :: x :: (pre ++ post))) = -det (m + 2) (subC φ (x :: y :: (pre ++ post))) := det_swap m _ _ _
    rw [e2]
    show _ = sgn (pre.length + 1) * _
    rw [sgn_succ]
    grind
theorem det_mid' (x : Rwf) (pre post : List Rwf) {n : Nat} (h : n = pre.length + post.length + 1) : det n (pre ++ x :: post) = sgn pre.length * det n (x :: (pre ++ post)) := by
  have := det_mid x post pre n (fun c => c) h
  rwa [subC_id, subC_id] at this
/-- equal rows -/
theorem det_dup {n : Nat} {x : Rwf} {l : List Rwf} (hx : x ∈ l) (hn : n = l.length + 1) : det n (x :: l) = 0 := by
  obtain ⟨s, t, rfl⟩ := List.append_of_mem hx
  have h := det_mid' x (x :: s) t (n := n) (by rw [hn]; simp; omega)
  have e : det n (x :: x :: (s ++ t)) = 0 := by
    obtain ⟨m, rfl⟩ : ∃ m, n = m + 2 := ⟨s.length + t.length, by rw [hn]; simp; omega⟩
    have := det_swap m x x (s ++ t)
    grind
  refine h.trans ?_
  show _ * det n (x :: x :: (s ++ t)) = 0
  rw [e]
  grind
theorem det_lin (n : Nat) (x : Rat) (a b : Rwf) (l : List Rwf) : det (n + 1) ((fun c => x * a c + b c) :: l) = x * det (n + 1) (a :: l) + det (n + 1) (b :: l) := by
  show sumTo (n + 1) _ = x * sumTo (n + 1) _ + sumTo (n + 1) _
  rw [← sumTo_scale, ← sumTo_add]
  exact sumTo_ext fun j _ => by grind
theorem det_zeroRow (n : Nat) (l : List Rwf) : det (n + 1) ((fun _ => 0) :: l) = 0 := sumTo_zero fun j _ => by grind
theorem det_congr : ∀ (n : Nat) (l m : List Rwf), l.length = m.length → (∀ i c, c < n → (l.getD i fun _ => 0) c = (m.getD i fun _ => 0) c) → det n l = det n m
  | 0, _, _, _, _ => rfl
  | n + 1, [], [], _, _ => rfl
  | n + 1, a :: l, b :: m, h, e => by
    refine sumTo_ext fun j hj => ?_
    have e0 : a j = b j := e 0 j hj
    rw [e0, det_congr n (subC (skp j) l) (subC (skp j) m) (by rw [subC_len, subC_len]; simpa using h) fun i c hc => by
      have := e (i + 1) (skp j c) (by unfold skp; split <;> omega)
      simp only [List.getD_cons_succ] at this
      unfold subC
      rw [List.getD_eq_getElem?_getD, List.getD_eq_getElem?_getD, List.getElem?_map, List.getElem?_map]
      rw [List.getD_eq_getElem?_getD, List.getD_eq_getElem?_getD] at this
      revert this
      cases l[i]? <;> cases m[i]? <;> exact fun h => h]
def comb : List Rat → List Rwf → Rwf
  | y :: ys, r :: l => fun c => y * r c + comb ys l c
  | _, _ => fun _ => 0
theorem comb_app (r : Rwf) (t : Rat) (c : Nat) (zs : List Rat) (post : List Rwf) : ∀ (ys : List Rat) (pre : List Rwf), ys.length = pre.length → comb (ys ++ t :: zs) (pre ++ r :: post) c = comb (ys ++ zs) (pre ++ post) c + t * r c
  | [], [], _ => by show t * r c + comb zs post c = comb zs post c + t * r c; grind
  | y :: ys, a :: pre, h => by
    show y * a c + comb (ys ++ t :: zs) (pre ++ r :: post) c = y * a c + comb (ys ++ zs) (pre ++ post) c + t * r c
    rw [comb_app r t c zs post ys pre (by simpa using h)]
    grind
theorem det_comb0 {n : Nat} {L : List Rwf} (hn : n = L.length + 1) : ∀ (ys : List Rat) (l : List Rwf), (∀ r ∈ l, r ∈ L) → det n (comb ys l :: L) = 0
  | [], [], _ => by subst hn; exact det_zeroRow _ _
  | [], _ :: _, _ => by subst hn; exact det_zeroRow _ _
  | _ :: _, [], _ => by subst hn; exact det_zeroRow _ _
  | y :: ys, r :: l, h => by
    have ih := det_comb0 hn ys l fun x hx => h x (List.mem_cons_of_mem _ hx)
    have d := det_dup (h r List.mem_cons_self) hn
    subst hn
    show det (L.length + 1) ((fun c => y * r c + comb ys l c) :: L) = 0
    rw [det_lin, d, ih]
    grind
/-- Cramer's rule -/
theorem cramer {n : Nat} {ys zs : List Rat} {y : Rat} {pre post : List Rwf} {r : Rwf} (hn : n = pre.length + post.length + 1) (hl : ys.length = pre.length) : det n (comb (ys ++ y :: zs) (pre ++ r :: post) :: (pre ++ post)) = y * det n (r :: (pre ++ post)) := by
  have e : comb (ys ++ y :: zs) (pre ++ r :: post) = fun c => y * r c + comb (ys ++ zs) (pre ++ post) c := funext fun c => by rw [comb_app r y c zs post ys pre hl]; grind
  have hL : n = (pre ++ post).length + 1 := by rw [List.length_append]; exact hn
  have z := det_comb0 hL (ys ++ zs) (pre ++ post) fun x h => h
  subst hL
  rw [e, det_lin, z]
  grind
theorem det_elim1 {n : Nat} {a r : Rwf} {x : Rat} {pre post : List Rwf} (hn : n = pre.length + post.length + 2) : det n (a :: (pre ++ (fun c => r c - x * a c) :: post)) = det n (a :: (pre ++ r :: post)) := by
  have h1 := det_mid' (fun c => r c - x * a c) (a :: pre) post (n := n) (by rw [hn]; simp; omega)
  have h2 := det_mid' r (a :: pre) post (n := n) (by rw [hn]; simp; omega)
  refine h1.trans (Eq.trans ?_ h2.symm)
  have e : (fun c => r c - x * a c) = fun c => -x * a c + r c := funext fun c => by grind
  have d : det n (a :: a :: (pre ++ post)) = 0 := det_dup List.mem_cons_self (by rw [hn]; simp)
  obtain ⟨m, rfl⟩ : ∃ m, n = m + 1 := ⟨n - 1, by omega⟩
  rw [e]
  show _ * det (m + 1) ((fun c => -x * a c + r c) :: a :: (pre ++ post)) = _ * det (m + 1) (r :: a :: (pre ++ post))
  rw [det_lin, d]
  grind
def elimR (a : Rwf) (r : Rwf) : Rwf := fun c => r c - r 0 / a 0 * a c
theorem det_elim {a : Rwf} : ∀ (l pre : List Rwf) (n : Nat), n = pre.length + l.length + 1 → det n (a :: (pre ++ l.map (elimR a))) = det n (a :: (pre ++ l))
  | [], _, _, _ => rfl
  | r :: l, pre, n, h => by
    have h1 := det_elim (a := a) l (pre ++ [elimR a r]) n (by rw [h]; simp; omega)
    rw [List.append_assoc, List.append_assoc] at h1
    refine h1.trans ?_
    exact det_elim1 (by rw [h]; simp; omega)
theorem det_col0 : ∀ (n : Nat) (l : List Rwf), 1 ≤ n → (∀ r ∈ l, r 0 = 0) → l.length = n → det n l = 0
  | n + 1, [], _, _, h => by simp at h
  | n + 1, a :: l, _, hz, hl => sumTo_zero fun j hj => by
    by_cases hj0 : j = 0
    · subst hj0
      rw [hz a List.mem_cons_self]
      grind
    · have := det_col0 n (subC (skp j) l) (by omega) (fun r hr => by
        obtain ⟨r0, h0, rfl⟩ := List.mem_map.mp hr
        show r0 (skp j 0) = 0
        rw [show skp j 0 = 0 by unfold skp; rw [if_pos (by omega)]]
        exact hz r0 (List.mem_cons_of_mem _ h0)) (by rw [subC_len]; simpa using hl)
      rw [this]
      grind
def Dep (n : Nat) (l : List Rwf) : Prop := ∃ ys : List Rat, ys.length = l.length ∧ (∃ y ∈ ys, y ≠ 0) ∧ ∀ c, c < n → comb ys l c = 0
theorem comb_map (φ : Nat → Nat) : ∀ (ys : List Rat) (l : List Rwf) (c : Nat), comb ys (subC φ l) c = comb ys l (φ c)
  | [], [], _ => rfl
  | [], _ :: _, _ => rfl
  | _ :: _, [], _ => rfl
  | y :: ys, r :: l, c => by
    show y * r (φ c) + comb ys (subC φ l) c = y * r (φ c) + comb ys l (φ c)
    rw [comb_map φ ys l c]
theorem comb_elim (a : Rwf) : ∀ (ys : List Rat) (l : List Rwf) (c : Nat), comb ys (l.map (elimR a)) c = comb ys l c - comb ys l 0 / a 0 * a c
  | [], [], c => by show (0 : Rat) = 0 - 0 / a 0 * a c; rw [Rat.div_def]; grind
  | [], _ :: _, c => by show (0 : Rat) = 0 - 0 / a 0 * a c; rw [Rat.div_def]; grind
  | _ :: _, [], c => by show (0 : Rat) = 0 - 0 / a 0 * a c; rw [Rat.div_def]; grind
  | y :: ys, r :: l, c => by
    show y * (r c - r 0 / a 0 * a c) + comb ys (l.map (elimR a)) c = y * r c + comb ys l c - (y * r 0 + comb ys l 0) / a 0 * a c
    rw [comb_elim a ys l c, Rat.div_def, Rat.div_def, Rat.div_def]
    grind
theorem comb_zero0 : ∀ (ys : List Rat) (l : List Rwf), (∀ r ∈ l, r 0 = 0) → comb ys l 0 = 0
  | [], [], _ => rfl
  | [], _ :: _, _ => rfl
  | _ :: _, [], _ => rfl
  | y :: ys, r :: l, h => by
    show y * r 0 + comb ys l 0 = 0
    rw [h r List.mem_cons_self, comb_zero0 ys l fun x hx => h x (List.mem_cons_of_mem _ hx)]
    grind
theorem dep_shift {n : Nat} {l : List Rwf} (h0 : ∀ r ∈ l, r 0 = 0) (h : Dep n (subC (fun c => c + 1) l)) : Dep (n + 1) l := by
  obtain ⟨ys, h1, h2, h3⟩ := h
  refine ⟨ys, by rw [h1, subC_len], h2, fun c hc => ?_⟩
  cases c with
  | zero => exact comb_zero0 ys l h0
  | succ c =>
    have := h3 c (by omega)
    rwa [comb_map] at this
theorem dep_lift {n : Nat} {pre post : List Rwf} {a : Rwf} (ha : a 0 ≠ 0) (h : Dep n (subC (fun c => c + 1) ((pre ++ post).map (elimR a)))) : Dep (n + 1) (pre ++ a :: post) := by
  obtain ⟨ys, h1, h2, h3⟩ := h
  rw [subC_len, List.length_map, List.length_append] at h1
  have hs : ys = ys.take pre.length ++ ys.drop pre.length := (List.take_append_drop _ _).symm
  have ht : (ys.take pre.length).length = pre.length := by rw [List.length_take]; omega
  refine ⟨ys.take pre.length ++ (-(comb ys (pre ++ post) 0 / a 0)) :: ys.drop pre.length, ?_, ?_, fun c hc => ?_⟩
  · simp only [List.length_append, List.length_cons, List.length_take, List.length_drop]
    omega
  · obtain ⟨y, hy, hne⟩ := h2
    refine ⟨y, ?_, hne⟩
    rw [hs] at hy
    rcases List.mem_append.mp hy with z | z
    · exact List.mem_append_left _ z
    · exact List.mem_append_right _ (List.mem_cons_of_mem _ z)
  · rw [comb_app a _ c _ post _ pre ht, ← hs]
    cases c with
    | zero =>
      have := Rat.div_mul_cancel (a := comb ys (pre ++ post) 0) ha
      grind
    | succ c =>
      have := h3 c (by omega)
      rw [comb_map, comb_elim] at this
      grind
theorem dep_more : ∀ (n : Nat) (l : List Rwf), n + 1 ≤ l.length → Dep n l
  | 0, [], h => by simp at h
  | 0, a :: l, _ => ⟨1 :: l.map (fun _ => 0), by simp, ⟨1, List.mem_cons_self, by decide⟩, fun c hc => absurd hc (by omega)⟩
  | n + 1, l, h => by
    by_cases hp : ∃ r ∈ l, r 0 ≠ 0
    · obtain ⟨a, ha, h0⟩ := hp
      obtain ⟨pre, post, rfl⟩ := List.append_of_mem ha
      refine dep_lift h0 (dep_more n _ ?_)
      rw [subC_len, List.length_map, List.length_append]
      simp at h
      omega
    · refine dep_shift (fun r hr => Classical.byContradiction fun z => hp ⟨r, hr, z⟩) (dep_more n _ ?_)
      rw [subC_len]
      omega
theorem det_dep : ∀ (n : Nat) (l : List Rwf), l.length = n → det n l = 0 → Dep n l
  | 0, l, _, h => by
    have : (1 : Rat) = 0 := h
    exact absurd this (by decide)
  | n + 1, l, hl, h => by
    by_cases hp : ∃ r ∈ l, r 0 ≠ 0
    · obtain ⟨a, ha, h0⟩ := hp
      obtain ⟨pre, post, rfl⟩ := List.append_of_mem ha
      have hn : n = (pre ++ post).length := by simp at hl ⊢; omega
      refine dep_lift h0 (det_dep n _ (by rw [subC_len, List.length_map]; exact hn.symm) ?_)
      rw [det_mid' a pre post (by simp at hl; omega)] at h
      have h2 : det (n + 1) (a :: (pre ++ post)) = 0 := by
        rcases Rat.mul_eq_zero.mp h with z | z
        · exact absurd z (sgn_ne _)
        · exact z
      have h3 := det_elim (a := a) (pre ++ post) [] (n + 1) (by rw [hn]; simp)
      rw [List.nil_append, List.nil_append, h2] at h3
      have h4 : sumTo (n + 1) (fun j => sgn j * a j * det n (subC (skp j) ((pre ++ post).map (elimR a)))) = 0 := h3
      rw [sumTo_first, sumTo_zero fun j hj => by
        rw [det_col0 n _ (by omega) (fun r hr => by
          obtain ⟨r0, hr0, rfl⟩ := List.mem_map.mp hr
          obtain ⟨r1, hr1, rfl⟩ := List.mem_map.mp hr0
          show r1 (skp (j + 1) 0) - r1 0 / a 0 * a (skp (j + 1) 0) = 0
          rw [show skp (j + 1) 0 = 0 by unfold skp; rw [if_pos (by omega)], Rat.div_mul_cancel h0]
          grind) (by rw [subC_len, List.length_map]; exact hn.symm)]
        grind] at h4
      have e0 : subC (skp 0) ((pre ++ post).map (elimR a)) = subC (fun c => c + 1) ((pre ++ post).map (elimR a)) := by
        unfold subC skp
        simp
      rw [e0] at h4
      have h5 : a 0 * det n (subC (fun c => c + 1) ((pre ++ post).map (elimR a))) = 0 := by
        have : sgn 0 = 1 := rfl
        grind
      rcases Rat.mul_eq_zero.mp h5 with z | z
      · exact absurd z h0
      · exact z
    · exact dep_shift (fun r hr => Classical.byContradiction fun z => hp ⟨r, hr, z⟩) (dep_more n _ (by rw [subC_len]; omega))
theorem sumTo_dn {M C n : Nat} {f : Nat → Rat} (h : ∀ j, j < n → Dn M C (f j)) : Dn M (n * C) (sumTo n f) := by
  induction n with
  | zero => exact Dn.zero.mono (Nat.zero_le _)
  | succ n ih =>
    rw [Nat.succ_mul]
    exact (ih fun j hj => h j (by omega)).add (h n (by omega))
def fac : Nat → Nat
  | 0 => 1
  | n + 1 => (n + 1) * fac n
theorem det_dn {B : Nat} : ∀ (n : Nat) (l : List Rwf), l.length = n → (∀ r ∈ l, ∀ c, c < n → Dn 1 B (r c)) → Dn 1 (fac n * B ^ n) (det n l)
  | 0, _, _, _ => by
    show Dn 1 (1 * 1) 1
    exact dn_one
  | n + 1, [], h, _ => by simp at h
  | n + 1, a :: l, h, hb => by
    have h1 : ∀ j, j < n + 1 → Dn 1 (B * (fac n * B ^ n)) (sgn j * a j * det n (subC (skp j) l)) := fun j hj => by
      have ha := hb a List.mem_cons_self j hj
      have hd := det_dn n (subC (skp j) l) (by rw [subC_len]; simpa using h) fun r hr c hc => by
        obtain ⟨r0, h0, rfl⟩ := List.mem_map.mp hr
        exact hb r0 (List.mem_cons_of_mem _ h0) _ (by unfold skp; split <;> omega)
      have hs : Dn 1 B (sgn j * a j) := by
        unfold sgn
        split
        · rw [Rat.one_mul]; exact ha
        · have : -1 * a j = -a j := by grind
          rw [this]; exact ha.neg
      exact hs.mul hd
    have h2 := sumTo_dn h1
    have e : (n + 1) * (B * (fac n * B ^ n)) = fac (n + 1) * B ^ (n + 1) := by
      show _ = (n + 1) * fac n * B ^ (n + 1)
      rw [Nat.pow_succ, Nat.mul_assoc (n + 1), ← Nat.mul_assoc (fac n), Nat.mul_comm B]
    rw [← e]
    exact h2
end Q
set_option Elab.async false
set_option linter.all false
set_option maxRecDepth 100000
set_option maxHeartbeats 4000000
namespace Q
open PySem L2 PySem.Spec PyProof.Rows
def kB (N B : Nat) : Nat := fac N * B ^ N
theorem dn1_abs {B : Nat} {q : Rat} (h : Dn 1 B q) (hq : q ≠ 0) : ∃ M : Nat, 0 < M ∧ M ≤ B ∧ (q = (M : Rat) ∨ q = -(M : Rat)) := by
  obtain ⟨n, e, hn⟩ := h
  have e2 : q = (n : Rat) := by
    have : q * ((1 : Nat) : Rat) = q := by
      show q * 1 = q
      grind
    rw [← this]; exact e
  have hn0 : n ≠ 0 := fun z => hq (by rw [e2, z]; rfl)
  refine ⟨n.natAbs, by omega, hn, ?_⟩
  rcases Int.natAbs_eq n with z | z
  · left
    rw [e2]
    exact congrArg (fun i : Int => (i : Rat)) z
  · right
    have : (n : Rat) = ((-(n.natAbs : Int) : Int) : Rat) := congrArg (fun i : Int => (i : Rat)) z
    rw [e2, this, Rat.intCast_neg]
    rfl
theorem dn_div {M B : Nat} {q d : Rat} (hd : d = (M : Rat) ∨ d = -(M : Rat)) (h : Dn 1 B (q * d)) : Dn M B q := by
  obtain ⟨n, e, hn⟩ := h
  have e1 : q * d * ((1 : Nat) : Rat) = q * d := by
    show q * d * 1 = _
    grind
  rw [e1] at e
  rcases hd with rfl | rfl
  · exact ⟨n, e, hn⟩
  · refine ⟨-n, ?_, by rw [Int.natAbs_neg]; exact hn⟩
    rw [Rat.intCast_neg, ← e]
    grind
theorem cramer_bd {N B : Nat} {rows : List Rwf} (hB : 1 ≤ B) (hl : rows.length = N) (hr : ∀ r ∈ rows, ∀ c, c < N → Dn 1 B (r c)) (hind : ¬ Dep N rows) {ys : List Rat} (hy : ys.length = N) {e : Rwf} (he : ∀ c, c < N → comb ys rows c = e c) (heB : ∀ c, c < N → Dn 1 B (e c)) :
    ∃ M, 0 < M ∧ M ≤ kB N B ∧ ∀ y ∈ ys, Dn M (kB N B) y := by
  have hd : det N rows ≠ 0 := fun z => hind (det_dep N rows hl z)
  obtain ⟨M, m0, mK, hM⟩ := dn1_abs (det_dn N rows hl hr) hd
  refine ⟨M, m0, mK, fun y hmem => ?_⟩
  obtain ⟨s, t, rfl⟩ := List.append_of_mem hmem
  have hsl : s.length < rows.length := by rw [hl, ← hy]; simp
  have hsp : rows = rows.take s.length ++ rows[s.length] :: rows.drop (s.length + 1) := by
    rw [List.getElem_cons_drop, List.take_append_drop]
  have htl : (rows.take s.length).length = s.length := by rw [List.length_take]; omega
  have hdl : (rows.drop (s.length + 1)).length = N - (s.length + 1) := by rw [List.length_drop, hl]
  have hn : N = (rows.take s.length).length + (rows.drop (s.length + 1)).length + 1 := by rw [htl, hdl]; omega
  have c1 := cramer (n := N) (ys := s) (zs := t) (y := y) (pre := rows.take s.length) (post := rows.drop (s.length + 1)) (r := rows[s.length]) hn htl.symm
  rw [← hsp] at c1
  have c2 := det_mid' rows[s.length] (rows.take s.length) (rows.drop (s.length + 1)) hn
  rw [← hsp] at c2
  have hlr : (rows.take s.length ++ rows.drop (s.length + 1)).length + 1 = N := by rw [List.length_append]; omega
  have c3 : det N (comb (s ++ y :: t) rows :: (rows.take s.length ++ rows.drop (s.length + 1))) = det N (e :: (rows.take s.length ++ rows.drop (s.length + 1))) := det_congr _ _ _ rfl fun i c hc => by
    cases i with
    | zero => exact he c hc
    | succ i => rfl
  have hsub : ∀ r ∈ rows.take s.length ++ rows.drop (s.length + 1), r ∈ rows := fun r h => by
    rcases List.mem_append.mp h with z | z
    · exact List.mem_of_mem_take z
    · exact List.mem_of_mem_drop z
  have c4 : Dn 1 (kB N B) (det N (e :: (rows.take s.length ++ rows.drop (s.length + 1)))) := det_dn N _ hlr fun r h c hc => by
    rcases List.mem_cons.mp h with rfl | z
    · exact heB c hc
    · exact hr r (hsub r z) c hc
  rw [← c3, c1] at c4
  refine dn_div hM ?_
  rw [c2]
  have : y * (sgn (rows.take s.length).length * det N (rows[s.length] :: (rows.take s.length ++ rows.drop (s.length + 1)))) = sgn (rows.take s.length).length * (y * det N (rows[s.length] :: (rows.take s.length ++ rows.drop (s.length + 1)))) := by grind
  rw [this]
  unfold sgn
  split
  · rw [Rat.one_mul]; exact c4
  · have e2 : ∀ z : Rat, -1 * z = -z := fun z => by grind
    rw [e2]
    exact c4.neg
def rowK (k : Nat) (p : Pol) : Rwf := fun c => p.cf (k + c)
def shR (k : Nat) (F : Pol) (j P : Nat) : List Rwf := (List.range' j P).map fun i => rowK k (monoP i 1 * F)
theorem mk_cons (y : Rat) (ys : List Rat) : mkP (y :: ys) = Pol.C y + Pol.X * mkP ys := Pol.ext fun x => by
  rw [ev_mk, ev_add, ev_C, ev_mul, ev_X, ev_mk]
  show horner x ys * x + y = _
  grind
theorem mono_X (i : Nat) : monoP i 1 * Pol.X = monoP (i + 1) 1 := Pol.ext fun x => by
  rw [ev_mul, ev_X, monoP, ev_mk, monoP, ev_mk, horner_mono, horner_mono]
  show 1 * powR x i * x = 1 * (x * powR x i)
  grind
theorem mono_0 : monoP 0 1 = 1 := Pol.ext fun x => by
  rw [monoP, ev_mk, horner_mono, ev_one]
  show 1 * 1 = (1 : Rat)
  grind
theorem comb_sh (k : Nat) (F : Pol) (c : Nat) : ∀ (ys : List Rat) (j : Nat), comb ys (shR k F j ys.length) c = (monoP j 1 * mkP ys * F).cf (k + c)
  | [], j => by
    have e : monoP j 1 * mkP [] * F = 0 := by
      have : mkP [] = 0 := Pol.ext fun x => by rw [ev_mk, ev_zero]; rfl
      rw [this]; grind
    rw [e, cf_zero]
    rfl
  | y :: ys, j => by
    have ih := comb_sh k F c ys (j + 1)
    show y * (monoP j 1 * F).cf (k + c) + comb ys (shR k F (j + 1) ys.length) c = _
    rw [ih, mk_cons]
    have e : monoP j 1 * (Pol.C y + Pol.X * mkP ys) * F = Pol.C y * (monoP j 1 * F) + monoP (j + 1) 1 * mkP ys * F := by
      rw [← mono_X]
      grind
    rw [e, cf_add, cf_Cmul]
theorem comb_two (c : Nat) (zs : List Rat) (m : List Rwf) : ∀ (ys : List Rat) (l : List Rwf), ys.length = l.length → comb (ys ++ zs) (l ++ m) c = comb ys l c + comb zs m c
  | [], [], _ => by show comb zs m c = 0 + comb zs m c; grind
  | y :: ys, r :: l, h => by
    show y * r c + comb (ys ++ zs) (l ++ m) c = y * r c + comb ys l c + comb zs m c
    rw [comb_two c zs m ys l (by simpa using h)]
    grind
theorem cf_mono_mul (i : Nat) (F : Pol) (k : Nat) : (monoP i 1 * F).cf k = if i ≤ k then F.cf (k - i) else 0 := by
  have key : ∀ i k, (monoP i 1 * F).cf k = if i ≤ k then F.cf (k - i) else 0 := by
    intro i
    induction i with
    | zero => intro k; rw [mono_0, if_pos (Nat.zero_le _), show (1 : Pol) * F = F by grind]; rfl
    | succ i ih =>
      intro k
      have e : monoP (i + 1) 1 * F = mkP (0 :: (monoP i 1 * F).l) := by
        rw [mk_cons, mkP_l, ← mono_X, show Pol.C 0 = 0 from C_zero]
        grind
      rw [e, mk_cf]
      cases k with
      | zero => rw [cf0_zero, if_neg (by omega)]
      | succ k =>
        rw [cf0_succ]
        have := ih k
        unfold Pol.cf at this
        rw [this]
        by_cases h : i ≤ k
        · rw [if_pos h, if_pos (by omega), show k + 1 - (i + 1) = k - i by omega]; rfl
        · rw [if_neg h, if_neg (by omega)]
  exact key i k
theorem shR_len (k : Nat) (F : Pol) (j P : Nat) : (shR k F j P).length = P := by unfold shR; rw [List.length_map, List.length_range']
theorem shR_dn {B k j P : Nat} {F : Pol} (h : ∀ k, Dn 1 B (F.cf k)) : ∀ r ∈ shR k F j P, ∀ c, Dn 1 B (r c) := fun r hr c => by
  obtain ⟨i, _, rfl⟩ := List.mem_map.mp hr
  show Dn 1 B ((monoP i 1 * F).cf (k + c))
  rw [cf_mono_mul]
  split
  · exact h _
  · exact dn_zero
theorem mkP_zero {ys : List Rat} (h : mkP ys = 0) : ∀ y ∈ ys, y = 0 := fun y hy => by
  obtain ⟨i, hi, e⟩ := List.getElem_of_mem hy
  have h1 : (mkP ys).cf i = 0 := by rw [h, cf_zero]
  rw [mk_cf, cf0_lt hi, e] at h1
  exact h1
/-- coefficients as a list of a length -/
def cfs (p : Pol) (n : Nat) : List Rat := (List.range n).map fun k => p.cf k
theorem cfs_len (p : Pol) (n : Nat) : (cfs p n).length = n := by unfold cfs; rw [List.length_map, List.length_range]
theorem mk_cfs {p : Pol} {n : Nat} (h : p.len ≤ n) : mkP (cfs p n) = p := Pol.cfe fun k => by
  rw [mk_cf, cfs, cf0_map_range]
  by_cases hk : k < n
  · rw [if_pos hk]
  · rw [if_neg hk, cf_ge (by omega)]
/-- sizes: one bottom for all coefficients -/
def BP (B : Nat) (p : Pol) : Prop := ∃ M, 0 < M ∧ M ≤ B ∧ ∀ k, Dn M B (p.cf k)
theorem BP.mono {B C : Nat} {p : Pol} (h : BP B p) (l : B ≤ C) : BP C p := by
  obtain ⟨M, a, b, c⟩ := h
  exact ⟨M, a, Nat.le_trans b l, fun k => (c k).mono l⟩
/-- a polynomial as whole numbers over one bottom -/
theorem BP.int {B : Nat} {p : Pol} (h : BP B p) : ∃ (M : Nat), 0 < M ∧ M ≤ B ∧ ∀ k, Dn 1 B ((Pol.C (M : Rat) * p).cf k) := by
  obtain ⟨M, m0, mB, hk⟩ := h
  refine ⟨M, m0, mB, fun k => ?_⟩
  obtain ⟨n, e, hn⟩ := hk k
  refine ⟨n, ?_, hn⟩
  rw [cf_Cmul, Rat.mul_comm (M : Rat), e]
  show (n : Rat) * 1 = n
  grind
theorem natR_ne {M : Nat} (h : 0 < M) : (M : Rat) ≠ 0 := fun e => by
  have : M = 0 := Rat.natCast_inj.mp (e.trans (by rfl))
  omega
/-- the solution of u F + v G = w, where it is one: sizes -/
theorem sol_bd {B P R n : Nat} {F G u v w : Pol} (hB : 1 ≤ B) (hF : ∀ k, Dn 1 B (F.cf k)) (hG : ∀ k, Dn 1 B (G.cf k)) (hu : u.len ≤ P) (hv : v.len ≤ R) (he : u * F + v * G = w) (hw : ∀ k, n ≤ k → Dn 1 B (w.cf k))
    (huniq : ∀ s t : Pol, s.len ≤ P → t.len ≤ R → (∀ c, c < P + R → (s * F + t * G).cf (n + c) = 0) → s = 0 ∧ t = 0) : ∃ M, 0 < M ∧ M ≤ kB (P + R) B ∧ (∀ k, Dn M (kB (P + R) B) (u.cf k)) ∧ ∀ k, Dn M (kB (P + R) B) (v.cf k) := by
  have one_l : ∀ p : Pol, monoP 0 1 * p = p := fun p => by rw [mono_0]; grind
  have hcomb : ∀ (ys zs : List Rat), ys.length = P → zs.length = R → ∀ c, comb (ys ++ zs) (shR n F 0 P ++ shR n G 0 R) c = (mkP ys * F + mkP zs * G).cf (n + c) := fun ys zs h1 h2 c => by
    rw [comb_two c zs _ ys _ (by rw [shR_len]; exact h1), cf_add]
    have a := comb_sh n F c ys 0
    have b := comb_sh n G c zs 0
    rw [h1, one_l] at a
    rw [h2, one_l] at b
    rw [a, b]
  have hlen : (shR n F 0 P ++ shR n G 0 R).length = P + R := by rw [List.length_append, shR_len, shR_len]
  have hind : ¬ Dep (P + R) (shR n F 0 P ++ shR n G 0 R) := fun ⟨ys, h1, ⟨y, hy, hne⟩, h3⟩ => by
    rw [hlen] at h1
    have l1 : (ys.take P).length = P := by rw [List.length_take]; omega
    have l2 : (ys.drop P).length = R := by rw [List.length_drop]; omega
    have hs : ys = ys.take P ++ ys.drop P := (List.take_append_drop _ _).symm
    obtain ⟨z1, z2⟩ := huniq (mkP (ys.take P)) (mkP (ys.drop P)) (by
      have := trim_len (ys.take P)
      show (trimR (ys.take P)).length ≤ P
      omega) (by
      have := trim_len (ys.drop P)
      show (trimR (ys.drop P)).length ≤ R
      omega) fun c hc => by
      have := h3 c hc
      rw [hs, hcomb _ _ l1 l2] at this
      exact this
    rw [hs] at hy
    rcases List.mem_append.mp hy with m | m
    · exact hne (mkP_zero z1 y m)
    · exact hne (mkP_zero z2 y m)
  have hc := hcomb (cfs u P) (cfs v R) (cfs_len u P) (cfs_len v R)
  rw [mk_cfs hu, mk_cfs hv, he] at hc
  obtain ⟨M, m0, mK, hy⟩ := cramer_bd hB hlen (fun r hr c _ => by
    rcases List.mem_append.mp hr with z | z
    · exact shR_dn hF r z c
    · exact shR_dn hG r z c) hind (ys := cfs u P ++ cfs v R) (by rw [List.length_append, cfs_len, cfs_len]) (e := fun c => w.cf (n + c)) (fun c _ => hc c) (fun c _ => hw _ (by omega))
  have get : ∀ (p : Pol) (m : Nat), p.len ≤ m → (∀ y ∈ cfs p m, Dn M (kB (P + R) B) y) → ∀ k, Dn M (kB (P + R) B) (p.cf k) := fun p m hp h k => by
    by_cases hk : k < m
    · exact h _ (List.mem_map.mpr ⟨k, List.mem_range.mpr hk, rfl⟩)
    · rw [cf_ge (by omega)]; exact dn_zero
  exact ⟨M, m0, mK, get u P hu fun y hm => hy y (List.mem_append_left _ hm), get v R hv fun y hm => hy y (List.mem_append_right _ hm)⟩
theorem conv_dn {M C D L : Nat} {a b : List Rat} (ha : ∀ k, Dn M C (cf0 a k)) (hb : ∀ k, Dn 1 D (cf0 b k)) (hl : a.length ≤ L) (k : Nat) : Dn M (L * (C * D)) (conv a b k) := by
  have h := sum_dn (M := M) (C := C * D) (f := fun j => cf0 a j * cf0 b (k - j)) (n := k + 1) (L := L) (fun j => by
    have := (ha j).mul (hb (k - j))
    rwa [Nat.mul_one] at this) fun j hj => by rw [cf0_ge (qs := a) (by omega)]; grind
  exact h
/-- .. and of what it makes -/
theorem comb_bd {B P R K M : Nat} {F G u v : Pol} (hF : ∀ k, Dn 1 B (F.cf k)) (hG : ∀ k, Dn 1 B (G.cf k)) (hu : u.len ≤ P) (hv : v.len ≤ R) (h1 : ∀ k, Dn M K (u.cf k)) (h2 : ∀ k, Dn M K (v.cf k)) (k : Nat) : Dn M ((P + R) * (K * B)) ((u * F + v * G).cf k) := by
  rw [cf_add, cf_mul, cf_mul, Nat.add_mul]
  exact (conv_dn h1 hF hu k).add (conv_dn h2 hG hv k)
end Q
set_option Elab.async false
set_option linter.all false
set_option maxRecDepth 100000
set_option maxHeartbeats 4000000
namespace Q
open PySem L2 PySem.Spec PyProof.Rows
theorem len_mul_le' (p q : Pol) : (p * q).len ≤ p.len + q.len - 1 ∨ p * q = 0 := by
  by_cases hp : p = 0
  · right; rw [hp]; grind
  · by_cases hq : q = 0
    · right; rw [hq]; grind
    · left; rw [len_mul hp hq]; exact Nat.le_refl _
structure EI (f g a b : Pol) : Prop where
  ex : ∃ (u v u' v' : Pol) (δ : Rat), a = u * f + v * g ∧ b = u' * f + v' * g ∧ u * v' - u' * v = Pol.C δ ∧ δ ≠ 0 ∧ (u = 0 ∨ u.len + b.len ≤ g.len + 1) ∧ (v = 0 ∨ v.len + b.len ≤ f.len + 1) ∧ (u' = 0 ∨ u'.len + a.len ≤ g.len + 1) ∧ (v' = 0 ∨ v'.len + a.len ≤ f.len + 1)
theorem len_oneP : (1 : Pol).len = 1 := len_C (c := ((1 : Nat) : Rat)) (by decide)
theorem EI.base (f g : Pol) : EI f g f g := by
  refine ⟨1, 0, 0, 1, 1, by grind, by grind, ?_, by decide, .inr ?_, .inl rfl, .inl rfl, .inr ?_⟩
  · have : Pol.C 1 = 1 := rfl
    rw [this]; grind
  · rw [len_oneP]; omega
  · rw [len_oneP]; omega
theorem lin_len {u u' q : Pol} {x a b : Nat} (h1 : u = 0 ∨ u.len + b ≤ x + 1) (h2 : u' = 0 ∨ u'.len + a ≤ x + 1) (hq : q = 0 ∨ q.len + b ≤ a + 1) : u - q * u' = 0 ∨ (u - q * u').len + b ≤ x + 1 := by
  by_cases hz : u - q * u' = 0
  · exact .inl hz
  · right
    have k1 : u = 0 ∨ (u.len ≤ x + 1 - b ∧ b ≤ x + 1) := by
      rcases h1 with h | h
      · exact .inl h
      · exact .inr ⟨by omega, by omega⟩
    have k2 : q * u' = 0 ∨ ((q * u').len ≤ x + 1 - b ∧ b ≤ x + 1) := by
      rcases h2 with h | h
      · left; rw [h]; grind
      · rcases hq with hq | hq
        · left; rw [hq]; grind
        · by_cases z1 : q = 0
          · left; rw [z1]; grind
          · by_cases z2 : u' = 0
            · left; rw [z2]; grind
            · right
              have := len_mul z1 z2
              have := len_pos z1
              have := len_pos z2
              omega
    have hb : b ≤ x + 1 := by
      rcases k1 with e | e
      · rcases k2 with e2 | e2
        · exfalso
          apply hz
          rw [e, e2]; grind
        · exact e2.2
      · exact e.2
    have l1 : u.len ≤ x + 1 - b := by
      rcases k1 with e | e
      · rw [e, len_zero]; omega
      · exact e.1
    have l2 : (q * u').len ≤ x + 1 - b := by
      rcases k2 with e | e
      · rw [e, len_zero]; omega
      · exact e.1
    have := len_sub l1 l2
    omega
theorem or_C {c : Rat} (hc : c ≠ 0) {p : Pol} {b x : Nat} (h : p = 0 ∨ p.len + b ≤ x) : Pol.C c * p = 0 ∨ (Pol.C c * p).len + b ≤ x := by
  rcases h with h | h
  · left; rw [h]; grind
  · right; rw [len_Cmul hc]; exact h
theorem EI.step {f g a b q r : Pol} {c : Rat} (h : EI f g a b) (hb : b ≠ 0) (e : q * b + r = a) (hr : r.len < b.len) (hc : c ≠ 0) : EI f g b (Pol.C c * r) := by
  obtain ⟨u, v, u', v', δ, ea, eb, ed, hd, l1, l2, l3, l4⟩ := h.ex
  obtain ⟨q1, q2⟩ := quo_len hb e hr
  have hq : q = 0 ∨ q.len + b.len ≤ a.len + 1 := by
    by_cases hl : a.len < b.len
    · exact .inl (q1 hl)
    · exact .inr (by have := q2 (by omega); omega)
  have hra : r.len ≤ a.len := by
    by_cases hl : a.len < b.len
    · have z := q1 hl
      have : r = a := by rw [← e, z]; grind
      rw [this]; exact Nat.le_refl _
    · omega
  refine ⟨u', v', Pol.C c * (u - q * u'), Pol.C c * (v - q * v'), -(c * δ), eb, ?_, ?_, ?_, ?_, ?_, or_C hc (lin_len l1 l3 hq), or_C hc (lin_len l2 l4 hq)⟩
  · have : r = a - q * b := by rw [← e]; grind
    rw [this, ea, eb]
    grind
  · have e2 : Pol.C (-(c * δ)) = -(Pol.C c * Pol.C δ) := Pol.ext fun x => by rw [ev_C, ev_neg, ev_mul, ev_C, ev_C]
    rw [e2, ← ed]
    grind
  · have := Rat.mul_eq_zero (a := c) (b := δ)
    intro z
    have : c * δ = 0 := by grind
    rcases Rat.mul_eq_zero.mp this with y | y
    · exact hc y
    · exact hd y
  · rcases l3 with h | h
    · exact .inl h
    · right; rw [len_Cmul hc]; omega
  · rcases l4 with h | h
    · exact .inl h
    · right; rw [len_Cmul hc]; omega
theorem EI.uniq {f g a b : Pol} (h : EI f g a b) (hf : f ≠ 0) (hg : g ≠ 0) (hb : b ≠ 0) (hab : b.len < a.len) {s t : Pol} (hs : s.len ≤ g.len - b.len) (ht : t.len ≤ f.len - b.len) (hbg : b.len ≤ g.len) (hbf : b.len ≤ f.len) (hw : (s * f + t * g).len < b.len) : s = 0 ∧ t = 0 := by
  obtain ⟨u, v, u', v', δ, ea, eb, ed, hd, l1, l2, l3, l4⟩ := h.ex
  generalize hW : s * f + t * g = w at hw
  have lenP : ∀ {p q : Pol} {n : Nat}, (p = 0 ∨ q = 0 ∨ p.len + q.len ≤ n) → 0 < n → (p * q).len ≤ n - 1 := fun {p q n} h hn => by
    rcases len_mul_le' p q with z | z
    · rcases h with h | h | h
      · rw [h, show (0 : Pol) * q = 0 by grind, len_zero]; omega
      · rw [h, show p * (0 : Pol) = 0 by grind, len_zero]; omega
      · omega
    · rw [z, len_zero]; omega
  have hg0 := len_pos hg
  have hf0 := len_pos hf
  have hb0 := len_pos hb
  have e1 : (u' * t - s * v') * g = u' * w - s * b := by rw [← hW, eb]; grind
  have hD : u' * t - s * v' = 0 := by
    by_cases z : u' * t - s * v' = 0
    · exact z
    · exfalso
      have m := len_mul z hg
      have z0 := len_pos z
      have k1 : (u' * w).len ≤ g.len - 1 := lenP (by
        rcases l3 with h | h
        · exact .inl h
        · right; right; omega) hg0
      have k2 : (s * b).len ≤ g.len - 1 := lenP (by right; right; omega) hg0
      have := len_sub k1 k2
      rw [← e1, m] at this
      omega
  have e2 : u' * w = s * b := by
    have : (u' * t - s * v') * g = 0 := by rw [hD]; grind
    rw [e1] at this
    grind
  have e3 : v' * w = t * b := by
    have : u' * t = s * v' := by grind
    rw [← hW, eb]
    grind
  have e4 : Pol.C δ * w = (u * t - v * s) * b := by
    rw [← ed]
    grind
  have hw0 : w = 0 := by
    by_cases z : w = 0
    · exact z
    · exfalso
      have l := len_Cmul hd w
      rw [e4] at l
      have hne : u * t - v * s ≠ 0 := fun y => by
        rw [y, show (0 : Pol) * b = 0 by grind, len_zero] at l
        have := len_pos z
        omega
      have := len_mul hne hb
      have := len_pos hne
      omega
  rw [hw0] at e2 e3
  constructor
  · rcases mul_eq0 (show s * b = 0 by rw [← e2]; grind) with z | z
    · exact z
    · exact absurd z hb
  · rcases mul_eq0 (show t * b = 0 by rw [← e3]; grind) with z | z
    · exact z
    · exact absurd z hb
/-- a rest is small -/
theorem EI.bd {f g a b : Pol} {B : Nat} (h : EI f g a b) (hf : f ≠ 0) (hg : g ≠ 0) (hb : b ≠ 0) (hab : b.len < a.len) (hbg : b.len ≤ g.len) (hbf : b.len ≤ f.len) (hl : b.lc = 1 ∨ b.lc = -1) (F : BP B f) (G : BP B g) (hB : 1 ≤ B) :
    ∃ M, 0 < M ∧ M ≤ kB (f.len + g.len - 2 * b.len) B ∧ ∀ k, Dn M ((f.len + g.len) * (kB (f.len + g.len - 2 * b.len) B * B)) (b.cf k) := by
  obtain ⟨u, v, u', v', δ, ea, eb, ed, hd, l1, l2, l3, l4⟩ := h.ex
  obtain ⟨M1, m1, mb1, F1⟩ := F.int
  obtain ⟨M2, m2, mb2, G1⟩ := G.int
  have c1 := natR_ne m1
  have c2 := natR_ne m2
  have i1 : Pol.C (1 / (M1 : Rat)) * Pol.C (M1 : Rat) = 1 := by rw [C_mul, Rat.div_mul_cancel c1]; rfl
  have i2 : Pol.C (1 / (M2 : Rat)) * Pol.C (M2 : Rat) = 1 := by rw [C_mul, Rat.div_mul_cancel c2]; rfl
  have hb0 := len_pos hb
  have hu : (Pol.C (1 / (M1 : Rat)) * u').len ≤ g.len - b.len := by
    rw [len_Cmul (one_div_ne c1)]
    rcases l3 with z | z
    · rw [z, len_zero]; omega
    · omega
  have hv : (Pol.C (1 / (M2 : Rat)) * v').len ≤ f.len - b.len := by
    rw [len_Cmul (one_div_ne c2)]
    rcases l4 with z | z
    · rw [z, len_zero]; omega
    · omega
  have he : Pol.C (1 / (M1 : Rat)) * u' * (Pol.C (M1 : Rat) * f) + Pol.C (1 / (M2 : Rat)) * v' * (Pol.C (M2 : Rat) * g) = b := by rw [eb]; grind
  have hN : g.len - b.len + (f.len - b.len) = f.len + g.len - 2 * b.len := by omega
  have hw : ∀ k, b.len - 1 ≤ k → Dn 1 B (b.cf k) := fun k hk => by
    by_cases e : k = b.len - 1
    · subst e
      show Dn 1 B b.lc
      rcases hl with z | z
      · rw [z]; exact dn_one.mono hB
      · rw [z]; exact dn_one.neg.mono hB
    · rw [cf_ge (by omega)]; exact dn_zero
  obtain ⟨M, m0, mK, h1, h2⟩ := sol_bd (n := b.len - 1) hB F1 G1 hu hv he hw fun s t hs ht hz => by
    have lens : (s * (Pol.C (M1 : Rat) * f) + t * (Pol.C (M2 : Rat) * g)).len < b.len := by
      have : (s * (Pol.C (M1 : Rat) * f) + t * (Pol.C (M2 : Rat) * g)).len ≤ b.len - 1 := len_le.mpr fun k hk => by
        by_cases hk2 : k < b.len - 1 + (g.len - b.len + (f.len - b.len))
        · have := hz (k - (b.len - 1)) (by omega)
          rwa [show b.len - 1 + (k - (b.len - 1)) = k by omega] at this
        · rw [cf_add]
          have a1 : (s * (Pol.C (M1 : Rat) * f)).cf k = 0 := by
            refine cf_ge ?_
            rcases len_mul_le' s (Pol.C (M1 : Rat) * f) with z | z
            · rw [len_Cmul c1] at z; omega
            · rw [z, len_zero]; omega
          have a2 : (t * (Pol.C (M2 : Rat) * g)).cf k = 0 := by
            refine cf_ge ?_
            rcases len_mul_le' t (Pol.C (M2 : Rat) * g) with z | z
            · rw [len_Cmul c2] at z; omega
            · rw [z, len_zero]; omega
          rw [a1, a2]; grind
      omega
    have e5 : s * (Pol.C (M1 : Rat) * f) + t * (Pol.C (M2 : Rat) * g) = Pol.C (M1 : Rat) * s * f + Pol.C (M2 : Rat) * t * g := by grind
    rw [e5] at lens
    obtain ⟨z1, z2⟩ := h.uniq hf hg hb hab (s := Pol.C (M1 : Rat) * s) (t := Pol.C (M2 : Rat) * t) (by rw [len_Cmul c1]; exact hs) (by rw [len_Cmul c2]; exact ht) hbg hbf lens
    constructor
    · rcases mul_eq0 z1 with z | z
      · exact absurd z (C_ne c1)
      · exact z
    · rcases mul_eq0 z2 with z | z
      · exact absurd z (C_ne c2)
      · exact z
  rw [hN] at mK h1 h2
  refine ⟨M, m0, mK, fun k => ?_⟩
  have := comb_bd F1 G1 hu hv h1 h2 k
  rw [he, hN] at this
  exact this.mono (Nat.mul_le_mul_right _ (by omega))
theorem fac_le : ∀ n m : Nat, n ≤ m → fac n ≤ m ^ n
  | 0, _, _ => Nat.le_refl _
  | n + 1, m, h => by
    show (n + 1) * fac n ≤ m ^ (n + 1)
    rw [Nat.pow_succ, Nat.mul_comm]
    exact Nat.mul_le_mul (fac_le n m (by omega)) h
theorem kB_mono {N N' B : Nat} (h : N ≤ N') (hB : 1 ≤ B) : kB N B ≤ kB N' B := by
  refine Nat.mul_le_mul ?_ (Nat.pow_le_pow_right hB h)
  have : ∀ d, fac N ≤ fac (N + d) := fun d => by
    induction d with
    | zero => exact Nat.le_refl _
    | succ d ih => exact Nat.le_trans ih (Nat.le_mul_of_pos_left _ (by omega))
  have := this (N' - N)
  rwa [show N + (N' - N) = N' by omega] at this
/-- the size of a rest, in bits: of polynomials shorter than 2^l with b bits -/
def eB (l b : Nat) : Nat := (l + 1) + (l + 1) * 2 ^ (l + 1) + b * 2 ^ (l + 1) + b
theorem kB_bits {N b l : Nat} (h : N ≤ 2 ^ (l + 1)) : (2 ^ (l + 1)) * (kB N (2 ^ b) * 2 ^ b) ≤ 2 ^ eB l b := by
  have h1 : kB N (2 ^ b) ≤ kB (2 ^ (l + 1)) (2 ^ b) := kB_mono h (Nat.pos_of_ne_zero (by simp))
  have h2 : kB (2 ^ (l + 1)) (2 ^ b) ≤ 2 ^ ((l + 1) * 2 ^ (l + 1)) * 2 ^ (b * 2 ^ (l + 1)) := by
    refine Nat.mul_le_mul ?_ ?_
    · have := fac_le (2 ^ (l + 1)) (2 ^ (l + 1)) (Nat.le_refl _)
      rwa [← Nat.pow_mul] at this
    · rw [← Nat.pow_mul]
      exact Nat.le_refl _
  have h3 : (2 ^ (l + 1)) * (kB N (2 ^ b) * 2 ^ b) ≤ (2 ^ (l + 1)) * (2 ^ ((l + 1) * 2 ^ (l + 1)) * 2 ^ (b * 2 ^ (l + 1)) * 2 ^ b) := Nat.mul_le_mul_left _ (Nat.mul_le_mul_right _ (Nat.le_trans h1 h2))
  refine Nat.le_trans h3 ?_
  rw [← Nat.pow_add, ← Nat.pow_add, ← Nat.pow_add]
  exact Nat.pow_le_pow_right (by decide) (by unfold eB; omega)
theorem EI.bits {f g a b : Pol} {l β : Nat} (h : EI f g a b) (hf : f ≠ 0) (hg : g ≠ 0) (hb : b ≠ 0) (hab : b.len < a.len) (hbg : b.len ≤ g.len) (hbf : b.len ≤ f.len) (hl : b.lc = 1 ∨ b.lc = -1) (F : BP (2 ^ β) f) (G : BP (2 ^ β) g) (lf : f.len ≤ 2 ^ l) (lg : g.len ≤ 2 ^ l) : BP (2 ^ eB l β) b := by
  obtain ⟨M, m0, mK, hk⟩ := h.bd hf hg hb hab hbg hbf hl F G (Nat.pos_of_ne_zero (by simp))
  have hN : f.len + g.len ≤ 2 ^ (l + 1) := by rw [Nat.pow_succ]; omega
  have hb := kB_bits (b := β) (l := l) (N := f.len + g.len - 2 * b.len) (by omega)
  have two : 1 ≤ 2 ^ β := Nat.pos_of_ne_zero (by simp)
  have two2 : 1 ≤ 2 ^ (l + 1) := Nat.pos_of_ne_zero (by simp)
  refine ⟨M, m0, Nat.le_trans mK (Nat.le_trans ?_ hb), fun k => (hk k).mono (Nat.le_trans (Nat.mul_le_mul_right _ hN) hb)⟩
  exact Nat.le_trans (Nat.le_mul_of_pos_right _ two) (Nat.le_mul_of_pos_left _ two2)
end Q
set_option Elab.async false
set_option linter.all false
set_option maxRecDepth 100000
set_option maxHeartbeats 4000000
namespace Q
open PySem L2 PySem.Spec PyProof.Rows
theorem dn_of {M C : Nat} {z n : Int} {y : Rat} (e : y * ((M : Rat) * (z : Rat)) = (n : Rat)) (hn : n.natAbs ≤ C) : Dn (M * z.natAbs) C y := by
  rcases Int.natAbs_eq z with h | h
  · refine ⟨n, ?_, hn⟩
    rw [← e, Rat.natCast_mul]
    have : (z : Rat) = ((z.natAbs : Nat) : Rat) := congrArg (fun i : Int => (i : Rat)) h
    rw [this]
  · refine ⟨-n, ?_, by rw [Int.natAbs_neg]; exact hn⟩
    have : (z : Rat) = -((z.natAbs : Nat) : Rat) := by
      have := congrArg (fun i : Int => (i : Rat)) h
      rw [this, Rat.intCast_neg]
      rfl
    rw [Rat.intCast_neg, ← e, Rat.natCast_mul, this]
    grind
structure PI (A b : Nat) (q r : Pol) : Prop where
  ex : ∃ M, 0 < M ∧ M ≤ 2 ^ A ∧ (∀ k, Dn M (2 ^ A) (r.cf k)) ∧ ∀ k, Dn M (2 ^ (A + b)) (q.cf k)
theorem p2 {a b : Nat} (h : a ≤ b) : 2 ^ a ≤ 2 ^ b := Nat.pow_le_pow_right (by decide) h
theorem p2m {x y a b : Nat} (hx : x ≤ 2 ^ a) (hy : y ≤ 2 ^ b) : x * y ≤ 2 ^ (a + b) := by
  rw [Nat.pow_add]; exact Nat.mul_le_mul hx hy
theorem PI.base {a b : Nat} {f : Pol} (h : BP (2 ^ a) f) : PI a b 0 f := by
  obtain ⟨M, m0, mB, hk⟩ := h
  exact ⟨M, m0, mB, hk, fun k => by rw [cf_zero]; exact dn_zero⟩
theorem PI.step {A b : Nat} {g q r : Pol} (h : PI A b q r) (G : BP (2 ^ b) g) (hg : g ≠ 0) (hr : r ≠ 0) : PI (A + b + 1) b (pstep g q r).1 (pstep g q r).2 ∧ Sz (A + b + 1) (r.lc / g.lc) := by
  obtain ⟨M, m0, mA, h1, h2⟩ := h.ex
  obtain ⟨M2, n0, nB, h3⟩ := G
  obtain ⟨n1, e1, b1⟩ := h1 (r.len - 1)
  obtain ⟨n2, e2, b2⟩ := h3 (g.len - 1)
  have e1 : r.lc * (M : Rat) = (n1 : Rat) := e1
  have e2 : g.lc * (M2 : Rat) = (n2 : Rat) := e2
  have hgl := lc_ne hg
  have hM2 := natR_ne n0
  have hn2 : n2 ≠ 0 := fun z => by
    rw [z] at e2
    rcases Rat.mul_eq_zero.mp e2 with y | y
    · exact hgl y
    · exact hM2 y
  have hn2' : (n2 : Rat) ≠ 0 := fun z => hn2 (Rat.intCast_inj.mp (z.trans (by rfl)))
  have hz : 0 < n2.natAbs := by omega
  -- the factor
  have ec : r.lc / g.lc * ((M : Rat) * (n2 : Rat)) = ((n1 * (M2 : Int) : Int) : Rat) := by
    have d := Rat.div_mul_cancel (a := r.lc) hgl
    rw [Rat.intCast_mul, ← e1, ← e2]
    show _ = r.lc * M * (M2 : Rat)
    have : r.lc / g.lc * ((M : Rat) * (g.lc * (M2 : Rat))) = r.lc / g.lc * g.lc * (M * M2) := by grind
    rw [this, d]
    grind
  have dc : Dn (M * n2.natAbs) (2 ^ (A + b)) (r.lc / g.lc) := dn_of ec (by
    rw [Int.natAbs_mul]
    exact p2m b1 nB)
  have hMn : M * n2.natAbs ≤ 2 ^ (A + b) := p2m mA b2
  refine ⟨⟨M * n2.natAbs, Nat.mul_pos m0 hz, Nat.le_trans hMn (p2 (by omega)), fun k => ?_, fun k => ?_⟩, ?_⟩
  · show Dn _ _ ((r - monoP (r.len - g.len) (r.lc / g.lc) * g).cf k)
    have em : monoP (r.len - g.len) (r.lc / g.lc) = Pol.C (r.lc / g.lc) * monoP (r.len - g.len) 1 := Pol.cfe fun j => by
      rw [cf_mono, cf_Cmul, cf_mono]
      split <;> grind
    have e3 : (r - monoP (r.len - g.len) (r.lc / g.lc) * g).cf k = r.cf k - r.lc / g.lc * (monoP (r.len - g.len) 1 * g).cf k := by
      rw [cf_sub, em, show Pol.C (r.lc / g.lc) * monoP (r.len - g.len) 1 * g = Pol.C (r.lc / g.lc) * (monoP (r.len - g.len) 1 * g) by grind, cf_Cmul]
    rw [e3, cf_mono_mul]
    obtain ⟨x, ex, bx⟩ := h1 k
    have main : ∀ y : Rat, Dn M2 (2 ^ b) y → Dn (M * n2.natAbs) (2 ^ (A + b + 1)) (r.cf k - r.lc / g.lc * y) := fun y ⟨m, em, bm⟩ => by
      refine dn_of (n := x * n2 - n1 * m) ?_ ?_
      · rw [Rat.intCast_sub, Rat.intCast_mul, Rat.intCast_mul, ← ex, ← em]
        have h5 : (r.cf k - r.lc / g.lc * y) * ((M : Rat) * (n2 : Rat)) = r.cf k * M * n2 - (r.lc / g.lc * ((M : Rat) * (n2 : Rat))) * y := by grind
        rw [h5, ec, Rat.intCast_mul]
        show _ - (n1 : Rat) * (M2 : Rat) * y = _
        grind
      · have t1 : (x * n2).natAbs ≤ 2 ^ (A + b) := by rw [Int.natAbs_mul]; exact p2m bx b2
        have t2 : (n1 * m).natAbs ≤ 2 ^ (A + b) := by rw [Int.natAbs_mul]; exact p2m b1 bm
        have t3 := Int.natAbs_sub_le (x * n2) (n1 * m)
        have t4 : 2 ^ (A + b + 1) = 2 ^ (A + b) * 2 := Nat.pow_succ _ _
        omega
    split
    · exact main _ (h3 _)
    · exact main 0 dn_zero
  · show Dn _ _ ((q + monoP (r.len - g.len) (r.lc / g.lc)).cf k)
    rw [cf_add, cf_mono]
    have u : Dn (M * n2.natAbs) (2 ^ (A + b + b)) (q.cf k) := ((h2 k).up n2.natAbs).mono (p2m (Nat.le_refl _) b2)
    have t4 : 2 ^ (A + b + b + 1) = 2 ^ (A + b + b) + 2 ^ (A + b + b) := by rw [Nat.pow_succ]; omega
    rw [show A + b + 1 + b = A + b + b + 1 by omega, t4]
    split
    · exact u.add (dc.mono (p2 (by omega)))
    · rw [Rat.add_zero]
      exact u.mono (Nat.le_add_right _ _)
  · exact dc.sz (Nat.mul_pos m0 hz) (Nat.lt_of_le_of_lt hMn (Nat.pow_lt_pow_right (by decide) (by omega))) (Nat.pow_lt_pow_right (by decide) (by omega))
theorem PI.sz {A b : Nat} {q r : Pol} (h : PI A b q r) : (∀ x ∈ r.l, Sz (A + 1) x) ∧ ∀ x ∈ q.l, Sz (A + b + 1) x := by
  obtain ⟨M, m0, mA, h1, h2⟩ := h.ex
  have lt : ∀ {x a : Nat}, x ≤ 2 ^ a → x < 2 ^ (a + 1) := fun h => Nat.lt_of_le_of_lt h (Nat.pow_lt_pow_right (by decide) (by omega))
  refine ⟨fun x hx => ?_, fun x hx => ?_⟩
  · obtain ⟨i, hi, e⟩ := List.getElem_of_mem hx
    have := h1 i
    rw [show r.cf i = x from (cf0_lt hi).trans e] at this
    exact this.sz m0 (lt mA) (lt (Nat.le_refl _))
  · obtain ⟨i, hi, e⟩ := List.getElem_of_mem hx
    have := h2 i
    rw [show q.cf i = x from (cf0_lt hi).trans e] at this
    exact this.sz m0 (lt (Nat.le_trans mA (p2 (by omega)))) (lt (Nat.le_refl _))
theorem BP.sz {b : Nat} {p : Pol} (h : BP (2 ^ b) p) : ∀ x ∈ p.l, Sz (b + 1) x := (PI.base (b := 0) h).sz.1
theorem PI.bp {A b : Nat} {q r : Pol} (h : PI A b q r) : BP (2 ^ A) r ∧ BP (2 ^ (A + b)) q := by
  obtain ⟨M, m0, mA, h1, h2⟩ := h.ex
  exact ⟨⟨M, m0, mA, h1⟩, ⟨M, m0, Nat.le_trans mA (p2 (by omega)), h2⟩⟩
/-- divided by a coefficient of one's own -/
theorem BP.own {B : Nat} {p : Pol} (h : BP B p) {a : Rat} (ha : a ≠ 0) (hk : ∃ k, a = p.cf k ∨ a = -p.cf k) : BP B (divC p a) := by
  obtain ⟨M, m0, mB, h1⟩ := h
  obtain ⟨k, hk⟩ := hk
  obtain ⟨n, e, bn⟩ := h1 k
  have hM := natR_ne m0
  have hp : p.cf k ≠ 0 := fun z => by rcases hk with y | y <;> rw [z] at y <;> exact ha (by grind)
  have hn : n ≠ 0 := fun z => by
    rw [z] at e
    rcases Rat.mul_eq_zero.mp e with y | y
    · exact hp y
    · exact hM y
  refine ⟨n.natAbs, by omega, bn, fun j => ?_⟩
  obtain ⟨m, em, bm⟩ := h1 j
  have ed : (divC p a).cf j = p.cf j / a := by
    rw [divC, mk_cf, cf0_map (fun t => t / a) (by rw [Rat.div_def]; grind)]
    rfl
  rw [ed]
  have key : ∀ z : Int, (z : Rat) = a * (M : Rat) → Dn (1 * z.natAbs) B (p.cf j / a) := fun z hz => by
    refine dn_of (n := m) ?_ bm
    rw [hz, ← em]
    have := Rat.div_mul_cancel (a := p.cf j) ha
    have e5 : p.cf j / a * (((1 : Nat) : Rat) * (a * (M : Rat))) = p.cf j / a * a * M := by
      show p.cf j / a * (1 * (a * (M : Rat))) = _
      grind
    rw [e5, this]
  rcases hk with y | y
  · have := key n (by rw [y, e])
    rwa [Nat.one_mul] at this
  · have := key (-n) (by rw [y, Rat.intCast_neg, ← e]; grind)
    rwa [Nat.one_mul, Int.natAbs_neg] at this
theorem BP.scl {B : Nat} {p : Pol} (h : BP B p) : BP B (Q.scl p) := by
  unfold Q.scl
  split
  · exact h
  · rename_i hz
    have hp : p ≠ 0 := fun e => hz (by rw [e, len_zero])
    exact h.own (lc_ne hp) ⟨p.len - 1, .inl rfl⟩
end Q
set_option Elab.async false
set_option linter.all false
set_option maxRecDepth 100000
set_option maxHeartbeats 4000000
namespace Q
open PySem L2 PySem.Spec PyProof.Rows
theorem PI.up {A A' b : Nat} {q r : Pol} (h : PI A b q r) (l : A ≤ A') : PI A' b q r := by
  obtain ⟨M, m0, mA, h1, h2⟩ := h.ex
  exact ⟨M, m0, Nat.le_trans mA (p2 l), fun k => (h1 k).mono (p2 l), fun k => (h2 k).mono (p2 (by omega))⟩
theorem pgo_pi {g : Pol} {b : Nat} (G : BP (2 ^ b) g) (hg : g ≠ 0) : ∀ (n A : Nat) (q r : Pol), PI A b q r → PI (A + r.len * (b + 1)) b (pgo n g q r).1 (pgo n g q r).2
  | 0, A, q, r, h => h.up (Nat.le_add_right _ _)
  | n + 1, A, q, r, h => by
    unfold pgo
    by_cases hl : g.len ≤ r.len
    · rw [if_pos hl]
      have hr : r ≠ 0 := fun e => by
        have := len_pos hg
        rw [e, len_zero] at hl; omega
      have s := step_len (q := q) hg hl
      refine (pgo_pi G hg n _ _ _ (h.step G hg hr).1).up ?_
      have h1 : ((pstep g q r).2.len + 1) * (b + 1) ≤ r.len * (b + 1) := Nat.mul_le_mul_right _ s
      rw [Nat.succ_mul] at h1
      omega
    · rw [if_neg hl]
      exact h.up (Nat.le_add_right _ _)
theorem parted_pi {f g : Pol} {a b : Nat} (F : BP (2 ^ a) f) (G : BP (2 ^ b) g) (hg : g ≠ 0) : PI (a + f.len * (b + 1)) b (partedP f g).1 (partedP f g).2 := pgo_pi G hg _ _ _ _ (PI.base F)
theorem bp_zero {B : Nat} (h : 1 ≤ B) : BP B 0 := ⟨1, by decide, h, fun k => by rw [cf_zero]; exact dn_zero⟩
structure EU (f g : Pol) (S : Nat) (a b : Pol) : Prop where
  A : BP (2 ^ S) a
  B : BP (2 ^ S) b
  lb : b.len ≤ g.len
  la : a.len ≤ f.len ∨ (a.len ≤ g.len ∧ b.len ≤ f.len)
  ei : EI f g a b
theorem two_pos (n : Nat) : 1 ≤ 2 ^ n := Nat.pos_of_ne_zero (by simp)
theorem eB_ge (l b : Nat) : b ≤ eB l b := by unfold eB; omega
theorem EU.base {f g : Pol} {l β : Nat} (F : BP (2 ^ β) f) (G : BP (2 ^ β) g) : EU f g (eB l β) f g := ⟨F.mono (p2 (eB_ge _ _)), G.mono (p2 (eB_ge _ _)), Nat.le_refl _, .inl (Nat.le_refl _), EI.base f g⟩
theorem rest_le {a b q r : Pol} (hb : b ≠ 0) (e : q * b + r = a) (hr : r.len < b.len) : r.len ≤ a.len := by
  by_cases hl : a.len < b.len
  · have z := (quo_len hb e hr).1 hl
    have : r = a := by rw [← e, z]; grind
    rw [this]; exact Nat.le_refl _
  · omega
theorem EU.step {f g a b : Pol} {l β : Nat} (h : EU f g (eB l β) a b) (F : BP (2 ^ β) f) (G : BP (2 ^ β) g) (lf : f.len ≤ 2 ^ l) (lg : g.len ≤ 2 ^ l) (hb : b ≠ 0) : EU f g (eB l β) b (lev (partedP a b).2) := by
  obtain ⟨s1, s2⟩ := parted_spec (f := a) hb
  have hra := rest_le hb s1 s2
  obtain ⟨c, hc, _, e⟩ := lev_ex (partedP a b).2
  have ei := h.ei.step hb s1 s2 hc
  have hll := lev_len (partedP a b).2
  have hlb := h.lb
  have hlf : (lev (partedP a b).2).len ≤ f.len := by
    rcases h.la with z | z
    · omega
    · omega
  refine ⟨h.B, ?_, by omega, .inr ⟨h.lb, hlf⟩, by rw [e]; exact ei⟩
  by_cases hz : (partedP a b).2 = 0
  · rw [hz, lev_zero]
    exact bp_zero (two_pos _)
  · have hz2 : lev (partedP a b).2 ≠ 0 := fun z => hz (lev_ne.mp z)
    have hf : f ≠ 0 := fun z => by
      rw [z, len_zero] at hlf
      have := len_pos hz2
      omega
    have hg : g ≠ 0 := fun z => by
      rw [z, len_zero] at hlb
      have := len_pos hb
      omega
    rw [← e] at ei
    exact ei.bits hf hg hz2 (by omega) (by omega) hlf (lev_lc hz) F G lf lg
theorem gcdP_bp {f g : Pol} {l β : Nat} (F : BP (2 ^ β) f) (G : BP (2 ^ β) g) (lf : f.len ≤ 2 ^ l) (lg : g.len ≤ 2 ^ l) : ∀ (n : Nat) (a b : Pol), EU f g (eB l β) a b → BP (2 ^ eB l β) (gcdP n a b)
  | 0, a, b, h => h.A.scl
  | n + 1, a, b, h => by
    unfold gcdP
    by_cases hz : b.len = 0
    · rw [if_pos hz]; exact h.A.scl
    · rw [if_neg hz]
      exact gcdP_bp F G lf lg n _ _ (h.step F G lf lg fun e => hz (by rw [e, len_zero]))
theorem common_bp {f g : Pol} {l β : Nat} (F : BP (2 ^ β) f) (G : BP (2 ^ β) g) (lf : f.len ≤ 2 ^ l) (lg : g.len ≤ 2 ^ l) : BP (2 ^ eB l β) (commonP f g) := gcdP_bp F G lf lg _ _ _ (EU.base F G)
def slopeP (p : Pol) : Pol := mkP (slopeL p.l)
theorem slope_cf (p : Pol) (k : Nat) : (slopeP p).cf k = p.cf (k + 1) * (((k + 1 : Nat) : Int) : Rat) := (mk_cf _ k).trans (slopeL_cf _ k)
theorem slope_len (p : Pol) : (slopeP p).len = p.len - 1 := by
  refine Nat.le_antisymm (len_le.mpr fun k hk => by rw [slope_cf, cf_ge (by omega)]; grind) ?_
  by_cases hp : p.len ≤ 1
  · omega
  · by_cases h : p.len - 1 ≤ (slopeP p).len
    · exact h
    · exfalso
      have e : (slopeP p).cf (p.len - 2) = 0 := cf_ge (by omega)
      rw [slope_cf, show p.len - 2 + 1 = p.len - 1 by omega] at e
      have hne : p ≠ 0 := fun z => by rw [z, len_zero] at hp; omega
      rcases Rat.mul_eq_zero.mp e with z | z
      · exact lc_ne hne z
      · have : ((p.len - 1 : Nat) : Int) = 0 := Rat.intCast_inj.mp (z.trans (by rfl))
        omega
theorem slope_bp {p : Pol} {β l : Nat} (h : BP (2 ^ β) p) (hl : p.len ≤ 2 ^ l) : BP (2 ^ (β + l)) (slopeP p) := by
  obtain ⟨M, m0, mB, hk⟩ := h
  refine ⟨M, m0, Nat.le_trans mB (p2 (by omega)), fun k => ?_⟩
  rw [slope_cf]
  by_cases hkl : k + 1 < p.len
  · obtain ⟨n, e, bn⟩ := hk (k + 1)
    refine ⟨n * ((k + 1 : Nat) : Int), ?_, ?_⟩
    · rw [Rat.intCast_mul, ← e]
      grind
    · rw [Int.natAbs_mul]
      exact p2m bn (by show k + 1 ≤ 2 ^ l; omega)
  · rw [cf_ge (by omega)]
    rw [Rat.zero_mul]
    exact dn_zero
def singleP (f : Pol) : Pol := scl (partedP f (commonP f (slopeP f))).1
end Q
set_option Elab.async false
set_option linter.all false
set_option maxRecDepth 100000
set_option maxHeartbeats 4000000
namespace Q
open PySem L2 PySem.Spec PyProof.Rows
theorem BP.mul {a b l : Nat} {f g : Pol} (F : BP (2 ^ a) f) (G : BP (2 ^ b) g) (hl : g.len ≤ 2 ^ l) : BP (2 ^ (a + b + l)) (f * g) := by
  obtain ⟨M, m0, mA, h1⟩ := F
  obtain ⟨N, n0, nB, h2⟩ := G
  refine ⟨N * M, Nat.mul_pos n0 m0, Nat.le_trans (p2m nB mA) (p2 (by omega)), fun k => ?_⟩
  have e : f * g = g * f := by grind
  rw [e, cf_mul]
  have h := sum_dn (M := N * M) (C := 2 ^ b * 2 ^ a) (f := fun j => cf0 g.l j * cf0 f.l (k - j)) (n := k + 1) (L := 2 ^ l) (fun j => (h2 j).mul (h1 (k - j))) fun j hj => by rw [cf0_ge (qs := g.l) (by show g.len ≤ j; omega)]; grind
  refine h.mono ?_
  rw [← Nat.pow_add, ← Nat.pow_add]
  exact p2 (by omega)
def Cop (a b : Pol) : Prop := ∃ u v, u * a + v * b = 1
theorem Cop.symm {a b : Pol} (h : Cop a b) : Cop b a := by obtain ⟨u, v, e⟩ := h; exact ⟨v, u, by grind⟩
theorem Cop.one (a : Pol) : Cop a 1 := ⟨0, 1, by grind⟩
theorem Cop.mul {p a b : Pol} (h : Cop p a) (k : Cop p b) : Cop p (a * b) := by
  obtain ⟨u, v, e⟩ := h
  obtain ⟨s, t, e2⟩ := k
  exact ⟨u + v * a * s, v * t, by grind⟩
theorem Cop.mulL {p a b : Pol} (h : Cop a p) (k : Cop b p) : Cop (a * b) p := (h.symm.mul k.symm).symm
theorem Cop.pow {p a : Pol} (h : Cop p a) : ∀ n : Nat, Cop p (a ^ n)
  | 0 => by
    have : a ^ 0 = 1 := by grind
    rw [this]; exact Cop.one p
  | n + 1 => by
    have : a ^ (n + 1) = a ^ n * a := by grind
    rw [this]; exact (Cop.pow h n).mul h
theorem Cop.powL {p a : Pol} (h : Cop a p) (n : Nat) : Cop (a ^ n) p := (h.symm.pow n).symm
theorem Cop.add {p a : Pol} (h : Cop a p) (b : Pol) : Cop (a + b * p) p := by
  obtain ⟨u, v, e⟩ := h
  exact ⟨u, v - u * b, by grind⟩
theorem Cop.C {p a : Pol} {c : Rat} (hc : c ≠ 0) (h : Cop a p) : Cop (Pol.C c * a) p := by
  obtain ⟨u, v, e⟩ := h
  have inv : Pol.C (1 / c) * Pol.C c = 1 := by rw [C_mul, Rat.div_mul_cancel hc]; rfl
  exact ⟨u * Pol.C (1 / c), v, by grind⟩
/-- products of powers -/
def PPow : List Pol → List Nat → Pol
  | p :: ps, n :: ns => p ^ n * PPow ps ns
  | _, _ => 1
def AllCop : List Pol → Prop
  | [] => True
  | p :: ps => (∀ q ∈ ps, Cop p q) ∧ AllCop ps
theorem cop_ppow {p : Pol} : ∀ (ps : List Pol) (ns : List Nat), (∀ q ∈ ps, Cop p q) → Cop p (PPow ps ns)
  | [], _, _ => Cop.one p
  | _ :: _, [], _ => Cop.one p
  | q :: ps, n :: ns, h => ((h q List.mem_cons_self).pow n).mul (cop_ppow ps ns fun x hx => h x (List.mem_cons_of_mem _ hx))
theorem pow_add' (p : Pol) (m : Nat) : ∀ n : Nat, p ^ (m + n) = p ^ m * p ^ n
  | 0 => by
    have : p ^ 0 = 1 := by grind
    rw [Nat.add_zero, this]; grind
  | n + 1 => by
    have e1 : p ^ (m + n + 1) = p ^ (m + n) * p := by grind
    have e2 : p ^ (n + 1) = p ^ n * p := by grind
    rw [← Nat.add_assoc, e1, pow_add' p m n, e2]
    grind
theorem ppow_split : ∀ (ps : List Pol) (as bs : List Nat), as.length = bs.length → PPow ps (as.zipWith (fun a b => a + b) bs) = PPow ps as * PPow ps bs
  | [], _, _, _ => by show (1 : Pol) = 1 * 1; grind
  | _ :: _, [], [], _ => by show (1 : Pol) = 1 * 1; grind
  | p :: ps, a :: as, b :: bs, h => by
    show p ^ (a + b) * PPow ps (as.zipWith _ bs) = p ^ a * PPow ps as * (p ^ b * PPow ps bs)
    rw [ppow_split ps as bs (by simpa using h), pow_add']
    grind
theorem cop_disj : ∀ (ps : List Pol) (as bs : List Nat), AllCop ps → as.length = bs.length → (∀ (i : Nat) (a b : Nat), as[i]? = some a → bs[i]? = some b → a = 0 ∨ b = 0) → Cop (PPow ps as) (PPow ps bs)
  | [], _, _, _, _, _ => Cop.one _
  | _ :: _, [], [], _, _, _ => Cop.one _
  | p :: ps, a :: as, b :: bs, hc, hl, h => by
    have ih := cop_disj ps as bs hc.2 (by simpa using hl) fun i x y hx hy => h (i + 1) x y hx hy
    have p0 : p ^ 0 = 1 := by grind
    rcases h 0 a b rfl rfl with z | z
    · subst z
      show Cop (p ^ 0 * PPow ps as) (p ^ b * PPow ps bs)
      rw [p0, show 1 * PPow ps as = PPow ps as by grind]
      exact ((cop_ppow ps as hc.1).symm.pow b).mul ih
    · subst z
      show Cop (p ^ a * PPow ps as) (p ^ 0 * PPow ps bs)
      rw [p0, show 1 * PPow ps bs = PPow ps bs by grind]
      exact ((cop_ppow ps bs hc.1).powL a).mulL ih
def minL (as bs : List Nat) : List Nat := as.zipWith min bs
/-- the greatest common divisor of two products of powers -/
theorem gcd_ppow {ps : List Pol} {as bs : List Nat} {x y : Rat} (hc : AllCop ps) (hl : as.length = bs.length) (hx : x ≠ 0) (hy : y ≠ 0) : IsG (Pol.C x * PPow ps as) (Pol.C y * PPow ps bs) (PPow ps (minL as bs)) := by
  have ha : as = (minL as bs).zipWith (fun a b => a + b) (as.zipWith (fun a b => a - min a b) bs) := by
    refine List.ext_getElem (by simp [minL]; omega) fun i h1 h2 => ?_
    simp only [minL, List.getElem_zipWith]
    omega
  have hb : bs = (minL as bs).zipWith (fun a b => a + b) (as.zipWith (fun a b => b - min a b) bs) := by
    refine List.ext_getElem (by simp [minL]; omega) fun i h1 h2 => ?_
    simp only [minL, List.getElem_zipWith]
    omega
  have e1 := ppow_split ps (minL as bs) (as.zipWith (fun a b => a - min a b) bs) (by simp [minL])
  have e2 := ppow_split ps (minL as bs) (as.zipWith (fun a b => b - min a b) bs) (by simp [minL])
  rw [← ha] at e1
  rw [← hb] at e2
  obtain ⟨u, v, e⟩ := cop_disj ps (as.zipWith (fun a b => a - min a b) bs) (bs := as.zipWith (fun a b => b - min a b) bs) hc (by simp) fun i a b h1 h2 => by
    rw [List.getElem?_zipWith] at h1 h2
    cases ha : as[i]? <;> cases hb : bs[i]? <;> rw [ha, hb] at h1 h2 <;> simp at h1 h2
    omega
  rw [e1, e2]
  have i1 : Pol.C (1 / x) * Pol.C x = 1 := by rw [C_mul, Rat.div_mul_cancel hx]; rfl
  have i2 : Pol.C (1 / y) * Pol.C y = 1 := by rw [C_mul, Rat.div_mul_cancel hy]; rfl
  refine ⟨⟨Pol.C x * PPow ps (as.zipWith (fun a b => a - min a b) bs), by grind⟩, ⟨Pol.C y * PPow ps (as.zipWith (fun a b => b - min a b) bs), by grind⟩, u * Pol.C (1 / x), v * Pol.C (1 / y), by grind⟩
theorem lc_one : (1 : Pol).lc = 1 := by
  unfold Pol.lc
  rw [len_oneP]
  exact cf_C _ 0
theorem lc_ne0 {p : Pol} (h : p.lc = 1) : p ≠ 0 := fun z => by
  rw [z] at h
  unfold Pol.lc at h
  rw [cf_zero] at h
  exact absurd h (by decide)
theorem lc_pow {p : Pol} (h : p.lc = 1) : ∀ n : Nat, (p ^ n).lc = 1
  | 0 => by
    have : p ^ 0 = 1 := by grind
    rw [this, lc_one]
  | n + 1 => by
    have : p ^ (n + 1) = p ^ n * p := by grind
    rw [this, lc_mul (lc_ne0 (lc_pow h n)) (lc_ne0 h), lc_pow h n, h]
    grind
theorem lc_ppow : ∀ (ps : List Pol) (ns : List Nat), (∀ p ∈ ps, p.lc = 1) → (PPow ps ns).lc = 1
  | [], _, _ => lc_one
  | _ :: _, [], _ => lc_one
  | p :: ps, n :: ns, h => by
    have h1 := lc_pow (h p List.mem_cons_self) n
    have h2 := lc_ppow ps ns fun q hq => h q (List.mem_cons_of_mem _ hq)
    show (p ^ n * PPow ps ns).lc = 1
    rw [lc_mul (lc_ne0 h1) (lc_ne0 h2), h1, h2]
    grind
theorem slope_add (p q : Pol) : slopeP (p + q) = slopeP p + slopeP q := Pol.cfe fun k => by rw [cf_add, slope_cf, slope_cf, slope_cf, cf_add]; grind
theorem slope_C (c : Rat) : slopeP (Pol.C c) = 0 := Pol.cfe fun k => by rw [slope_cf, cf_C, if_neg (by omega), cf_zero]; grind
theorem slope_Cmul (c : Rat) (p : Pol) : slopeP (Pol.C c * p) = Pol.C c * slopeP p := Pol.cfe fun k => by rw [cf_Cmul, slope_cf, slope_cf, cf_Cmul]; grind
theorem cf_Xmul (p : Pol) (k : Nat) : (Pol.X * p).cf k = if k = 0 then 0 else p.cf (k - 1) := by
  have e : Pol.X * p = monoP 1 1 * p := by
    have : monoP 1 1 = Pol.X := by rw [← mono_X, mono_0]; grind
    rw [this]
  rw [e, cf_mono_mul]
  by_cases h : k = 0
  · rw [if_pos h, if_neg (by omega)]
  · rw [if_neg h, if_pos (by omega)]
theorem slope_Xmul (p : Pol) : slopeP (Pol.X * p) = p + Pol.X * slopeP p := Pol.cfe fun k => by
  rw [slope_cf, cf_Xmul, if_neg (by omega), Nat.add_sub_cancel, cf_add, cf_Xmul]
  by_cases h : k = 0
  · subst h
    rw [if_pos rfl]
    show p.cf 0 * 1 = p.cf 0 + 0
    grind
  · rw [if_neg h, slope_cf, show k - 1 + 1 = k by omega]
    have : (((k + 1 : Nat) : Int) : Rat) = ((k : Int) : Rat) + 1 := by
      rw [show ((k + 1 : Nat) : Int) = (k : Int) + 1 by omega, Rat.intCast_add]
      rfl
    rw [this]
    grind
theorem slope_mulL (q : Pol) : ∀ l : List Rat, slopeP (mkP l * q) = slopeP (mkP l) * q + mkP l * slopeP q
  | [] => by
    have e : mkP [] = 0 := Pol.ext fun x => by rw [ev_mk, ev_zero]; rfl
    have z : slopeP 0 = 0 := slope_C 0
    rw [e, show (0 : Pol) * q = 0 by grind, z]
    grind
  | c :: l => by
    have ih := slope_mulL q l
    rw [mk_cons]
    have e : (Pol.C c + Pol.X * mkP l) * q = Pol.C c * q + Pol.X * (mkP l * q) := by grind
    rw [e, slope_add, slope_add, slope_Cmul, slope_Xmul, slope_Xmul, slope_C, ih]
    grind
theorem slope_mul (p q : Pol) : slopeP (p * q) = slopeP p * q + p * slopeP q := by
  have := slope_mulL q p.l
  rwa [mkP_l] at this
theorem slope_pow (p : Pol) : ∀ n : Nat, slopeP (p ^ (n + 1)) = Pol.C ((n + 1 : Nat) : Rat) * p ^ n * slopeP p
  | 0 => by
    have e : p ^ (0 + 1) = p := by grind
    have e0 : p ^ 0 = 1 := by grind
    rw [e, e0, show Pol.C ((0 + 1 : Nat) : Rat) = 1 from rfl]
    grind
  | n + 1 => by
    have e : p ^ (n + 1 + 1) = p ^ (n + 1) * p := by grind
    have e1 : p ^ (n + 1) = p ^ n * p := by grind
    have e2 : Pol.C ((n + 1 + 1 : Nat) : Rat) = Pol.C ((n + 1 : Nat) : Rat) + 1 := Pol.ext fun x => by
      rw [ev_add, ev_C, ev_C, ev_one, Rat.natCast_add]
      rfl
    rw [e, slope_mul, slope_pow p n, e2, e1]
    grind
/-- the powers less one, and the factors once -/
def decL (as : List Nat) : List Nat := as.map fun a => a - 1
def onL (as : List Nat) : List Nat := as.map fun a => if 0 < a then 1 else 0
theorem dec_on (ps : List Pol) (as : List Nat) : PPow ps as = PPow ps (decL as) * PPow ps (onL as) := by
  have e : as = (decL as).zipWith (fun a b => a + b) (onL as) := by
    refine List.ext_getElem (by simp [decL, onL]) fun i h1 h2 => ?_
    simp only [decL, onL, List.getElem_zipWith, List.getElem_map]
    split <;> omega
  have := ppow_split ps (decL as) (onL as) (by simp [decL, onL])
  rwa [← e] at this
theorem slope_ppow : ∀ (ps : List Pol) (as : List Nat), AllCop ps → (∀ p ∈ ps, Cop (slopeP p) p) → ∃ S, slopeP (PPow ps as) = PPow ps (decL as) * S ∧ Cop S (PPow ps (onL as))
  | [], _, _, _ => ⟨0, by
    show slopeP 1 = 1 * 0
    have z : slopeP 1 = 0 := slope_C 1
    rw [z]; grind, Cop.one _⟩
  | _ :: _, [], _, _ => ⟨0, by
    show slopeP 1 = 1 * 0
    have z : slopeP 1 = 0 := slope_C 1
    rw [z]; grind, Cop.one _⟩
  | p :: ps, a :: as, hc, hs => by
    obtain ⟨S, e, k⟩ := slope_ppow ps as hc.2 fun q hq => hs q (List.mem_cons_of_mem _ hq)
    have p0 : p ^ 0 = 1 := by grind
    have hsp := hs p List.mem_cons_self
    cases a with
    | zero =>
      refine ⟨S, ?_, ?_⟩
      · show slopeP (p ^ 0 * PPow ps as) = p ^ (0 - 1) * PPow ps (decL as) * S
        rw [p0, show 1 * PPow ps as = PPow ps as by grind, e]
        show PPow ps (decL as) * S = p ^ 0 * PPow ps (decL as) * S
        rw [p0]
        grind
      · show Cop S (p ^ (if 0 < 0 then 1 else 0) * PPow ps (onL as))
        rw [if_neg (by decide), p0, show 1 * PPow ps (onL as) = PPow ps (onL as) by grind]
        exact k
    | succ n =>
      refine ⟨Pol.C ((n + 1 : Nat) : Rat) * (slopeP p * PPow ps (onL as)) + S * p, ?_, ?_⟩
      · show slopeP (p ^ (n + 1) * PPow ps as) = p ^ (n + 1 - 1) * PPow ps (decL as) * _
        rw [slope_mul, slope_pow, e, dec_on ps as, Nat.add_sub_cancel]
        have e1 : p ^ (n + 1) = p ^ n * p := by grind
        rw [e1]
        grind
      · show Cop _ (p ^ (if 0 < n + 1 then 1 else 0) * PPow ps (onL as))
        have p1 : p ^ 1 = p := by grind
        rw [if_pos (by omega), p1]
        have hpr : Cop (PPow ps (onL as)) p := (cop_ppow ps (onL as) hc.1).symm
        refine Cop.mul ?_ ?_
        · exact ((hsp.mulL hpr).C (natR_ne (by omega))).add S
        · have h1 : Cop (S * p) (PPow ps (onL as)) := k.mulL (cop_ppow ps (onL as) hc.1)
          have h2 := h1.add (Pol.C ((n + 1 : Nat) : Rat) * slopeP p)
          have e3 : Pol.C ((n + 1 : Nat) : Rat) * (slopeP p * PPow ps (onL as)) + S * p = S * p + Pol.C ((n + 1 : Nat) : Rat) * slopeP p * PPow ps (onL as) := by grind
          rw [e3]
          exact h2
theorem common_ppow {ps : List Pol} {as : List Nat} {x : Rat} (hc : AllCop ps) (hs : ∀ p ∈ ps, Cop (slopeP p) p) (hm : ∀ p ∈ ps, p.lc = 1) (hx : x ≠ 0) : commonP (Pol.C x * PPow ps as) (slopeP (Pol.C x * PPow ps as)) = PPow ps (decL as) := by
  obtain ⟨S, e, k⟩ := slope_ppow ps as hc hs
  obtain ⟨u, v, e2⟩ := k
  have i1 : Pol.C (1 / x) * Pol.C x = 1 := by rw [C_mul, Rat.div_mul_cancel hx]; rfl
  have l1 := lc_ppow ps (decL as) hm
  refine common_uniq ?_ l1 (lc_ne0 l1)
  rw [slope_Cmul, e, dec_on ps as]
  exact ⟨⟨Pol.C x * PPow ps (onL as), by grind⟩, ⟨Pol.C x * S, by grind⟩, Pol.C (1 / x) * v, Pol.C (1 / x) * u, by grind⟩
/-- each factor once -/
theorem single_ppow {ps : List Pol} {as : List Nat} {x : Rat} (hc : AllCop ps) (hs : ∀ p ∈ ps, Cop (slopeP p) p) (hm : ∀ p ∈ ps, p.lc = 1) (hx : x ≠ 0) : singleP (Pol.C x * PPow ps as) = PPow ps (onL as) := by
  have l1 := lc_ppow ps (decL as) hm
  have l2 := lc_ppow ps (onL as) hm
  have n1 := lc_ne0 l1
  have n2 := lc_ne0 l2
  unfold singleP
  rw [common_ppow hc hs hm hx]
  obtain ⟨s1, s2⟩ := parted_spec (f := Pol.C x * PPow ps as) n1
  have e : Pol.C x * PPow ps (onL as) * PPow ps (decL as) + 0 = Pol.C x * PPow ps as := by rw [dec_on ps as]; grind
  have q := (div_uniq n1 (s1.trans e.symm) s2 (by rw [len_zero]; exact len_pos n1)).1
  rw [q]
  have hne : Pol.C x * PPow ps (onL as) ≠ 0 := mul_ne (C_ne hx) n2
  rw [scl_eq hne, lc_Cmul hx, l2, Rat.mul_one]
  have i1 : Pol.C (1 / x) * Pol.C x = 1 := by rw [C_mul, Rat.div_mul_cancel hx]; rfl
  grind
theorem scl_ppow {ps : List Pol} {as : List Nat} {x : Rat} (hm : ∀ p ∈ ps, p.lc = 1) (hx : x ≠ 0) : scl (Pol.C x * PPow ps as) = PPow ps as := by
  have l2 := lc_ppow ps as hm
  have n2 := lc_ne0 l2
  have hne : Pol.C x * PPow ps as ≠ 0 := mul_ne (C_ne hx) n2
  rw [scl_eq hne, lc_Cmul hx, l2, Rat.mul_one]
  have i1 : Pol.C (1 / x) * Pol.C x = 1 := by rw [C_mul, Rat.div_mul_cancel hx]; rfl
  grind
theorem common_zero {f : Pol} (hf : f ≠ 0) : commonP f 0 = scl f ∧ commonP 0 f = scl f := by
  obtain ⟨c, hc, e⟩ := scl_ex hf
  have g := (IsG.base f).Cl hc
  rw [← e] at g
  have l := scl_lc hf
  exact ⟨common_uniq g l (lc_ne0 l), common_uniq g.symm l (lc_ne0 l)⟩
end Q
set_option Elab.async false
set_option linter.all false
set_option maxRecDepth 100000
set_option maxHeartbeats 4000000
namespace Q
open PySem L2 PySem.Spec PyProof.Rows
def linL (z : Rat) : List Rat := [0 - z, 1]
def quadL (c : Int) : List Rat := [((0 - c : Int) : Rat), 0, 1]
def NumM (m : Int) (q : Rat) : Prop := ∃ u z : Int, q = Rat.divInt u z ∧ 1 ≤ z ∧ z ≤ m + 1 ∧ -m ≤ u ∧ u ≤ m
theorem lin_ev (z x : Rat) : (mkP (linL z)).ev x = x - z := (ev_mk _ x).trans (by show (0 * x + 1) * x + (0 - z) = x - z; grind)
theorem quad_ev (c : Int) (x : Rat) : (mkP (quadL c)).ev x = x * x - (c : Rat) := (ev_mk _ x).trans (by
  show ((0 * x + 1) * x + 0) * x + ((0 - c : Int) : Rat) = _
  have : ((0 - c : Int) : Rat) = -(c : Rat) := by rw [show (0 - c : Int) = -c by omega, Rat.intCast_neg]
  rw [this]
  grind)
theorem lin_eq (z : Rat) : mkP (linL z) = Pol.X - Pol.C z := Pol.ext fun x => by rw [lin_ev, ev_sub, ev_X, ev_C]
theorem quad_eq (c : Int) : mkP (quadL c) = Pol.X * Pol.X - Pol.C (c : Rat) := Pol.ext fun x => by rw [quad_ev, ev_sub, ev_mul, ev_X, ev_C]
theorem lc_of {p : Pol} {n : Nat} (h : p.len ≤ n + 1) (h1 : p.cf n = 1) : p.lc = 1 ∧ p.len = n + 1 := by
  have : p.len = n + 1 := by
    by_cases e : n + 1 ≤ p.len
    · omega
    · have := cf_ge (p := p) (k := n) (by omega)
      rw [h1] at this
      exact absurd this (by decide)
  refine ⟨?_, this⟩
  unfold Pol.lc
  rw [this, Nat.add_sub_cancel, h1]
theorem lin_lc (z : Rat) : (mkP (linL z)).lc = 1 ∧ (mkP (linL z)).len = 2 := lc_of (n := 1) (trim_len _) (mk_cf _ 1)
theorem quad_lc (c : Int) : (mkP (quadL c)).lc = 1 ∧ (mkP (quadL c)).len = 3 := lc_of (n := 2) (trim_len _) (mk_cf _ 2)
theorem lin_cop {z w : Rat} (h : z ≠ w) : Cop (mkP (linL z)) (mkP (linL w)) := by
  have hd : w - z ≠ 0 := fun e => h (by grind)
  refine ⟨Pol.C (1 / (w - z)), -Pol.C (1 / (w - z)), Pol.ext fun x => ?_⟩
  rw [ev_add, ev_mul, ev_mul, ev_neg, ev_C, lin_ev, lin_ev, ev_one]
  have := Rat.div_mul_cancel (a := 1) hd
  have : 1 / (w - z) * (x - z) + -(1 / (w - z)) * (x - w) = 1 / (w - z) * (w - z) := by grind
  rw [this]
  grind
theorem lin_quad {z : Rat} {c : Int} (h : z * z ≠ (c : Rat)) : Cop (mkP (linL z)) (mkP (quadL c)) := by
  have hd : z * z - (c : Rat) ≠ 0 := fun e => h (by grind)
  refine ⟨-(Pol.C (1 / (z * z - (c : Rat))) * (Pol.X + Pol.C z)), Pol.C (1 / (z * z - (c : Rat))), Pol.ext fun x => ?_⟩
  rw [ev_add, ev_mul, ev_mul, ev_neg, ev_mul, ev_add, ev_X, ev_C, ev_C, lin_ev, quad_ev, ev_one]
  have h1 := Rat.div_mul_cancel (a := 1) hd
  have : -(1 / (z * z - (c : Rat)) * (x + z)) * (x - z) + 1 / (z * z - (c : Rat)) * (x * x - (c : Rat)) = 1 / (z * z - (c : Rat)) * (z * z - (c : Rat)) := by grind
  rw [this, h1]
theorem slope_X : slopeP Pol.X = 1 := by
  have := slope_Xmul 1
  have z : slopeP 1 = 0 := slope_C 1
  rw [z] at this
  have e : Pol.X * 1 = Pol.X := by grind
  rw [e] at this
  rw [this]; grind
theorem slope_sub (p q : Pol) : slopeP (p - q) = slopeP p - slopeP q := Pol.cfe fun k => by rw [cf_sub, slope_cf, slope_cf, slope_cf, cf_sub]; grind
theorem lin_slope (z : Rat) : Cop (slopeP (mkP (linL z))) (mkP (linL z)) := by
  rw [lin_eq, slope_sub, slope_X, slope_C]
  exact ⟨1, 0, by grind⟩
theorem quad_slope {c : Int} (hc : c ≠ 0) : Cop (slopeP (mkP (quadL c))) (mkP (quadL c)) := by
  have hc' : (c : Rat) ≠ 0 := fun z => hc (Rat.intCast_inj.mp (z.trans (by rfl)))
  rw [quad_eq, slope_sub, slope_mul, slope_X, slope_C]
  refine ⟨Pol.C (1 / (2 * (c : Rat))) * Pol.X, -Pol.C (1 / (c : Rat)), Pol.ext fun x => ?_⟩
  rw [ev_add, ev_mul, ev_mul, ev_mul, ev_neg, ev_sub, ev_sub, ev_add, ev_mul, ev_mul, ev_mul, ev_X, ev_C, ev_C, ev_C, ev_one, ev_zero]
  have h1 := Rat.div_mul_cancel (a := 1) hc'
  have h2 := Rat.div_mul_cancel (a := 1) (b := 2 * (c : Rat)) (by grind)
  have e2 : 1 / (2 * (c : Rat)) * 2 = 1 / (c : Rat) := by
    have : (1 / (2 * (c : Rat)) * 2 - 1 / (c : Rat)) * (c : Rat) = 0 := by grind
    rcases Rat.mul_eq_zero.mp this with z | z
    · grind
    · exact absurd z hc'
  have : 1 / (2 * (c : Rat)) * x * (1 * x + x * 1 - 0) + -(1 / (c : Rat)) * (x * x - (c : Rat)) = (1 / (2 * (c : Rat)) * 2 - 1 / (c : Rat)) * (x * x) + 1 / (c : Rat) * (c : Rat) := by grind
  rw [this, e2, h1]
  grind
def quadC : List Int := [2, 3, -1, -2, 5]
theorem nosq_fin : ∀ c ∈ quadC, ∀ u ∈ (List.range 9), ∀ v ∈ (List.range 5), ((u : Int) - 4) * ((u : Int) - 4) ≠ c * (((v : Int) + 1) * ((v : Int) + 1)) := by decide +kernel
theorem nosq {z : Rat} {c : Int} (hz : NumM 4 z) (hc : c ∈ quadC) : z * z ≠ (c : Rat) := fun h => by
  obtain ⟨u, v, e, v1, v5, u1, u4⟩ := hz
  have hv : v ≠ 0 := by omega
  have hv' : (v : Rat) ≠ 0 := fun z => hv (Rat.intCast_inj.mp (z.trans (by rfl)))
  have e1 : z * (v : Rat) = (u : Rat) := by
    rw [e, Rat.divInt_eq_div, Rat.div_mul_cancel hv']
  have e2 : u * u = c * (v * v) := by
    refine Rat.intCast_inj.mp ?_
    rw [Rat.intCast_mul, Rat.intCast_mul, Rat.intCast_mul, ← h, ← e1]
    grind
  have := nosq_fin c hc (u + 4).toNat (List.mem_range.mpr (by omega)) (v - 1).toNat (List.mem_range.mpr (by omega))
  rw [show (((u + 4).toNat : Nat) : Int) - 4 = u by omega, show (((v - 1).toNat : Nat) : Int) + 1 = v by omega] at this
  exact this e2
def facs (zs : List Rat) (c : Int) : List (List Rat) := zs.map linL ++ [quadL c]
theorem facs_mem {zs : List Rat} {c : Int} {l : List Rat} (h : l ∈ facs zs c) : (∃ z ∈ zs, l = linL z) ∨ l = quadL c := by
  rcases List.mem_append.mp h with m | m
  · obtain ⟨z, hz, rfl⟩ := List.mem_map.mp m
    exact .inl ⟨z, hz, rfl⟩
  · exact .inr (List.mem_singleton.mp m)
structure FacOk (zs : List Rat) (c : Int) : Prop where
  nd : zs.Nodup
  len : zs.length ≤ 3
  num : ∀ z ∈ zs, NumM 4 z
  c : c ∈ quadC
theorem facs_cop {c : Int} (hc : c ∈ quadC) : ∀ zs : List Rat, zs.Nodup → (∀ z ∈ zs, NumM 4 z) → AllCop ((facs zs c).map mkP)
  | [], _, _ => ⟨(fun _ h => nomatch h), trivial⟩
  | z :: zs, hd, hn => by
    have hd' := List.nodup_cons.mp hd
    refine ⟨fun q hq => ?_, facs_cop hc zs hd'.2 fun x hx => hn x (List.mem_cons_of_mem _ hx)⟩
    obtain ⟨l, hl, rfl⟩ := List.mem_map.mp hq
    have hl : l ∈ facs zs c := hl
    rcases facs_mem hl with ⟨w, hw, rfl⟩ | rfl
    · exact lin_cop fun e => hd'.1 (by rw [e]; exact hw)
    · exact lin_quad (nosq (hn z List.mem_cons_self) hc)
theorem FacOk.cop {zs : List Rat} {c : Int} (h : FacOk zs c) : AllCop ((facs zs c).map mkP) := facs_cop h.c zs h.nd h.num
theorem FacOk.lc {zs : List Rat} {c : Int} (h : FacOk zs c) : ∀ p ∈ (facs zs c).map mkP, p.lc = 1 := fun p hp => by
  obtain ⟨l, hl, rfl⟩ := List.mem_map.mp hp
  rcases facs_mem hl with ⟨w, hw, rfl⟩ | rfl
  · exact (lin_lc w).1
  · exact (quad_lc c).1
theorem FacOk.sl {zs : List Rat} {c : Int} (h : FacOk zs c) : ∀ p ∈ (facs zs c).map mkP, Cop (slopeP p) p := fun p hp => by
  obtain ⟨l, hl, rfl⟩ := List.mem_map.mp hp
  rcases facs_mem hl with ⟨w, hw, rfl⟩ | rfl
  · exact lin_slope w
  · refine quad_slope fun e => ?_
    have := h.c
    rw [e] at this
    exact absurd this (by decide)
theorem NumM.dn {m : Nat} {q : Rat} (h : NumM (m : Int) q) : ∃ M : Nat, 0 < M ∧ M ≤ m + 1 ∧ Dn M m q := by
  obtain ⟨u, v, e, v1, v5, u1, u4⟩ := h
  have hv : v ≠ 0 := by omega
  have hv' : (v : Rat) ≠ 0 := fun z => hv (Rat.intCast_inj.mp (z.trans (by rfl)))
  refine ⟨v.toNat, by omega, by omega, u, ?_, by omega⟩
  have : ((v.toNat : Nat) : Rat) = (v : Rat) := by
    have : ((v.toNat : Nat) : Int) = v := by omega
    exact congrArg (fun i : Int => (i : Rat)) this
  rw [this, e, Rat.divInt_eq_div, Rat.div_mul_cancel hv']
theorem lin_bp {z : Rat} (h : NumM 4 z) : BP (2 ^ 3) (mkP (linL z)) := by
  obtain ⟨M, m0, m5, d⟩ := NumM.dn (m := 4) h
  refine ⟨M, m0, by omega, fun k => ?_⟩
  rw [mk_cf]
  match k with
  | 0 =>
    show Dn M _ (0 - z)
    have : 0 - z = -z := by grind
    rw [this]; exact d.neg.mono (by decide)
  | 1 =>
    show Dn M _ 1
    have := dn_one.up M
    rw [Nat.one_mul] at this
    exact this.mono (by omega)
  | k + 2 => rw [cf0_ge (by show 2 ≤ k + 2; omega)]; exact dn_zero
theorem quad_bp {c : Int} (h : c ∈ quadC) : BP (2 ^ 3) (mkP (quadL c)) := by
  refine ⟨1, by decide, by decide, fun k => ?_⟩
  rw [mk_cf]
  match k with
  | 0 =>
    show Dn 1 _ ((0 - c : Int) : Rat)
    refine (Dn.int (n := 0 - c)).mono ?_
    simp [quadC] at h
    omega
  | 1 => exact dn_zero
  | 2 =>
    show Dn 1 _ 1
    exact dn_one.mono (by decide)
  | k + 3 => rw [cf0_ge (by show 3 ≤ k + 3; omega)]; exact dn_zero
theorem FacOk.bp {zs : List Rat} {c : Int} (h : FacOk zs c) : ∀ l ∈ facs zs c, BP (2 ^ 3) (mkP l) ∧ (mkP l).len ≤ 3 ∧ l.length ≤ 3 ∧ ∀ x ∈ l, Sz 100 x := fun l hl => by
  have key : ∀ l : List Rat, trimR l = l → BP (2 ^ 3) (mkP l) → l.length ≤ 3 → BP (2 ^ 3) (mkP l) ∧ (mkP l).len ≤ 3 ∧ l.length ≤ 3 ∧ ∀ x ∈ l, Sz 100 x := fun l ht hb hl => ⟨hb, Nat.le_trans (trim_len l) hl, hl, fun x hx => ((hb.sz) x (by show x ∈ trimR l; rw [ht]; exact hx)).mono (by decide)⟩
  rcases facs_mem hl with ⟨w, hw, rfl⟩ | rfl
  · refine key _ ?_ (lin_bp (h.num w hw)) (by show 2 ≤ 3; decide)
    exact trim_take (l := 2) (Nat.le_refl 2) (fun k hk => cf0_ge hk) (.inr (by show (1 : Rat) ≠ 0; decide))
  · exact key _ rfl (quad_bp h.c) (Nat.le_refl 3)
theorem ppow_snoc (p : Pol) (n : Nat) : ∀ (ps : List Pol) (ns : List Nat), ps.length = ns.length → PPow (ps ++ [p]) (ns ++ [n]) = PPow ps ns * p ^ n
  | [], [], _ => by show p ^ n * 1 = 1 * p ^ n; grind
  | q :: ps, m :: ns, h => by
    show q ^ m * PPow (ps ++ [p]) (ns ++ [n]) = q ^ m * PPow ps ns * p ^ n
    rw [ppow_snoc p n ps ns (by simpa using h)]
    grind
end Q
set_option Elab.async false
set_option linter.all false
set_option maxRecDepth 100000
set_option maxHeartbeats 4000000
namespace Q
open PySem L2 PySem.Spec PyProof.Rows
theorem fin_common {zs : List Rat} {c : Int} {as bs : List Nat} {x y : Rat} (F : FacOk zs c) (hl : as.length = bs.length) (hx : x ≠ 0) (hy : y ≠ 0) :
    commonP (Pol.C x * PPow ((facs zs c).map mkP) as) (Pol.C y * PPow ((facs zs c).map mkP) bs) = Pol.C 1 * PPow ((facs zs c).map mkP) (minL as bs) := by
  have l1 := lc_ppow _ (minL as bs) F.lc
  rw [common_uniq (gcd_ppow F.cop hl hx hy) l1 (lc_ne0 l1)]
  show PPow _ _ = 1 * PPow _ _
  grind
theorem min_comm (as bs : List Nat) : minL bs as = minL as bs := by
  unfold minL
  rw [List.zipWith_comm]
  congr 1
  funext a b
  exact Nat.min_comm b a
theorem C1m (p : Pol) : Pol.C 1 * p = p := by show 1 * p = p; grind
theorem fin_single {zs : List Rat} {c : Int} {as : List Nat} {x : Rat} (F : FacOk zs c) (hx : x ≠ 0) : singleP (Pol.C x * PPow ((facs zs c).map mkP) as) = Pol.C 1 * PPow ((facs zs c).map mkP) (onL as) := by
  rw [C1m, single_ppow F.cop F.sl F.lc hx]
theorem fin_ne {zs : List Rat} {c : Int} {as : List Nat} {x : Rat} (F : FacOk zs c) (hx : x ≠ 0) : Pol.C x * PPow ((facs zs c).map mkP) as ≠ 0 := mul_ne (C_ne hx) (lc_ne0 (lc_ppow _ as F.lc))
theorem fin_zero {zs : List Rat} {c : Int} {as : List Nat} {x : Rat} (F : FacOk zs c) (hx : x ≠ 0) : commonP (Pol.C x * PPow ((facs zs c).map mkP) as) 0 = Pol.C 1 * PPow ((facs zs c).map mkP) as ∧ commonP 0 (Pol.C x * PPow ((facs zs c).map mkP) as) = Pol.C 1 * PPow ((facs zs c).map mkP) as := by
  obtain ⟨e1, e2⟩ := common_zero (fin_ne (as := as) F hx)
  rw [e1, e2, scl_ppow F.lc hx, C1m]
  exact ⟨rfl, rfl⟩
theorem common_00 : commonP 0 0 = 0 := by
  unfold commonP
  rw [len_zero]
  unfold gcdP
  rw [if_pos len_zero, scl_zero]
theorem single_C {x : Rat} (hx : x ≠ 0) : singleP (Pol.C x) = 1 := by
  have := single_ppow (ps := []) (as := []) (x := x) trivial (fun _ h => nomatch h) (fun _ h => nomatch h) hx
  have e : ∀ p : Pol, p * PPow [] [] = p := fun p => by show p * 1 = p; grind
  rw [e] at this
  exact this
theorem bp_C {u v : Int} (h1 : 1 ≤ v) (h2 : v ≤ 8) (h3 : -8 ≤ u) (h4 : u ≤ 8) : BP (2 ^ 3) (Pol.C (Rat.divInt u v)) := by
  have hv : v ≠ 0 := by omega
  have hv' : (v : Rat) ≠ 0 := fun z => hv (Rat.intCast_inj.mp (z.trans (by rfl)))
  refine ⟨v.toNat, by omega, by omega, fun k => ?_⟩
  rw [cf_C]
  by_cases hk : k = 0
  · rw [if_pos hk]
    refine ⟨u, ?_, by omega⟩
    have : ((v.toNat : Nat) : Rat) = (v : Rat) := by
      have : ((v.toNat : Nat) : Int) = v := by omega
      exact congrArg (fun i : Int => (i : Rat)) this
    rw [this, Rat.divInt_eq_div, Rat.div_mul_cancel hv']
  · rw [if_neg hk]; exact dn_zero
theorem drawn_bp {l : List Rat} (h : ∀ q ∈ l, NumM 9 q) : BP (2 ^ 15) (mkP l) := by
  refine ⟨2520, by decide, by decide, fun k => ?_⟩
  rw [mk_cf]
  by_cases hk : k < l.length
  · rw [cf0_lt hk]
    obtain ⟨u, z, e, h1, h2, h3, h4⟩ := h _ (List.getElem_mem hk)
    rw [e]
    exact (dn_frac h1 (by omega) h3 h4).mono (by decide)
  · rw [cf0_ge (by omega)]; exact dn_zero
theorem sum_caps : ∀ (fs : List (List Rat)) (as : List Nat), as.length = fs.length → (∀ (i a : Nat) (f : List Rat), as[i]? = some a → fs[i]? = some f → a + f.length ≤ 4) → as.sum + (fs.map List.length).sum ≤ 4 * fs.length
  | [], [], _, _ => Nat.le_refl _
  | f :: fs, a :: as, hl, h => by
    have h0 := h 0 a f rfl rfl
    have := sum_caps fs as (by simpa using hl) fun i b g => h (i + 1) b g
    show (a :: as).sum + (f.length :: fs.map List.length).sum ≤ 4 * (fs.length + 1)
    rw [List.sum_cons, List.sum_cons]
    omega
theorem facs_len (zs : List Rat) (c : Int) : (facs zs c).length = zs.length + 1 := by unfold facs; rw [List.length_append, List.length_map, List.length_singleton]
theorem facs_sum (zs : List Rat) (c : Int) : ((facs zs c).map List.length).sum = 2 * zs.length + 3 := by
  unfold facs
  rw [List.map_append, List.sum_append]
  have : ∀ zs : List Rat, ((zs.map linL).map List.length).sum = 2 * zs.length := fun zs => by
    induction zs with
    | nil => rfl
    | cons z zs ih =>
      rw [List.map_cons, List.map_cons, List.sum_cons, ih, List.length_cons]
      show 2 + 2 * zs.length = _
      omega
  rw [this]
  rfl
theorem facs_at {zs : List Rat} {c : Int} {i : Nat} {f : List Rat} (h : (facs zs c)[i]? = some f) : 2 ≤ f.length ∧ f.length ≤ 3 := by
  rcases facs_mem (List.mem_of_getElem? h) with ⟨z, _, rfl⟩ | rfl
  · exact ⟨Nat.le_refl 2, by show 2 ≤ 3; decide⟩
  · exact ⟨by show 2 ≤ 3; decide, Nat.le_refl 3⟩
theorem pow_sum {zs : List Rat} {c : Int} {as : List Nat} (F : FacOk zs c) (hl : as.length = (facs zs c).length) (h : ∀ (i a : Nat) (f : List Rat), as[i]? = some a → (facs zs c)[i]? = some f → a + f.length ≤ 4) : as.sum ≤ 7 := by
  have := sum_caps _ as hl h
  rw [facs_sum, facs_len] at this
  have := F.len
  omega
theorem sum_min : ∀ as bs : List Nat, (minL as bs).sum ≤ as.sum
  | [], _ => by simp [minL]
  | a :: as, [] => by simp [minL]
  | a :: as, b :: bs => by
    have := sum_min as bs
    show (min a b :: minL as bs).sum ≤ _
    rw [List.sum_cons, List.sum_cons]
    omega
theorem sum_on : ∀ as : List Nat, (onL as).sum ≤ as.sum
  | [] => by simp [onL]
  | a :: as => by
    have := sum_on as
    show ((if 0 < a then 1 else 0) :: onL as).sum ≤ _
    rw [List.sum_cons, List.sum_cons]
    by_cases h : 0 < a
    · rw [if_pos h]; omega
    · rw [if_neg h]; omega
theorem num9_sz {q : Rat} (h : NumM 9 q) : Sz 100 q := by
  obtain ⟨u, z, e, h1, h2, h3, h4⟩ := h
  rw [e]
  exact (dn_frac h1 (by omega) h3 h4).sz (n := 100) (by decide) (by decide) (by decide)
theorem min_at {as bs : List Nat} {i a b : Nat} (h1 : as[i]? = some a) (h2 : bs[i]? = some b) : (minL as bs)[i]? = some (min a b) := by
  unfold minL
  rw [List.getElem?_zipWith, h1, h2]
end Q
set_option Elab.async false
set_option linter.all false
set_option maxRecDepth 100000
set_option maxHeartbeats 4000000
namespace K06
open PySem L2 PySem.Spec PyProof.Rows He PySem.W Q
structure Wd (P : Program) (K : Frag) (mg : Str → Option Value) : Prop where
  f_isinstance : mg "isinstance" = none
  f_int : mg "int" = none
  f_bool : mg "bool" = none
  f_abs : mg "abs" = none
  f_max : mg "max" = none
  f_min : mg "min" = none
  f_len : mg "len" = none
  f_range : mg "range" = none
  f_list : mg "list" = none
  f_tuple : mg "tuple" = none
  f_enumerate : mg "enumerate" = none
  f_zip : mg "zip" = none
  g_is_integer : mg "is_integer" = some (.ref (ga K "is_integer"))
  g_greatest : mg "greatest" = some (.ref (ga K "greatest"))
  g_parts : mg "parts" = some (.ref (ga K "parts"))
  g_checked : mg "checked" = some (.ref (ga K "checked"))
  g_as_ratio : mg "as_ratio" = some (.ref (ga K "as_ratio"))
  g_shortened : mg "shortened" = some (.ref (ga K "shortened"))
  g_term_at : mg "term_at" = some (.ref (ga K "term_at"))
  g_folded : mg "folded" = some (.ref (ga K "folded"))
  g_scaled : mg "scaled" = some (.ref (ga K "scaled"))
  g_levelled : mg "levelled" = some (.ref (ga K "levelled"))
  g_common : mg "common" = some (.ref (ga K "common"))
  g_single : mg "single" = some (.ref (ga K "single"))
  g__law_cell : mg "_law_cell" = some (.ref (ga K "_law_cell"))
  g__law_box : mg "_law_box" = some (.ref (ga K "_law_box"))
  g__law_take : mg "_law_take" = some (.ref (ga K "_law_take"))
  g__law_frac : mg "_law_frac" = some (.ref (ga K "_law_frac"))
  g__law_plus : mg "_law_plus" = some (.ref (ga K "_law_plus"))
  g__law_times : mg "_law_times" = some (.ref (ga K "_law_times"))
  g__law_minus : mg "_law_minus" = some (.ref (ga K "_law_minus"))
  g__law_number : mg "_law_number" = some (.ref (ga K "_law_number"))
  g__law_trimmed : mg "_law_trimmed" = some (.ref (ga K "_law_trimmed"))
  g__law_product : mg "_law_product" = some (.ref (ga K "_law_product"))
  g__law_made : mg "_law_made" = some (.ref (ga K "_law_made"))
  g__law_factors : mg "_law_factors" = some (.ref (ga K "_law_factors"))
  g__law_powered : mg "_law_powered" = some (.ref (ga K "_law_powered"))
  g__law_least : mg "_law_least" = some (.ref (ga K "_law_least"))
  g__law_zero : mg "_law_zero" = some (.ref (ga K "_law_zero"))
  g__law_parted : mg "_law_parted" = some (.ref (ga K "_law_parted"))
  g_law : mg "law" = some (.ref (ga K "law"))
  g_FilterError : mg "FilterError" = some (.ref (ga K "FilterError"))
  g_ByZero : mg "ByZero" = some (.ref (ga K "ByZero"))
  g_BadNumber : mg "BadNumber" = some (.ref (ga K "BadNumber"))
  g_ZeroPolynomial : mg "ZeroPolynomial" = some (.ref (ga K "ZeroPolynomial"))
  g_Ratio : mg "Ratio" = some (.ref (ga K "Ratio"))
  g_Polynomial : mg "Polynomial" = some (.ref (ga K "Polynomial"))
  c_Ratio : pCls .ratio K
  no_ratio_top : pNo .ratio "top" K
  no_ratio_bottom : pNo .ratio "bottom" K
  mk_Ratio : pMk .ratio K
  first_Ratio : pFirst .ratio K
  m_Ratio_uaddu : pMeth .ratio "__add__" K
  opt_Ratio_uaddu : pOpT .ratio .Add "int" K
  m_Ratio_usubu : pMeth .ratio "__sub__" K
  opt_Ratio_usubu : pOpT .ratio .Sub "int" K
  m_Ratio_umulu : pMeth .ratio "__mul__" K
  opt_Ratio_umulu : pOpT .ratio .Mult "int" K
  m_Ratio_unegu : pMeth .ratio "__neg__" K
  m_Ratio_uequ : pMeth .ratio "__eq__" K
  ne_Ratio : pNe .ratio K
  nf0_Ratio : pNF .ratio [.ratio, .poly] K
  m_Ratio_over : pMeth .ratio "over" K
  c_Polynomial : pCls .poly K
  no_poly_kept : pNo .poly "kept" K
  mk_Polynomial : pMk .poly K
  first_Polynomial : pFirst .poly K
  m_Polynomial_terms : pMeth .poly "terms" K
  m_Polynomial_ulenu : pMeth .poly "__len__" K
  m_Polynomial_uequ : pMeth .poly "__eq__" K
  ne_Polynomial : pNe .poly K
  nf0_Polynomial : pNF .poly [.ratio, .poly] K
  m_Polynomial_uaddu : pMeth .poly "__add__" K
  m_Polynomial_usubu : pMeth .poly "__sub__" K
  m_Polynomial_umulu : pMeth .poly "__mul__" K
  m_Polynomial_slope : pMeth .poly "slope" K
  m_Polynomial_parted : pMeth .poly "parted" K
  i_int : pIsa [.ty "int"] isa_int K
  i_bool : pIsa [.ty "bool"] isa_bool K
  i_tuple : pIsa [.ty "tuple"] isa_tuple K
  i_Ratio : pIsa [.own .ratio] isa_Ratio K
  i_Polynomial : pIsa [.own .poly] isa_Polynomial K
  errB : pErrB K
  e_ByZero : pErr .byZero K
  x_ByZero : pExm .byZero exm_ByZero K
  e_BadNumber : pErr .badNumber K
  no_BadNumber_given : pNo .badNumber "given" K
  e_ZeroPolynomial : pErr .zeroPolynomial K
  x_ZeroPolynomial : pExm .zeroPolynomial exm_ZeroPolynomial K
  py : pPy K
  pt : P.given.tree = none
theorem Wd.kl_ratio {P : Program} {K : Frag} {mg : Str → Option Value} (W : Wd P K mg) : Kl (cf K) .ratio := ⟨pCls_cls W.c_Ratio, fun f hf => by
  have h : f = "top" ∨ f = "bottom" := by simpa [Cn.fields] using hf
  rcases h with rfl | rfl
  · exact W.no_ratio_top
  · exact W.no_ratio_bottom⟩
theorem Wd.nf_Ratio {P : Program} {K : Frag} {mg : Str → Option Value} (W : Wd P K mg) : CmpOk (cf K) .ratio cmt := nf_ok W.nf0_Ratio fun d m => by
  have h : d = .ratio ∨ d = .poly := by simpa using m
  rcases h with rfl | rfl
  · exact W.c_Ratio
  · exact W.c_Polynomial
theorem Wd.kl_poly {P : Program} {K : Frag} {mg : Str → Option Value} (W : Wd P K mg) : Kl (cf K) .poly := ⟨pCls_cls W.c_Polynomial, fun f hf => by
  have h : f = "kept" := by simpa [Cn.fields] using hf
  subst h
  exact W.no_poly_kept⟩
theorem Wd.nf_Polynomial {P : Program} {K : Frag} {mg : Str → Option Value} (W : Wd P K mg) : CmpOk (cf K) .poly cmt := nf_ok W.nf0_Polynomial fun d m => by
  have h : d = .ratio ∨ d = .poly := by simpa using m
  rcases h with rfl | rfl
  · exact W.c_Ratio
  · exact W.c_Polynomial
theorem Wd.isc_int {P : Program} {K : Frag} {mg : Str → Option Value} (W : Wd P K mg) : ∀ p ∈ isa_int.own, pCls p.1 K := fun p m => by
  have h : p.1 = .ratio ∨ p.1 = .poly := by
    simp [isa_int] at m
    rcases m with rfl | rfl <;> simp
  rcases h with h | h
  · rw [h]; exact W.c_Ratio
  · rw [h]; exact W.c_Polynomial
theorem Wd.isc_bool {P : Program} {K : Frag} {mg : Str → Option Value} (W : Wd P K mg) : ∀ p ∈ isa_bool.own, pCls p.1 K := fun p m => by
  have h : p.1 = .ratio ∨ p.1 = .poly := by
    simp [isa_bool] at m
    rcases m with rfl | rfl <;> simp
  rcases h with h | h
  · rw [h]; exact W.c_Ratio
  · rw [h]; exact W.c_Polynomial
theorem Wd.isc_tuple {P : Program} {K : Frag} {mg : Str → Option Value} (W : Wd P K mg) : ∀ p ∈ isa_tuple.own, pCls p.1 K := fun p m => by
  have h : p.1 = .ratio ∨ p.1 = .poly := by
    simp [isa_tuple] at m
    rcases m with rfl | rfl <;> simp
  rcases h with h | h
  · rw [h]; exact W.c_Ratio
  · rw [h]; exact W.c_Polynomial
theorem Wd.isc_Ratio {P : Program} {K : Frag} {mg : Str → Option Value} (W : Wd P K mg) : ∀ p ∈ isa_Ratio.own, pCls p.1 K := fun p m => by
  have h : p.1 = .ratio ∨ p.1 = .poly := by
    simp [isa_Ratio] at m
    rcases m with rfl | rfl <;> simp
  rcases h with h | h
  · rw [h]; exact W.c_Ratio
  · rw [h]; exact W.c_Polynomial
theorem Wd.isc_Polynomial {P : Program} {K : Frag} {mg : Str → Option Value} (W : Wd P K mg) : ∀ p ∈ isa_Polynomial.own, pCls p.1 K := fun p m => by
  have h : p.1 = .ratio ∨ p.1 = .poly := by
    simp [isa_Polynomial] at m
    rcases m with rfl | rfl <;> simp
  rcases h with h | h
  · rw [h]; exact W.c_Ratio
  · rw [h]; exact W.c_Polynomial
abbrev N_is_integer : List Str := ["value"]
abbrev ps_is_integer : List Str := ["value"]
theorem sc_is_integer : FnScope N_is_integer ps_is_integer d_is_integer.scope := ⟨rfl, rfl, rfl, by decide +kernel, rfl, by decide +kernel, by decide +kernel⟩
theorem bd_is_integer : ∀ (kV doc pm : Value) (an : Option Addr) (cdv ct : Value) (us : List Value), us.length = ps_is_integer.length → bindArgs (fnOf d_is_integer.name d_is_integer.qual d_is_integer.params d_is_integer.body d_is_integer.scope .none kV doc pm an cdv ct) ⟨us, []⟩ = pure (ps_is_integer.zip us) := fun _ _ _ _ _ _ us hl => match us, hl with | [_], _ => rfl
def c_is_integer : Ct := fun args Q _ => ∃ d, args = [.val d] ∧ plain d = true ∧ Q (.bl (isInt d)) args
def r_is_integer : QS := (qRet (qAndV (qUn (oIsa isa_int) (qVar 0)) (qNotV (qUn (oIsa isa_bool) (qVar 0)))))
theorem len_is_integer : ∀ args Q E, c_is_integer args Q E → args.length = ps_is_integer.length := by
  rintro args Q E ⟨_, rfl, _⟩
  rfl
theorem pure_is_integer : ∀ args Q E, c_is_integer args Q E → r_is_integer (startE N_is_integer.length args) (endsC args Q) (exnC args E) := by
  rintro args Q E ⟨d, rfl, hp, hq⟩
  cases d <;> first | exact hq | cases hp
theorem ok_is_integer {P : Program} {w : World} {K : Frag} {mg : Str → Option Value} {base : Heap} (W : Wd P K mg) (Fn : ∃ fd, FunD K d_is_integer.name d_is_integer.qual d_is_integer.params d_is_integer.body d_is_integer.scope (d_is_integer.dvs K) (d_is_integer.kws K) (d_is_integer.at_ K) fd) : FnB P w K mg base d_is_integer 2 ps_is_integer c_is_integer := by
  refine FnB.of (N := N_is_integer) (r := r_is_integer) Fn sc_is_integer len_is_integer pure_is_integer ?_
  intro f cdv A outer s H E0 hr G0 H0 B pin xa xd xc E tk hp h0
  have sc := sc_is_integer
  have hu := roomU hr
  exact (lss_one (ls_ret (le_and (le_isi (isa_ok W.i_int W.isc_int) rfl (pe_bltn (v := .ty "int") (u := .type "int") rfl W.f_int rfl rfl) (.ty _) (le_var 0) W.f_isinstance) (le_one (le_not (le_isi (isa_ok W.i_bool W.isc_bool) rfl (pe_bltn (v := .ty "bool") (u := .type "bool") rfl W.f_bool rfl rfl) (.ty _) (le_var 0) W.f_isinstance))))))
abbrev N_greatest : List Str := ["one", "other"]
abbrev ps_greatest : List Str := ["one", "other"]
theorem sc_greatest : FnScope N_greatest ps_greatest d_greatest.scope := ⟨rfl, rfl, rfl, by decide +kernel, rfl, by decide +kernel, by decide +kernel⟩
theorem bd_greatest : ∀ (kV doc pm : Value) (an : Option Addr) (cdv ct : Value) (us : List Value), us.length = ps_greatest.length → bindArgs (fnOf d_greatest.name d_greatest.qual d_greatest.params d_greatest.body d_greatest.scope .none kV doc pm an cdv ct) ⟨us, []⟩ = pure (ps_greatest.zip us) := fun _ _ _ _ _ _ us hl => match us, hl with | [_, _], _ => rfl
def c_greatest : Ct := fun args Q _ => ∃ a b : Int, args = [.val (.int a), .val (.int b)] ∧ Q (.int (Int.gcd a b : Int)) args
def r_greatest : QS := (qSeq (qWhile (qTest (qBin oNe (qVar 1) (qC (.int 0)))) (qPar 0 1 (qCons (qVar 1) (qCons (qBin oMod (qVar 0) (qVar 1)) qNil))))
    (qRet (qB oAbs (qCons (qVar 0) qNil))))
theorem len_greatest : ∀ args Q E, c_greatest args Q E → args.length = ps_greatest.length := by
  rintro args Q E ⟨_, _, rfl, _⟩
  rfl
theorem pure_greatest : ∀ args Q E, c_greatest args Q E → r_greatest (startE N_greatest.length args) (endsC args Q) (exnC args E) := by
  rintro args Q E ⟨a, b, rfl, hq⟩
  refine ⟨fun m Γ => ∃ x y : Int, Γ = [.val (.int x), .val (.int y)] ∧ m = y.natAbs ∧ Int.gcd x y = Int.gcd a b, ⟨b.natAbs, a, b, rfl, rfl, rfl⟩, ?_⟩
  rintro m Γ ⟨x, y, rfl, rfl, hg⟩
  refine ⟨rfl, rfl, ?_⟩
  show (match !PyData.eqv (.int y) (.int 0) with | true => _ | false => _)
  rw [eqv_int]
  by_cases h : y = 0
  · subst h
    show Q (.int (if x < 0 then -x else x)) _
    have e : (if x < 0 then -x else x) = (Int.gcd a b : Int) := by
      rw [← hg, Int.gcd_zero_right]
      split <;> omega
    rw [e]
    exact hq
  · have e : (!(y == 0)) = true := by simp [h]
    rw [e]
    exact ⟨h, (x.fmod y).natAbs, fmod_lt x h, y, x.fmod y, rfl, rfl, by rw [gcd_fmod]; exact hg⟩
theorem ok_greatest {P : Program} {w : World} {K : Frag} {mg : Str → Option Value} {base : Heap} (W : Wd P K mg) (Fn : ∃ fd, FunD K d_greatest.name d_greatest.qual d_greatest.params d_greatest.body d_greatest.scope (d_greatest.dvs K) (d_greatest.kws K) (d_greatest.at_ K) fd) : FnB P w K mg base d_greatest 2 ps_greatest c_greatest := by
  refine FnB.of (N := N_greatest) (r := r_greatest) Fn sc_greatest len_greatest pure_greatest ?_
  intro f cdv A outer s H E0 hr G0 H0 B pin xa xd xc E tk hp h0
  have sc := sc_greatest
  have hu := roomU hr
  exact (lss_cons (ls_while hp (lt_cmp (ol_ne rfl hr) (le_var 1) le_int) (lss_one (ls_par 0 1 rfl sc.nd (la_cons (le_var 1) (la_cons (le_bin ol_mod (le_var 0) (le_var 1)) la_nil)))))
    (lss_one (ls_ret (le_b bl_abs (la_cons (le_var 0) la_nil) W.f_abs))))
abbrev N_parts : List Str := ["given"]
abbrev ps_parts : List Str := ["given"]
theorem sc_parts : FnScope N_parts ps_parts d_parts.scope := ⟨rfl, rfl, rfl, by decide +kernel, rfl, by decide +kernel, by decide +kernel⟩
theorem bd_parts : ∀ (kV doc pm : Value) (an : Option Addr) (cdv ct : Value) (us : List Value), us.length = ps_parts.length → bindArgs (fnOf d_parts.name d_parts.qual d_parts.params d_parts.body d_parts.scope .none kV doc pm an cdv ct) ⟨us, []⟩ = pure (ps_parts.zip us) := fun _ _ _ _ _ _ us hl => match us, hl with | [_], _ => rfl
def partsD (d : D) : D := match numQ d with
  | some x => tupR x
  | none => .non
def c_parts : Ct := fun args Q _ => ∃ d, args = [.val d] ∧ plain d = true ∧ Q (partsD d) args
def r_parts : QS := (qSeq (qIfS (qTest (qCall c_is_integer (qhVal (qVar 0) qhNil))) (qRet (qTup (qCons (qVar 0) (qCons (qC (.int 1)) qNil)))) qNx)
    (qRet (qIf (qTest (qUn (oIsa isa_Ratio) (qVar 0))) (qTup (qCons (qUn oTop (qVar 0)) (qCons (qUn oBot (qVar 0)) qNil))) (qC .non))))
theorem len_parts : ∀ args Q E, c_parts args Q E → args.length = ps_parts.length := by
  rintro args Q E ⟨_, rfl, _⟩
  rfl
theorem pure_parts : ∀ args Q E, c_parts args Q E → r_parts (startE N_parts.length args) (endsC args Q) (exnC args E) := by
  rintro args Q E ⟨d, rfl, hp, hq⟩
  cases d <;> first | exact ⟨_, rfl, rfl, hq⟩ | exact ⟨_, rfl, rfl, Nat.le_of_ble_eq_true rfl, hq⟩ | cases hp
theorem ok_parts {P : Program} {w : World} {K : Frag} {mg : Str → Option Value} {base : Heap} (W : Wd P K mg) (Fn : ∃ fd, FunD K d_parts.name d_parts.qual d_parts.params d_parts.body d_parts.scope (d_parts.dvs K) (d_parts.kws K) (d_parts.at_ K) fd) (h_is_integer : FnB P w K mg base d_is_integer 2 ps_is_integer c_is_integer) : FnB P w K mg base d_parts 5 ps_parts c_parts := by
  refine FnB.of (N := N_parts) (r := r_parts) Fn sc_parts len_parts pure_parts ?_
  intro f cdv A outer s H E0 hr G0 H0 B pin xa xd xc E tk hp h0
  have sc := sc_parts
  have hu := roomU hr
  exact (lss_cons (ls_if (lt_val (le_callC (h_is_integer.all rfl rfl rfl rfl rfl rfl (hr.mono (by decide : 2 ≤ 4)) rfl rfl bd_is_integer) W.g_is_integer h_is_integer.kp tk (lc_p (lh_val (le_var 0) lh_nil)))) (lss_one (ls_ret (le_tup (la_cons (le_var 0) (la_cons le_int la_nil))))) lss_nil)
    (lss_one (ls_ret (le_if (lt_val (le_isi (isa_ok W.i_Ratio W.isc_Ratio) rfl (pe_glob (v := .ref (ga _ "Ratio")) rfl W.g_Ratio rfl) (.own _) (le_var 0) W.f_isinstance)) (le_tup (la_cons (le_top W.kl_ratio rfl (le_var 0)) (la_cons (le_bot W.kl_ratio rfl (le_var 0)) la_nil))) le_non))))
abbrev N_checked : List Str := ["given", "found"]
abbrev ps_checked : List Str := ["given"]
theorem sc_checked : FnScope N_checked ps_checked d_checked.scope := ⟨rfl, rfl, rfl, by decide +kernel, rfl, by decide +kernel, by decide +kernel⟩
theorem bd_checked : ∀ (kV doc pm : Value) (an : Option Addr) (cdv ct : Value) (us : List Value), us.length = ps_checked.length → bindArgs (fnOf d_checked.name d_checked.qual d_checked.params d_checked.body d_checked.scope .none kV doc pm an cdv ct) ⟨us, []⟩ = pure (ps_checked.zip us) := fun _ _ _ _ _ _ us hl => match us, hl with | [_], _ => rfl
def c_checked : Ct := fun args Q E => ∃ d, args = [.val d] ∧ plain d = true ∧ (∀ x, numQ d = some x → Q (tupR x) args) ∧ (numQ d = none → E ⟨.badNumber, [d]⟩ args)
def r_checked : QS := (qSeq (qSet 1 (qCall c_parts (qhVal (qVar 0) qhNil)))
    (qSeq (qIfS (qTest (qIsN (qVar 1))) (qRaise1 .badNumber (qVar 0)) qNx)
    (qRet (qVar 1))))
theorem len_checked : ∀ args Q E, c_checked args Q E → args.length = ps_checked.length := by
  rintro args Q E ⟨_, rfl, _⟩
  rfl
theorem pure_checked : ∀ args Q E, c_checked args Q E → r_checked (startE N_checked.length args) (endsC args Q) (exnC args E) := by
  rintro args Q E ⟨d, rfl, hp, h1, h2⟩
  refine ⟨_, rfl, hp, ?_⟩
  cases d with
  | int n => exact h1 _ rfl
  | rat q => exact h1 _ rfl
  | non => exact h2 rfl
  | bl _ => exact h2 rfl
  | str _ => exact h2 rfl
  | lst _ => exact h2 rfl
  | tup _ => exact h2 rfl
  | dic _ => exact h2 rfl
  | _ => cases hp
theorem ok_checked {P : Program} {w : World} {K : Frag} {mg : Str → Option Value} {base : Heap} (W : Wd P K mg) (Fn : ∃ fd, FunD K d_checked.name d_checked.qual d_checked.params d_checked.body d_checked.scope (d_checked.dvs K) (d_checked.kws K) (d_checked.at_ K) fd) (h_parts : FnB P w K mg base d_parts 5 ps_parts c_parts) (e_BadNumber : ∃ fd, Er1 P w (cf K) mg base .badNumber "given" (d_BadNumber_uinitu.at_ K) fd ["self", "given"]) : FnB P w K mg base d_checked 8 ps_checked c_checked := by
  obtain ⟨fd_BadNumber, e_BadNumber⟩ := e_BadNumber
  refine FnB.of (N := N_checked) (r := r_checked) Fn sc_checked len_checked pure_checked ?_
  intro f cdv A outer s H E0 hr G0 H0 B pin xa xd xc E tk hp h0
  have sc := sc_checked
  have hu := roomU hr
  exact (lss_cons (ls_set 1 sc.nd (le_callC (h_parts.all rfl rfl rfl rfl rfl rfl (hr.mono (by decide : 5 ≤ 7)) rfl rfl bd_parts) W.g_parts h_parts.kp tk (lc_p (lh_val (le_var 0) lh_nil))))
    (lss_cons (ls_if (lt_isN (le_var 1)) (lss_one (ls_raise1 e_BadNumber rfl (hr.mono (by decide : 0 + 2 ≤ 7)) rfl tk (le_var 0) W.g_BadNumber)) lss_nil)
    (lss_one (ls_ret (le_var 1)))))
abbrev N_Ratio_uinitu : List Str := ["self", "top", "bottom", "divisor"]
abbrev ps_Ratio_uinitu : List Str := ["self", "top", "bottom"]
theorem sc_Ratio_uinitu : FnScope N_Ratio_uinitu ps_Ratio_uinitu d_Ratio_uinitu.scope := ⟨rfl, rfl, rfl, by decide +kernel, rfl, by decide +kernel, by decide +kernel⟩
theorem bdf_Ratio_uinitu : ∀ (T : Addr) (kV doc pm : Value) (an : Option Addr) (cdv ct : Value) (us its : List Value), us.length = 3 → its.length = 1 → ∃ k, bindArgs (fnOf d_Ratio_uinitu.name d_Ratio_uinitu.qual d_Ratio_uinitu.params d_Ratio_uinitu.body d_Ratio_uinitu.scope (.ref T) kV doc pm an cdv ct) ⟨us, []⟩ = seqItems? (.ref T) >>= k ∧ k (some its.toArray) = pure (ps_Ratio_uinitu.zip (us ++ its.drop 1)) := fun _ _ _ _ _ _ _ us its hl h2 => match us, its, hl, h2 with | [_, _, _], [_], _, _ => ⟨_, rfl, rfl⟩
theorem bdd_Ratio_uinitu : ∀ (T : Addr) (kV doc pm : Value) (an : Option Addr) (cdv ct : Value) (us its : List Value), us.length = 2 → its.length = 1 → ∃ k, bindArgs (fnOf d_Ratio_uinitu.name d_Ratio_uinitu.qual d_Ratio_uinitu.params d_Ratio_uinitu.body d_Ratio_uinitu.scope (.ref T) kV doc pm an cdv ct) ⟨us, []⟩ = seqItems? (.ref T) >>= k ∧ k (some its.toArray) = pure (ps_Ratio_uinitu.zip (us ++ its.drop 0)) := fun _ _ _ _ _ _ _ us its hl h2 => match us, its, hl, h2 with | [_, _], [_], _, _ => ⟨_, rfl, rfl⟩
def dd_Ratio_uinitu : List D := [.int 1]
theorem dr_Ratio_uinitu {K : Frag} : ∀ G, Reps (cf K) G dd_Ratio_uinitu (d_Ratio_uinitu.dvs K) := fun G => ⟨_, _, rfl, rfl, rfl⟩
def c_Ratio_uinitu : Ct := fun args Q E => ∃ a b : Int, args = [.bor (.ins .ratio []), .val (.int a), .val (.int b)] ∧ Bd 8999000 b ∧ (b = 0 → E ⟨.byZero, []⟩ args) ∧
  (b ≠ 0 → Q .non [.bor (.ins .ratio [.int (Rat.divInt a b).num, .int ((Rat.divInt a b).den : Int)]), .val (.int a), .val (.int b)])
def r_Ratio_uinitu : QS := (qSeq (qIfS (qTest (qBin oEq (qVar 2) (qC (.int 0)))) (qRaise0 .byZero) qNx)
    (qSeq (qSet 3 (qIf (qTest (qBin oGt (qVar 2) (qC (.int 0)))) (qCall c_greatest (qhVal (qVar 1) (qhVal (qVar 2) qhNil))) (qUn oNeg (qCall c_greatest (qhVal (qVar 1) (qhVal (qVar 2) qhNil))))))
    (qSeq (qFldS 0 .ratio 0 (qBin oDivP (qVar 1) (qVar 3)))
    (qFldS 0 .ratio 1 (qBin oDivP (qVar 2) (qVar 3))))))
theorem len_Ratio_uinitu : ∀ args Q E, c_Ratio_uinitu args Q E → args.length = ps_Ratio_uinitu.length := by
  rintro args Q E ⟨_, _, rfl, _⟩
  rfl
theorem pure_Ratio_uinitu : ∀ args Q E, c_Ratio_uinitu args Q E → r_Ratio_uinitu (startE N_Ratio_uinitu.length args) (endsC args Q) (exnC args E) := by
  rintro args Q E ⟨a, b, rfl, hb, h1, h2⟩
  refine ⟨rfl, rfl, ?_⟩
  show (match PyData.eqv (.int b) (.int 0) with | true => _ | false => _)
  rw [eqv_int]
  by_cases h : b = 0
  · subst h
    exact h1 rfl
  · have e : (b == 0) = false := by simp [h]
    rw [e]
    have h2 := h2 h
    rw [← dvs_num h, ← dvs_den h] at h2
    show (match decide (0 < b) with | true => _ | false => _)
    by_cases h0 : 0 < b
    · rw [decide_eq_true h0]
      have ed : dvs a b = (Int.gcd a b : Int) := if_pos h0
      rw [ed] at h2
      exact ⟨a, b, rfl, gcd_ne h, gcd_ne h, h2⟩
    · rw [decide_eq_false h0]
      have ed : dvs a b = -(Int.gcd a b : Int) := if_neg h0
      have hn : -(Int.gcd a b : Int) ≠ 0 := by rw [← ed]; exact dvs_ne h
      rw [ed] at h2
      exact ⟨a, b, rfl, hn, hn, h2⟩
theorem ok_Ratio_uinitu {P : Program} {w : World} {K : Frag} {mg : Str → Option Value} {base : Heap} (W : Wd P K mg) (Fn : ∃ fd, FunD K d_Ratio_uinitu.name d_Ratio_uinitu.qual d_Ratio_uinitu.params d_Ratio_uinitu.body d_Ratio_uinitu.scope (d_Ratio_uinitu.dvs K) (d_Ratio_uinitu.kws K) (d_Ratio_uinitu.at_ K) fd) (h_greatest : FnB P w K mg base d_greatest 2 ps_greatest c_greatest) (e_ByZero : ∃ fd, Er0 P w (cf K) mg base .byZero (d_ByZero_uinitu.at_ K) fd ["self"]) : FnB P w K mg base d_Ratio_uinitu 45 ps_Ratio_uinitu c_Ratio_uinitu := by
  obtain ⟨fd_ByZero, e_ByZero⟩ := e_ByZero
  refine FnB.of (N := N_Ratio_uinitu) (r := r_Ratio_uinitu) Fn sc_Ratio_uinitu len_Ratio_uinitu pure_Ratio_uinitu ?_
  intro f cdv A outer s H E0 hr G0 H0 B pin xa xd xc E tk hp h0
  have sc := sc_Ratio_uinitu
  have hu := roomU hr
  exact (lss_cons (ls_if (lt_cmp (ol_eq rfl hr) (le_var 2) le_int) (lss_one (ls_raise0 e_ByZero rfl (hr.mono (by decide : 0 + 2 ≤ 44)) rfl tk W.g_ByZero)) lss_nil)
    (lss_cons (ls_set 3 sc.nd (le_if (lt_cmp ol_gt (le_var 2) le_int) (le_callC (h_greatest.all rfl rfl rfl rfl rfl rfl (hr.mono (by decide : 2 ≤ 44)) rfl rfl bd_greatest) W.g_greatest h_greatest.kp tk (lc_p (lh_val (le_var 1) (lh_val (le_var 2) lh_nil)))) (le_un ul_neg (le_callC (h_greatest.all rfl rfl rfl rfl rfl rfl (hr.mono (by decide : 2 ≤ 44)) rfl rfl bd_greatest) W.g_greatest h_greatest.kp tk (lc_p (lh_val (le_var 1) (lh_val (le_var 2) lh_nil)))))))
    (lss_cons (ls_fldS 0 .ratio 0 W.kl_ratio rfl (le_bin (ol_divP (PyR.of (k := 44) (by decide) hr W.py W.pt rfl sc.gen sc.co)) (le_var 1) (le_var 3)))
    (lss_one (ls_fldS 0 .ratio 1 W.kl_ratio rfl (le_bin (ol_divP (PyR.of (k := 44) (by decide) hr W.py W.pt rfl sc.gen sc.co)) (le_var 2) (le_var 3)))))))
abbrev N_Ratio_uaddu : List Str := ["self", "other", "top", "bottom"]
abbrev ps_Ratio_uaddu : List Str := ["self", "other"]
theorem sc_Ratio_uaddu : FnScope N_Ratio_uaddu ps_Ratio_uaddu d_Ratio_uaddu.scope := ⟨rfl, rfl, rfl, by decide +kernel, rfl, by decide +kernel, by decide +kernel⟩
theorem bd_Ratio_uaddu : ∀ (kV doc pm : Value) (an : Option Addr) (cdv ct : Value) (us : List Value), us.length = ps_Ratio_uaddu.length → bindArgs (fnOf d_Ratio_uaddu.name d_Ratio_uaddu.qual d_Ratio_uaddu.params d_Ratio_uaddu.body d_Ratio_uaddu.scope .none kV doc pm an cdv ct) ⟨us, []⟩ = pure (ps_Ratio_uaddu.zip us) := fun _ _ _ _ _ _ us hl => match us, hl with | [_, _], _ => rfl
def c_Ratio_uaddu : Ct := fun args Q E => ∃ (q : Rat) (d : D), args = [.val (.rat q), .val d] ∧ plain d = true ∧ (∀ x, numQ d = some x → Sz 4000000 q ∧ Sz 4000000 x ∧ Q (.rat (q + x)) args) ∧ (numQ d = none → E ⟨.badNumber, [d]⟩ args)
def r_Ratio_uaddu : QS := (qSeq (qAsg (qCall c_checked (qhVal (qVar 1) qhNil)) (gT 2 (gsCons (gV 2) (gsCons (gV 3) gsNil))))
    (qRet (qCall (mkC .ratio c_Ratio_uinitu) (qhVal (qBin oAdd (qBin oMul (qUn oTop (qVar 0)) (qVar 3)) (qBin oMul (qVar 2) (qUn oBot (qVar 0)))) (qhVal (qBin oMul (qUn oBot (qVar 0)) (qVar 3)) qhNil)))))
theorem len_Ratio_uaddu : ∀ args Q E, c_Ratio_uaddu args Q E → args.length = ps_Ratio_uaddu.length := by
  rintro args Q E ⟨_, _, rfl, _⟩
  rfl
theorem pure_Ratio_uaddu : ∀ args Q E, c_Ratio_uaddu args Q E → r_Ratio_uaddu (startE N_Ratio_uaddu.length args) (endsC args Q) (exnC args E) := by
  rintro args Q E ⟨q, d, rfl, hp, h1, h2⟩
  refine ⟨d, rfl, hp, fun x hx => ?_, h2⟩
  obtain ⟨hs, hx, hq⟩ := h1 x hx
  refine ⟨rfl, mul_ok hs.num hx.den (by decide), mul_ok hx.num hs.den (by decide), mul_ok hs.den hx.den (by decide), _, _, rfl, (hs.den.mul hx.den).mono (by decide), fun h0 => ?_, fun _ => ⟨_, rfl, ?_⟩⟩
  · rcases Int.mul_eq_zero.mp h0 with z | z
    · exact absurd z (den_ne q)
    · exact absurd z (den_ne x)
  · show Q (.rat (Rat.divInt (q.num * (x.den : Int) + x.num * (q.den : Int)) ((q.den : Int) * (x.den : Int)))) _
    rw [add_divInt]
    exact hq
theorem ok_Ratio_uaddu {P : Program} {w : World} {K : Frag} {mg : Str → Option Value} {base : Heap} (W : Wd P K mg) (Fn : ∃ fd, FunD K d_Ratio_uaddu.name d_Ratio_uaddu.qual d_Ratio_uaddu.params d_Ratio_uaddu.body d_Ratio_uaddu.scope (d_Ratio_uaddu.dvs K) (d_Ratio_uaddu.kws K) (d_Ratio_uaddu.at_ K) fd) (h_checked : FnB P w K mg base d_checked 8 ps_checked c_checked) (h_Ratio_uinitu : FnB P w K mg base d_Ratio_uinitu 45 ps_Ratio_uinitu c_Ratio_uinitu) : FnB P w K mg base d_Ratio_uaddu 48 ps_Ratio_uaddu c_Ratio_uaddu := by
  refine FnB.of (N := N_Ratio_uaddu) (r := r_Ratio_uaddu) Fn sc_Ratio_uaddu len_Ratio_uaddu pure_Ratio_uaddu ?_
  intro f cdv A outer s H E0 hr G0 H0 B pin xa xd xc E tk hp h0
  have sc := sc_Ratio_uaddu
  have hu := roomU hr
  exact (lss_cons (ls_asg (le_callC (h_checked.all rfl rfl rfl rfl rfl rfl (hr.mono (by decide : 8 ≤ 47)) rfl rfl bd_checked) W.g_checked h_checked.kp tk (lc_p (lh_val (le_var 1) lh_nil))) (lg_tup rfl rfl (lgs_cons (lg_name 2 sc.nd) (lgs_cons (lg_name 3 sc.nd) lgs_nil))))
    (lss_one (ls_ret (le_callC (code_make (pMk_ok W.mk_Ratio) fun us kw => (h_Ratio_uinitu.full rfl rfl rfl rfl rfl rfl ((hr.mono (by decide : 45 + 1 ≤ 47)).make _ us kw) (List.cons_ne_nil _ _) rfl bdf_Ratio_uinitu)) W.g_Ratio W.mk_Ratio.2.2.2 tk (lc_p (lh_val (le_bin ol_add (le_bin ol_mul (le_top W.kl_ratio rfl (le_var 0)) (le_var 3)) (le_bin ol_mul (le_var 2) (le_bot W.kl_ratio rfl (le_var 0)))) (lh_val (le_bin ol_mul (le_bot W.kl_ratio rfl (le_var 0)) (le_var 3)) lh_nil)))))))
abbrev N_Ratio_usubu : List Str := ["self", "other", "top", "bottom"]
abbrev ps_Ratio_usubu : List Str := ["self", "other"]
theorem sc_Ratio_usubu : FnScope N_Ratio_usubu ps_Ratio_usubu d_Ratio_usubu.scope := ⟨rfl, rfl, rfl, by decide +kernel, rfl, by decide +kernel, by decide +kernel⟩
theorem bd_Ratio_usubu : ∀ (kV doc pm : Value) (an : Option Addr) (cdv ct : Value) (us : List Value), us.length = ps_Ratio_usubu.length → bindArgs (fnOf d_Ratio_usubu.name d_Ratio_usubu.qual d_Ratio_usubu.params d_Ratio_usubu.body d_Ratio_usubu.scope .none kV doc pm an cdv ct) ⟨us, []⟩ = pure (ps_Ratio_usubu.zip us) := fun _ _ _ _ _ _ us hl => match us, hl with | [_, _], _ => rfl
def c_Ratio_usubu : Ct := fun args Q E => ∃ (q : Rat) (d : D), args = [.val (.rat q), .val d] ∧ plain d = true ∧ (∀ x, numQ d = some x → Sz 4000000 q ∧ Sz 4000000 x ∧ Q (.rat (q - x)) args) ∧ (numQ d = none → E ⟨.badNumber, [d]⟩ args)
def r_Ratio_usubu : QS := (qSeq (qAsg (qCall c_checked (qhVal (qVar 1) qhNil)) (gT 2 (gsCons (gV 2) (gsCons (gV 3) gsNil))))
    (qRet (qCall (mkC .ratio c_Ratio_uinitu) (qhVal (qBin oSub (qBin oMul (qUn oTop (qVar 0)) (qVar 3)) (qBin oMul (qVar 2) (qUn oBot (qVar 0)))) (qhVal (qBin oMul (qUn oBot (qVar 0)) (qVar 3)) qhNil)))))
theorem len_Ratio_usubu : ∀ args Q E, c_Ratio_usubu args Q E → args.length = ps_Ratio_usubu.length := by
  rintro args Q E ⟨_, _, rfl, _⟩
  rfl
theorem pure_Ratio_usubu : ∀ args Q E, c_Ratio_usubu args Q E → r_Ratio_usubu (startE N_Ratio_usubu.length args) (endsC args Q) (exnC args E) := by
  rintro args Q E ⟨q, d, rfl, hp, h1, h2⟩
  refine ⟨d, rfl, hp, fun x hx => ?_, h2⟩
  obtain ⟨hs, hx, hq⟩ := h1 x hx
  refine ⟨rfl, mul_ok hs.num hx.den (by decide), mul_ok hx.num hs.den (by decide), mul_ok hs.den hx.den (by decide), _, _, rfl, (hs.den.mul hx.den).mono (by decide), fun h0 => ?_, fun _ => ⟨_, rfl, ?_⟩⟩
  · rcases Int.mul_eq_zero.mp h0 with z | z
    · exact absurd z (den_ne q)
    · exact absurd z (den_ne x)
  · show Q (.rat (Rat.divInt (q.num * (x.den : Int) - x.num * (q.den : Int)) ((q.den : Int) * (x.den : Int)))) _
    rw [sub_divInt]
    exact hq
theorem ok_Ratio_usubu {P : Program} {w : World} {K : Frag} {mg : Str → Option Value} {base : Heap} (W : Wd P K mg) (Fn : ∃ fd, FunD K d_Ratio_usubu.name d_Ratio_usubu.qual d_Ratio_usubu.params d_Ratio_usubu.body d_Ratio_usubu.scope (d_Ratio_usubu.dvs K) (d_Ratio_usubu.kws K) (d_Ratio_usubu.at_ K) fd) (h_checked : FnB P w K mg base d_checked 8 ps_checked c_checked) (h_Ratio_uinitu : FnB P w K mg base d_Ratio_uinitu 45 ps_Ratio_uinitu c_Ratio_uinitu) : FnB P w K mg base d_Ratio_usubu 48 ps_Ratio_usubu c_Ratio_usubu := by
  refine FnB.of (N := N_Ratio_usubu) (r := r_Ratio_usubu) Fn sc_Ratio_usubu len_Ratio_usubu pure_Ratio_usubu ?_
  intro f cdv A outer s H E0 hr G0 H0 B pin xa xd xc E tk hp h0
  have sc := sc_Ratio_usubu
  have hu := roomU hr
  exact (lss_cons (ls_asg (le_callC (h_checked.all rfl rfl rfl rfl rfl rfl (hr.mono (by decide : 8 ≤ 47)) rfl rfl bd_checked) W.g_checked h_checked.kp tk (lc_p (lh_val (le_var 1) lh_nil))) (lg_tup rfl rfl (lgs_cons (lg_name 2 sc.nd) (lgs_cons (lg_name 3 sc.nd) lgs_nil))))
    (lss_one (ls_ret (le_callC (code_make (pMk_ok W.mk_Ratio) fun us kw => (h_Ratio_uinitu.full rfl rfl rfl rfl rfl rfl ((hr.mono (by decide : 45 + 1 ≤ 47)).make _ us kw) (List.cons_ne_nil _ _) rfl bdf_Ratio_uinitu)) W.g_Ratio W.mk_Ratio.2.2.2 tk (lc_p (lh_val (le_bin ol_sub (le_bin ol_mul (le_top W.kl_ratio rfl (le_var 0)) (le_var 3)) (le_bin ol_mul (le_var 2) (le_bot W.kl_ratio rfl (le_var 0)))) (lh_val (le_bin ol_mul (le_bot W.kl_ratio rfl (le_var 0)) (le_var 3)) lh_nil)))))))
abbrev N_Ratio_umulu : List Str := ["self", "other", "top", "bottom"]
abbrev ps_Ratio_umulu : List Str := ["self", "other"]
theorem sc_Ratio_umulu : FnScope N_Ratio_umulu ps_Ratio_umulu d_Ratio_umulu.scope := ⟨rfl, rfl, rfl, by decide +kernel, rfl, by decide +kernel, by decide +kernel⟩
theorem bd_Ratio_umulu : ∀ (kV doc pm : Value) (an : Option Addr) (cdv ct : Value) (us : List Value), us.length = ps_Ratio_umulu.length → bindArgs (fnOf d_Ratio_umulu.name d_Ratio_umulu.qual d_Ratio_umulu.params d_Ratio_umulu.body d_Ratio_umulu.scope .none kV doc pm an cdv ct) ⟨us, []⟩ = pure (ps_Ratio_umulu.zip us) := fun _ _ _ _ _ _ us hl => match us, hl with | [_, _], _ => rfl
def c_Ratio_umulu : Ct := fun args Q E => ∃ (q : Rat) (d : D), args = [.val (.rat q), .val d] ∧ plain d = true ∧ (∀ x, numQ d = some x → Sz 4000000 q ∧ Sz 4000000 x ∧ Q (.rat (q * x)) args) ∧ (numQ d = none → E ⟨.badNumber, [d]⟩ args)
def r_Ratio_umulu : QS := (qSeq (qAsg (qCall c_checked (qhVal (qVar 1) qhNil)) (gT 2 (gsCons (gV 2) (gsCons (gV 3) gsNil))))
    (qRet (qCall (mkC .ratio c_Ratio_uinitu) (qhVal (qBin oMul (qUn oTop (qVar 0)) (qVar 2)) (qhVal (qBin oMul (qUn oBot (qVar 0)) (qVar 3)) qhNil)))))
theorem len_Ratio_umulu : ∀ args Q E, c_Ratio_umulu args Q E → args.length = ps_Ratio_umulu.length := by
  rintro args Q E ⟨_, _, rfl, _⟩
  rfl
theorem pure_Ratio_umulu : ∀ args Q E, c_Ratio_umulu args Q E → r_Ratio_umulu (startE N_Ratio_umulu.length args) (endsC args Q) (exnC args E) := by
  rintro args Q E ⟨q, d, rfl, hp, h1, h2⟩
  refine ⟨d, rfl, hp, fun x hx => ?_, h2⟩
  obtain ⟨hs, hx, hq⟩ := h1 x hx
  refine ⟨rfl, mul_ok hs.num hx.num (by decide), mul_ok hs.den hx.den (by decide), _, _, rfl, (hs.den.mul hx.den).mono (by decide), fun h0 => ?_, fun _ => ⟨_, rfl, ?_⟩⟩
  · rcases Int.mul_eq_zero.mp h0 with z | z
    · exact absurd z (den_ne q)
    · exact absurd z (den_ne x)
  · show Q (.rat (Rat.divInt (q.num * x.num) ((q.den : Int) * (x.den : Int)))) _
    rw [mul_divInt]
    exact hq
theorem ok_Ratio_umulu {P : Program} {w : World} {K : Frag} {mg : Str → Option Value} {base : Heap} (W : Wd P K mg) (Fn : ∃ fd, FunD K d_Ratio_umulu.name d_Ratio_umulu.qual d_Ratio_umulu.params d_Ratio_umulu.body d_Ratio_umulu.scope (d_Ratio_umulu.dvs K) (d_Ratio_umulu.kws K) (d_Ratio_umulu.at_ K) fd) (h_checked : FnB P w K mg base d_checked 8 ps_checked c_checked) (h_Ratio_uinitu : FnB P w K mg base d_Ratio_uinitu 45 ps_Ratio_uinitu c_Ratio_uinitu) : FnB P w K mg base d_Ratio_umulu 48 ps_Ratio_umulu c_Ratio_umulu := by
  refine FnB.of (N := N_Ratio_umulu) (r := r_Ratio_umulu) Fn sc_Ratio_umulu len_Ratio_umulu pure_Ratio_umulu ?_
  intro f cdv A outer s H E0 hr G0 H0 B pin xa xd xc E tk hp h0
  have sc := sc_Ratio_umulu
  have hu := roomU hr
  exact (lss_cons (ls_asg (le_callC (h_checked.all rfl rfl rfl rfl rfl rfl (hr.mono (by decide : 8 ≤ 47)) rfl rfl bd_checked) W.g_checked h_checked.kp tk (lc_p (lh_val (le_var 1) lh_nil))) (lg_tup rfl rfl (lgs_cons (lg_name 2 sc.nd) (lgs_cons (lg_name 3 sc.nd) lgs_nil))))
    (lss_one (ls_ret (le_callC (code_make (pMk_ok W.mk_Ratio) fun us kw => (h_Ratio_uinitu.full rfl rfl rfl rfl rfl rfl ((hr.mono (by decide : 45 + 1 ≤ 47)).make _ us kw) (List.cons_ne_nil _ _) rfl bdf_Ratio_uinitu)) W.g_Ratio W.mk_Ratio.2.2.2 tk (lc_p (lh_val (le_bin ol_mul (le_top W.kl_ratio rfl (le_var 0)) (le_var 2)) (lh_val (le_bin ol_mul (le_bot W.kl_ratio rfl (le_var 0)) (le_var 3)) lh_nil)))))))
abbrev N_Ratio_unegu : List Str := ["self"]
abbrev ps_Ratio_unegu : List Str := ["self"]
theorem sc_Ratio_unegu : FnScope N_Ratio_unegu ps_Ratio_unegu d_Ratio_unegu.scope := ⟨rfl, rfl, rfl, by decide +kernel, rfl, by decide +kernel, by decide +kernel⟩
theorem bd_Ratio_unegu : ∀ (kV doc pm : Value) (an : Option Addr) (cdv ct : Value) (us : List Value), us.length = ps_Ratio_unegu.length → bindArgs (fnOf d_Ratio_unegu.name d_Ratio_unegu.qual d_Ratio_unegu.params d_Ratio_unegu.body d_Ratio_unegu.scope .none kV doc pm an cdv ct) ⟨us, []⟩ = pure (ps_Ratio_unegu.zip us) := fun _ _ _ _ _ _ us hl => match us, hl with | [_], _ => rfl
def c_Ratio_unegu : Ct := fun args Q _ => ∃ q : Rat, args = [.val (.rat q)] ∧ Sz 8000000 q ∧ Q (.rat (-q)) args
def r_Ratio_unegu : QS := (qRet (qCall (mkC .ratio c_Ratio_uinitu) (qhVal (qUn oNeg (qUn oTop (qVar 0))) (qhVal (qUn oBot (qVar 0)) qhNil))))
theorem len_Ratio_unegu : ∀ args Q E, c_Ratio_unegu args Q E → args.length = ps_Ratio_unegu.length := by
  rintro args Q E ⟨_, rfl, _⟩
  rfl
theorem pure_Ratio_unegu : ∀ args Q E, c_Ratio_unegu args Q E → r_Ratio_unegu (startE N_Ratio_unegu.length args) (endsC args Q) (exnC args E) := by
  rintro args Q E ⟨q, rfl, hs, hq⟩
  refine ⟨_, _, rfl, hs.den.mono (by decide), fun h0 => absurd h0 (den_ne q), fun _ => ⟨_, rfl, ?_⟩⟩
  show Q (.rat (Rat.divInt (-q.num) (q.den : Int))) _
  rw [neg_divInt]
  exact hq
theorem ok_Ratio_unegu {P : Program} {w : World} {K : Frag} {mg : Str → Option Value} {base : Heap} (W : Wd P K mg) (Fn : ∃ fd, FunD K d_Ratio_unegu.name d_Ratio_unegu.qual d_Ratio_unegu.params d_Ratio_unegu.body d_Ratio_unegu.scope (d_Ratio_unegu.dvs K) (d_Ratio_unegu.kws K) (d_Ratio_unegu.at_ K) fd) (h_Ratio_uinitu : FnB P w K mg base d_Ratio_uinitu 45 ps_Ratio_uinitu c_Ratio_uinitu) : FnB P w K mg base d_Ratio_unegu 48 ps_Ratio_unegu c_Ratio_unegu := by
  refine FnB.of (N := N_Ratio_unegu) (r := r_Ratio_unegu) Fn sc_Ratio_unegu len_Ratio_unegu pure_Ratio_unegu ?_
  intro f cdv A outer s H E0 hr G0 H0 B pin xa xd xc E tk hp h0
  have sc := sc_Ratio_unegu
  have hu := roomU hr
  exact (lss_one (ls_ret (le_callC (code_make (pMk_ok W.mk_Ratio) fun us kw => (h_Ratio_uinitu.full rfl rfl rfl rfl rfl rfl ((hr.mono (by decide : 45 + 1 ≤ 47)).make _ us kw) (List.cons_ne_nil _ _) rfl bdf_Ratio_uinitu)) W.g_Ratio W.mk_Ratio.2.2.2 tk (lc_p (lh_val (le_un ul_neg (le_top W.kl_ratio rfl (le_var 0))) (lh_val (le_bot W.kl_ratio rfl (le_var 0)) lh_nil))))))
abbrev N_Ratio_uequ : List Str := ["self", "other", "found"]
abbrev ps_Ratio_uequ : List Str := ["self", "other"]
theorem sc_Ratio_uequ : FnScope N_Ratio_uequ ps_Ratio_uequ d_Ratio_uequ.scope := ⟨rfl, rfl, rfl, by decide +kernel, rfl, by decide +kernel, by decide +kernel⟩
theorem bd_Ratio_uequ : ∀ (kV doc pm : Value) (an : Option Addr) (cdv ct : Value) (us : List Value), us.length = ps_Ratio_uequ.length → bindArgs (fnOf d_Ratio_uequ.name d_Ratio_uequ.qual d_Ratio_uequ.params d_Ratio_uequ.body d_Ratio_uequ.scope .none kV doc pm an cdv ct) ⟨us, []⟩ = pure (ps_Ratio_uequ.zip us) := fun _ _ _ _ _ _ us hl => match us, hl with | [_, _], _ => rfl
def eqD (q : Rat) (d : D) : Bool := match numQ d with
  | some x => decide (x = q)
  | none => false
def c_Ratio_uequ : Ct := fun args Q _ => ∃ (q : Rat) (d : D), args = [.val (.rat q), .val d] ∧ plain d = true ∧ Q (.bl (eqD q d)) args
def r_Ratio_uequ : QS := (qSeq (qSet 2 (qCall c_parts (qhVal (qVar 1) qhNil)))
    (qRet (qAndV (qNotN (qVar 2)) (qBin oEq (qVar 2) (qTup (qCons (qUn oTop (qVar 0)) (qCons (qUn oBot (qVar 0)) qNil)))))))
theorem len_Ratio_uequ : ∀ args Q E, c_Ratio_uequ args Q E → args.length = ps_Ratio_uequ.length := by
  rintro args Q E ⟨_, _, rfl, _⟩
  rfl
theorem pure_Ratio_uequ : ∀ args Q E, c_Ratio_uequ args Q E → r_Ratio_uequ (startE N_Ratio_uequ.length args) (endsC args Q) (exnC args E) := by
  rintro args Q E ⟨q, d, rfl, hp, hq⟩
  refine ⟨d, rfl, hp, ?_⟩
  have key : ∀ x : Rat, Q (.bl (decide (x = q))) [.val (.rat q), .val d] → Q (.bl (PyData.eqv (toPy (tupR x)) (toPy (tupR q)))) [.val (.rat q), .val d] := fun x h => by
    rw [eqv_tupR]
    exact h
  cases d with
  | int n => exact ⟨Nat.le_of_ble_eq_true rfl, rfl, rfl, key _ hq⟩
  | rat x => exact ⟨Nat.le_of_ble_eq_true rfl, rfl, rfl, key _ hq⟩
  | non => exact hq
  | bl _ => exact hq
  | str _ => exact hq
  | lst _ => exact hq
  | tup _ => exact hq
  | dic _ => exact hq
  | _ => cases hp
theorem ok_Ratio_uequ {P : Program} {w : World} {K : Frag} {mg : Str → Option Value} {base : Heap} (W : Wd P K mg) (Fn : ∃ fd, FunD K d_Ratio_uequ.name d_Ratio_uequ.qual d_Ratio_uequ.params d_Ratio_uequ.body d_Ratio_uequ.scope (d_Ratio_uequ.dvs K) (d_Ratio_uequ.kws K) (d_Ratio_uequ.at_ K) fd) (h_parts : FnB P w K mg base d_parts 5 ps_parts c_parts) : FnB P w K mg base d_Ratio_uequ 8 ps_Ratio_uequ c_Ratio_uequ := by
  refine FnB.of (N := N_Ratio_uequ) (r := r_Ratio_uequ) Fn sc_Ratio_uequ len_Ratio_uequ pure_Ratio_uequ ?_
  intro f cdv A outer s H E0 hr G0 H0 B pin xa xd xc E tk hp h0
  have sc := sc_Ratio_uequ
  have hu := roomU hr
  exact (lss_cons (ls_set 2 sc.nd (le_callC (h_parts.all rfl rfl rfl rfl rfl rfl (hr.mono (by decide : 5 ≤ 7)) rfl rfl bd_parts) W.g_parts h_parts.kp tk (lc_p (lh_val (le_var 1) lh_nil))))
    (lss_one (ls_ret (le_and (le_notN (le_var 2)) (le_one (le_cmp (ol_eq rfl hr) (le_var 2) (le_tup (la_cons (le_top W.kl_ratio rfl (le_var 0)) (la_cons (le_bot W.kl_ratio rfl (le_var 0)) la_nil)))))))))
theorem eq_ct (p q : Rat) (Q : D → List Slot → Prop) (Ex : Exn → List Slot → Prop) (h : Q (.bl (decide (q = p))) [.val (.rat p), .val (.rat q)]) : c_Ratio_uequ [.val (.rat p), .val (.rat q)] Q Ex := ⟨p, .rat q, rfl, rfl, h⟩
abbrev N_Ratio_over : List Str := ["self", "number", "top", "bottom"]
abbrev ps_Ratio_over : List Str := ["self", "number"]
theorem sc_Ratio_over : FnScope N_Ratio_over ps_Ratio_over d_Ratio_over.scope := ⟨rfl, rfl, rfl, by decide +kernel, rfl, by decide +kernel, by decide +kernel⟩
theorem bd_Ratio_over : ∀ (kV doc pm : Value) (an : Option Addr) (cdv ct : Value) (us : List Value), us.length = ps_Ratio_over.length → bindArgs (fnOf d_Ratio_over.name d_Ratio_over.qual d_Ratio_over.params d_Ratio_over.body d_Ratio_over.scope .none kV doc pm an cdv ct) ⟨us, []⟩ = pure (ps_Ratio_over.zip us) := fun _ _ _ _ _ _ us hl => match us, hl with | [_, _], _ => rfl
def c_Ratio_over : Ct := fun args Q E => ∃ (q : Rat) (d : D), args = [.val (.rat q), .val d] ∧ plain d = true ∧ (∀ x, numQ d = some x → Sz 4000000 q ∧ Sz 4000000 x ∧ (x = 0 → E ⟨.byZero, []⟩ args) ∧ (x ≠ 0 → Q (.rat (q / x)) args)) ∧ (numQ d = none → E ⟨.badNumber, [d]⟩ args)
def r_Ratio_over : QS := (qSeq (qAsg (qCall c_checked (qhVal (qVar 1) qhNil)) (gT 2 (gsCons (gV 2) (gsCons (gV 3) gsNil))))
    (qRet (qCall (mkC .ratio c_Ratio_uinitu) (qhVal (qBin oMul (qUn oTop (qVar 0)) (qVar 3)) (qhVal (qBin oMul (qUn oBot (qVar 0)) (qVar 2)) qhNil)))))
theorem len_Ratio_over : ∀ args Q E, c_Ratio_over args Q E → args.length = ps_Ratio_over.length := by
  rintro args Q E ⟨_, _, rfl, _⟩
  rfl
theorem pure_Ratio_over : ∀ args Q E, c_Ratio_over args Q E → r_Ratio_over (startE N_Ratio_over.length args) (endsC args Q) (exnC args E) := by
  rintro args Q E ⟨q, d, rfl, hp, h1, h2⟩
  refine ⟨d, rfl, hp, fun x hx => ?_, h2⟩
  obtain ⟨hs, hx, hz, hq⟩ := h1 x hx
  refine ⟨rfl, mul_ok hs.num hx.den (by decide), mul_ok hs.den hx.num (by decide), _, _, rfl, (hs.den.mul hx.num).mono (by decide), fun h0 => ?_, fun h0 => ⟨_, rfl, ?_⟩⟩
  · refine hz ?_
    rcases Int.mul_eq_zero.mp h0 with z | z
    · exact absurd z (den_ne q)
    · exact Rat.num_eq_zero.mp z
  · show Q (.rat (Rat.divInt (q.num * (x.den : Int)) ((q.den : Int) * x.num))) _
    rw [div_divInt]
    exact hq fun e => h0 (by rw [e]; exact Int.mul_zero _)
theorem ok_Ratio_over {P : Program} {w : World} {K : Frag} {mg : Str → Option Value} {base : Heap} (W : Wd P K mg) (Fn : ∃ fd, FunD K d_Ratio_over.name d_Ratio_over.qual d_Ratio_over.params d_Ratio_over.body d_Ratio_over.scope (d_Ratio_over.dvs K) (d_Ratio_over.kws K) (d_Ratio_over.at_ K) fd) (h_checked : FnB P w K mg base d_checked 8 ps_checked c_checked) (h_Ratio_uinitu : FnB P w K mg base d_Ratio_uinitu 45 ps_Ratio_uinitu c_Ratio_uinitu) : FnB P w K mg base d_Ratio_over 48 ps_Ratio_over c_Ratio_over := by
  refine FnB.of (N := N_Ratio_over) (r := r_Ratio_over) Fn sc_Ratio_over len_Ratio_over pure_Ratio_over ?_
  intro f cdv A outer s H E0 hr G0 H0 B pin xa xd xc E tk hp h0
  have sc := sc_Ratio_over
  have hu := roomU hr
  exact (lss_cons (ls_asg (le_callC (h_checked.all rfl rfl rfl rfl rfl rfl (hr.mono (by decide : 8 ≤ 47)) rfl rfl bd_checked) W.g_checked h_checked.kp tk (lc_p (lh_val (le_var 1) lh_nil))) (lg_tup rfl rfl (lgs_cons (lg_name 2 sc.nd) (lgs_cons (lg_name 3 sc.nd) lgs_nil))))
    (lss_one (ls_ret (le_callC (code_make (pMk_ok W.mk_Ratio) fun us kw => (h_Ratio_uinitu.full rfl rfl rfl rfl rfl rfl ((hr.mono (by decide : 45 + 1 ≤ 47)).make _ us kw) (List.cons_ne_nil _ _) rfl bdf_Ratio_uinitu)) W.g_Ratio W.mk_Ratio.2.2.2 tk (lc_p (lh_val (le_bin ol_mul (le_top W.kl_ratio rfl (le_var 0)) (le_var 3)) (lh_val (le_bin ol_mul (le_bot W.kl_ratio rfl (le_var 0)) (le_var 2)) lh_nil)))))))
abbrev N_as_ratio : List Str := ["given", "top", "bottom"]
abbrev ps_as_ratio : List Str := ["given"]
theorem sc_as_ratio : FnScope N_as_ratio ps_as_ratio d_as_ratio.scope := ⟨rfl, rfl, rfl, by decide +kernel, rfl, by decide +kernel, by decide +kernel⟩
theorem bd_as_ratio : ∀ (kV doc pm : Value) (an : Option Addr) (cdv ct : Value) (us : List Value), us.length = ps_as_ratio.length → bindArgs (fnOf d_as_ratio.name d_as_ratio.qual d_as_ratio.params d_as_ratio.body d_as_ratio.scope .none kV doc pm an cdv ct) ⟨us, []⟩ = pure (ps_as_ratio.zip us) := fun _ _ _ _ _ _ us hl => match us, hl with | [_], _ => rfl
def c_as_ratio : Ct := fun args Q E => ∃ d, args = [.val d] ∧ plain d = true ∧ (∀ x, numQ d = some x → Sz 8000000 x ∧ Q (.rat x) args) ∧ (numQ d = none → E ⟨.badNumber, [d]⟩ args)
def r_as_ratio : QS := (qSeq (qAsg (qCall c_checked (qhVal (qVar 0) qhNil)) (gT 2 (gsCons (gV 1) (gsCons (gV 2) gsNil))))
    (qRet (qCall (mkC .ratio c_Ratio_uinitu) (qhVal (qVar 1) (qhVal (qVar 2) qhNil)))))
theorem len_as_ratio : ∀ args Q E, c_as_ratio args Q E → args.length = ps_as_ratio.length := by
  rintro args Q E ⟨_, rfl, _⟩
  rfl
theorem pure_as_ratio : ∀ args Q E, c_as_ratio args Q E → r_as_ratio (startE N_as_ratio.length args) (endsC args Q) (exnC args E) := by
  rintro args Q E ⟨d, rfl, hp, h1, h2⟩
  refine ⟨d, rfl, hp, fun x hx => ?_, h2⟩
  obtain ⟨hx, hq⟩ := h1 x hx
  refine ⟨rfl, _, _, rfl, hx.den.mono (by decide), fun h0 => absurd h0 (den_ne x), fun _ => ⟨_, rfl, ?_⟩⟩
  show Q (.rat (Rat.divInt x.num (x.den : Int))) _
  rw [Rat.num_divInt_den]
  exact hq
theorem ok_as_ratio {P : Program} {w : World} {K : Frag} {mg : Str → Option Value} {base : Heap} (W : Wd P K mg) (Fn : ∃ fd, FunD K d_as_ratio.name d_as_ratio.qual d_as_ratio.params d_as_ratio.body d_as_ratio.scope (d_as_ratio.dvs K) (d_as_ratio.kws K) (d_as_ratio.at_ K) fd) (h_checked : FnB P w K mg base d_checked 8 ps_checked c_checked) (h_Ratio_uinitu : FnB P w K mg base d_Ratio_uinitu 45 ps_Ratio_uinitu c_Ratio_uinitu) : FnB P w K mg base d_as_ratio 48 ps_as_ratio c_as_ratio := by
  refine FnB.of (N := N_as_ratio) (r := r_as_ratio) Fn sc_as_ratio len_as_ratio pure_as_ratio ?_
  intro f cdv A outer s H E0 hr G0 H0 B pin xa xd xc E tk hp h0
  have sc := sc_as_ratio
  have hu := roomU hr
  exact (lss_cons (ls_asg (le_callC (h_checked.all rfl rfl rfl rfl rfl rfl (hr.mono (by decide : 8 ≤ 47)) rfl rfl bd_checked) W.g_checked h_checked.kp tk (lc_p (lh_val (le_var 0) lh_nil))) (lg_tup rfl rfl (lgs_cons (lg_name 1 sc.nd) (lgs_cons (lg_name 2 sc.nd) lgs_nil))))
    (lss_one (ls_ret (le_callC (code_make (pMk_ok W.mk_Ratio) fun us kw => (h_Ratio_uinitu.full rfl rfl rfl rfl rfl rfl ((hr.mono (by decide : 45 + 1 ≤ 47)).make _ us kw) (List.cons_ne_nil _ _) rfl bdf_Ratio_uinitu)) W.g_Ratio W.mk_Ratio.2.2.2 tk (lc_p (lh_val (le_var 1) (lh_val (le_var 2) lh_nil)))))))
end K06
set_option Elab.async false
set_option linter.all false
set_option maxRecDepth 100000
set_option maxHeartbeats 4000000
namespace K06
open PySem L2 PySem.Spec PyProof.Rows He PySem.W Q
abbrev N_shortened : List Str := ["numbers", "length"]
abbrev ps_shortened : List Str := ["numbers"]
theorem sc_shortened : FnScope N_shortened ps_shortened d_shortened.scope := ⟨rfl, rfl, rfl, by decide +kernel, rfl, by decide +kernel, by decide +kernel⟩
theorem bd_shortened : ∀ (kV doc pm : Value) (an : Option Addr) (cdv ct : Value) (us : List Value), us.length = ps_shortened.length → bindArgs (fnOf d_shortened.name d_shortened.qual d_shortened.params d_shortened.body d_shortened.scope .none kV doc pm an cdv ct) ⟨us, []⟩ = pure (ps_shortened.zip us) := fun _ _ _ _ _ _ us hl => match us, hl with | [_], _ => rfl
theorem cut_take {qs : List Rat} {l : Nat} (h : l ≤ qs.length) : cutDs (rts qs) none (some (l : Int)) = rts (qs.take l) := by
  unfold cutDs
  rw [HT.sIx_nat, HT.sIx_none, rts_len, List.drop_zero, Nat.sub_zero, Nat.min_eq_left h]
  unfold rts
  rw [List.map_take]
theorem rts_at {qs : List Rat} {l : Nat} (h : 0 < l) (hl : l ≤ qs.length) : atD (rts qs) ((l : Int) - 1) = some (.rat (cf0 qs (l - 1))) := by
  rw [atD_nat (by omega), show ((l : Int) - 1).toNat = l - 1 by omega]
  unfold rts
  rw [List.getElem?_map, List.getElem?_eq_getElem (by omega), cf0_lt (by omega)]
  rfl
def c_shortened : Ct := fun args Q _ => ∃ qs : List Rat, args = [.val (.lst (rts qs))] ∧ Q (.tup (rts (trimR qs))) args
def r_shortened : QS := (qSeq (qSet 1 (qB oLen (qCons (qVar 0) qNil)))
    (qSeq (qWhile (qAnd (qTest (qBin oGt (qVar 1) (qC (.int 0)))) (qTest (qBin (oSw .ratio (oOwnC .ratio cmt c_Ratio_uequ) oEq) (qBin oIx (qVar 0) (qBin (oSw .ratio (oOwnR .ratio c_Ratio_usubu) oSub) (qVar 1) (qC (.int 1)))) (qC (.int 0))))) (qAug 1 (fun i j => i - j) (qC (.int 1))))
    (qRet (qB oTuple (qCons (qSl (qVar 0) qoN (qoS (qVar 1))) qNil)))))
theorem len_shortened : ∀ args Q E, c_shortened args Q E → args.length = ps_shortened.length := by
  rintro args Q E ⟨_, rfl, _⟩
  rfl
theorem pure_shortened : ∀ args Q E, c_shortened args Q E → r_shortened (startE N_shortened.length args) (endsC args Q) (exnC args E) := by
  rintro args Q E ⟨qs, rfl, hq⟩
  refine ⟨fun m Γ => ∃ l : Nat, Γ = [.val (.lst (rts qs)), .val (.int (l : Int))] ∧ m = l ∧ l ≤ qs.length ∧ ∀ k, l ≤ k → cf0 qs k = 0, ⟨qs.length, qs.length, ?_, rfl, Nat.le_refl _, fun k h => cf0_ge h⟩, ?_⟩
  · show [Slot.val (.lst (rts qs)), Slot.val (.int ((rts qs).length : Int))] = _
    rw [rts_len]
  rintro l Γ ⟨_, rfl, rfl, hle, hz⟩
  have fin : (l = 0 ∨ cf0 qs (l - 1) ≠ 0) → Q (.tup (cutDs (rts qs) none (some (l : Int)))) [.val (.lst (rts qs))] := fun h => by
    rw [cut_take hle, ← trim_take hle hz h]
    exact hq
  show (match decide ((0 : Int) < (l : Int)) with | true => _ | false => _)
  by_cases h0 : l = 0
  · rw [decide_eq_false (by omega)]
    exact fin (.inl h0)
  · rw [decide_eq_true (by omega)]
    refine ⟨.rat (cf0 qs (l - 1)), rts_at (by omega) hle, _, .int 0, rfl, rfl, ?_⟩
    show (match decide (((0 : Int) : Rat) = cf0 qs (l - 1)) with | true => _ | false => _)
    by_cases h1 : ((0 : Int) : Rat) = cf0 qs (l - 1)
    · rw [decide_eq_true h1]
      refine ⟨l - 1, by omega, l - 1, ?_, rfl, by omega, fun k hk => ?_⟩
      · show [Slot.val (.lst (rts qs)), Slot.val (.int ((l : Int) - 1))] = _
        rw [show ((l : Int) - 1) = ((l - 1 : Nat) : Int) by omega]
      · by_cases e : k = l - 1
        · rw [e, ← h1]; rfl
        · exact hz k (by omega)
    · rw [decide_eq_false h1]
      exact fin (.inr fun e => h1 (by rw [e]; rfl))
theorem ok_shortened {P : Program} {w : World} {K : Frag} {mg : Str → Option Value} {base : Heap} (W : Wd P K mg) (Fn : ∃ fd, FunD K d_shortened.name d_shortened.qual d_shortened.params d_shortened.body d_shortened.scope (d_shortened.dvs K) (d_shortened.kws K) (d_shortened.at_ K) fd) (h_Ratio_uequ : FnB P w K mg base d_Ratio_uequ 8 ps_Ratio_uequ c_Ratio_uequ) (h_Ratio_usubu : FnB P w K mg base d_Ratio_usubu 48 ps_Ratio_usubu c_Ratio_usubu) : FnB P w K mg base d_shortened 51 ps_shortened c_shortened := by
  refine FnB.of (N := N_shortened) (r := r_shortened) Fn sc_shortened len_shortened pure_shortened ?_
  intro f cdv A outer s H E0 hr G0 H0 B pin xa xd xc E tk hp h0
  have sc := sc_shortened
  have hu := roomU hr
  exact (lss_cons (ls_set 1 sc.nd (le_b (bl_len rfl) (la_cons (le_var 0) la_nil) W.f_len))
    (lss_cons (ls_while hp (LW.lt (lw_and (lt_cmp ol_gt (le_var 1) le_int) (lw_and1 (lt_cmp (ol_sw (ol_cmp rfl hr (fun _ _ => rfl) W.nf_Ratio (cmp_ok (op := .Eq) rfl W.m_Ratio_uequ) (h_Ratio_uequ.all rfl rfl rfl rfl rfl rfl (hr.mono (by decide : 8 ≤ 50)) rfl rfl bd_Ratio_uequ) tk) (ol_eq rfl hr)) (le_ix (il_ix rfl) (le_var 0) (le_bin (ol_sw (ol_own rfl (op_ok (op := .Sub) rfl W.first_Ratio W.m_Ratio_usubu) (pOpT_ok W.opt_Ratio_usubu) (h_Ratio_usubu.all rfl rfl rfl rfl rfl rfl (hr.mono (by decide : 48 ≤ 50)) rfl rfl bd_Ratio_usubu) tk) ol_sub) (le_var 1) le_int)) le_int)))) (lss_one (ls_aug 1 sc.nd ip_sub le_int)))
    (lss_one (ls_ret (le_bty (bl_tuple rfl) (la_cons (le_sl rfl (le_var 0) lo_none (lo_some (le_var 1))) la_nil) W.f_tuple)))))
abbrev N_Polynomial_uinitu : List Str := ["self", "numbers", "number"]
abbrev ps_Polynomial_uinitu : List Str := ["self", "numbers"]
theorem sc_Polynomial_uinitu : FnScope N_Polynomial_uinitu ps_Polynomial_uinitu d_Polynomial_uinitu.scope := ⟨rfl, rfl, rfl, by decide +kernel, rfl, by decide +kernel, by decide +kernel⟩
theorem bd_Polynomial_uinitu : ∀ (kV doc pm : Value) (an : Option Addr) (cdv ct : Value) (us : List Value), us.length = ps_Polynomial_uinitu.length → bindArgs (fnOf d_Polynomial_uinitu.name d_Polynomial_uinitu.qual d_Polynomial_uinitu.params d_Polynomial_uinitu.body d_Polynomial_uinitu.scope .none kV doc pm an cdv ct) ⟨us, []⟩ = pure (ps_Polynomial_uinitu.zip us) := fun _ _ _ _ _ _ us hl => match us, hl with | [_, _], _ => rfl
def c_Polynomial_uinitu : Ct := fun args Q E => ∃ (sl : Slot) (ds : List D), args = [.bor (.ins .poly []), sl] ∧ slotSeq sl = some ds ∧ ds.length ≤ 100000 ∧ (∀ d ∈ ds, plain d = true) ∧ (∀ d ∈ ds, ∀ x, numQ d = some x → Sz 8000000 x) ∧
  (∀ qs, numsQ ds = some qs → Q .non [.bor (.ins .poly [.tup (rts (trimR qs))]), sl]) ∧ (∀ d, firstBad ds = some d → E ⟨.badNumber, [d]⟩ args)
def r_Polynomial_uinitu : QS := (qFldS 0 .poly 0 (qCall c_shortened (qhVal (qTell (qnLc (qiAny 1) (gV 2) qYes (qCall c_as_ratio (qhVal (qVar 2) qhNil)) [2])) qhNil)))
theorem len_Polynomial_uinitu : ∀ args Q E, c_Polynomial_uinitu args Q E → args.length = ps_Polynomial_uinitu.length := by
  rintro args Q E ⟨_, _, rfl, _⟩
  rfl
theorem pure_Polynomial_uinitu : ∀ args Q E, c_Polynomial_uinitu args Q E → r_Polynomial_uinitu (startE N_Polynomial_uinitu.length args) (endsC args Q) (exnC args E) := by
  rintro args Q E ⟨sl, ds, rfl, hsl, hl, hp, hs, hq, he⟩
  have key : ∀ (gd : Gd) (Γ : List Slot) (Q' : MO → List Slot → Prop) (E' : XP), gM gd Γ → (∀ d, gV 2 d (wipeE (bE Γ) [2]) = fun K => K [.bor (.ins .poly []), sl, .val d]) → rE Γ Γ = Γ → (∀ d, rE Γ [.bor (.ins .poly []), sl, .val d] = Γ) → (∀ qs, numsQ ds = some qs → Q' (.lst (rts qs)) Γ) → (∀ d, firstBad ds = some d → E' ⟨.badNumber, [d]⟩ Γ) →
      qLcGo gd (gV 2) qYes (qCall c_as_ratio (qhVal (qVar 2) qhNil)) [2] ds [] Γ Q' E' := by
    intro gd Γ Q' E' hg hb hr0 hr hQ hE
    refine lc_inv (fun i acc Γ' => Γ' = Γ ∧ ∃ qs, numsQ (ds.take i) = some qs ∧ acc = rts qs) hl (fun i acc Γ' _ h => by rw [h.1]; exact hg) ⟨rfl, [], rfl, rfl⟩ ?_ ?_
    · rintro i d acc Γ' Z X ed hl ⟨rfl, qs, hn, rfl⟩ hZ hX
      rw [hb d]
      have hm := List.mem_of_getElem? ed
      refine ⟨d, rfl, hp d hm, fun x hx => ⟨hs d hm x hx, hZ _ _ ⟨hr d, qs ++ [x], ?_, ?_⟩⟩, fun hn' => hX _ _ ?_⟩
      · rw [take_succ_get ed]
        exact numsQ_snoc hn hx
      · simp [rts]
        rfl
      · show E' _ (rE Γ' [.bor (.ins .poly []), sl, .val d])
        rw [hr d]
        exact hE d (firstBad_at hn ed hn')
    · rintro acc Γ' hl ⟨rfl, qs, hn, rfl⟩
      rw [List.take_of_length_le (Nat.le_refl _)] at hn
      exact hQ qs hn
  cases sl with
  | val d =>
    show (match seqD d with | some xs => _ | none => _)
    rw [show seqD d = some ds from hsl]
    exact key none [.bor (.ins .poly []), .val d, .no] _ _ trivial (fun _ => rfl) rfl (fun _ => rfl) (fun qs hn => ⟨qs, rfl, hq qs hn⟩) (fun d hd => he d hd)
  | bor o =>
    cases o with
    | lst xs =>
      cases hsl
      exact key (some (1, .lst ds)) [.bor (.ins .poly []), .bor (.lst ds), .no] _ _ rfl (fun _ => rfl) rfl (fun _ => rfl) (fun qs hn => ⟨qs, rfl, hq qs hn⟩) (fun d hd => he d hd)
    | _ => cases hsl
  | _ => cases hsl
theorem ok_Polynomial_uinitu {P : Program} {w : World} {K : Frag} {mg : Str → Option Value} {base : Heap} (W : Wd P K mg) (Fn : ∃ fd, FunD K d_Polynomial_uinitu.name d_Polynomial_uinitu.qual d_Polynomial_uinitu.params d_Polynomial_uinitu.body d_Polynomial_uinitu.scope (d_Polynomial_uinitu.dvs K) (d_Polynomial_uinitu.kws K) (d_Polynomial_uinitu.at_ K) fd) (h_shortened : FnB P w K mg base d_shortened 51 ps_shortened c_shortened) (h_as_ratio : FnB P w K mg base d_as_ratio 48 ps_as_ratio c_as_ratio) : FnB P w K mg base d_Polynomial_uinitu 54 ps_Polynomial_uinitu c_Polynomial_uinitu := by
  refine FnB.of (N := N_Polynomial_uinitu) (r := r_Polynomial_uinitu) Fn sc_Polynomial_uinitu len_Polynomial_uinitu pure_Polynomial_uinitu ?_
  intro f cdv A outer s H E0 hr G0 H0 B pin xa xd xc E tk hp h0
  have sc := sc_Polynomial_uinitu
  have hu := roomU hr
  exact (lss_one (ls_fldS 0 .poly 0 W.kl_poly rfl (le_callC (h_shortened.all rfl rfl rfl rfl rfl rfl (hr.mono (by decide : 51 ≤ 53)) rfl rfl bd_shortened) W.g_shortened h_shortened.kp tk (lc_p (lh_val (le_tell (ln_lc [("number", 2)] rfl sc.nd (Tk.def tk) (li_any 1 rfl) (blkOk_by (by kernel_rfl)) (fun b q => (lgv_name 2 sc.nd)) (fun b q E' tk => lts_nil) (fun b q E' tk => (le_callC (h_as_ratio.all rfl rfl rfl rfl rfl rfl (hr.mono (by decide : 48 ≤ 53)) rfl rfl bd_as_ratio) W.g_as_ratio h_as_ratio.kp tk.t (lc_p (lh_val (le_var 2) lh_nil)))))) lh_nil)))))
theorem mk_poly {qs : List Rat} {Q : D → List Slot → Prop} {E : Exn → List Slot → Prop} (hl : qs.length ≤ 100000) (hs : ∀ q ∈ qs, Sz 8000000 q) (h : Q (.fr (polyD (trimR qs))) [.val (.lst (rts qs))]) : mkC .poly c_Polynomial_uinitu [.val (.lst (rts qs))] Q E := by
  refine ⟨_, rts qs, rfl, rfl, by rw [rts_len]; exact hl, fun d hd => ?_, fun d hd x hx => ?_, fun ps hp => ?_, fun d hd => ?_⟩
  · obtain ⟨q, _, rfl⟩ := List.mem_map.mp hd
    rfl
  · obtain ⟨q', hq, rfl⟩ := List.mem_map.mp hd
    cases hx
    exact hs _ hq
  · rw [numsQ_rts] at hp
    cases hp
    exact h
  · rw [firstBad_rts] at hd
    cases hd
theorem rng_get {n i : Nat} {d : D} (h : ((List.range n).map fun i : Nat => D.int (i : Int))[i]? = some d) : i < n ∧ d = .int (i : Int) := by
  rw [List.getElem?_map] at h
  by_cases hi : i < n
  · rw [List.getElem?_range hi] at h
    cases h
    exact ⟨hi, rfl⟩
  · rw [List.getElem?_eq_none (by simpa using hi)] at h
    cases h
theorem cf0_sz {n : Nat} {qs : List Rat} (h : ∀ q ∈ qs, Sz n q) (hn : 1 ≤ n) (k : Nat) : Sz n (cf0 qs k) := by
  by_cases hk : k < qs.length
  · rw [cf0_lt hk]
    exact h _ (List.getElem_mem hk)
  · rw [cf0_ge (by omega)]
    exact Sz.zero hn
abbrev N_Polynomial_terms : List Str := ["self"]
abbrev ps_Polynomial_terms : List Str := ["self"]
theorem sc_Polynomial_terms : FnScope N_Polynomial_terms ps_Polynomial_terms d_Polynomial_terms.scope := ⟨rfl, rfl, rfl, by decide +kernel, rfl, by decide +kernel, by decide +kernel⟩
theorem bd_Polynomial_terms : ∀ (kV doc pm : Value) (an : Option Addr) (cdv ct : Value) (us : List Value), us.length = ps_Polynomial_terms.length → bindArgs (fnOf d_Polynomial_terms.name d_Polynomial_terms.qual d_Polynomial_terms.params d_Polynomial_terms.body d_Polynomial_terms.scope .none kV doc pm an cdv ct) ⟨us, []⟩ = pure (ps_Polynomial_terms.zip us) := fun _ _ _ _ _ _ us hl => match us, hl with | [_], _ => rfl
def c_Polynomial_terms : Ct := fun args Q _ => ∃ qs : List Rat, args = [.val (polyD qs)] ∧ Q (.fr (.lst (rts qs))) args
def r_Polynomial_terms : QS := (qRetN (qnList (qCons (qUn (oFld .poly 0) (qVar 0)) qNil)))
theorem len_Polynomial_terms : ∀ args Q E, c_Polynomial_terms args Q E → args.length = ps_Polynomial_terms.length := by
  rintro args Q E ⟨_, rfl, _⟩
  rfl
theorem pure_Polynomial_terms : ∀ args Q E, c_Polynomial_terms args Q E → r_Polynomial_terms (startE N_Polynomial_terms.length args) (endsC args Q) (exnC args E) := by
  rintro args Q E ⟨qs, rfl, hq⟩
  exact hq
theorem ok_Polynomial_terms {P : Program} {w : World} {K : Frag} {mg : Str → Option Value} {base : Heap} (W : Wd P K mg) (Fn : ∃ fd, FunD K d_Polynomial_terms.name d_Polynomial_terms.qual d_Polynomial_terms.params d_Polynomial_terms.body d_Polynomial_terms.scope (d_Polynomial_terms.dvs K) (d_Polynomial_terms.kws K) (d_Polynomial_terms.at_ K) fd) : FnB P w K mg base d_Polynomial_terms 2 ps_Polynomial_terms c_Polynomial_terms := by
  refine FnB.of (N := N_Polynomial_terms) (r := r_Polynomial_terms) Fn sc_Polynomial_terms len_Polynomial_terms pure_Polynomial_terms ?_
  intro f cdv A outer s H E0 hr G0 H0 B pin xa xd xc E tk hp h0
  have sc := sc_Polynomial_terms
  have hu := roomU hr
  exact (lss_one (ls_retN (ln_list rfl (la_cons (le_fld .poly 0 W.kl_poly rfl (le_var 0)) la_nil) W.f_list)))
abbrev N_Polynomial_ulenu : List Str := ["self"]
abbrev ps_Polynomial_ulenu : List Str := ["self"]
theorem sc_Polynomial_ulenu : FnScope N_Polynomial_ulenu ps_Polynomial_ulenu d_Polynomial_ulenu.scope := ⟨rfl, rfl, rfl, by decide +kernel, rfl, by decide +kernel, by decide +kernel⟩
theorem bd_Polynomial_ulenu : ∀ (kV doc pm : Value) (an : Option Addr) (cdv ct : Value) (us : List Value), us.length = ps_Polynomial_ulenu.length → bindArgs (fnOf d_Polynomial_ulenu.name d_Polynomial_ulenu.qual d_Polynomial_ulenu.params d_Polynomial_ulenu.body d_Polynomial_ulenu.scope .none kV doc pm an cdv ct) ⟨us, []⟩ = pure (ps_Polynomial_ulenu.zip us) := fun _ _ _ _ _ _ us hl => match us, hl with | [_], _ => rfl
def c_Polynomial_ulenu : Ct := fun args Q _ => ∃ qs : List Rat, args = [.val (polyD qs)] ∧ Q (.int (qs.length : Int)) args
def r_Polynomial_ulenu : QS := (qRet (qB oLen (qCons (qUn (oFld .poly 0) (qVar 0)) qNil)))
theorem len_Polynomial_ulenu : ∀ args Q E, c_Polynomial_ulenu args Q E → args.length = ps_Polynomial_ulenu.length := by
  rintro args Q E ⟨_, rfl, _⟩
  rfl
theorem pure_Polynomial_ulenu : ∀ args Q E, c_Polynomial_ulenu args Q E → r_Polynomial_ulenu (startE N_Polynomial_ulenu.length args) (endsC args Q) (exnC args E) := by
  rintro args Q E ⟨qs, rfl, hq⟩
  show Q (.int ((rts qs).length : Int)) _
  rw [rts_len]
  exact hq
theorem ok_Polynomial_ulenu {P : Program} {w : World} {K : Frag} {mg : Str → Option Value} {base : Heap} (W : Wd P K mg) (Fn : ∃ fd, FunD K d_Polynomial_ulenu.name d_Polynomial_ulenu.qual d_Polynomial_ulenu.params d_Polynomial_ulenu.body d_Polynomial_ulenu.scope (d_Polynomial_ulenu.dvs K) (d_Polynomial_ulenu.kws K) (d_Polynomial_ulenu.at_ K) fd) : FnB P w K mg base d_Polynomial_ulenu 2 ps_Polynomial_ulenu c_Polynomial_ulenu := by
  refine FnB.of (N := N_Polynomial_ulenu) (r := r_Polynomial_ulenu) Fn sc_Polynomial_ulenu len_Polynomial_ulenu pure_Polynomial_ulenu ?_
  intro f cdv A outer s H E0 hr G0 H0 B pin xa xd xc E tk hp h0
  have sc := sc_Polynomial_ulenu
  have hu := roomU hr
  exact (lss_one (ls_ret (le_b (bl_len rfl) (la_cons (le_fld .poly 0 W.kl_poly rfl (le_var 0)) la_nil) W.f_len)))
abbrev N_Polynomial_uequ : List Str := ["self", "other"]
abbrev ps_Polynomial_uequ : List Str := ["self", "other"]
theorem sc_Polynomial_uequ : FnScope N_Polynomial_uequ ps_Polynomial_uequ d_Polynomial_uequ.scope := ⟨rfl, rfl, rfl, by decide +kernel, rfl, by decide +kernel, by decide +kernel⟩
theorem bd_Polynomial_uequ : ∀ (kV doc pm : Value) (an : Option Addr) (cdv ct : Value) (us : List Value), us.length = ps_Polynomial_uequ.length → bindArgs (fnOf d_Polynomial_uequ.name d_Polynomial_uequ.qual d_Polynomial_uequ.params d_Polynomial_uequ.body d_Polynomial_uequ.scope .none kV doc pm an cdv ct) ⟨us, []⟩ = pure (ps_Polynomial_uequ.zip us) := fun _ _ _ _ _ _ us hl => match us, hl with | [_, _], _ => rfl
def c_Polynomial_uequ : Ct := fun args Q _ => ∃ (ps : List Rat) (d : D), args = [.val (polyD ps), .val d] ∧ ((∃ qs, d = polyD qs ∧ Q (.bl (decide (qs = ps))) args) ∨ (plain d = true ∧ Q (.bl false) args))
def r_Polynomial_uequ : QS := (qRet (qAndV (qUn (oIsa isa_Polynomial) (qVar 1)) (qBin oEqT1 (qUn (oFld .poly 0) (qVar 0)) (qUn (oFld .poly 0) (qVar 1)))))
theorem len_Polynomial_uequ : ∀ args Q E, c_Polynomial_uequ args Q E → args.length = ps_Polynomial_uequ.length := by
  rintro args Q E ⟨_, _, rfl, _⟩
  rfl
theorem pure_Polynomial_uequ : ∀ args Q E, c_Polynomial_uequ args Q E → r_Polynomial_uequ (startE N_Polynomial_uequ.length args) (endsC args Q) (exnC args E) := by
  rintro args Q E ⟨ps, d, rfl, h⟩
  rcases h with ⟨qs, rfl, hq⟩ | ⟨hp, hq⟩
  · refine ⟨rts_isR ps, rts_isR qs, ?_⟩
    show Q (.bl (eqsB eqR (rts ps) (rts qs))) _
    rw [eqsB_rts]
    exact hq
  · cases d <;> first | exact hq | cases hp
theorem ok_Polynomial_uequ {P : Program} {w : World} {K : Frag} {mg : Str → Option Value} {base : Heap} (W : Wd P K mg) (Fn : ∃ fd, FunD K d_Polynomial_uequ.name d_Polynomial_uequ.qual d_Polynomial_uequ.params d_Polynomial_uequ.body d_Polynomial_uequ.scope (d_Polynomial_uequ.dvs K) (d_Polynomial_uequ.kws K) (d_Polynomial_uequ.at_ K) fd) (h_Ratio_uequ : FnB P w K mg base d_Ratio_uequ 8 ps_Ratio_uequ c_Ratio_uequ) : FnB P w K mg base d_Polynomial_uequ 13 ps_Polynomial_uequ c_Polynomial_uequ := by
  refine FnB.of (N := N_Polynomial_uequ) (r := r_Polynomial_uequ) Fn sc_Polynomial_uequ len_Polynomial_uequ pure_Polynomial_uequ ?_
  intro f cdv A outer s H E0 hr G0 H0 B pin xa xd xc E tk hp h0
  have sc := sc_Polynomial_uequ
  have hu := roomU hr
  exact (lss_one (ls_ret (le_and (le_isi (isa_ok W.i_Polynomial W.isc_Polynomial) rfl (pe_glob (v := .ref (ga _ "Polynomial")) rfl W.g_Polynomial rfl) (.own _) (le_var 1) W.f_isinstance) (le_one (le_cmp (ol_eqT1 rfl (kk := 11) hr W.nf_Ratio (cmp_ok (op := .Eq) rfl W.m_Ratio_uequ) (h_Ratio_uequ.all (A := Around.in1 _) rfl rfl rfl rfl rfl rfl (hr.mono (by decide : 8 + 1 ≤ 12)).in1 rfl rfl bd_Ratio_uequ) (fun _ => rfl) eq_ct) (le_fld .poly 0 W.kl_poly rfl (le_var 0)) (le_fld .poly 0 W.kl_poly rfl (le_var 1)))))))
end K06
set_option Elab.async false
set_option linter.all false
set_option maxRecDepth 100000
set_option maxHeartbeats 4000000
namespace K06
open PySem L2 PySem.Spec PyProof.Rows He PySem.W Q
abbrev N_term_at : List Str := ["terms", "place"]
abbrev ps_term_at : List Str := ["terms", "place"]
theorem sc_term_at : FnScope N_term_at ps_term_at d_term_at.scope := ⟨rfl, rfl, rfl, by decide +kernel, rfl, by decide +kernel, by decide +kernel⟩
theorem bd_term_at : ∀ (kV doc pm : Value) (an : Option Addr) (cdv ct : Value) (us : List Value), us.length = ps_term_at.length → bindArgs (fnOf d_term_at.name d_term_at.qual d_term_at.params d_term_at.body d_term_at.scope .none kV doc pm an cdv ct) ⟨us, []⟩ = pure (ps_term_at.zip us) := fun _ _ _ _ _ _ us hl => match us, hl with | [_, _], _ => rfl
def c_term_at : Ct := fun args Q _ => ∃ (qs : List Rat) (k : Nat), args = [.val (.tup (rts qs)), .val (.int (k : Int))] ∧ Q (.rat (cf0 qs k)) args
def r_term_at : QS := (qRet (qIf (qTest (qBin oLt (qVar 1) (qB oLen (qCons (qVar 0) qNil)))) (qBin oIx (qVar 0) (qVar 1)) (qCall (mkC .ratio (dflt c_Ratio_uinitu dd_Ratio_uinitu)) (qhVal (qC (.int 0)) qhNil))))
theorem len_term_at : ∀ args Q E, c_term_at args Q E → args.length = ps_term_at.length := by
  rintro args Q E ⟨_, _, rfl, _⟩
  rfl
theorem pure_term_at : ∀ args Q E, c_term_at args Q E → r_term_at (startE N_term_at.length args) (endsC args Q) (exnC args E) := by
  rintro args Q E ⟨qs, k, rfl, hq⟩
  show (match decide ((k : Int) < ((rts qs).length : Int)) with | true => _ | false => _)
  rw [rts_len]
  by_cases h : k < qs.length
  · rw [decide_eq_true (by omega)]
    refine ⟨.rat (cf0 qs k), ?_, hq⟩
    rw [atD_nat (by omega), Int.toNat_natCast]
    unfold rts
    rw [List.getElem?_map, List.getElem?_eq_getElem h, cf0_lt h]
    rfl
  · rw [decide_eq_false (by omega)]
    rw [cf0_ge (by omega)] at hq
    exact ⟨0, 1, rfl, bd_of (n := 1) rfl |>.mono (by decide), fun z => absurd z (by decide), fun _ => ⟨0, rfl, hq⟩⟩
theorem ok_term_at {P : Program} {w : World} {K : Frag} {mg : Str → Option Value} {base : Heap} (W : Wd P K mg) (Fn : ∃ fd, FunD K d_term_at.name d_term_at.qual d_term_at.params d_term_at.body d_term_at.scope (d_term_at.dvs K) (d_term_at.kws K) (d_term_at.at_ K) fd) (h_Ratio_uinitu : FnB P w K mg base d_Ratio_uinitu 45 ps_Ratio_uinitu c_Ratio_uinitu) : FnB P w K mg base d_term_at 48 ps_term_at c_term_at := by
  refine FnB.of (N := N_term_at) (r := r_term_at) Fn sc_term_at len_term_at pure_term_at ?_
  intro f cdv A outer s H E0 hr G0 H0 B pin xa xd xc E tk hp h0
  have sc := sc_term_at
  have hu := roomU hr
  exact (lss_one (ls_ret (le_if (lt_cmp ol_lt (le_var 1) (le_b (bl_len rfl) (la_cons (le_var 0) la_nil) W.f_len)) (le_ix (il_ix rfl) (le_var 0) (le_var 1)) (le_callC (code_make (pMk_ok W.mk_Ratio) fun us kw => (h_Ratio_uinitu.dfl rfl rfl rfl rfl rfl rfl ((hr.mono (by decide : 45 + 1 ≤ 47)).make _ us kw) (List.cons_ne_nil _ _) dr_Ratio_uinitu rfl bdd_Ratio_uinitu)) W.g_Ratio W.mk_Ratio.2.2.2 tk (lc_p (lh_val le_int lh_nil))))))
abbrev N_Polynomial_uaddu : List Str := ["self", "other", "length", "place"]
abbrev ps_Polynomial_uaddu : List Str := ["self", "other"]
theorem sc_Polynomial_uaddu : FnScope N_Polynomial_uaddu ps_Polynomial_uaddu d_Polynomial_uaddu.scope := ⟨rfl, rfl, rfl, by decide +kernel, rfl, by decide +kernel, by decide +kernel⟩
theorem bd_Polynomial_uaddu : ∀ (kV doc pm : Value) (an : Option Addr) (cdv ct : Value) (us : List Value), us.length = ps_Polynomial_uaddu.length → bindArgs (fnOf d_Polynomial_uaddu.name d_Polynomial_uaddu.qual d_Polynomial_uaddu.params d_Polynomial_uaddu.body d_Polynomial_uaddu.scope .none kV doc pm an cdv ct) ⟨us, []⟩ = pure (ps_Polynomial_uaddu.zip us) := fun _ _ _ _ _ _ us hl => match us, hl with | [_, _], _ => rfl
def c_Polynomial_uaddu : Ct := fun args Q _ => ∃ ps qs : List Rat, args = [.val (polyD ps), .val (polyD qs)] ∧ ps.length ≤ 1000 ∧ qs.length ≤ 1000 ∧ (∀ p ∈ ps, Sz 3000000 p) ∧ (∀ q ∈ qs, Sz 3000000 q) ∧ Q (polyD (trimR (addL ps qs))) args
def r_Polynomial_uaddu : QS := (qSeq (qSet 2 (qIf (qTest (qBin oGt (qB oLen (qCons (qUn (oFld .poly 0) (qVar 0)) qNil)) (qB oLen (qCons (qUn (oFld .poly 0) (qVar 1)) qNil)))) (qB oLen (qCons (qUn (oFld .poly 0) (qVar 0)) qNil)) (qB oLen (qCons (qUn (oFld .poly 0) (qVar 1)) qNil))))
    (qRet (qCall (mkC .poly c_Polynomial_uinitu) (qhVal (qTell (qnLc (qRng1 (qVar 2)) (gV 3) qYes (qBin (oSw .ratio (oOwnR .ratio c_Ratio_uaddu) oAdd) (qCall c_term_at (qhVal (qUn (oFld .poly 0) (qVar 0)) (qhVal (qVar 3) qhNil))) (qCall c_term_at (qhVal (qUn (oFld .poly 0) (qVar 1)) (qhVal (qVar 3) qhNil)))) [3])) qhNil))))
theorem step_uaddu {ps qs : List Rat} {Q : D → List Slot → Prop} {E : Exn → List Slot → Prop} (m : Nat) (hm : m = if qs.length < ps.length then ps.length else qs.length) (h1 : ps.length ≤ 1000) (h2 : qs.length ≤ 1000) (hp : ∀ p ∈ ps, Sz 3000000 p) (hs : ∀ q ∈ qs, Sz 3000000 q) (hq : Q (polyD (trimR (addL ps qs))) [.val (polyD ps), .val (polyD qs)]) :
    qRet (qCall (mkC .poly c_Polynomial_uinitu) (qhVal (qTell (qnLc (qRng1 (qVar 2)) (gV 3) qYes (qBin (oSw .ratio (oOwnR .ratio c_Ratio_uaddu) oAdd) (qCall c_term_at (qhVal (qUn (oFld .poly 0) (qVar 0)) (qhVal (qVar 3) qhNil))) (qCall c_term_at (qhVal (qUn (oFld .poly 0) (qVar 1)) (qhVal (qVar 3) qhNil)))) [3])) qhNil)) [.val (polyD ps), .val (polyD qs), .val (.int (m : Int)), .no] (endsC [.val (polyD ps), .val (polyD qs)] Q) (exnC [.val (polyD ps), .val (polyD qs)] E) := by
  have hm2 : m ≤ 1000 := by rw [hm]; split <;> omega
  refine ⟨by omega, by omega, ?_⟩
  refine lc_map (fun i => .rat (cf0 ps i + cf0 qs i)) (by simp; omega) trivial (fun i d Z X ed hZ => ?_) ?_
  · obtain ⟨hi, rfl⟩ := rng_get ed
    refine ⟨ps, i, rfl, qs, i, rfl, cf0 ps i, .rat (cf0 qs i), rfl, rfl, fun x hx => ?_, fun h => nomatch h⟩
    cases hx
    exact ⟨(cf0_sz hp (by decide) i).mono (by decide), (cf0_sz hs (by decide) i).mono (by decide), hZ _ rfl⟩
  · have e : (List.range ((List.range (m : Int).toNat).map fun i : Nat => D.int (i : Int)).length).map (fun i => D.rat (cf0 ps i + cf0 qs i)) = rts (addL ps qs) := by
      unfold addL rts
      rw [List.length_map, List.length_range, Int.toNat_natCast, List.map_map, ← hm]
      rfl
    rw [e]
    dsimp only [qhNil, ixs, ndb, hmut, argsOf, Hd.arg, dMo, Bool.and_self]
    show mkC .poly c_Polynomial_uinitu [.val (.lst (rts (addL ps qs)))] _ _
    refine mk_poly ?_ (fun q hq' => ?_) hq
    · unfold addL
      rw [List.length_map, List.length_range, ← hm]
      omega
    · unfold addL at hq'
      obtain ⟨k, _, rfl⟩ := List.mem_map.mp hq'
      exact ((cf0_sz hp (by decide) k).add (cf0_sz hs (by decide) k)).mono (by decide)
theorem len_Polynomial_uaddu : ∀ args Q E, c_Polynomial_uaddu args Q E → args.length = ps_Polynomial_uaddu.length := by
  rintro args Q E ⟨_, _, rfl, _⟩
  rfl
theorem pure_Polynomial_uaddu : ∀ args Q E, c_Polynomial_uaddu args Q E → r_Polynomial_uaddu (startE N_Polynomial_uaddu.length args) (endsC args Q) (exnC args E) := by
  rintro args Q E ⟨ps, qs, rfl, h1, h2, hp, hs, hq⟩
  show (match decide (((rts qs).length : Int) < ((rts ps).length : Int)) with | true => _ | false => _)
  by_cases h : qs.length < ps.length
  · rw [rts_len, rts_len, decide_eq_true (by omega)]
    have z := step_uaddu (E := E) ps.length (by rw [if_pos h]) h1 h2 hp hs hq
    rw [← rts_len ps] at z
    exact z
  · rw [rts_len, rts_len, decide_eq_false (by omega)]
    have z := step_uaddu (E := E) qs.length (by rw [if_neg h]) h1 h2 hp hs hq
    rw [← rts_len qs] at z
    exact z
theorem ok_Polynomial_uaddu {P : Program} {w : World} {K : Frag} {mg : Str → Option Value} {base : Heap} (W : Wd P K mg) (Fn : ∃ fd, FunD K d_Polynomial_uaddu.name d_Polynomial_uaddu.qual d_Polynomial_uaddu.params d_Polynomial_uaddu.body d_Polynomial_uaddu.scope (d_Polynomial_uaddu.dvs K) (d_Polynomial_uaddu.kws K) (d_Polynomial_uaddu.at_ K) fd) (h_Polynomial_uinitu : FnB P w K mg base d_Polynomial_uinitu 54 ps_Polynomial_uinitu c_Polynomial_uinitu) (h_Ratio_uaddu : FnB P w K mg base d_Ratio_uaddu 48 ps_Ratio_uaddu c_Ratio_uaddu) (h_term_at : FnB P w K mg base d_term_at 48 ps_term_at c_term_at) : FnB P w K mg base d_Polynomial_uaddu 57 ps_Polynomial_uaddu c_Polynomial_uaddu := by
  refine FnB.of (N := N_Polynomial_uaddu) (r := r_Polynomial_uaddu) Fn sc_Polynomial_uaddu len_Polynomial_uaddu pure_Polynomial_uaddu ?_
  intro f cdv A outer s H E0 hr G0 H0 B pin xa xd xc E tk hp h0
  have sc := sc_Polynomial_uaddu
  have hu := roomU hr
  exact (lss_cons (ls_set 2 sc.nd (le_if (lt_cmp ol_gt (le_b (bl_len rfl) (la_cons (le_fld .poly 0 W.kl_poly rfl (le_var 0)) la_nil) W.f_len) (le_b (bl_len rfl) (la_cons (le_fld .poly 0 W.kl_poly rfl (le_var 1)) la_nil) W.f_len)) (le_b (bl_len rfl) (la_cons (le_fld .poly 0 W.kl_poly rfl (le_var 0)) la_nil) W.f_len) (le_b (bl_len rfl) (la_cons (le_fld .poly 0 W.kl_poly rfl (le_var 1)) la_nil) W.f_len)))
    (lss_one (ls_ret (le_callC (code_make (pMk_ok W.mk_Polynomial) fun us kw => (h_Polynomial_uinitu.all rfl rfl rfl rfl rfl rfl ((hr.mono (by decide : 54 + 1 ≤ 56)).make _ us kw) rfl rfl bd_Polynomial_uinitu)) W.g_Polynomial W.mk_Polynomial.2.2.2 tk (lc_p (lh_val (le_tell (ln_lc [("place", 3)] rfl sc.nd (Tk.def tk) (li_rng1 W.f_range (le_var 2)) (blkOk_by (by kernel_rfl)) (fun b q => (lgv_name 3 sc.nd)) (fun b q E' tk => lts_nil) (fun b q E' tk => (le_bin (ol_sw (ol_own rfl (op_ok (op := .Add) rfl W.first_Ratio W.m_Ratio_uaddu) (pOpT_ok W.opt_Ratio_uaddu) (h_Ratio_uaddu.all rfl rfl rfl rfl rfl rfl (hr.mono (by decide : 48 ≤ 56)) rfl rfl bd_Ratio_uaddu) tk.t) ol_add) (le_callC (h_term_at.all rfl rfl rfl rfl rfl rfl (hr.mono (by decide : 48 ≤ 56)) rfl rfl bd_term_at) W.g_term_at h_term_at.kp tk.t (lc_p (lh_val (le_fld .poly 0 W.kl_poly rfl (le_var 0)) (lh_val (le_var 3) lh_nil)))) (le_callC (h_term_at.all rfl rfl rfl rfl rfl rfl (hr.mono (by decide : 48 ≤ 56)) rfl rfl bd_term_at) W.g_term_at h_term_at.kp tk.t (lc_p (lh_val (le_fld .poly 0 W.kl_poly rfl (le_var 1)) (lh_val (le_var 3) lh_nil)))))))) lh_nil))))))
abbrev N_Polynomial_usubu : List Str := ["self", "other", "length", "place"]
abbrev ps_Polynomial_usubu : List Str := ["self", "other"]
theorem sc_Polynomial_usubu : FnScope N_Polynomial_usubu ps_Polynomial_usubu d_Polynomial_usubu.scope := ⟨rfl, rfl, rfl, by decide +kernel, rfl, by decide +kernel, by decide +kernel⟩
theorem bd_Polynomial_usubu : ∀ (kV doc pm : Value) (an : Option Addr) (cdv ct : Value) (us : List Value), us.length = ps_Polynomial_usubu.length → bindArgs (fnOf d_Polynomial_usubu.name d_Polynomial_usubu.qual d_Polynomial_usubu.params d_Polynomial_usubu.body d_Polynomial_usubu.scope .none kV doc pm an cdv ct) ⟨us, []⟩ = pure (ps_Polynomial_usubu.zip us) := fun _ _ _ _ _ _ us hl => match us, hl with | [_, _], _ => rfl
def c_Polynomial_usubu : Ct := fun args Q _ => ∃ ps qs : List Rat, args = [.val (polyD ps), .val (polyD qs)] ∧ ps.length ≤ 1000 ∧ qs.length ≤ 1000 ∧ (∀ p ∈ ps, Sz 3000000 p) ∧ (∀ q ∈ qs, Sz 3000000 q) ∧ Q (polyD (trimR (subL ps qs))) args
def r_Polynomial_usubu : QS := (qSeq (qSet 2 (qIf (qTest (qBin oGt (qB oLen (qCons (qUn (oFld .poly 0) (qVar 0)) qNil)) (qB oLen (qCons (qUn (oFld .poly 0) (qVar 1)) qNil)))) (qB oLen (qCons (qUn (oFld .poly 0) (qVar 0)) qNil)) (qB oLen (qCons (qUn (oFld .poly 0) (qVar 1)) qNil))))
    (qRet (qCall (mkC .poly c_Polynomial_uinitu) (qhVal (qTell (qnLc (qRng1 (qVar 2)) (gV 3) qYes (qBin (oSw .ratio (oOwnR .ratio c_Ratio_usubu) oSub) (qCall c_term_at (qhVal (qUn (oFld .poly 0) (qVar 0)) (qhVal (qVar 3) qhNil))) (qCall c_term_at (qhVal (qUn (oFld .poly 0) (qVar 1)) (qhVal (qVar 3) qhNil)))) [3])) qhNil))))
theorem step_usubu {ps qs : List Rat} {Q : D → List Slot → Prop} {E : Exn → List Slot → Prop} (m : Nat) (hm : m = if qs.length < ps.length then ps.length else qs.length) (h1 : ps.length ≤ 1000) (h2 : qs.length ≤ 1000) (hp : ∀ p ∈ ps, Sz 3000000 p) (hs : ∀ q ∈ qs, Sz 3000000 q) (hq : Q (polyD (trimR (subL ps qs))) [.val (polyD ps), .val (polyD qs)]) :
    qRet (qCall (mkC .poly c_Polynomial_uinitu) (qhVal (qTell (qnLc (qRng1 (qVar 2)) (gV 3) qYes (qBin (oSw .ratio (oOwnR .ratio c_Ratio_usubu) oSub) (qCall c_term_at (qhVal (qUn (oFld .poly 0) (qVar 0)) (qhVal (qVar 3) qhNil))) (qCall c_term_at (qhVal (qUn (oFld .poly 0) (qVar 1)) (qhVal (qVar 3) qhNil)))) [3])) qhNil)) [.val (polyD ps), .val (polyD qs), .val (.int (m : Int)), .no] (endsC [.val (polyD ps), .val (polyD qs)] Q) (exnC [.val (polyD ps), .val (polyD qs)] E) := by
  have hm2 : m ≤ 1000 := by rw [hm]; split <;> omega
  refine ⟨by omega, by omega, ?_⟩
  refine lc_map (fun i => .rat (cf0 ps i - cf0 qs i)) (by simp; omega) trivial (fun i d Z X ed hZ => ?_) ?_
  · obtain ⟨hi, rfl⟩ := rng_get ed
    refine ⟨ps, i, rfl, qs, i, rfl, cf0 ps i, .rat (cf0 qs i), rfl, rfl, fun x hx => ?_, fun h => nomatch h⟩
    cases hx
    exact ⟨(cf0_sz hp (by decide) i).mono (by decide), (cf0_sz hs (by decide) i).mono (by decide), hZ _ rfl⟩
  · have e : (List.range ((List.range (m : Int).toNat).map fun i : Nat => D.int (i : Int)).length).map (fun i => D.rat (cf0 ps i - cf0 qs i)) = rts (subL ps qs) := by
      unfold subL rts
      rw [List.length_map, List.length_range, Int.toNat_natCast, List.map_map, ← hm]
      rfl
    rw [e]
    dsimp only [qhNil, ixs, ndb, hmut, argsOf, Hd.arg, dMo, Bool.and_self]
    show mkC .poly c_Polynomial_uinitu [.val (.lst (rts (subL ps qs)))] _ _
    refine mk_poly ?_ (fun q hq' => ?_) hq
    · unfold subL
      rw [List.length_map, List.length_range, ← hm]
      omega
    · unfold subL at hq'
      obtain ⟨k, _, rfl⟩ := List.mem_map.mp hq'
      exact ((cf0_sz hp (by decide) k).sub (cf0_sz hs (by decide) k)).mono (by decide)
theorem len_Polynomial_usubu : ∀ args Q E, c_Polynomial_usubu args Q E → args.length = ps_Polynomial_usubu.length := by
  rintro args Q E ⟨_, _, rfl, _⟩
  rfl
theorem pure_Polynomial_usubu : ∀ args Q E, c_Polynomial_usubu args Q E → r_Polynomial_usubu (startE N_Polynomial_usubu.length args) (endsC args Q) (exnC args E) := by
  rintro args Q E ⟨ps, qs, rfl, h1, h2, hp, hs, hq⟩
  show (match decide (((rts qs).length : Int) < ((rts ps).length : Int)) with | true => _ | false => _)
  by_cases h : qs.length < ps.length
  · rw [rts_len, rts_len, decide_eq_true (by omega)]
    have z := step_usubu (E := E) ps.length (by rw [if_pos h]) h1 h2 hp hs hq
    rw [← rts_len ps] at z
    exact z
  · rw [rts_len, rts_len, decide_eq_false (by omega)]
    have z := step_usubu (E := E) qs.length (by rw [if_neg h]) h1 h2 hp hs hq
    rw [← rts_len qs] at z
    exact z
theorem ok_Polynomial_usubu {P : Program} {w : World} {K : Frag} {mg : Str → Option Value} {base : Heap} (W : Wd P K mg) (Fn : ∃ fd, FunD K d_Polynomial_usubu.name d_Polynomial_usubu.qual d_Polynomial_usubu.params d_Polynomial_usubu.body d_Polynomial_usubu.scope (d_Polynomial_usubu.dvs K) (d_Polynomial_usubu.kws K) (d_Polynomial_usubu.at_ K) fd) (h_Polynomial_uinitu : FnB P w K mg base d_Polynomial_uinitu 54 ps_Polynomial_uinitu c_Polynomial_uinitu) (h_Ratio_usubu : FnB P w K mg base d_Ratio_usubu 48 ps_Ratio_usubu c_Ratio_usubu) (h_term_at : FnB P w K mg base d_term_at 48 ps_term_at c_term_at) : FnB P w K mg base d_Polynomial_usubu 57 ps_Polynomial_usubu c_Polynomial_usubu := by
  refine FnB.of (N := N_Polynomial_usubu) (r := r_Polynomial_usubu) Fn sc_Polynomial_usubu len_Polynomial_usubu pure_Polynomial_usubu ?_
  intro f cdv A outer s H E0 hr G0 H0 B pin xa xd xc E tk hp h0
  have sc := sc_Polynomial_usubu
  have hu := roomU hr
  exact (lss_cons (ls_set 2 sc.nd (le_if (lt_cmp ol_gt (le_b (bl_len rfl) (la_cons (le_fld .poly 0 W.kl_poly rfl (le_var 0)) la_nil) W.f_len) (le_b (bl_len rfl) (la_cons (le_fld .poly 0 W.kl_poly rfl (le_var 1)) la_nil) W.f_len)) (le_b (bl_len rfl) (la_cons (le_fld .poly 0 W.kl_poly rfl (le_var 0)) la_nil) W.f_len) (le_b (bl_len rfl) (la_cons (le_fld .poly 0 W.kl_poly rfl (le_var 1)) la_nil) W.f_len)))
    (lss_one (ls_ret (le_callC (code_make (pMk_ok W.mk_Polynomial) fun us kw => (h_Polynomial_uinitu.all rfl rfl rfl rfl rfl rfl ((hr.mono (by decide : 54 + 1 ≤ 56)).make _ us kw) rfl rfl bd_Polynomial_uinitu)) W.g_Polynomial W.mk_Polynomial.2.2.2 tk (lc_p (lh_val (le_tell (ln_lc [("place", 3)] rfl sc.nd (Tk.def tk) (li_rng1 W.f_range (le_var 2)) (blkOk_by (by kernel_rfl)) (fun b q => (lgv_name 3 sc.nd)) (fun b q E' tk => lts_nil) (fun b q E' tk => (le_bin (ol_sw (ol_own rfl (op_ok (op := .Sub) rfl W.first_Ratio W.m_Ratio_usubu) (pOpT_ok W.opt_Ratio_usubu) (h_Ratio_usubu.all rfl rfl rfl rfl rfl rfl (hr.mono (by decide : 48 ≤ 56)) rfl rfl bd_Ratio_usubu) tk.t) ol_sub) (le_callC (h_term_at.all rfl rfl rfl rfl rfl rfl (hr.mono (by decide : 48 ≤ 56)) rfl rfl bd_term_at) W.g_term_at h_term_at.kp tk.t (lc_p (lh_val (le_fld .poly 0 W.kl_poly rfl (le_var 0)) (lh_val (le_var 3) lh_nil)))) (le_callC (h_term_at.all rfl rfl rfl rfl rfl rfl (hr.mono (by decide : 48 ≤ 56)) rfl rfl bd_term_at) W.g_term_at h_term_at.kp tk.t (lc_p (lh_val (le_fld .poly 0 W.kl_poly rfl (le_var 1)) (lh_val (le_var 3) lh_nil)))))))) lh_nil))))))
abbrev N_folded : List Str := ["one", "other", "found", "place", "term", "row", "factor", "here", "there"]
abbrev ps_folded : List Str := ["one", "other"]
theorem sc_folded : FnScope N_folded ps_folded d_folded.scope := ⟨rfl, rfl, rfl, by decide +kernel, rfl, by decide +kernel, by decide +kernel⟩
theorem bd_folded : ∀ (kV doc pm : Value) (an : Option Addr) (cdv ct : Value) (us : List Value), us.length = ps_folded.length → bindArgs (fnOf d_folded.name d_folded.qual d_folded.params d_folded.body d_folded.scope .none kV doc pm an cdv ct) ⟨us, []⟩ = pure (ps_folded.zip us) := fun _ _ _ _ _ _ us hl => match us, hl with | [_, _], _ => rfl
theorem flat_rep : ∀ k : Nat, List.flatten (List.replicate k [D.rat 0]) = rts (List.replicate k 0)
  | 0 => rfl
  | k + 1 => by
    rw [List.replicate_succ, List.flatten_cons, flat_rep k]
    rfl
theorem rts_app (as bs : List Rat) : rts as ++ rts bs = rts (as ++ bs) := by simp [rts]
theorem enum_get {qs : List Rat} {i : Nat} {d : D} (h : (enumD (rts qs))[i]? = some d) : i < qs.length ∧ d = .tup [.int (i : Int), .rat (cf0 qs i)] := by
  have hl := (List.getElem?_eq_some_iff.mp h).1
  rw [enumD_len, rts_len] at hl
  refine ⟨hl, ?_⟩
  have e : (rts qs)[i]? = some (.rat (cf0 qs i)) := by
    unfold rts
    rw [List.getElem?_map, List.getElem?_eq_getElem hl, cf0_lt hl]
    rfl
  rw [enumD_at e] at h
  exact (Option.some.inj h).symm
theorem zip_get {as bs : List Rat} {i : Nat} {d : D} (h : (zipD (rts as) (rts bs))[i]? = some d) : i < as.length ∧ i < bs.length ∧ d = .tup [.rat (cf0 as i), .rat (cf0 bs i)] := by
  have hl := (List.getElem?_eq_some_iff.mp h).1
  rw [zipD_len, rts_len, rts_len] at hl
  have h1 : i < as.length := by omega
  have h2 : i < bs.length := by omega
  refine ⟨h1, h2, ?_⟩
  have e1 : (rts as)[i]? = some (.rat (cf0 as i)) := by
    unfold rts
    rw [List.getElem?_map, List.getElem?_eq_getElem h1, cf0_lt h1]
    rfl
  have e2 : (rts bs)[i]? = some (.rat (cf0 bs i)) := by
    unfold rts
    rw [List.getElem?_map, List.getElem?_eq_getElem h2, cf0_lt h2]
    rfl
  rw [zipD_at e1 e2] at h
  exact (Option.some.inj h).symm
theorem range_rts (f : Nat → Rat) (g : List Rat) (hl : ∀ j, j < g.length → f j = cf0 g j) : (List.range g.length).map (fun j => D.rat (f j)) = rts g := by
  unfold rts
  refine List.ext_getElem? fun j => ?_
  simp only [List.getElem?_map]
  by_cases hj : j < g.length
  · rw [List.getElem?_range hj, List.getElem?_eq_getElem hj, Option.map_some, Option.map_some, hl j hj, cf0_lt hj]
  · rw [List.getElem?_eq_none (by simpa using hj), List.getElem?_eq_none (by omega)]
    rfl
def sl (f : Bool) (d : D) : Slot := match f with
  | true => .val d
  | false => .no
theorem zipAdd_mem {n m : Nat} {as bs : List Rat} (ha : ∀ a ∈ as, Sz n a) (hb : ∀ b ∈ bs, Sz m b) : ∀ c ∈ zipAdd as bs, Sz (n + m + 1) c := by
  intro c hc
  unfold zipAdd at hc
  obtain ⟨i, hi, rfl⟩ := List.mem_iff_getElem.mp hc
  rw [List.getElem_zipWith]
  exact (ha _ (List.getElem_mem _)).add (hb _ (List.getElem_mem _))
theorem shiftRow_mem {s n : Nat} {p : Rat} {j : Nat} {qs : List Rat} (hp : Sz s p) (hq : ∀ q ∈ qs, Sz s q) (h1 : 1 ≤ s) : ∀ c ∈ shiftRow n p j qs, Sz (2 * s) c := by
  intro c hc
  unfold shiftRow at hc
  rcases List.mem_append.mp hc with hc | hc
  · rcases List.mem_append.mp hc with hc | hc
    · rw [List.eq_of_mem_replicate hc]
      exact Sz.zero (by omega)
    · obtain ⟨q, hq', rfl⟩ := List.mem_map.mp hc
      exact (hp.mul (hq q hq')).mono (by omega)
  · rw [List.eq_of_mem_replicate hc]
    exact Sz.zero (by omega)
def c_folded : Ct := fun args Q _ => ∃ (ps qs : List Rat) (s : Nat), args = [.val (.tup (rts ps)), .val (.tup (rts qs))] ∧ ps.length ≤ 1000 ∧ qs.length ≤ 1000 ∧ 1 ≤ s ∧ (∀ p ∈ ps, Sz s p) ∧ (∀ q ∈ qs, Sz s q) ∧ ps.length * (2 * s + 1) + 1 ≤ 3000000 ∧ ((∀ c ∈ mulL ps qs, Sz 3000000 c) → Q (.lst (rts (mulL ps qs))) args)
def r_folded : QS := (qSeq (qSet 2 (qBin (oSw .ratio (oOwnR .ratio c_Ratio_umulu) oMul) (qLst (qCons (qCall (mkC .ratio (dflt c_Ratio_uinitu dd_Ratio_uinitu)) (qhVal (qC (.int 0)) qhNil)) qNil)) (qBin (oSw .ratio (oOwnR .ratio c_Ratio_uaddu) oAdd) (qB oLen (qCons (qVar 0) qNil)) (qB oLen (qCons (qVar 1) qNil)))))
    (qSeq (qFor (qiEn (qCons (qVar 0) qNil)) (gT 2 (gsCons (gV 3) (gsCons (gV 4) gsNil))) (qSeq (qSet 5 (qBin (oSw .ratio (oOwnR .ratio c_Ratio_uaddu) oAdd) (qBin (oSw .ratio (oOwnR .ratio c_Ratio_uaddu) oAdd) (qBin (oSw .ratio (oOwnR .ratio c_Ratio_umulu) oMul) (qLst (qCons (qCall (mkC .ratio (dflt c_Ratio_uinitu dd_Ratio_uinitu)) (qhVal (qC (.int 0)) qhNil)) qNil)) (qVar 3)) (qTell (qnLc (qiSeq (qVar 1)) (gV 6) qYes (qBin (oSw .ratio (oOwnR .ratio c_Ratio_umulu) oMul) (qVar 4) (qVar 6)) [6]))) (qBin (oSw .ratio (oOwnR .ratio c_Ratio_umulu) oMul) (qLst (qCons (qCall (mkC .ratio (dflt c_Ratio_uinitu dd_Ratio_uinitu)) (qhVal (qC (.int 0)) qhNil)) qNil)) (qBin (oSw .ratio (oOwnR .ratio c_Ratio_usubu) oSub) (qB oLen (qCons (qVar 0) qNil)) (qVar 3)))))
    (qSet 2 (qTell (qnLc (qiZip (qCons (qVar 2) (qCons (qVar 5) qNil))) (gT 2 (gsCons (gV 7) (gsCons (gV 8) gsNil))) qYes (qBin (oSw .ratio (oOwnR .ratio c_Ratio_uaddu) oAdd) (qVar 7) (qVar 8)) [7, 8])))))
    (qRet (qVar 2))))
theorem len_folded : ∀ args Q E, c_folded args Q E → args.length = ps_folded.length := by
  rintro args Q E ⟨_, _, _, rfl, _⟩
  rfl
theorem pure_folded : ∀ args Q E, c_folded args Q E → r_folded (startE N_folded.length args) (endsC args Q) (exnC args E) := by
  rintro args Q E ⟨ps, qs, s, rfl, h1, h2, hs1, hp, hs, hz, hq⟩
  refine ⟨0, 1, rfl, (bd_of (n := 1) rfl).mono (by decide), fun z => absurd z (by decide), fun _ => ⟨0, rfl, ?_⟩⟩
  refine ⟨Nat.le_of_ble_eq_true rfl, ?_⟩
  show _ ∧ _ ∧ _ ∧ qLoop none _ _ (enumD (rts ps)) _ _ _
  rw [rts_len, rts_len]
  refine ⟨by simp; omega, by omega, by omega, ?_⟩
  refine loop_inv (fun i Γ => ∃ (acc : List Rat) (f : Bool) (d3 d4 d5 : D), Γ = [.val (.tup (rts ps)), .val (.tup (rts qs)), .val (.lst (rts acc)), sl f d3, sl f d4, sl f d5, .no, .no, .no] ∧ i ≤ ps.length ∧ acc.length = ps.length + qs.length ∧ mulGo ps.length qs (ps.drop i) i acc = mulL ps qs ∧ ∀ a ∈ acc, Sz (i * (2 * s + 1) + 1) a)
    ⟨List.replicate (ps.length + qs.length) 0, false, .non, .non, .non, ?_, Nat.zero_le _, by simp, rfl, fun a ha => ?_⟩ ?_ ?_
  · show [_, _, Slot.val (D.lst (List.flatten (List.replicate ((ps.length : Int) + (qs.length : Int)).toNat [D.rat 0]))), _, _, _, _, _, _] = _
    rw [show ((ps.length : Int) + (qs.length : Int)).toNat = ps.length + qs.length by omega, flat_rep]
    rfl
  · rw [List.eq_of_mem_replicate ha]
    exact Sz.zero (by omega)
  · rintro i d Γ K ed ⟨acc, f, d3, d4, d5, rfl, hi, hl, hm, hsz⟩ hK
    obtain ⟨hlt, rfl⟩ := enum_get ed
    have hpi : Sz s (cf0 ps i) := cf0_sz hp hs1 i
    have hsr : (shiftRow ps.length (cf0 ps i) i qs).length = ps.length + qs.length := shiftRow_len (by omega)
    have hd : ps.drop i = cf0 ps i :: ps.drop (i + 1) := by
      rw [List.drop_eq_getElem_cons hlt, cf0_lt hlt]
    rw [hd] at hm
    have hmul : i * (2 * s + 1) + (2 * s + 1) = (i + 1) * (2 * s + 1) := by rw [Nat.add_mul, Nat.one_mul]
    have hmono : (i + 1) * (2 * s + 1) ≤ ps.length * (2 * s + 1) := Nat.mul_le_mul_right _ hlt
    have hs3 : 2 * s ≤ 3000000 := by
      have : 1 * (2 * s + 1) ≤ ps.length * (2 * s + 1) := Nat.mul_le_mul_right _ (by omega)
      omega
    -- the second half of a turn
    have fin : ∀ (row : List Rat), row = shiftRow ps.length (cf0 ps i) i qs → qSet 2 (qTell (qnLc (qiZip (qCons (qVar 2) (qCons (qVar 5) qNil))) (gT 2 (gsCons (gV 7) (gsCons (gV 8) gsNil))) qYes (qBin (oSw .ratio (oOwnR .ratio c_Ratio_uaddu) oAdd) (qVar 7) (qVar 8)) [7, 8]))
        [.val (.tup (rts ps)), .val (.tup (rts qs)), .val (.lst (rts acc)), .val (.int (i : Int)), .val (.rat (cf0 ps i)), .val (.lst (rts row)), .no, .no, .no] { nx := K, ct := K, bk := (endsC [.val (.tup (rts ps)), .val (.tup (rts qs))] Q).nx, rt := (endsC [.val (.tup (rts ps)), .val (.tup (rts qs))] Q).rt } (exnC [.val (.tup (rts ps)), .val (.tup (rts qs))] E) := by
      rintro row rfl
      refine lc_map (fun j => .rat (cf0 acc j + cf0 (shiftRow ps.length (cf0 ps i) i qs) j)) (by rw [zipD_len, rts_len, rts_len]; omega) trivial (fun j d Z X ej hZ => ?_) ?_
      · obtain ⟨ja, jb, rfl⟩ := zip_get ej
        refine ⟨rfl, _, .rat _, rfl, rfl, fun x hx => ?_, fun h => nomatch h⟩
        cases hx
        exact ⟨(cf0_sz hsz (by omega) j).mono (by omega), (cf0_sz (shiftRow_mem hpi hs hs1) (by omega) j).mono (by omega), hZ _ rfl⟩
      · have e : (List.range (zipD (rts acc) (rts (shiftRow ps.length (cf0 ps i) i qs))).length).map (fun j => D.rat (cf0 acc j + cf0 (shiftRow ps.length (cf0 ps i) i qs) j)) = rts (zipAdd acc (shiftRow ps.length (cf0 ps i) i qs)) := by
          have hl2 : (zipD (rts acc) (rts (shiftRow ps.length (cf0 ps i) i qs))).length = (zipAdd acc (shiftRow ps.length (cf0 ps i) i qs)).length := by
            rw [zipD_len, rts_len, rts_len, zipAdd_len (by omega)]
            omega
          rw [hl2]
          exact range_rts _ _ fun j _ => (zipAdd_cf (by omega) j).symm
        rw [e]
        refine hK _ ⟨zipAdd acc (shiftRow ps.length (cf0 ps i) i qs), true, .int (i : Int), .rat (cf0 ps i), .lst (rts (shiftRow ps.length (cf0 ps i) i qs)), rfl, hlt, by rw [zipAdd_len (by omega)]; exact hl, hm, fun a ha => ?_⟩
        exact (zipAdd_mem hsz (shiftRow_mem hpi hs hs1) a ha).mono (by omega)
    have erow : (List.flatten (List.replicate (i : Int).toNat [D.rat 0]) ++ (List.range (rts qs).length).map (fun j => D.rat (cf0 ps i * cf0 qs j))) ++ List.flatten (List.replicate ((ps.length : Int) - (i : Int)).toNat [D.rat 0]) = rts (shiftRow ps.length (cf0 ps i) i qs) := by
      have e : (List.range (rts qs).length).map (fun j => D.rat (cf0 ps i * cf0 qs j)) = rts (qs.map fun q => cf0 ps i * q) := by
        have e2 : (rts qs).length = (qs.map fun q => cf0 ps i * q).length := by rw [rts_len, List.length_map]
        rw [e2]
        exact range_rts _ _ fun j _ => (cf0_map _ (by grind) qs j).symm
      rw [flat_rep, flat_rep, e, rts_app, rts_app, Int.toNat_natCast, show ((ps.length : Int) - (i : Int)).toNat = ps.length - i by omega]
      rfl
    have z := fin _ rfl
    rw [← erow] at z
    cases f
    all_goals
      refine ⟨rfl, ?_⟩
      refine ⟨0, 1, rfl, (bd_of (n := 1) rfl).mono (by decide), fun z => absurd z (by decide), fun _ => ⟨0, rfl, ?_⟩⟩
      refine ⟨Nat.le_of_ble_eq_true rfl, ?_⟩
      refine ⟨by simp; omega, by omega, by omega, ?_⟩
      refine lc_map (fun j => .rat (cf0 ps i * cf0 qs j)) (by rw [rts_len]; omega) trivial (fun j d Z X ej hZ => ?_) ?_
      · obtain ⟨q, eq, rfl⟩ := rts_get ej
        have hjl := (List.getElem?_eq_some_iff.mp eq).1
        have eq2 : q = cf0 qs j := by
          rw [cf0_lt hjl]
          exact ((List.getElem?_eq_some_iff.mp eq).2).symm
        subst eq2
        refine ⟨_, .rat _, rfl, rfl, fun x hx => ?_, fun h => nomatch h⟩
        cases hx
        exact ⟨hpi.mono (by omega), (cf0_sz hs hs1 j).mono (by omega), hZ _ rfl⟩
      · refine ⟨by simp [rts_len]; omega, ?_⟩
        refine ⟨0, 1, rfl, (bd_of (n := 1) rfl).mono (by decide), fun z => absurd z (by decide), fun _ => ⟨0, rfl, ?_⟩⟩
        refine ⟨Nat.le_of_ble_eq_true rfl, ?_⟩
        show _ ∧ _ ∧ _ ∧ _
        rw [rts_len]
        refine ⟨by simp; omega, by omega, by omega, by simp [rts_len]; omega, ?_⟩
        exact z
  · rintro Γ ⟨acc, f, d3, d4, d5, rfl, hi, hl, hm, hsz⟩
    rw [enumD_len, rts_len, List.drop_length] at hm
    have e : acc = mulL ps qs := hm
    subst e
    rw [enumD_len, rts_len] at hsz
    have := hq fun c hc => (hsz c hc).mono hz
    cases f <;> exact this
theorem ok_folded {P : Program} {w : World} {K : Frag} {mg : Str → Option Value} {base : Heap} (W : Wd P K mg) (Fn : ∃ fd, FunD K d_folded.name d_folded.qual d_folded.params d_folded.body d_folded.scope (d_folded.dvs K) (d_folded.kws K) (d_folded.at_ K) fd) (h_Ratio_umulu : FnB P w K mg base d_Ratio_umulu 48 ps_Ratio_umulu c_Ratio_umulu) (h_Ratio_uinitu : FnB P w K mg base d_Ratio_uinitu 45 ps_Ratio_uinitu c_Ratio_uinitu) (h_Ratio_uaddu : FnB P w K mg base d_Ratio_uaddu 48 ps_Ratio_uaddu c_Ratio_uaddu) (h_Ratio_usubu : FnB P w K mg base d_Ratio_usubu 48 ps_Ratio_usubu c_Ratio_usubu) : FnB P w K mg base d_folded 51 ps_folded c_folded := by
  refine FnB.of (N := N_folded) (r := r_folded) Fn sc_folded len_folded pure_folded ?_
  intro f cdv A outer s H E0 hr G0 H0 B pin xa xd xc E tk hp h0
  have sc := sc_folded
  have hu := roomU hr
  exact (lss_cons (ls_set 2 sc.nd (le_bin (ol_sw (ol_own rfl (op_ok (op := .Mult) rfl W.first_Ratio W.m_Ratio_umulu) (pOpT_ok W.opt_Ratio_umulu) (h_Ratio_umulu.all rfl rfl rfl rfl rfl rfl (hr.mono (by decide : 48 ≤ 50)) rfl rfl bd_Ratio_umulu) tk) ol_mul) (le_lst (la_cons (le_callC (code_make (pMk_ok W.mk_Ratio) fun us kw => (h_Ratio_uinitu.dfl rfl rfl rfl rfl rfl rfl ((hr.mono (by decide : 45 + 1 ≤ 50)).make _ us kw) (List.cons_ne_nil _ _) dr_Ratio_uinitu rfl bdd_Ratio_uinitu)) W.g_Ratio W.mk_Ratio.2.2.2 tk (lc_p (lh_val le_int lh_nil))) la_nil)) (le_bin (ol_sw (ol_own rfl (op_ok (op := .Add) rfl W.first_Ratio W.m_Ratio_uaddu) (pOpT_ok W.opt_Ratio_uaddu) (h_Ratio_uaddu.all rfl rfl rfl rfl rfl rfl (hr.mono (by decide : 48 ≤ 50)) rfl rfl bd_Ratio_uaddu) tk) ol_add) (le_b (bl_len rfl) (la_cons (le_var 0) la_nil) W.f_len) (le_b (bl_len rfl) (la_cons (le_var 1) la_nil) W.f_len))))
    (lss_cons (ls_for hp rfl (li_en rfl W.f_enumerate (la_cons (le_var 0) la_nil)) (lg_tup rfl rfl (lgs_cons (lg_name 3 sc.nd) (lgs_cons (lg_name 4 sc.nd) lgs_nil))) (lss_cons (ls_set 5 sc.nd (le_bin (ol_sw (ol_own rfl (op_ok (op := .Add) rfl W.first_Ratio W.m_Ratio_uaddu) (pOpT_ok W.opt_Ratio_uaddu) (h_Ratio_uaddu.all rfl rfl rfl rfl rfl rfl (hr.mono (by decide : 48 ≤ 50)) rfl rfl bd_Ratio_uaddu) tk) ol_add) (le_bin (ol_sw (ol_own rfl (op_ok (op := .Add) rfl W.first_Ratio W.m_Ratio_uaddu) (pOpT_ok W.opt_Ratio_uaddu) (h_Ratio_uaddu.all rfl rfl rfl rfl rfl rfl (hr.mono (by decide : 48 ≤ 50)) rfl rfl bd_Ratio_uaddu) tk) ol_add) (le_bin (ol_sw (ol_own rfl (op_ok (op := .Mult) rfl W.first_Ratio W.m_Ratio_umulu) (pOpT_ok W.opt_Ratio_umulu) (h_Ratio_umulu.all rfl rfl rfl rfl rfl rfl (hr.mono (by decide : 48 ≤ 50)) rfl rfl bd_Ratio_umulu) tk) ol_mul) (le_lst (la_cons (le_callC (code_make (pMk_ok W.mk_Ratio) fun us kw => (h_Ratio_uinitu.dfl rfl rfl rfl rfl rfl rfl ((hr.mono (by decide : 45 + 1 ≤ 50)).make _ us kw) (List.cons_ne_nil _ _) dr_Ratio_uinitu rfl bdd_Ratio_uinitu)) W.g_Ratio W.mk_Ratio.2.2.2 tk (lc_p (lh_val le_int lh_nil))) la_nil)) (le_var 3)) (le_tell (ln_lc [("factor", 6)] rfl sc.nd (Tk.def tk) (li_seq rfl (le_var 1)) (blkOk_by (by kernel_rfl)) (fun b q => (lgv_name 6 sc.nd)) (fun b q E' tk => lts_nil) (fun b q E' tk => (le_bin (ol_sw (ol_own rfl (op_ok (op := .Mult) rfl W.first_Ratio W.m_Ratio_umulu) (pOpT_ok W.opt_Ratio_umulu) (h_Ratio_umulu.all rfl rfl rfl rfl rfl rfl (hr.mono (by decide : 48 ≤ 50)) rfl rfl bd_Ratio_umulu) tk.t) ol_mul) (le_var 4) (le_var 6)))))) (le_bin (ol_sw (ol_own rfl (op_ok (op := .Mult) rfl W.first_Ratio W.m_Ratio_umulu) (pOpT_ok W.opt_Ratio_umulu) (h_Ratio_umulu.all rfl rfl rfl rfl rfl rfl (hr.mono (by decide : 48 ≤ 50)) rfl rfl bd_Ratio_umulu) tk) ol_mul) (le_lst (la_cons (le_callC (code_make (pMk_ok W.mk_Ratio) fun us kw => (h_Ratio_uinitu.dfl rfl rfl rfl rfl rfl rfl ((hr.mono (by decide : 45 + 1 ≤ 50)).make _ us kw) (List.cons_ne_nil _ _) dr_Ratio_uinitu rfl bdd_Ratio_uinitu)) W.g_Ratio W.mk_Ratio.2.2.2 tk (lc_p (lh_val le_int lh_nil))) la_nil)) (le_bin (ol_sw (ol_own rfl (op_ok (op := .Sub) rfl W.first_Ratio W.m_Ratio_usubu) (pOpT_ok W.opt_Ratio_usubu) (h_Ratio_usubu.all rfl rfl rfl rfl rfl rfl (hr.mono (by decide : 48 ≤ 50)) rfl rfl bd_Ratio_usubu) tk) ol_sub) (le_b (bl_len rfl) (la_cons (le_var 0) la_nil) W.f_len) (le_var 3)))))
    (lss_one (ls_setLc [("here", 7), ("there", 8)] 2 rfl sc.nd (Tk.def tk) (li_zip rfl W.f_zip (la_cons (le_var 2) (la_cons (le_var 5) la_nil))) (blkOk_by (by kernel_rfl)) (fun b q => (lgv_tup rfl rfl (lgvs_cons (lgv_name 7 sc.nd) (lgvs_cons (lgv_name 8 sc.nd) lgvs_nil)))) (fun b q E' tk => lts_nil) (fun b q E' tk => (le_bin (ol_sw (ol_own rfl (op_ok (op := .Add) rfl W.first_Ratio W.m_Ratio_uaddu) (pOpT_ok W.opt_Ratio_uaddu) (h_Ratio_uaddu.all rfl rfl rfl rfl rfl rfl (hr.mono (by decide : 48 ≤ 50)) rfl rfl bd_Ratio_uaddu) tk.t) ol_add) (le_var 7) (le_var 8)))))))
    (lss_one (ls_ret (le_var 2)))))
abbrev N_Polynomial_umulu : List Str := ["self", "other"]
abbrev ps_Polynomial_umulu : List Str := ["self", "other"]
theorem sc_Polynomial_umulu : FnScope N_Polynomial_umulu ps_Polynomial_umulu d_Polynomial_umulu.scope := ⟨rfl, rfl, rfl, by decide +kernel, rfl, by decide +kernel, by decide +kernel⟩
theorem bd_Polynomial_umulu : ∀ (kV doc pm : Value) (an : Option Addr) (cdv ct : Value) (us : List Value), us.length = ps_Polynomial_umulu.length → bindArgs (fnOf d_Polynomial_umulu.name d_Polynomial_umulu.qual d_Polynomial_umulu.params d_Polynomial_umulu.body d_Polynomial_umulu.scope .none kV doc pm an cdv ct) ⟨us, []⟩ = pure (ps_Polynomial_umulu.zip us) := fun _ _ _ _ _ _ us hl => match us, hl with | [_, _], _ => rfl
def c_Polynomial_umulu : Ct := fun args Q _ => ∃ (ps qs : List Rat) (s : Nat), args = [.val (polyD ps), .val (polyD qs)] ∧ ps.length ≤ 1000 ∧ qs.length ≤ 1000 ∧ 1 ≤ s ∧ (∀ p ∈ ps, Sz s p) ∧ (∀ q ∈ qs, Sz s q) ∧ ps.length * (2 * s + 1) + 1 ≤ 3000000 ∧ ((∀ c ∈ mulL ps qs, Sz 3000000 c) → Q (polyD (trimR (mulL ps qs))) args)
def r_Polynomial_umulu : QS := (qRet (qCall (mkC .poly c_Polynomial_uinitu) (qhVal (qCall c_folded (qhVal (qUn (oFld .poly 0) (qVar 0)) (qhVal (qUn (oFld .poly 0) (qVar 1)) qhNil))) qhNil)))
theorem len_Polynomial_umulu : ∀ args Q E, c_Polynomial_umulu args Q E → args.length = ps_Polynomial_umulu.length := by
  rintro args Q E ⟨_, _, _, rfl, _⟩
  rfl
theorem pure_Polynomial_umulu : ∀ args Q E, c_Polynomial_umulu args Q E → r_Polynomial_umulu (startE N_Polynomial_umulu.length args) (endsC args Q) (exnC args E) := by
  rintro args Q E ⟨ps, qs, s, rfl, h1, h2, hs1, hp, hs, hz, hq⟩
  refine ⟨ps, qs, s, rfl, h1, h2, hs1, hp, hs, hz, fun hm => ?_⟩
  dsimp only [qhNil, ixs, ndb, hmut, argsOf, Hd.arg, dMo, Bool.and_self, unfr]
  show mkC .poly c_Polynomial_uinitu [.val (.lst (rts (mulL ps qs)))] _ _
  exact mk_poly (by rw [mulL_len]; omega) (fun q hq' => (hm q hq').mono (by decide)) (hq hm)
theorem ok_Polynomial_umulu {P : Program} {w : World} {K : Frag} {mg : Str → Option Value} {base : Heap} (W : Wd P K mg) (Fn : ∃ fd, FunD K d_Polynomial_umulu.name d_Polynomial_umulu.qual d_Polynomial_umulu.params d_Polynomial_umulu.body d_Polynomial_umulu.scope (d_Polynomial_umulu.dvs K) (d_Polynomial_umulu.kws K) (d_Polynomial_umulu.at_ K) fd) (h_Polynomial_uinitu : FnB P w K mg base d_Polynomial_uinitu 54 ps_Polynomial_uinitu c_Polynomial_uinitu) (h_folded : FnB P w K mg base d_folded 51 ps_folded c_folded) : FnB P w K mg base d_Polynomial_umulu 57 ps_Polynomial_umulu c_Polynomial_umulu := by
  refine FnB.of (N := N_Polynomial_umulu) (r := r_Polynomial_umulu) Fn sc_Polynomial_umulu len_Polynomial_umulu pure_Polynomial_umulu ?_
  intro f cdv A outer s H E0 hr G0 H0 B pin xa xd xc E tk hp h0
  have sc := sc_Polynomial_umulu
  have hu := roomU hr
  exact (lss_one (ls_ret (le_callC (code_make (pMk_ok W.mk_Polynomial) fun us kw => (h_Polynomial_uinitu.all rfl rfl rfl rfl rfl rfl ((hr.mono (by decide : 54 + 1 ≤ 56)).make _ us kw) rfl rfl bd_Polynomial_uinitu)) W.g_Polynomial W.mk_Polynomial.2.2.2 tk (lc_p (lh_val (le_callC (h_folded.all rfl rfl rfl rfl rfl rfl (hr.mono (by decide : 51 ≤ 56)) rfl rfl bd_folded) W.g_folded h_folded.kp tk (lc_p (lh_val (le_fld .poly 0 W.kl_poly rfl (le_var 0)) (lh_val (le_fld .poly 0 W.kl_poly rfl (le_var 1)) lh_nil)))) lh_nil)))))
abbrev N_Polynomial_slope : List Str := ["self", "place", "term"]
abbrev ps_Polynomial_slope : List Str := ["self"]
theorem sc_Polynomial_slope : FnScope N_Polynomial_slope ps_Polynomial_slope d_Polynomial_slope.scope := ⟨rfl, rfl, rfl, by decide +kernel, rfl, by decide +kernel, by decide +kernel⟩
theorem bd_Polynomial_slope : ∀ (kV doc pm : Value) (an : Option Addr) (cdv ct : Value) (us : List Value), us.length = ps_Polynomial_slope.length → bindArgs (fnOf d_Polynomial_slope.name d_Polynomial_slope.qual d_Polynomial_slope.params d_Polynomial_slope.body d_Polynomial_slope.scope .none kV doc pm an cdv ct) ⟨us, []⟩ = pure (ps_Polynomial_slope.zip us) := fun _ _ _ _ _ _ us hl => match us, hl with | [_], _ => rfl
def c_Polynomial_slope : Ct := fun args Q _ => ∃ qs : List Rat, args = [.val (polyD qs)] ∧ qs.length ≤ 1000 ∧ (∀ q ∈ qs, Sz 3000000 q) ∧ Q (polyD (trimR (slopeL qs))) args
def r_Polynomial_slope : QS := (qRet (qCall (mkC .poly c_Polynomial_uinitu) (qhVal (qSl (qTell (qnLc (qiEn (qCons (qUn (oFld .poly 0) (qVar 0)) qNil)) (gT 2 (gsCons (gV 1) (gsCons (gV 2) gsNil))) qYes (qBin (oSw .ratio (oOwnR .ratio c_Ratio_umulu) oMul) (qVar 2) (qVar 1)) [1, 2])) (qoS (qC (.int 1))) qoN) qhNil)))
theorem len_Polynomial_slope : ∀ args Q E, c_Polynomial_slope args Q E → args.length = ps_Polynomial_slope.length := by
  rintro args Q E ⟨_, rfl, _⟩
  rfl
theorem pure_Polynomial_slope : ∀ args Q E, c_Polynomial_slope args Q E → r_Polynomial_slope (startE N_Polynomial_slope.length args) (endsC args Q) (exnC args E) := by
  rintro args Q E ⟨qs, rfl, h1, hs, hq⟩
  have bi : ∀ i : Nat, i < 1000 → Bd 10 (i : Int) := fun i hi => by
    unfold Bd
    have : (2 : Nat) ^ 10 = 1024 := by decide
    omega
  refine lc_map (fun i => .rat (cf0 qs i * ((i : Int) : Rat))) (by rw [enumD_len, rts_len]; omega) trivial (fun i d Z X ed hZ => ?_) ?_
  · obtain ⟨hi, rfl⟩ := enum_get ed
    refine ⟨rfl, _, .int (i : Int), rfl, rfl, fun y hy => ?_, fun h => nomatch h⟩
    cases hy
    exact ⟨(cf0_sz hs (by decide) i).mono (by decide), (Sz.int (bi i (by omega)) (by decide)).mono (by decide), hZ _ rfl⟩
  · have e : cutDs ((List.range (enumD (rts qs)).length).map (fun i => D.rat (cf0 qs i * ((i : Int) : Rat)))) (some 1) none = rts (slopeL qs) := by
      unfold cutDs slopeL rts
      rw [enumD_len, List.length_map, List.length_map, List.length_range, HT.sIx_none]
      have e1 : HT.sIx qs.length 0 (some 1) = min 1 qs.length := HT.sIx_nat qs.length 0 1
      rw [e1, List.take_of_length_le (by simp)]
      by_cases h0 : qs.length = 0
      · rw [h0]
        rfl
      · rw [show min 1 qs.length = 1 by omega, List.map_drop, List.map_map]
        rfl
    dsimp only [qoN, qoS, qC, oSl, dMo]
    rw [e]
    dsimp only [qhNil, ixs, ndb, hmut, argsOf, Hd.arg, dMo, Bool.and_self, unfr]
    show mkC .poly c_Polynomial_uinitu [.val (.lst (rts (slopeL qs)))] _ _
    refine mk_poly (by simp [slopeL]; omega) (fun q hq' => ?_) hq
    unfold slopeL at hq'
    obtain ⟨k, hk, rfl⟩ := List.mem_map.mp (List.mem_of_mem_drop hq')
    have hk := List.mem_range.mp hk
    exact ((cf0_sz hs (by decide) k).mul (Sz.int (bi k (by omega)) (by decide))).mono (by decide)
theorem ok_Polynomial_slope {P : Program} {w : World} {K : Frag} {mg : Str → Option Value} {base : Heap} (W : Wd P K mg) (Fn : ∃ fd, FunD K d_Polynomial_slope.name d_Polynomial_slope.qual d_Polynomial_slope.params d_Polynomial_slope.body d_Polynomial_slope.scope (d_Polynomial_slope.dvs K) (d_Polynomial_slope.kws K) (d_Polynomial_slope.at_ K) fd) (h_Polynomial_uinitu : FnB P w K mg base d_Polynomial_uinitu 54 ps_Polynomial_uinitu c_Polynomial_uinitu) (h_Ratio_umulu : FnB P w K mg base d_Ratio_umulu 48 ps_Ratio_umulu c_Ratio_umulu) : FnB P w K mg base d_Polynomial_slope 57 ps_Polynomial_slope c_Polynomial_slope := by
  refine FnB.of (N := N_Polynomial_slope) (r := r_Polynomial_slope) Fn sc_Polynomial_slope len_Polynomial_slope pure_Polynomial_slope ?_
  intro f cdv A outer s H E0 hr G0 H0 B pin xa xd xc E tk hp h0
  have sc := sc_Polynomial_slope
  have hu := roomU hr
  exact (lss_one (ls_ret (le_callC (code_make (pMk_ok W.mk_Polynomial) fun us kw => (h_Polynomial_uinitu.all rfl rfl rfl rfl rfl rfl ((hr.mono (by decide : 54 + 1 ≤ 56)).make _ us kw) rfl rfl bd_Polynomial_uinitu)) W.g_Polynomial W.mk_Polynomial.2.2.2 tk (lc_p (lh_val (le_sl rfl (le_tell (ln_lc [("place", 1), ("term", 2)] rfl sc.nd (Tk.def tk) (li_en rfl W.f_enumerate (la_cons (le_fld .poly 0 W.kl_poly rfl (le_var 0)) la_nil)) (blkOk_by (by kernel_rfl)) (fun b q => (lgv_tup rfl rfl (lgvs_cons (lgv_name 1 sc.nd) (lgvs_cons (lgv_name 2 sc.nd) lgvs_nil)))) (fun b q E' tk => lts_nil) (fun b q E' tk => (le_bin (ol_sw (ol_own rfl (op_ok (op := .Mult) rfl W.first_Ratio W.m_Ratio_umulu) (pOpT_ok W.opt_Ratio_umulu) (h_Ratio_umulu.all rfl rfl rfl rfl rfl rfl (hr.mono (by decide : 48 ≤ 56)) rfl rfl bd_Ratio_umulu) tk.t) ol_mul) (le_var 2) (le_var 1))))) (lo_some le_int) lo_none) lh_nil)))))
end K06
set_option Elab.async false
set_option linter.all false
set_option maxRecDepth 100000
set_option maxHeartbeats 4000000
namespace K06
open PySem L2 PySem.Spec PyProof.Rows He PySem.W Q
abbrev N_Polynomial_parted : List Str := ["self", "other", "quotient", "rest", "factor", "step"]
abbrev ps_Polynomial_parted : List Str := ["self", "other"]
theorem sc_Polynomial_parted : FnScope N_Polynomial_parted ps_Polynomial_parted d_Polynomial_parted.scope := ⟨rfl, rfl, rfl, by decide +kernel, rfl, by decide +kernel, by decide +kernel⟩
theorem bd_Polynomial_parted : ∀ (kV doc pm : Value) (an : Option Addr) (cdv ct : Value) (us : List Value), us.length = ps_Polynomial_parted.length → bindArgs (fnOf d_Polynomial_parted.name d_Polynomial_parted.qual d_Polynomial_parted.params d_Polynomial_parted.body d_Polynomial_parted.scope .none kV doc pm an cdv ct) ⟨us, []⟩ = pure (ps_Polynomial_parted.zip us) := fun _ _ _ _ _ _ us hl => match us, hl with | [_, _], _ => rfl
theorem numsQ_rep (x : Rat) : ∀ e : Nat, numsQ (List.replicate e (D.int 0) ++ [.rat x]) = some (mono e x)
  | 0 => rfl
  | e + 1 => by
    show (match numQ (D.int 0), numsQ (List.replicate e (D.int 0) ++ [.rat x]) with | some x, some xs => some (x :: xs) | _, _ => none) = _
    rw [numsQ_rep x e]
    rfl
theorem flat_repI : ∀ k : Nat, List.flatten (List.replicate k [D.int 0]) = List.replicate k (D.int 0)
  | 0 => rfl
  | k + 1 => by
    rw [List.replicate_succ, List.flatten_cons, flat_repI k]
    rfl
theorem mk_polyI {ds : List D} {qs : List Rat} {Q : D → List Slot → Prop} {E : Exn → List Slot → Prop} (hl : ds.length ≤ 100000) (hp : ∀ d ∈ ds, plain d = true) (hs : ∀ d ∈ ds, ∀ x, numQ d = some x → Sz 8000000 x) (hn : numsQ ds = some qs) (h : Q (.fr (polyD (trimR qs))) [.val (.lst ds)]) : mkC .poly c_Polynomial_uinitu [.val (.lst ds)] Q E := by
  have nb : ∀ (ds : List D) (qs : List Rat), numsQ ds = some qs → firstBad ds = none := by
    intro ds
    induction ds with
    | nil => exact fun _ _ => rfl
    | cons d ds ih =>
      intro qs h
      have h : (match numQ d, numsQ ds with | some x, some xs => some (x :: xs) | _, _ => none) = some qs := h
      show (match numQ d with | some _ => firstBad ds | none => some d) = none
      cases hd : numQ d with
      | none => rw [hd] at h; cases h
      | some x =>
        rw [hd] at h
        cases hs : numsQ ds with
        | none => rw [hs] at h; cases h
        | some xs => exact ih xs hs
  refine ⟨_, ds, rfl, rfl, hl, hp, hs, fun ps hq => ?_, fun d hd => ?_⟩
  · rw [hn] at hq
    cases hq
    exact h
  · rw [nb ds qs hn] at hd
    cases hd
def pD (p : Pol) : D := polyD p.l
def nvv (s : Slot) : Prop := s = .no ∨ ∃ d, s = .val d
theorem setV_mv {Γ : List Slot} {i : Nat} {d : D} {Q : List Slot → Prop} {s : Slot} (h : Γ[i]? = some s) (hs : nvv s) (q : Q (Γ.set i (.val d))) : setV Γ i d Q := by
  unfold setV
  rw [h]
  rcases hs with rfl | ⟨d, rfl⟩ <;> exact q
theorem pl_last {p : Pol} (h : p ≠ 0) : atD (rts p.l) (-1) = some (.rat p.lc) := by
  have h0 := _root_.Q.len_pos h
  have hl : p.l.length = p.len := rfl
  have e3 : (rts p.l)[p.len - 1]? = some (.rat p.lc) := by
    unfold rts
    rw [List.getElem?_map, List.getElem?_eq_getElem (by omega)]
    show some (D.rat p.l[p.len - 1]) = _
    rw [← cf0_lt (qs := p.l) (k := p.len - 1) (by omega)]
    rfl
  unfold atD
  rw [if_neg (by decide), rts_len, hl, if_pos (by omega), show (-1 + (p.len : Int)).toNat = p.len - 1 by omega]
  exact e3
def c_Polynomial_parted : Ct := fun args Q E => ∃ (f g : Pol) (a b : Nat), args = [.val (pD f), .val (pD g)] ∧ f.len ≤ 40 ∧ g.len ≤ 40 ∧ (g = 0 → E ⟨.byZero, []⟩ args) ∧ (g ≠ 0 → BP (2 ^ a) f ∧ BP (2 ^ b) g ∧ a + (f.len + 1) * (b + 1) + b ≤ 30000 ∧ Q (.tup [pD (partedP f g).1, pD (partedP f g).2]) args)
def r_Polynomial_parted_bd : QS := (qSeq (qSet 4 (qMeth c_Ratio_over (qrVal .ratio (qBin oIx (qUn (oFld .poly 0) (qVar 3)) (qUn oNeg (qC (.int 1))))) (qhVal (qBin oIx (qUn (oFld .poly 0) (qVar 1)) (qUn oNeg (qC (.int 1)))) qhNil)))
    (qSeq (qSet 5 (qCall (mkC .poly c_Polynomial_uinitu) (qhVal (qBin (oSw .poly (oOwnS .poly c_Polynomial_uaddu) oAdd) (qBin (oSw .poly (oOwnS .poly c_Polynomial_umulu) oMul) (qLst (qCons (qC (.int 0)) qNil)) (qBin (oSw .poly (oOwnS .poly c_Polynomial_usubu) oSub) (qB (oLenC .poly c_Polynomial_ulenu oLen) (qCons (qVar 3) qNil)) (qB (oLenC .poly c_Polynomial_ulenu oLen) (qCons (qVar 1) qNil)))) (qLst (qCons (qVar 4) qNil))) qhNil)))
    (qSeq (qSet 2 (qBin (oSw .poly (oOwnS .poly c_Polynomial_uaddu) oAdd) (qVar 2) (qVar 5)))
    (qSet 3 (qBin (oSw .poly (oOwnS .poly c_Polynomial_usubu) oSub) (qVar 3) (qBin (oSw .poly (oOwnS .poly c_Polynomial_umulu) oMul) (qVar 5) (qVar 1)))))))
def r_Polynomial_parted_wh : QS := (qSeq (qWhile (qTest (qBin oGe (qB (oLenC .poly c_Polynomial_ulenu oLen) (qCons (qVar 3) qNil)) (qB (oLenC .poly c_Polynomial_ulenu oLen) (qCons (qVar 1) qNil)))) r_Polynomial_parted_bd)
    (qRet (qTup (qCons (qVar 2) (qCons (qVar 3) qNil)))))
def r_Polynomial_parted : QS := (qSeq (qIfS (qTest (qBin (oSw .poly (oOwnC .poly cmt c_Polynomial_uequ) oEq) (qB (oLenC .poly c_Polynomial_ulenu oLen) (qCons (qVar 1) qNil)) (qC (.int 0)))) (qRaise0 .byZero) qNx)
    (qSeq (qPar 2 3 (qCons (qCall (mkC .poly c_Polynomial_uinitu) (qhVal (qLst qNil) qhNil)) (qCons (qVar 0) qNil)))
    r_Polynomial_parted_wh))
theorem pt_bd (f g q r : Pol) (A b : Nat) (hg : g ≠ 0) (hl : g.len ≤ r.len) (hr4 : r.len ≤ 40) (hg4 : g.len ≤ 40) (hq4 : q.len ≤ 41) (I : PI A b q r) (G : BP (2 ^ b) g) (hs : A + b + 1 + b ≤ 30000) (s4 s5 : Slot) (h4 : nvv s4) (h5 : nvv s5) (P : PEnds) (E : XP)
    (hn : ∀ s4 s5 : Slot, nvv s4 → nvv s5 → P.nx [.val (pD f), .val (pD g), .val (pD (pstep g q r).1), .val (pD (pstep g q r).2), s4, s5]) : r_Polynomial_parted_bd [.val (pD f), .val (pD g), .val (pD q), .val (pD r), s4, s5] P E := by
  have hg0 := _root_.Q.len_pos hg
  have hr : r ≠ 0 := fun e => by rw [e, len_zero] at hl; omega
  obtain ⟨I2, hfac⟩ := I.step G hg hr
  have lsz : ∀ {p : Pol} {s : Nat}, (∀ x ∈ p.l, Sz s x) → p ≠ 0 → Sz s p.lc := fun {p s} h hp => h _ (by
    have h0 := _root_.Q.len_pos hp
    have : p.lc = p.l[p.len - 1]'(by show _ < p.len; omega) := cf0_lt (by show _ < p.len; omega)
    rw [this]
    exact List.getElem_mem _)
  have rs := lsz I.sz.1 hr
  have gs := lsz G.sz hg
  refine ⟨_, pl_last hr, _, pl_last hg, r.lc, .rat g.lc, rfl, rfl, fun x hx => ?_, fun h => nomatch h⟩
  cases hx
  refine ⟨rs.mono (by omega), gs.mono (by omega), fun z => absurd z (lc_ne hg), fun _ => ?_⟩
  refine setV_mv (s := s4) rfl h4 ?_
  have lr : ((r.l.length : Nat) : Int) = (r.len : Int) := rfl
  have lg : ((g.l.length : Nat) : Int) = (g.len : Int) := rfl
  refine ⟨Nat.le_of_ble_eq_true rfl, r.l, rfl, Int.natCast_nonneg _, by rw [lr]; omega, g.l, rfl, Int.natCast_nonneg _, by rw [lg]; omega, ?_⟩
  have eN : ((r.l.length : Nat) : Int) - ((g.l.length : Nat) : Int) = ((r.len - g.len : Nat) : Int) := by rw [lr, lg]; omega
  refine ⟨by rw [eN]; simp; omega, by rw [eN]; omega, by rw [eN]; omega, ?_⟩
  rw [eN, Int.toNat_natCast, flat_repI]
  refine ⟨Nat.le_of_ble_eq_true rfl, by simp; omega, ?_⟩
  dsimp only [qhNil, ixs, ndb, hmut, argsOf, Hd.arg, dMo, Bool.and_self]
  show mkC .poly c_Polynomial_uinitu [.val (.lst (List.replicate (r.len - g.len) (D.int 0) ++ [.rat (r.lc / g.lc)]))] _ _
  refine mk_polyI (by simp; omega) (fun d hd => ?_) (fun d hd y hy => ?_) (numsQ_rep (r.lc / g.lc) (r.len - g.len)) ?_
  · rcases List.mem_append.mp hd with h | h
    · rw [List.eq_of_mem_replicate h]; rfl
    · rw [List.mem_singleton.mp h]; rfl
  · rcases List.mem_append.mp hd with h | h
    · rw [List.eq_of_mem_replicate h] at hy
      cases hy
      exact Sz.zero (by decide)
    · rw [List.mem_singleton.mp h] at hy
      cases hy
      exact hfac.mono (by omega)
  refine setV_mv (s := s5) rfl h5 ?_
  have hm : monoP (r.len - g.len) (r.lc / g.lc) ≠ 0 := mono_ne (div_ne (lc_ne hr) (lc_ne hg))
  have hml : (monoP (r.len - g.len) (r.lc / g.lc)).len = r.len - g.len + 1 := len_mono (div_ne (lc_ne hr) (lc_ne hg))
  have hms : ∀ x ∈ (monoP (r.len - g.len) (r.lc / g.lc)).l, Sz (A + b + 1) x := fun x hx => by
    have hx := trim_mem hx
    rcases List.mem_append.mp hx with h | h
    · rw [List.eq_of_mem_replicate h]; exact Sz.zero (by omega)
    · rw [List.mem_singleton.mp h]; exact hfac
  have qs := I.sz.2
  have gsz := G.sz
  refine ⟨q.l, (monoP (r.len - g.len) (r.lc / g.lc)).l, rfl, by show q.len ≤ 1000; omega, by show (monoP _ _).len ≤ 1000; omega, fun x hx => (qs x hx).mono (by omega), fun x hx => (hms x hx).mono (by omega), ?_⟩
  refine ⟨(monoP (r.len - g.len) (r.lc / g.lc)).l, g.l, A + b + 1, rfl, by show (monoP _ _).len ≤ 1000; omega, by show g.len ≤ 1000; omega, by omega, hms, fun x hx => (gsz x hx).mono (by omega), ?_, fun hmul => ?_⟩
  · show (monoP _ _).len * (2 * (A + b + 1) + 1) + 1 ≤ 3000000
    rw [hml]
    have : (r.len - g.len + 1) * (2 * (A + b + 1) + 1) ≤ 41 * (2 * 30000 + 1) := Nat.mul_le_mul (by omega) (by omega)
    omega
  have hpl : (trimR (mulL (monoP (r.len - g.len) (r.lc / g.lc)).l g.l)).length ≤ 1000 := by
    have e := len_mul hm hg
    have e2 : (trimR (mulL (monoP (r.len - g.len) (r.lc / g.lc)).l g.l)).length = (monoP (r.len - g.len) (r.lc / g.lc) * g).len := rfl
    omega
  refine ⟨r.l, trimR (mulL (monoP (r.len - g.len) (r.lc / g.lc)).l g.l), rfl, by show r.len ≤ 1000; omega, hpl, fun x hx => (I.sz.1 x hx).mono (by omega), fun x hx => hmul x (trim_mem hx), ?_⟩
  exact hn _ _ (.inr ⟨_, rfl⟩) (.inr ⟨_, rfl⟩)
theorem len_Polynomial_parted : ∀ args Q E, c_Polynomial_parted args Q E → args.length = ps_Polynomial_parted.length := by
  rintro args Q E ⟨_, _, _, _, rfl, _⟩
  rfl
theorem pure_Polynomial_parted : ∀ args Q E, c_Polynomial_parted args Q E → r_Polynomial_parted (startE N_Polynomial_parted.length args) (endsC args Q) (exnC args E) := by
  rintro args Q E ⟨f, g, a, b, rfl, hf4, hg4, h0, hq⟩
  have hbd := pt_bd f g
  unfold r_Polynomial_parted r_Polynomial_parted_wh
  generalize r_Polynomial_parted_bd = rr at hbd ⊢
  refine ⟨g.l, rfl, Int.natCast_nonneg _, by show ((g.len : Nat) : Int) < 2 ^ 63; omega, rfl, rfl, ?_⟩
  show (match PyData.eqv (.int (g.len : Int)) (.int 0) with | true => _ | false => _)
  rw [eqv_int]
  by_cases hg : g = 0
  · subst hg
    rw [len_zero]
    exact h0 rfl
  have hgl := _root_.Q.len_pos hg
  rw [show ((g.len : Int) == 0) = false by simp; omega]
  obtain ⟨F, G, hs, hq⟩ := hq hg
  refine ⟨Nat.le_of_ble_eq_true rfl, ?_⟩
  dsimp only [qhNil, ixs, ndb, hmut, argsOf, Hd.arg, dMo, Bool.and_self]
  show mkC .poly c_Polynomial_uinitu [.val (.lst (rts []))] _ _
  refine mk_poly (by simp) (fun _ h => nomatch h) ?_
  refine ⟨fun m Γ => ∃ (n A : Nat) (q r : Pol) (s4 s5 : Slot), Γ = [.val (pD f), .val (pD g), .val (pD q), .val (pD r), s4, s5] ∧ nvv s4 ∧ nvv s5 ∧ m = r.len ∧ r.len < n ∧ pgo n g q r = partedP f g ∧ PI A b q r ∧ A + r.len * (b + 1) ≤ a + f.len * (b + 1) ∧ r.len ≤ f.len ∧ q.len ≤ f.len + 1, ⟨_, f.len + 1, a, 0, f, .no, .no, rfl, .inl rfl, .inl rfl, rfl, by omega, rfl, PI.base F, Nat.le_refl _, Nat.le_refl _, by rw [len_zero]; omega⟩, ?_⟩
  rintro m Γ ⟨n, A, q, r, s4, s5, rfl, h4, h5, rfl, hn, hp, I, hA, hr, hql⟩
  have lr : ((r.l.length : Nat) : Int) = (r.len : Int) := rfl
  have lg : ((g.l.length : Nat) : Int) = (g.len : Int) := rfl
  refine ⟨r.l, rfl, Int.natCast_nonneg _, by rw [lr]; omega, g.l, rfl, Int.natCast_nonneg _, by rw [lg]; omega, ?_⟩
  show (match decide (((g.l.length : Nat) : Int) ≤ ((r.l.length : Nat) : Int)) with | true => _ | false => _)
  obtain ⟨k, rfl⟩ : ∃ k, n = k + 1 := ⟨n - 1, by omega⟩
  unfold pgo at hp
  by_cases hl : g.len ≤ r.len
  · rw [decide_eq_true (by rw [lr, lg]; omega)]
    rw [if_pos hl] at hp
    have hsl := step_len (q := q) hg hl
    have hrr : r ≠ 0 := fun e => by rw [e, len_zero] at hl; omega
    have hmul : r.len * (b + 1) ≥ ((pstep g q r).2.len + 1) * (b + 1) := Nat.mul_le_mul_right _ hsl
    have hmul2 : ((pstep g q r).2.len + 1) * (b + 1) = (pstep g q r).2.len * (b + 1) + (b + 1) := Nat.succ_mul _ _
    have hs2 : (f.len + 1) * (b + 1) = f.len * (b + 1) + (b + 1) := Nat.succ_mul _ _
    refine hbd q r A b hg hl (by omega) hg4 (by omega) I G (by omega) s4 s5 h4 h5 _ _ fun s4 s5 g4 g5 => ?_
    refine ⟨_, hsl, k, A + b + 1, _, _, s4, s5, rfl, g4, g5, rfl, by omega, hp, (I.step G hg hrr).1, by omega, by omega, ?_⟩
    show (q + monoP (r.len - g.len) (r.lc / g.lc)).len ≤ f.len + 1
    refine len_add hql ?_
    rw [len_mono (div_ne (lc_ne hrr) (lc_ne hg))]
    omega
  · rw [decide_eq_false (by rw [lr, lg]; omega)]
    rw [if_neg hl] at hp
    rw [← hp] at hq
    exact ⟨Nat.le_of_ble_eq_true rfl, hq⟩
theorem ok_Polynomial_parted {P : Program} {w : World} {K : Frag} {mg : Str → Option Value} {base : Heap} (W : Wd P K mg) (Fn : ∃ fd, FunD K d_Polynomial_parted.name d_Polynomial_parted.qual d_Polynomial_parted.params d_Polynomial_parted.body d_Polynomial_parted.scope (d_Polynomial_parted.dvs K) (d_Polynomial_parted.kws K) (d_Polynomial_parted.at_ K) fd) (h_Polynomial_uequ : FnB P w K mg base d_Polynomial_uequ 13 ps_Polynomial_uequ c_Polynomial_uequ) (h_Polynomial_ulenu : FnB P w K mg base d_Polynomial_ulenu 2 ps_Polynomial_ulenu c_Polynomial_ulenu) (h_Polynomial_uinitu : FnB P w K mg base d_Polynomial_uinitu 54 ps_Polynomial_uinitu c_Polynomial_uinitu) (h_Ratio_over : FnB P w K mg base d_Ratio_over 48 ps_Ratio_over c_Ratio_over) (h_Polynomial_uaddu : FnB P w K mg base d_Polynomial_uaddu 57 ps_Polynomial_uaddu c_Polynomial_uaddu) (h_Polynomial_umulu : FnB P w K mg base d_Polynomial_umulu 57 ps_Polynomial_umulu c_Polynomial_umulu) (h_Polynomial_usubu : FnB P w K mg base d_Polynomial_usubu 57 ps_Polynomial_usubu c_Polynomial_usubu) (e_ByZero : ∃ fd, Er0 P w (cf K) mg base .byZero (d_ByZero_uinitu.at_ K) fd ["self"]) : FnB P w K mg base d_Polynomial_parted 60 ps_Polynomial_parted c_Polynomial_parted := by
  obtain ⟨fd_ByZero, e_ByZero⟩ := e_ByZero
  refine FnB.of (N := N_Polynomial_parted) (r := r_Polynomial_parted) Fn sc_Polynomial_parted len_Polynomial_parted pure_Polynomial_parted ?_
  intro f cdv A outer s H E0 hr G0 H0 B pin xa xd xc E tk hp h0
  have sc := sc_Polynomial_parted
  have hu := roomU hr
  exact (lss_cons (ls_if (lt_cmp (ol_sw (ol_cmp rfl hr (fun _ _ => rfl) W.nf_Polynomial (cmp_ok (op := .Eq) rfl W.m_Polynomial_uequ) (h_Polynomial_uequ.all rfl rfl rfl rfl rfl rfl (hr.mono (by decide : 13 ≤ 59)) rfl rfl bd_Polynomial_uequ) tk) (ol_eq rfl hr)) (le_b (bl_lenC rfl (len_ok W.m_Polynomial_ulenu) (h_Polynomial_ulenu.all (A := Around.in1 _) rfl rfl rfl rfl rfl rfl (hr.mono (by decide : 2 + 1 ≤ 59)).in1 rfl rfl bd_Polynomial_ulenu) tk (bl_len rfl)) (la_cons (le_var 1) la_nil) W.f_len) le_int) (lss_one (ls_raise0 e_ByZero rfl (hr.mono (by decide : 0 + 2 ≤ 59)) rfl tk W.g_ByZero)) lss_nil)
    (lss_cons (ls_par 2 3 rfl sc.nd (la_cons (le_callC (code_make (pMk_ok W.mk_Polynomial) fun us kw => (h_Polynomial_uinitu.all rfl rfl rfl rfl rfl rfl ((hr.mono (by decide : 54 + 1 ≤ 59)).make _ us kw) rfl rfl bd_Polynomial_uinitu)) W.g_Polynomial W.mk_Polynomial.2.2.2 tk (lc_p (lh_val (le_lst la_nil) lh_nil))) (la_cons (le_var 0) la_nil)))
    (lss_cons (ls_while hp (lt_cmp ol_ge (le_b (bl_lenC rfl (len_ok W.m_Polynomial_ulenu) (h_Polynomial_ulenu.all (A := Around.in1 _) rfl rfl rfl rfl rfl rfl (hr.mono (by decide : 2 + 1 ≤ 59)).in1 rfl rfl bd_Polynomial_ulenu) tk (bl_len rfl)) (la_cons (le_var 3) la_nil) W.f_len) (le_b (bl_lenC rfl (len_ok W.m_Polynomial_ulenu) (h_Polynomial_ulenu.all (A := Around.in1 _) rfl rfl rfl rfl rfl rfl (hr.mono (by decide : 2 + 1 ≤ 59)).in1 rfl rfl bd_Polynomial_ulenu) tk (bl_len rfl)) (la_cons (le_var 1) la_nil) W.f_len)) (lss_cons (ls_set 4 sc.nd (le_methC (h_Ratio_over.all rfl rfl rfl rfl rfl rfl (hr.mono (by decide : 48 ≤ 59)) rfl rfl bd_Ratio_over) rfl W.kl_ratio (pMeth_ok W.m_Ratio_over) tk (lr_val (le_ix (il_ix rfl) (le_fld .poly 0 W.kl_poly rfl (le_var 3)) (le_un ul_neg le_int))) (lc_p (lh_val (le_ix (il_ix rfl) (le_fld .poly 0 W.kl_poly rfl (le_var 1)) (le_un ul_neg le_int)) lh_nil))))
    (lss_cons (ls_set 5 sc.nd (le_callC (code_make (pMk_ok W.mk_Polynomial) fun us kw => (h_Polynomial_uinitu.all rfl rfl rfl rfl rfl rfl ((hr.mono (by decide : 54 + 1 ≤ 59)).make _ us kw) rfl rfl bd_Polynomial_uinitu)) W.g_Polynomial W.mk_Polynomial.2.2.2 tk (lc_p (lh_val (le_bin (ol_sw (ol_ownS rfl (op_ok (op := .Add) rfl W.first_Polynomial W.m_Polynomial_uaddu) (h_Polynomial_uaddu.all rfl rfl rfl rfl rfl rfl (hr.mono (by decide : 57 ≤ 59)) rfl rfl bd_Polynomial_uaddu) tk) ol_add) (le_bin (ol_sw (ol_ownS rfl (op_ok (op := .Mult) rfl W.first_Polynomial W.m_Polynomial_umulu) (h_Polynomial_umulu.all rfl rfl rfl rfl rfl rfl (hr.mono (by decide : 57 ≤ 59)) rfl rfl bd_Polynomial_umulu) tk) ol_mul) (le_lst (la_cons le_int la_nil)) (le_bin (ol_sw (ol_ownS rfl (op_ok (op := .Sub) rfl W.first_Polynomial W.m_Polynomial_usubu) (h_Polynomial_usubu.all rfl rfl rfl rfl rfl rfl (hr.mono (by decide : 57 ≤ 59)) rfl rfl bd_Polynomial_usubu) tk) ol_sub) (le_b (bl_lenC rfl (len_ok W.m_Polynomial_ulenu) (h_Polynomial_ulenu.all (A := Around.in1 _) rfl rfl rfl rfl rfl rfl (hr.mono (by decide : 2 + 1 ≤ 59)).in1 rfl rfl bd_Polynomial_ulenu) tk (bl_len rfl)) (la_cons (le_var 3) la_nil) W.f_len) (le_b (bl_lenC rfl (len_ok W.m_Polynomial_ulenu) (h_Polynomial_ulenu.all (A := Around.in1 _) rfl rfl rfl rfl rfl rfl (hr.mono (by decide : 2 + 1 ≤ 59)).in1 rfl rfl bd_Polynomial_ulenu) tk (bl_len rfl)) (la_cons (le_var 1) la_nil) W.f_len))) (le_lst (la_cons (le_var 4) la_nil))) lh_nil))))
    (lss_cons (ls_set 2 sc.nd (le_bin (ol_sw (ol_ownS rfl (op_ok (op := .Add) rfl W.first_Polynomial W.m_Polynomial_uaddu) (h_Polynomial_uaddu.all rfl rfl rfl rfl rfl rfl (hr.mono (by decide : 57 ≤ 59)) rfl rfl bd_Polynomial_uaddu) tk) ol_add) (le_var 2) (le_var 5)))
    (lss_one (ls_set 3 sc.nd (le_bin (ol_sw (ol_ownS rfl (op_ok (op := .Sub) rfl W.first_Polynomial W.m_Polynomial_usubu) (h_Polynomial_usubu.all rfl rfl rfl rfl rfl rfl (hr.mono (by decide : 57 ≤ 59)) rfl rfl bd_Polynomial_usubu) tk) ol_sub) (le_var 3) (le_bin (ol_sw (ol_ownS rfl (op_ok (op := .Mult) rfl W.first_Polynomial W.m_Polynomial_umulu) (h_Polynomial_umulu.all rfl rfl rfl rfl rfl rfl (hr.mono (by decide : 57 ≤ 59)) rfl rfl bd_Polynomial_umulu) tk) ol_mul) (le_var 5) (le_var 1)))))))))
    (lss_one (ls_ret (le_tup (la_cons (le_var 2) (la_cons (le_var 3) la_nil))))))))
end K06
set_option Elab.async false
set_option linter.all false
set_option maxRecDepth 100000
set_option maxHeartbeats 4000000
namespace K06
open PySem L2 PySem.Spec PyProof.Rows He PySem.W Q
abbrev N_scaled : List Str := ["polynomial", "last", "term"]
abbrev ps_scaled : List Str := ["polynomial"]
theorem sc_scaled : FnScope N_scaled ps_scaled d_scaled.scope := ⟨rfl, rfl, rfl, by decide +kernel, rfl, by decide +kernel, by decide +kernel⟩
theorem bd_scaled : ∀ (kV doc pm : Value) (an : Option Addr) (cdv ct : Value) (us : List Value), us.length = ps_scaled.length → bindArgs (fnOf d_scaled.name d_scaled.qual d_scaled.params d_scaled.body d_scaled.scope .none kV doc pm an cdv ct) ⟨us, []⟩ = pure (ps_scaled.zip us) := fun _ _ _ _ _ _ us hl => match us, hl with | [_], _ => rfl
theorem divL_rts (p : Pol) (a : Rat) : (List.range (rts p.l).length).map (fun i => D.rat (cf0 p.l i / a)) = rts (p.l.map fun t => t / a) := by
  refine List.ext_getElem? fun i => ?_
  unfold rts
  rw [List.getElem?_map, List.getElem?_map, List.getElem?_map]
  by_cases h : i < p.l.length
  · rw [List.getElem?_range (by rw [List.length_map]; exact h), List.getElem?_eq_getElem h]
    show some (D.rat (cf0 p.l i / a)) = some (D.rat (p.l[i] / a))
    rw [cf0_lt h]
  · rw [List.getElem?_eq_none (by rw [List.length_range, List.length_map]; omega), List.getElem?_eq_none (l := p.l) (by omega)]
    rfl
theorem div_sz {b : Nat} {p : Pol} {a : Rat} (h : BP (2 ^ b) p) (ha : a ≠ 0) (hk : ∃ k, a = p.cf k ∨ a = -p.cf k) : ∀ x ∈ p.l.map (fun t => t / a), Sz (b + 1) x := fun x hx => by
  obtain ⟨M, m0, mB, h1⟩ := h.own ha hk
  obtain ⟨y, hy, rfl⟩ := List.mem_map.mp hx
  obtain ⟨i, hi, e⟩ := List.getElem_of_mem hy
  have e2 : (divC p a).cf i = y / a := by
    rw [divC, mk_cf, cf0_map (fun t => t / a) (by rw [Rat.div_def]; grind), cf0_lt hi, e]
  have := h1 i
  rw [e2] at this
  have lt : ∀ {x a : Nat}, x ≤ 2 ^ a → x < 2 ^ (a + 1) := fun h => Nat.lt_of_le_of_lt h (Nat.pow_lt_pow_right (by decide) (by omega))
  exact this.sz m0 (lt mB) (lt (Nat.le_refl _))
theorem len_int (p : Pol) (h : p.len ≤ 60) : (0 : Int) ≤ ((p.l.length : Nat) : Int) ∧ ((p.l.length : Nat) : Int) < 2 ^ 63 := ⟨Int.natCast_nonneg _, by show ((p.len : Nat) : Int) < 2 ^ 63; omega⟩
def c_scaled : Ct := fun args Q _ => ∃ (f : Pol) (b : Nat), args = [.val (pD f)] ∧ f.len ≤ 40 ∧ BP (2 ^ b) f ∧ b ≤ 60000 ∧ Q (pD (scl f)) args
def r_scaled : QS := (qSeq (qIfS (qTest (qBin oEq (qB (oLenC .poly c_Polynomial_ulenu oLen) (qCons (qVar 0) qNil)) (qC (.int 0)))) (qRet (qVar 0)) qNx)
    (qSeq (qSet 1 (qBin oIx (qMeth c_Polynomial_terms (qrVal .poly (qVar 0)) qhNil) (qUn oNeg (qC (.int 1)))))
    (qRet (qCall (mkC .poly c_Polynomial_uinitu) (qhVal (qTell (qnLc (qiSeq (qMeth c_Polynomial_terms (qrVal .poly (qVar 0)) qhNil)) (gV 2) qYes (qMeth c_Ratio_over (qrVal .ratio (qVar 2)) (qhVal (qVar 1) qhNil)) [2])) qhNil)))))
theorem len_scaled : ∀ args Q E, c_scaled args Q E → args.length = ps_scaled.length := by
  rintro args Q E ⟨_, _, rfl, _⟩
  rfl
theorem pure_scaled : ∀ args Q E, c_scaled args Q E → r_scaled (startE N_scaled.length args) (endsC args Q) (exnC args E) := by
  rintro args Q E ⟨f, b, rfl, hl, F, hb, hq⟩
  refine ⟨f.l, rfl, (len_int f (by omega)).1, (len_int f (by omega)).2, rfl, rfl, ?_⟩
  show (match PyData.eqv (.int (f.len : Int)) (.int 0) with | true => _ | false => _)
  rw [eqv_int]
  by_cases hf : f = 0
  · subst hf
    rw [len_zero]
    rw [scl_zero] at hq
    exact hq
  have hfl := _root_.Q.len_pos hf
  rw [show ((f.len : Int) == 0) = false by simp; omega]
  refine ⟨f.l, rfl, _, pl_last hf, ?_⟩
  refine ⟨f.l, rfl, ?_⟩
  have fs := F.sz
  have hlc := lc_ne hf
  show qLcGo none _ _ _ _ (rts f.l) [] [.val (pD f), .val (.rat f.lc), .no] _ _
  refine lc_map (fun i => .rat (cf0 f.l i / f.lc)) (by rw [rts_len]; show f.len ≤ _; omega) trivial (fun i d Z X ed hZ => ?_) ?_
  · obtain ⟨x, hx, rfl⟩ := rts_get ed
    have hi := (List.getElem?_eq_some_iff.mp hx)
    have hxs := fs x (List.mem_of_getElem? hx)
    have hls : Sz (b + 1) f.lc := fs _ (by
      have : f.lc = f.l[f.len - 1]'(by show _ < f.len; omega) := cf0_lt (by show _ < f.len; omega)
      rw [this]
      exact List.getElem_mem _)
    refine ⟨x, .rat f.lc, rfl, rfl, fun y hy => ?_, fun h => nomatch h⟩
    cases hy
    refine ⟨hxs.mono (by omega), hls.mono (by omega), fun z => absurd z hlc, fun _ => ?_⟩
    rw [cf0_lt hi.1, hi.2] at hZ
    exact hZ _ rfl
  · rw [divL_rts]
    dsimp only [qhNil, ixs, ndb, hmut, argsOf, Hd.arg, dMo, Bool.and_self]
    show mkC .poly c_Polynomial_uinitu [.val (.lst (rts (f.l.map fun t => t / f.lc)))] _ _
    refine mk_poly (by rw [List.length_map]; show f.len ≤ _; omega) (fun q hq => ((div_sz F hlc ⟨_, .inl rfl⟩) q hq).mono (by omega)) ?_
    unfold scl at hq
    rw [if_neg (fun z => hf (len_eq0.mp z))] at hq
    exact hq
theorem ok_scaled {P : Program} {w : World} {K : Frag} {mg : Str → Option Value} {base : Heap} (W : Wd P K mg) (Fn : ∃ fd, FunD K d_scaled.name d_scaled.qual d_scaled.params d_scaled.body d_scaled.scope (d_scaled.dvs K) (d_scaled.kws K) (d_scaled.at_ K) fd) (h_Polynomial_ulenu : FnB P w K mg base d_Polynomial_ulenu 2 ps_Polynomial_ulenu c_Polynomial_ulenu) (h_Polynomial_terms : FnB P w K mg base d_Polynomial_terms 2 ps_Polynomial_terms c_Polynomial_terms) (h_Polynomial_uinitu : FnB P w K mg base d_Polynomial_uinitu 54 ps_Polynomial_uinitu c_Polynomial_uinitu) (h_Ratio_over : FnB P w K mg base d_Ratio_over 48 ps_Ratio_over c_Ratio_over) : FnB P w K mg base d_scaled 57 ps_scaled c_scaled := by
  refine FnB.of (N := N_scaled) (r := r_scaled) Fn sc_scaled len_scaled pure_scaled ?_
  intro f cdv A outer s H E0 hr G0 H0 B pin xa xd xc E tk hp h0
  have sc := sc_scaled
  have hu := roomU hr
  exact (lss_cons (ls_if (lt_cmp (ol_eq rfl hr) (le_b (bl_lenC rfl (len_ok W.m_Polynomial_ulenu) (h_Polynomial_ulenu.all (A := Around.in1 _) rfl rfl rfl rfl rfl rfl (hr.mono (by decide : 2 + 1 ≤ 56)).in1 rfl rfl bd_Polynomial_ulenu) tk (bl_len rfl)) (la_cons (le_var 0) la_nil) W.f_len) le_int) (lss_one (ls_ret (le_var 0))) lss_nil)
    (lss_cons (ls_set 1 sc.nd (le_ix (il_ix rfl) (le_methC (h_Polynomial_terms.all rfl rfl rfl rfl rfl rfl (hr.mono (by decide : 2 ≤ 56)) rfl rfl bd_Polynomial_terms) rfl W.kl_poly (pMeth_ok W.m_Polynomial_terms) tk (lr_val (le_var 0)) lc_0) (le_un ul_neg le_int)))
    (lss_one (ls_ret (le_callC (code_make (pMk_ok W.mk_Polynomial) fun us kw => (h_Polynomial_uinitu.all rfl rfl rfl rfl rfl rfl ((hr.mono (by decide : 54 + 1 ≤ 56)).make _ us kw) rfl rfl bd_Polynomial_uinitu)) W.g_Polynomial W.mk_Polynomial.2.2.2 tk (lc_p (lh_val (le_tell (ln_lc [("term", 2)] rfl sc.nd (Tk.def tk) (li_seq rfl (le_methC (h_Polynomial_terms.all rfl rfl rfl rfl rfl rfl (hr.mono (by decide : 2 ≤ 56)) rfl rfl bd_Polynomial_terms) rfl W.kl_poly (pMeth_ok W.m_Polynomial_terms) tk (lr_val (le_var 0)) lc_0)) (blkOk_by (by kernel_rfl)) (fun b q => (lgv_name 2 sc.nd)) (fun b q E' tk => lts_nil) (fun b q E' tk => (le_methC (h_Ratio_over.all rfl rfl rfl rfl rfl rfl (hr.mono (by decide : 48 ≤ 56)) rfl rfl bd_Ratio_over) rfl W.kl_ratio (pMeth_ok W.m_Ratio_over) tk.t (lr_val (le_var 2)) (lc_p (lh_val (le_var 1) lh_nil)))))) lh_nil)))))))
abbrev N_levelled : List Str := ["polynomial", "last", "term"]
abbrev ps_levelled : List Str := ["polynomial"]
theorem sc_levelled : FnScope N_levelled ps_levelled d_levelled.scope := ⟨rfl, rfl, rfl, by decide +kernel, rfl, by decide +kernel, by decide +kernel⟩
theorem bd_levelled : ∀ (kV doc pm : Value) (an : Option Addr) (cdv ct : Value) (us : List Value), us.length = ps_levelled.length → bindArgs (fnOf d_levelled.name d_levelled.qual d_levelled.params d_levelled.body d_levelled.scope .none kV doc pm an cdv ct) ⟨us, []⟩ = pure (ps_levelled.zip us) := fun _ _ _ _ _ _ us hl => match us, hl with | [_], _ => rfl
def c_levelled : Ct := fun args Q _ => ∃ (f : Pol) (b : Nat), args = [.val (pD f)] ∧ f.len ≤ 40 ∧ BP (2 ^ b) f ∧ b ≤ 60000 ∧ Q (pD (lev f)) args
def r_levelled : QS := (qSeq (qIfS (qTest (qBin (oSw .ratio (oOwnC .ratio cmt c_Ratio_uequ) oEq) (qB (oLenC .poly c_Polynomial_ulenu oLen) (qCons (qVar 0) qNil)) (qC (.int 0)))) (qRet (qVar 0)) qNx)
    (qSeq (qSet 1 (qBin oIx (qMeth c_Polynomial_terms (qrVal .poly (qVar 0)) qhNil) (qUn oNeg (qC (.int 1)))))
    (qRet (qCall (mkC .poly c_Polynomial_uinitu) (qhVal (qTell (qnLc (qiSeq (qMeth c_Polynomial_terms (qrVal .poly (qVar 0)) qhNil)) (gV 2) qYes (qMeth c_Ratio_over (qrVal .ratio (qVar 2)) (qhVal (qIf (qTest (qBin oGt (qUn oTop (qVar 1)) (qC (.int 0)))) (qVar 1) (qUn (oSw1 .ratio (oOwn1 .ratio c_Ratio_unegu) oNeg) (qVar 1))) qhNil)) [2])) qhNil)))))
theorem len_levelled : ∀ args Q E, c_levelled args Q E → args.length = ps_levelled.length := by
  rintro args Q E ⟨_, _, rfl, _⟩
  rfl
theorem pure_levelled : ∀ args Q E, c_levelled args Q E → r_levelled (startE N_levelled.length args) (endsC args Q) (exnC args E) := by
  rintro args Q E ⟨f, b, rfl, hl, F, hb, hq⟩
  refine ⟨f.l, rfl, (len_int f (by omega)).1, (len_int f (by omega)).2, rfl, rfl, ?_⟩
  show (match PyData.eqv (.int (f.len : Int)) (.int 0) with | true => _ | false => _)
  rw [eqv_int]
  by_cases hf : f = 0
  · subst hf
    rw [len_zero]
    rw [lev_zero] at hq
    exact hq
  have hfl := _root_.Q.len_pos hf
  rw [show ((f.len : Int) == 0) = false by simp; omega]
  refine ⟨f.l, rfl, _, pl_last hf, ?_⟩
  refine ⟨f.l, rfl, ?_⟩
  have fs := F.sz
  have hlc := lc_ne hf
  have hab := absR_ne hlc
  have hls : Sz (b + 1) f.lc := fs _ (by
    have : f.lc = f.l[f.len - 1]'(by show _ < f.len; omega) := cf0_lt (by show _ < f.len; omega)
    rw [this]
    exact List.getElem_mem _)
  show qLcGo none _ _ _ _ (rts f.l) [] [.val (pD f), .val (.rat f.lc), .no] _ _
  refine lc_map (fun i => .rat (cf0 f.l i / absR f.lc)) (by rw [rts_len]; show f.len ≤ _; omega) trivial (fun i d Z X ed hZ => ?_) ?_
  · obtain ⟨x, hx, rfl⟩ := rts_get ed
    have hi := (List.getElem?_eq_some_iff.mp hx)
    have hxs := fs x (List.mem_of_getElem? hx)
    rw [cf0_lt hi.1, hi.2] at hZ
    show (match decide (0 < f.lc.num) with | true => _ | false => _)
    by_cases hn : 0 < f.lc.num
    · rw [decide_eq_true hn]
      have ea : absR f.lc = f.lc := if_pos hn
      rw [ea] at hZ
      refine ⟨x, .rat f.lc, rfl, rfl, fun y hy => ?_, fun h => nomatch h⟩
      cases hy
      exact ⟨hxs.mono (by omega), hls.mono (by omega), fun z => absurd z hlc, fun _ => hZ _ rfl⟩
    · rw [decide_eq_false hn]
      have ea : absR f.lc = -f.lc := if_neg hn
      rw [ea] at hZ hab
      refine ⟨f.lc, rfl, hls.mono (by omega), ?_⟩
      refine ⟨x, .rat (-f.lc), rfl, rfl, fun y hy => ?_, fun h => nomatch h⟩
      cases hy
      exact ⟨hxs.mono (by omega), (hls.neg).mono (by omega), fun z => absurd z hab, fun _ => hZ _ rfl⟩
  · rw [divL_rts]
    dsimp only [qhNil, ixs, ndb, hmut, argsOf, Hd.arg, dMo, Bool.and_self]
    show mkC .poly c_Polynomial_uinitu [.val (.lst (rts (f.l.map fun t => t / absR f.lc)))] _ _
    refine mk_poly (by rw [List.length_map]; show f.len ≤ _; omega) (fun q hq => ((div_sz F hab ⟨f.len - 1, by unfold absR; split <;> first | exact .inl rfl | exact .inr rfl⟩) q hq).mono (by omega)) ?_
    unfold lev at hq
    rw [if_neg (fun z => hf (len_eq0.mp z))] at hq
    exact hq
theorem ok_levelled {P : Program} {w : World} {K : Frag} {mg : Str → Option Value} {base : Heap} (W : Wd P K mg) (Fn : ∃ fd, FunD K d_levelled.name d_levelled.qual d_levelled.params d_levelled.body d_levelled.scope (d_levelled.dvs K) (d_levelled.kws K) (d_levelled.at_ K) fd) (h_Ratio_uequ : FnB P w K mg base d_Ratio_uequ 8 ps_Ratio_uequ c_Ratio_uequ) (h_Polynomial_ulenu : FnB P w K mg base d_Polynomial_ulenu 2 ps_Polynomial_ulenu c_Polynomial_ulenu) (h_Polynomial_terms : FnB P w K mg base d_Polynomial_terms 2 ps_Polynomial_terms c_Polynomial_terms) (h_Polynomial_uinitu : FnB P w K mg base d_Polynomial_uinitu 54 ps_Polynomial_uinitu c_Polynomial_uinitu) (h_Ratio_over : FnB P w K mg base d_Ratio_over 48 ps_Ratio_over c_Ratio_over) (h_Ratio_unegu : FnB P w K mg base d_Ratio_unegu 48 ps_Ratio_unegu c_Ratio_unegu) : FnB P w K mg base d_levelled 57 ps_levelled c_levelled := by
  refine FnB.of (N := N_levelled) (r := r_levelled) Fn sc_levelled len_levelled pure_levelled ?_
  intro f cdv A outer s H E0 hr G0 H0 B pin xa xd xc E tk hp h0
  have sc := sc_levelled
  have hu := roomU hr
  exact (lss_cons (ls_if (lt_cmp (ol_sw (ol_cmp rfl hr (fun _ _ => rfl) W.nf_Ratio (cmp_ok (op := .Eq) rfl W.m_Ratio_uequ) (h_Ratio_uequ.all rfl rfl rfl rfl rfl rfl (hr.mono (by decide : 8 ≤ 56)) rfl rfl bd_Ratio_uequ) tk) (ol_eq rfl hr)) (le_b (bl_lenC rfl (len_ok W.m_Polynomial_ulenu) (h_Polynomial_ulenu.all (A := Around.in1 _) rfl rfl rfl rfl rfl rfl (hr.mono (by decide : 2 + 1 ≤ 56)).in1 rfl rfl bd_Polynomial_ulenu) tk (bl_len rfl)) (la_cons (le_var 0) la_nil) W.f_len) le_int) (lss_one (ls_ret (le_var 0))) lss_nil)
    (lss_cons (ls_set 1 sc.nd (le_ix (il_ix rfl) (le_methC (h_Polynomial_terms.all rfl rfl rfl rfl rfl rfl (hr.mono (by decide : 2 ≤ 56)) rfl rfl bd_Polynomial_terms) rfl W.kl_poly (pMeth_ok W.m_Polynomial_terms) tk (lr_val (le_var 0)) lc_0) (le_un ul_neg le_int)))
    (lss_one (ls_ret (le_callC (code_make (pMk_ok W.mk_Polynomial) fun us kw => (h_Polynomial_uinitu.all rfl rfl rfl rfl rfl rfl ((hr.mono (by decide : 54 + 1 ≤ 56)).make _ us kw) rfl rfl bd_Polynomial_uinitu)) W.g_Polynomial W.mk_Polynomial.2.2.2 tk (lc_p (lh_val (le_tell (ln_lc [("term", 2)] rfl sc.nd (Tk.def tk) (li_seq rfl (le_methC (h_Polynomial_terms.all rfl rfl rfl rfl rfl rfl (hr.mono (by decide : 2 ≤ 56)) rfl rfl bd_Polynomial_terms) rfl W.kl_poly (pMeth_ok W.m_Polynomial_terms) tk (lr_val (le_var 0)) lc_0)) (blkOk_by (by kernel_rfl)) (fun b q => (lgv_name 2 sc.nd)) (fun b q E' tk => lts_nil) (fun b q E' tk => (le_methC (h_Ratio_over.all rfl rfl rfl rfl rfl rfl (hr.mono (by decide : 48 ≤ 56)) rfl rfl bd_Ratio_over) rfl W.kl_ratio (pMeth_ok W.m_Ratio_over) tk.t (lr_val (le_var 2)) (lc_p (lh_val (le_if (lt_cmp ol_gt (le_top W.kl_ratio rfl (le_var 1)) le_int) (le_var 1) (le_un (ul_sw (ul_own rfl (neg_ok W.m_Ratio_unegu) (h_Ratio_unegu.all rfl rfl rfl rfl rfl rfl (hr.mono (by decide : 48 ≤ 56)) rfl rfl bd_Ratio_unegu) tk.t) ul_neg) (le_var 1))) lh_nil)))))) lh_nil)))))))
abbrev N_common : List Str := ["one", "other"]
abbrev ps_common : List Str := ["one", "other"]
theorem sc_common : FnScope N_common ps_common d_common.scope := ⟨rfl, rfl, rfl, by decide +kernel, rfl, by decide +kernel, by decide +kernel⟩
theorem bd_common : ∀ (kV doc pm : Value) (an : Option Addr) (cdv ct : Value) (us : List Value), us.length = ps_common.length → bindArgs (fnOf d_common.name d_common.qual d_common.params d_common.body d_common.scope .none kV doc pm an cdv ct) ⟨us, []⟩ = pure (ps_common.zip us) := fun _ _ _ _ _ _ us hl => match us, hl with | [_, _], _ => rfl
def c_common : Ct := fun args Q _ => ∃ (f g : Pol) (l β : Nat), args = [.val (pD f), .val (pD g)] ∧ l ≤ 5 ∧ f.len ≤ 2 ^ l ∧ g.len ≤ 2 ^ l ∧ BP (2 ^ β) f ∧ BP (2 ^ β) g ∧ (eB l β + 1) * (2 ^ l + 3) ≤ 30000 ∧ Q (pD (commonP f g)) args
def r_common : QS := (qSeq (qWhile (qTest (qBin oGt (qB (oLenC .poly c_Polynomial_ulenu oLen) (qCons (qVar 1) qNil)) (qC (.int 0)))) (qPar 0 1 (qCons (qVar 1) (qCons (qCall c_levelled (qhVal (qBin oIx (qMeth c_Polynomial_parted (qrVal .poly (qVar 0)) (qhVal (qVar 1) qhNil)) (qC (.int 1))) qhNil)) qNil))))
    (qRet (qCall c_scaled (qhVal (qVar 0) qhNil))))
theorem len_common : ∀ args Q E, c_common args Q E → args.length = ps_common.length := by
  rintro args Q E ⟨_, _, _, _, rfl, _⟩
  rfl
theorem pure_common : ∀ args Q E, c_common args Q E → r_common (startE N_common.length args) (endsC args Q) (exnC args E) := by
  rintro args Q E ⟨f, g, l, β, rfl, hl, lf, lg, F, G, hs, hq⟩
  have h32 : 2 ^ l ≤ 32 := p2 (b := 5) hl
  refine ⟨fun m Γ => ∃ (n : Nat) (a b : Pol), Γ = [.val (pD a), .val (pD b)] ∧ m = b.len ∧ b.len < n ∧ gcdP n a b = commonP f g ∧ EU f g (eB l β) a b, ⟨_, g.len + 1, f, g, rfl, rfl, by omega, rfl, EU.base F G⟩, ?_⟩
  rintro m Γ ⟨n, a, b, rfl, rfl, hn, hg, I⟩
  have ha : a.len ≤ 2 ^ l := by rcases I.la with z | z <;> omega
  have hb : b.len ≤ 2 ^ l := by have := I.lb; omega
  refine ⟨b.l, rfl, (len_int b (by omega)).1, (len_int b (by omega)).2, ?_⟩
  obtain ⟨k, rfl⟩ : ∃ k, n = k + 1 := ⟨n - 1, by omega⟩
  unfold gcdP at hg
  show (match decide (0 < ((b.len : Nat) : Int)) with | true => _ | false => _)
  by_cases hb0 : b = 0
  · rw [decide_eq_false (by rw [hb0, len_zero]; decide)]
    rw [if_pos (by rw [hb0, len_zero])] at hg
    rw [← hg] at hq
    have h1 : eB l β + 1 ≤ (eB l β + 1) * (2 ^ l + 3) := Nat.le_mul_of_pos_right _ (by omega)
    refine ⟨a, eB l β, rfl, by omega, I.A, by omega, ?_⟩
    exact hq
  · have hb1 := _root_.Q.len_pos hb0
    rw [decide_eq_true (by omega)]
    rw [if_neg (by omega)] at hg
    obtain ⟨s1, s2⟩ := parted_spec (f := a) hb0
    have pb := (parted_pi I.A I.B hb0).bp.1
    have hmul : (eB l β + 1) * (a.len + 3) ≤ (eB l β + 1) * (2 ^ l + 3) := Nat.mul_le_mul_left _ (by omega)
    have e1 : (eB l β + 1) * (a.len + 3) = a.len * (eB l β + 1) + 3 * (eB l β + 1) := by rw [Nat.mul_comm, Nat.add_mul]
    have e2 : (a.len + 1) * (eB l β + 1) = a.len * (eB l β + 1) + (eB l β + 1) := Nat.succ_mul _ _
    refine ⟨a, b, eB l β, eB l β, rfl, by omega, by omega, fun z => absurd z hb0, fun _ => ⟨I.A, I.B, by omega, ?_⟩⟩
    refine ⟨_, rfl, (partedP a b).2, _, rfl, by omega, pb, by omega, ?_⟩
    exact ⟨_, by rw [lev_len]; exact s2, k, b, lev (partedP a b).2, rfl, rfl, by rw [lev_len]; omega, hg, I.step F G lf lg hb0⟩
theorem ok_common {P : Program} {w : World} {K : Frag} {mg : Str → Option Value} {base : Heap} (W : Wd P K mg) (Fn : ∃ fd, FunD K d_common.name d_common.qual d_common.params d_common.body d_common.scope (d_common.dvs K) (d_common.kws K) (d_common.at_ K) fd) (h_Polynomial_ulenu : FnB P w K mg base d_Polynomial_ulenu 2 ps_Polynomial_ulenu c_Polynomial_ulenu) (h_levelled : FnB P w K mg base d_levelled 57 ps_levelled c_levelled) (h_Polynomial_parted : FnB P w K mg base d_Polynomial_parted 60 ps_Polynomial_parted c_Polynomial_parted) (h_scaled : FnB P w K mg base d_scaled 57 ps_scaled c_scaled) : FnB P w K mg base d_common 63 ps_common c_common := by
  refine FnB.of (N := N_common) (r := r_common) Fn sc_common len_common pure_common ?_
  intro f cdv A outer s H E0 hr G0 H0 B pin xa xd xc E tk hp h0
  have sc := sc_common
  have hu := roomU hr
  exact (lss_cons (ls_while hp (lt_cmp ol_gt (le_b (bl_lenC rfl (len_ok W.m_Polynomial_ulenu) (h_Polynomial_ulenu.all (A := Around.in1 _) rfl rfl rfl rfl rfl rfl (hr.mono (by decide : 2 + 1 ≤ 62)).in1 rfl rfl bd_Polynomial_ulenu) tk (bl_len rfl)) (la_cons (le_var 1) la_nil) W.f_len) le_int) (lss_one (ls_par 0 1 rfl sc.nd (la_cons (le_var 1) (la_cons (le_callC (h_levelled.all rfl rfl rfl rfl rfl rfl (hr.mono (by decide : 57 ≤ 62)) rfl rfl bd_levelled) W.g_levelled h_levelled.kp tk (lc_p (lh_val (le_ix (il_ix rfl) (le_methC (h_Polynomial_parted.all rfl rfl rfl rfl rfl rfl (hr.mono (by decide : 60 ≤ 62)) rfl rfl bd_Polynomial_parted) rfl W.kl_poly (pMeth_ok W.m_Polynomial_parted) tk (lr_val (le_var 0)) (lc_p (lh_val (le_var 1) lh_nil))) le_int) lh_nil))) la_nil)))))
    (lss_one (ls_ret (le_callC (h_scaled.all rfl rfl rfl rfl rfl rfl (hr.mono (by decide : 57 ≤ 62)) rfl rfl bd_scaled) W.g_scaled h_scaled.kp tk (lc_p (lh_val (le_var 0) lh_nil))))))
abbrev N_single : List Str := ["polynomial"]
abbrev ps_single : List Str := ["polynomial"]
theorem sc_single : FnScope N_single ps_single d_single.scope := ⟨rfl, rfl, rfl, by decide +kernel, rfl, by decide +kernel, by decide +kernel⟩
theorem bd_single : ∀ (kV doc pm : Value) (an : Option Addr) (cdv ct : Value) (us : List Value), us.length = ps_single.length → bindArgs (fnOf d_single.name d_single.qual d_single.params d_single.body d_single.scope .none kV doc pm an cdv ct) ⟨us, []⟩ = pure (ps_single.zip us) := fun _ _ _ _ _ _ us hl => match us, hl with | [_], _ => rfl
def c_single : Ct := fun args Q E => ∃ (f : Pol) (l β : Nat), args = [.val (pD f)] ∧ l ≤ 5 ∧ f.len ≤ 2 ^ l ∧ (f = 0 → E ⟨.zeroPolynomial, []⟩ args) ∧ (f ≠ 0 → BP (2 ^ β) f ∧ (eB l (β + l) + 1) * (2 ^ l + 3) ≤ 30000 ∧ Q (pD (singleP f)) args)
def r_single : QS := (qSeq (qIfS (qTest (qBin oEq (qB (oLenC .poly c_Polynomial_ulenu oLen) (qCons (qVar 0) qNil)) (qC (.int 0)))) (qRaise0 .zeroPolynomial) qNx)
    (qRet (qCall c_scaled (qhVal (qBin oIx (qMeth c_Polynomial_parted (qrVal .poly (qVar 0)) (qhVal (qCall c_common (qhVal (qVar 0) (qhVal (qMeth c_Polynomial_slope (qrVal .poly (qVar 0)) qhNil) qhNil))) qhNil)) (qC (.int 0))) qhNil))))
theorem len_single : ∀ args Q E, c_single args Q E → args.length = ps_single.length := by
  rintro args Q E ⟨_, _, _, rfl, _⟩
  rfl
theorem pure_single : ∀ args Q E, c_single args Q E → r_single (startE N_single.length args) (endsC args Q) (exnC args E) := by
  rintro args Q E ⟨f, l, β, rfl, hl, lf, h0, hq⟩
  have h32 : 2 ^ l ≤ 32 := p2 (b := 5) hl
  refine ⟨f.l, rfl, (len_int f (by omega)).1, (len_int f (by omega)).2, rfl, rfl, ?_⟩
  show (match PyData.eqv (.int (f.len : Int)) (.int 0) with | true => _ | false => _)
  rw [eqv_int]
  by_cases hf : f = 0
  · subst hf
    rw [len_zero]
    exact h0 rfl
  have hfl := _root_.Q.len_pos hf
  rw [show ((f.len : Int) == 0) = false by simp; omega]
  obtain ⟨F, hs, hq⟩ := hq hf
  have F2 : BP (2 ^ (β + l)) f := F.mono (p2 (by omega))
  have G2 := slope_bp F lf
  have lg : (slopeP f).len ≤ 2 ^ l := by rw [slope_len]; omega
  have h1 : eB l (β + l) + 1 ≤ (eB l (β + l) + 1) * (2 ^ l + 3) := Nat.le_mul_of_pos_right _ (by omega)
  have hge := eB_ge l (β + l)
  refine ⟨f.l, rfl, by show f.len ≤ 1000; omega, fun x hx => (F.sz x hx).mono (by omega), ?_⟩
  refine ⟨f, slopeP f, l, β + l, rfl, hl, lf, lg, F2, G2, hs, ?_⟩
  have C := common_bp F2 G2 lf lg
  have cne : commonP f (slopeP f) ≠ 0 := fun z => hf (by
    obtain ⟨u, hu⟩ := (common_is f (slopeP f)).df
    rw [hu, z]; grind)
  have hcl : (commonP f (slopeP f)).len ≤ f.len := (common_is f (slopeP f)).df.len hf
  have hmul : (eB l (β + l) + 1) * (f.len + 3) ≤ (eB l (β + l) + 1) * (2 ^ l + 3) := Nat.mul_le_mul_left _ (by omega)
  have e1 : (eB l (β + l) + 1) * (f.len + 3) = f.len * (eB l (β + l) + 1) + 3 * (eB l (β + l) + 1) := by rw [Nat.mul_comm, Nat.add_mul]
  have e2 : (f.len + 1) * (eB l (β + l) + 1) = f.len * (eB l (β + l) + 1) + (eB l (β + l) + 1) := Nat.succ_mul _ _
  refine ⟨f, commonP f (slopeP f), β + l, eB l (β + l), rfl, by omega, by omega, fun z => absurd z cne, fun _ => ⟨F2, C, by omega, ?_⟩⟩
  have pb := (parted_pi F2 C cne).bp.2
  obtain ⟨s1, s2⟩ := parted_spec (f := f) cne
  obtain ⟨_, q2⟩ := quo_len cne s1 s2
  have q2 := q2 hcl
  have c1 := _root_.Q.len_pos cne
  exact ⟨_, rfl, (partedP f (commonP f (slopeP f))).1, _, rfl, by omega, pb, by omega, hq⟩
theorem ok_single {P : Program} {w : World} {K : Frag} {mg : Str → Option Value} {base : Heap} (W : Wd P K mg) (Fn : ∃ fd, FunD K d_single.name d_single.qual d_single.params d_single.body d_single.scope (d_single.dvs K) (d_single.kws K) (d_single.at_ K) fd) (h_Polynomial_ulenu : FnB P w K mg base d_Polynomial_ulenu 2 ps_Polynomial_ulenu c_Polynomial_ulenu) (h_scaled : FnB P w K mg base d_scaled 57 ps_scaled c_scaled) (h_Polynomial_parted : FnB P w K mg base d_Polynomial_parted 60 ps_Polynomial_parted c_Polynomial_parted) (h_common : FnB P w K mg base d_common 63 ps_common c_common) (h_Polynomial_slope : FnB P w K mg base d_Polynomial_slope 57 ps_Polynomial_slope c_Polynomial_slope) (e_ZeroPolynomial : ∃ fd, Er0 P w (cf K) mg base .zeroPolynomial (d_ZeroPolynomial_uinitu.at_ K) fd ["self"]) : FnB P w K mg base d_single 66 ps_single c_single := by
  obtain ⟨fd_ZeroPolynomial, e_ZeroPolynomial⟩ := e_ZeroPolynomial
  refine FnB.of (N := N_single) (r := r_single) Fn sc_single len_single pure_single ?_
  intro f cdv A outer s H E0 hr G0 H0 B pin xa xd xc E tk hp h0
  have sc := sc_single
  have hu := roomU hr
  exact (lss_cons (ls_if (lt_cmp (ol_eq rfl hr) (le_b (bl_lenC rfl (len_ok W.m_Polynomial_ulenu) (h_Polynomial_ulenu.all (A := Around.in1 _) rfl rfl rfl rfl rfl rfl (hr.mono (by decide : 2 + 1 ≤ 65)).in1 rfl rfl bd_Polynomial_ulenu) tk (bl_len rfl)) (la_cons (le_var 0) la_nil) W.f_len) le_int) (lss_one (ls_raise0 e_ZeroPolynomial rfl (hr.mono (by decide : 0 + 2 ≤ 65)) rfl tk W.g_ZeroPolynomial)) lss_nil)
    (lss_one (ls_ret (le_callC (h_scaled.all rfl rfl rfl rfl rfl rfl (hr.mono (by decide : 57 ≤ 65)) rfl rfl bd_scaled) W.g_scaled h_scaled.kp tk (lc_p (lh_val (le_ix (il_ix rfl) (le_methC (h_Polynomial_parted.all rfl rfl rfl rfl rfl rfl (hr.mono (by decide : 60 ≤ 65)) rfl rfl bd_Polynomial_parted) rfl W.kl_poly (pMeth_ok W.m_Polynomial_parted) tk (lr_val (le_var 0)) (lc_p (lh_val (le_callC (h_common.all rfl rfl rfl rfl rfl rfl (hr.mono (by decide : 63 ≤ 65)) rfl rfl bd_common) W.g_common h_common.kp tk (lc_p (lh_val (le_var 0) (lh_val (le_methC (h_Polynomial_slope.all rfl rfl rfl rfl rfl rfl (hr.mono (by decide : 57 ≤ 65)) rfl rfl bd_Polynomial_slope) rfl W.kl_poly (pMeth_ok W.m_Polynomial_slope) tk (lr_val (le_var 0)) lc_0) lh_nil)))) lh_nil))) le_int) lh_nil))))))
end K06
set_option Elab.async false
set_option linter.all false
set_option maxRecDepth 100000
set_option maxHeartbeats 4000000
namespace K06
open PySem L2 PySem.Spec PyProof.Rows He PySem.W Q
abbrev N__law_cell : List Str := ["_law_script", "_law_k"]
abbrev ps__law_cell : List Str := ["_law_script", "_law_k"]
theorem sc__law_cell : FnScope N__law_cell ps__law_cell d__law_cell.scope := ⟨rfl, rfl, rfl, by decide +kernel, rfl, by decide +kernel, by decide +kernel⟩
theorem bd__law_cell : ∀ (kV doc pm : Value) (an : Option Addr) (cdv ct : Value) (us : List Value), us.length = ps__law_cell.length → bindArgs (fnOf d__law_cell.name d__law_cell.qual d__law_cell.params d__law_cell.body d__law_cell.scope .none kV doc pm an cdv ct) ⟨us, []⟩ = pure (ps__law_cell.zip us) := fun _ _ _ _ _ _ us hl => match us, hl with | [_, _], _ => rfl
def c__law_cell : Ct := fun args Q _ => ∃ (ns : List Int) (k : Int), args = [.val (.scr ns), .val (.int k)] ∧ 0 ≤ k ∧ Q (.int (ns.getD k.toNat 0)) args
def r__law_cell : QS := (qRet (qIf (qTest (qBin oLt (qVar 1) (qB oLen (qCons (qVar 0) qNil)))) (qIxM 0 (qVar 1)) (qC (.int 0))))
theorem len__law_cell : ∀ args Q E, c__law_cell args Q E → args.length = ps__law_cell.length := by
  rintro args Q E ⟨_, _, rfl, _⟩
  rfl
theorem pure__law_cell : ∀ args Q E, c__law_cell args Q E → r__law_cell (startE N__law_cell.length args) (endsC args Q) (exnC args E) := by
  rintro args Q E ⟨ns, k, rfl, h0, hq⟩
  show (match decide (k < (ns.length : Int)) with | true => _ | false => _)
  by_cases h : k < (ns.length : Int)
  · rw [decide_eq_true h]
    have hl : k.toNat < ns.length := by omega
    refine ⟨.int (ns.getD k.toNat 0), ?_, hq⟩
    unfold atD
    rw [if_pos h0, List.getElem?_map, List.getElem?_eq_getElem hl, List.getD_eq_getElem?_getD, List.getElem?_eq_getElem hl]
    rfl
  · rw [decide_eq_false h]
    have e : ns.getD k.toNat 0 = 0 := by
      rw [List.getD_eq_getElem?_getD, List.getElem?_eq_none (by omega)]
      rfl
    rw [e] at hq
    exact hq
theorem ok__law_cell {P : Program} {w : World} {K : Frag} {mg : Str → Option Value} {base : Heap} (W : Wd P K mg) (Fn : ∃ fd, FunD K d__law_cell.name d__law_cell.qual d__law_cell.params d__law_cell.body d__law_cell.scope (d__law_cell.dvs K) (d__law_cell.kws K) (d__law_cell.at_ K) fd) : FnB P w K mg base d__law_cell 2 ps__law_cell c__law_cell := by
  refine FnB.of (N := N__law_cell) (r := r__law_cell) Fn sc__law_cell len__law_cell pure__law_cell ?_
  intro f cdv A outer s H E0 hr G0 H0 B pin xa xd xc E tk hp h0
  have sc := sc__law_cell
  have hu := roomU hr
  exact (lss_one (ls_ret (le_if (lt_cmp ol_lt (le_var 1) (le_b (bl_len rfl) (la_cons (le_var 0) la_nil) W.f_len)) (le_ixM 0 rfl (le_var 1)) le_int)))
abbrev N__law_box : List Str := ["_law_script", "_law_k"]
abbrev ps__law_box : List Str := ["_law_script", "_law_k"]
theorem sc__law_box : FnScope N__law_box ps__law_box d__law_box.scope := ⟨rfl, rfl, rfl, by decide +kernel, rfl, by decide +kernel, by decide +kernel⟩
theorem bd__law_box : ∀ (kV doc pm : Value) (an : Option Addr) (cdv ct : Value) (us : List Value), us.length = ps__law_box.length → bindArgs (fnOf d__law_box.name d__law_box.qual d__law_box.params d__law_box.body d__law_box.scope .none kV doc pm an cdv ct) ⟨us, []⟩ = pure (ps__law_box.zip us) := fun _ _ _ _ _ _ us hl => match us, hl with | [_, _], _ => rfl
def c__law_box : Ct := fun args Q _ => ∃ (ns : List Int) (k : Int), args = [.val (.scr ns), .val (.int k)] ∧ 0 ≤ k ∧ Bd 100 k ∧ ∀ a : Int, 0 ≤ a → Q (.fr (.lst [.int a, .int 0, .int (40503 * k + 911)])) args
def r__law_box : QS := (qRetN (qnLst (qCons (qB oAbs (qCons (qB oInt (qCons (qCall c__law_cell (qhVal (qVar 0) (qhVal (qVar 1) qhNil))) qNil)) qNil)) (qCons (qC (.int 0)) (qCons (qBin oAdd (qBin oMul (qC (.int 40503)) (qVar 1)) (qC (.int 911))) qNil)))))
theorem len__law_box : ∀ args Q E, c__law_box args Q E → args.length = ps__law_box.length := by
  rintro args Q E ⟨_, _, rfl, _⟩
  rfl
theorem pure__law_box : ∀ args Q E, c__law_box args Q E → r__law_box (startE N__law_box.length args) (endsC args Q) (exnC args E) := by
  rintro args Q E ⟨ns, k, rfl, h0, hk, hq⟩
  refine ⟨ns, k, rfl, h0, mul_ok (n := 100) (bd_of (by decide)) hk (by decide), Nat.le_of_ble_eq_true rfl, ?_⟩
  refine hq _ ?_
  split <;> omega
theorem ok__law_box {P : Program} {w : World} {K : Frag} {mg : Str → Option Value} {base : Heap} (W : Wd P K mg) (Fn : ∃ fd, FunD K d__law_box.name d__law_box.qual d__law_box.params d__law_box.body d__law_box.scope (d__law_box.dvs K) (d__law_box.kws K) (d__law_box.at_ K) fd) (h__law_cell : FnB P w K mg base d__law_cell 2 ps__law_cell c__law_cell) : FnB P w K mg base d__law_box 5 ps__law_box c__law_box := by
  refine FnB.of (N := N__law_box) (r := r__law_box) Fn sc__law_box len__law_box pure__law_box ?_
  intro f cdv A outer s H E0 hr G0 H0 B pin xa xd xc E tk hp h0
  have sc := sc__law_box
  have hu := roomU hr
  exact (lss_one (ls_retN (ln_lst (la_cons (le_b bl_abs (la_cons (le_bty bl_int (la_cons (le_callC (h__law_cell.all rfl rfl rfl rfl rfl rfl (hr.mono (by decide : 2 ≤ 4)) rfl rfl bd__law_cell) W.g__law_cell h__law_cell.kp tk (lc_p (lh_val (le_var 0) (lh_val (le_var 1) lh_nil)))) la_nil) W.f_int) la_nil) W.f_abs) (la_cons le_int (la_cons (le_bin ol_add (le_bin ol_mul le_int (le_var 1)) le_int) la_nil))))))
abbrev N__law_take : List Str := ["_law_box_here", "_law_many", "_law_digit", "_law_mixed"]
abbrev ps__law_take : List Str := ["_law_box_here", "_law_many"]
theorem sc__law_take : FnScope N__law_take ps__law_take d__law_take.scope := ⟨rfl, rfl, rfl, by decide +kernel, rfl, by decide +kernel, by decide +kernel⟩
theorem bd__law_take : ∀ (kV doc pm : Value) (an : Option Addr) (cdv ct : Value) (us : List Value), us.length = ps__law_take.length → bindArgs (fnOf d__law_take.name d__law_take.qual d__law_take.params d__law_take.body d__law_take.scope .none kV doc pm an cdv ct) ⟨us, []⟩ = pure (ps__law_take.zip us) := fun _ _ _ _ _ _ us hl => match us, hl with | [_, _], _ => rfl
structure BoxOk (a b c : Int) : Prop where
  ha : 0 ≤ a
  hb : 0 ≤ b
  hb2 : b < 1000000
  hc : 0 ≤ c
  hc2 : c < 1000000000
def boxD (a b c : Int) : Slot := .bor (.lst [.int a, .int b, .int c])
def c__law_take : Ct := fun args Q _ => ∃ a b c m : Int, args = [boxD a b c, .val (.int m)] ∧ BoxOk a b c ∧ 0 < m ∧ Bd 8000 m ∧ ∀ r a' b' : Int, 0 ≤ r → r < m → 0 ≤ a' → 0 ≤ b' → b' ≤ b + 1 → Q (.int r) [boxD a' b' c, .val (.int m)]
def r__law_take : QS := (qSeq (qIfS (qTest (qBin oGe (qIxM 0 (qC (.int 0))) (qBin oPow (qC (.int 10)) (qC (.int 18))))) (qSeq (qSet 2 (qBin oMod (qB oInt (qCons (qIxM 0 (qC (.int 0))) qNil)) (qVar 1)))
    (qSeq (qSetIx 0 (qBin oDiv (qIxM 0 (qC (.int 0))) (qVar 1)) (qC (.int 0)))
    (qRet (qVar 2)))) qNx)
    (qSeq (qSetIx 0 (qBin oAdd (qIxM 0 (qC (.int 1))) (qC (.int 1))) (qC (.int 1)))
    (qSeq (qSet 3 (qBin oMod (qBin oPow (qB oInt (qCons (qBin oAdd (qBin oAdd (qBin oMul (qBin oAdd (qIxM 0 (qC (.int 0))) (qC (.int 7))) (qC (.int 69069))) (qBin oMul (qIxM 0 (qC (.int 1))) (qC (.int 40692)))) (qIxM 0 (qC (.int 2)))) qNil)) (qC (.int 3))) (qC (.int 2147483647))))
    (qSeq (qSet 3 (qBin oMod (qBin oPow (qB oInt (qCons (qBin oAdd (qVar 3) (qBin oMul (qIxM 0 (qC (.int 1))) (qC (.int 17389)))) qNil)) (qC (.int 3))) (qC (.int 2147483399))))
    (qRet (qBin oMod (qB oInt (qCons (qBin oDiv (qVar 3) (qC (.int 64))) qNil)) (qVar 1)))))))
theorem len__law_take : ∀ args Q E, c__law_take args Q E → args.length = ps__law_take.length := by
  rintro args Q E ⟨_, _, _, _, rfl, _⟩
  rfl
theorem pure__law_take : ∀ args Q E, c__law_take args Q E → r__law_take (startE N__law_take.length args) (endsC args Q) (exnC args E) := by
  rintro args Q E ⟨a, b, c, m, rfl, hb, hm, hm2, hq⟩
  refine ⟨_, rfl, ⟨by decide, by decide⟩, ?_⟩
  show (match decide ((10 : Int) ^ (18 : Int).toNat ≤ a) with | true => _ | false => _)
  have e18 : (10 : Int) ^ (18 : Int).toNat = 1000000000000000000 := by decide
  by_cases h : (10 : Int) ^ (18 : Int).toNat ≤ a
  · rw [decide_eq_true h]
    refine ⟨_, rfl, by omega, _, rfl, div_ok (by omega) (hm2.mono (by decide)), by decide, ?_⟩
    exact hq (a.fmod m) (a.fdiv m) b (Int.fmod_nonneg_of_pos _ hm) (Int.fmod_lt_of_pos _ hm) (Int.fdiv_nonneg hb.ha (by omega)) hb.hb (by omega)
  · rw [decide_eq_false h]
    have h' : a < 1000000000000000000 := by omega
    have ha := hb.ha
    have hb1 := hb.hb
    have hb2 := hb.hb2
    have hc1 := hb.hc
    have hc2 := hb.hc2
    have bd : ∀ z : Int, 0 ≤ z → z < 2 ^ 200 → Bd 200 z := fun z h1 h2 => by
      unfold Bd
      omega
    have p1 : Bd 200 ((a + 7) * 69069 + (b + 1) * 40692 + c) := bd _ (by omega) (by omega)
    have e1 := Int.fmod_nonneg_of_pos (((a + 7) * 69069 + (b + 1) * 40692 + c) ^ 3) (show (0 : Int) < 2147483647 by decide)
    have e2 := Int.fmod_lt_of_pos (((a + 7) * 69069 + (b + 1) * 40692 + c) ^ 3) (show (0 : Int) < 2147483647 by decide)
    refine ⟨_, rfl, by decide, _, rfl, mul_ok (n := 200) (m := 200) (bd _ (by omega) (by omega)) (bd _ (by decide) (by decide)) (by decide), _, rfl, mul_ok (n := 200) (m := 200) (bd _ (by omega) (by omega)) (bd _ (by decide) (by decide)) (by decide), _, rfl, pow3_ok p1 (by decide), by decide, _, rfl, mul_ok (n := 200) (m := 200) (bd _ (by omega) (by omega)) (bd _ (by decide) (by decide)) (by decide), ?_⟩
    have p2 : Bd 200 ((((a + 7) * 69069 + (b + 1) * 40692 + c) ^ 3).fmod 2147483647 + (b + 1) * 17389) := bd _ (by omega) (by omega)
    refine ⟨pow3_ok p2 (by decide), by decide, div_ok (by decide) (bd_of (by decide)), by omega, ?_⟩
    exact hq _ a (b + 1) (Int.fmod_nonneg_of_pos _ hm) (Int.fmod_lt_of_pos _ hm) ha (by omega) (by omega)
theorem ok__law_take {P : Program} {w : World} {K : Frag} {mg : Str → Option Value} {base : Heap} (W : Wd P K mg) (Fn : ∃ fd, FunD K d__law_take.name d__law_take.qual d__law_take.params d__law_take.body d__law_take.scope (d__law_take.dvs K) (d__law_take.kws K) (d__law_take.at_ K) fd) : FnB P w K mg base d__law_take 2 ps__law_take c__law_take := by
  refine FnB.of (N := N__law_take) (r := r__law_take) Fn sc__law_take len__law_take pure__law_take ?_
  intro f cdv A outer s H E0 hr G0 H0 B pin xa xd xc E tk hp h0
  have sc := sc__law_take
  have hu := roomU hr
  exact (lss_cons (ls_if (lt_cmp ol_ge (le_ixM 0 rfl le_int) (le_bin ol_pow le_int le_int)) (lss_cons (ls_set 2 sc.nd (le_bin ol_mod (le_bty bl_int (la_cons (le_ixM 0 rfl le_int) la_nil) W.f_int) (le_var 1)))
    (lss_cons (ls_setIx 0 (le_bin ol_div (le_ixM 0 rfl le_int) (le_var 1)) le_int)
    (lss_one (ls_ret (le_var 2))))) lss_nil)
    (lss_cons (ls_setIx 0 (le_bin ol_add (le_ixM 0 rfl le_int) le_int) le_int)
    (lss_cons (ls_set 3 sc.nd (le_bin ol_mod (le_bin ol_pow (le_bty bl_int (la_cons (le_bin ol_add (le_bin ol_add (le_bin ol_mul (le_bin ol_add (le_ixM 0 rfl le_int) le_int) le_int) (le_bin ol_mul (le_ixM 0 rfl le_int) le_int)) (le_ixM 0 rfl le_int)) la_nil) W.f_int) le_int) le_int))
    (lss_cons (ls_set 3 sc.nd (le_bin ol_mod (le_bin ol_pow (le_bty bl_int (la_cons (le_bin ol_add (le_var 3) (le_bin ol_mul (le_ixM 0 rfl le_int) le_int)) la_nil) W.f_int) le_int) le_int))
    (lss_one (ls_ret (le_bin ol_mod (le_bty bl_int (la_cons (le_bin ol_div (le_var 3) le_int) la_nil) W.f_int) (le_var 1))))))))
abbrev N__law_frac : List Str := ["_law_up", "_law_down", "_law_one", "_law_other"]
abbrev ps__law_frac : List Str := ["_law_up", "_law_down"]
theorem sc__law_frac : FnScope N__law_frac ps__law_frac d__law_frac.scope := ⟨rfl, rfl, rfl, by decide +kernel, rfl, by decide +kernel, by decide +kernel⟩
theorem bd__law_frac : ∀ (kV doc pm : Value) (an : Option Addr) (cdv ct : Value) (us : List Value), us.length = ps__law_frac.length → bindArgs (fnOf d__law_frac.name d__law_frac.qual d__law_frac.params d__law_frac.body d__law_frac.scope .none kV doc pm an cdv ct) ⟨us, []⟩ = pure (ps__law_frac.zip us) := fun _ _ _ _ _ _ us hl => match us, hl with | [_, _], _ => rfl
def c__law_frac : Ct := fun args Q _ => ∃ a b : Int, args = [.val (.int a), .val (.int b)] ∧ b ≠ 0 ∧ Bd 8999000 b ∧ Q (tupR (Rat.divInt a b)) args
def r__law_frac : QS := (qSeq (qPar 2 3 (qCons (qB oAbs (qCons (qVar 0) qNil)) (qCons (qB oAbs (qCons (qVar 1) qNil)) qNil)))
    (qSeq (qWhile (qTest (qBin oGt (qVar 3) (qC (.int 0)))) (qPar 2 3 (qCons (qVar 3) (qCons (qBin oMod (qVar 2) (qVar 3)) qNil))))
    (qSeq (qIfS (qTest (qBin oLt (qVar 1) (qC (.int 0)))) (qSet 2 (qBin oSub (qC (.int 0)) (qVar 2))) qNx)
    (qRet (qTup (qCons (qBin oDivP (qVar 0) (qVar 2)) (qCons (qBin oDivP (qVar 1) (qVar 2)) qNil)))))))
theorem len__law_frac : ∀ args Q E, c__law_frac args Q E → args.length = ps__law_frac.length := by
  rintro args Q E ⟨_, _, rfl, _⟩
  rfl
theorem pure__law_frac : ∀ args Q E, c__law_frac args Q E → r__law_frac (startE N__law_frac.length args) (endsC args Q) (exnC args E) := by
  rintro args Q E ⟨a, b, rfl, h, hb, hq⟩
  have hq' : Q (.tup [.int (a.fdiv (dvs a b)), .int (b.fdiv (dvs a b))]) [.val (.int a), .val (.int b)] := by
    rw [dvs_num h, dvs_den h]
    exact hq
  refine ⟨fun m Γ => ∃ x y : Int, Γ = [.val (.int a), .val (.int b), .val (.int x), .val (.int y)] ∧ 0 ≤ x ∧ 0 ≤ y ∧ m = y.natAbs ∧ Int.gcd x y = Int.gcd a b, ⟨_, _, _, rfl, ?_, ?_, rfl, ?_⟩, ?_⟩
  · split <;> omega
  · split <;> omega
  · have e1 : (if a < 0 then -a else a) = (a.natAbs : Int) := by split <;> omega
    have e2 : (if b < 0 then -b else b) = (b.natAbs : Int) := by split <;> omega
    rw [e1, e2]
    rfl
  rintro m Γ ⟨x, y, rfl, hx, hy, rfl, hg⟩
  show (match decide (0 < y) with | true => _ | false => _)
  by_cases h0 : 0 < y
  · rw [decide_eq_true h0]
    exact ⟨by omega, (x.fmod y).natAbs, fmod_lt x (by omega), y, x.fmod y, rfl, hy, Int.fmod_nonneg_of_pos x h0, rfl, by rw [gcd_fmod]; exact hg⟩
  · rw [decide_eq_false h0]
    have hy0 : y = 0 := by omega
    subst hy0
    have ex : x = (Int.gcd a b : Int) := by
      rw [← hg, Int.gcd_zero_right]
      omega
    show (match decide (b < 0) with | true => _ | false => _)
    by_cases h1 : b < 0
    · rw [decide_eq_true h1]
      have ed : 0 - x = dvs a b := by
        unfold dvs
        rw [if_neg (by omega), ex]
        omega
      rw [← ed] at hq'
      have hn : 0 - x ≠ 0 := by rw [ed]; exact dvs_ne h
      have hbd : Bd 8999000 (0 - x) := by rw [ed]; exact dvs_bd hb h
      exact ⟨hn, hn, Nat.le_of_ble_eq_true rfl, hq'⟩
    · rw [decide_eq_false h1]
      have ed : x = dvs a b := by
        unfold dvs
        rw [if_pos (by omega), ex]
      rw [← ed] at hq'
      have hn : x ≠ 0 := by rw [ed]; exact dvs_ne h
      have hbd : Bd 8999000 x := by rw [ed]; exact dvs_bd hb h
      exact ⟨hn, hn, Nat.le_of_ble_eq_true rfl, hq'⟩
theorem ok__law_frac {P : Program} {w : World} {K : Frag} {mg : Str → Option Value} {base : Heap} (W : Wd P K mg) (Fn : ∃ fd, FunD K d__law_frac.name d__law_frac.qual d__law_frac.params d__law_frac.body d__law_frac.scope (d__law_frac.dvs K) (d__law_frac.kws K) (d__law_frac.at_ K) fd) : FnB P w K mg base d__law_frac 42 ps__law_frac c__law_frac := by
  refine FnB.of (N := N__law_frac) (r := r__law_frac) Fn sc__law_frac len__law_frac pure__law_frac ?_
  intro f cdv A outer s H E0 hr G0 H0 B pin xa xd xc E tk hp h0
  have sc := sc__law_frac
  have hu := roomU hr
  exact (lss_cons (ls_par 2 3 rfl sc.nd (la_cons (le_b bl_abs (la_cons (le_var 0) la_nil) W.f_abs) (la_cons (le_b bl_abs (la_cons (le_var 1) la_nil) W.f_abs) la_nil)))
    (lss_cons (ls_while hp (lt_cmp ol_gt (le_var 3) le_int) (lss_one (ls_par 2 3 rfl sc.nd (la_cons (le_var 3) (la_cons (le_bin ol_mod (le_var 2) (le_var 3)) la_nil)))))
    (lss_cons (ls_if (lt_cmp ol_lt (le_var 1) le_int) (lss_one (ls_set 2 sc.nd (le_bin ol_sub le_int (le_var 2)))) lss_nil)
    (lss_one (ls_ret (le_tup (la_cons (le_bin (ol_divP (PyR.of (k := 41) (by decide) hr W.py W.pt rfl sc.gen sc.co)) (le_var 0) (le_var 2)) (la_cons (le_bin (ol_divP (PyR.of (k := 41) (by decide) hr W.py W.pt rfl sc.gen sc.co)) (le_var 1) (le_var 2)) la_nil))))))))
def TQ (s : Nat) (d : D) (p : Rat) : Prop := ∃ a b : Int, d = .tup [.int a, .int b] ∧ b ≠ 0 ∧ Rat.divInt a b = p ∧ Bd s a ∧ Bd s b
theorem TQ.of {s : Nat} {p : Rat} (h : Sz s p) : TQ s (tupR p) p := ⟨p.num, p.den, rfl, den_ne p, Rat.num_divInt_den p, h.num, h.den⟩
theorem TQ.mono {s t : Nat} {d : D} {p : Rat} (h : TQ s d p) (l : s ≤ t) : TQ t d p := by
  obtain ⟨a, b, e, h0, e2, h1, h2⟩ := h
  exact ⟨a, b, e, h0, e2, h1.mono l, h2.mono l⟩
abbrev N__law_plus : List Str := ["_law_x", "_law_y"]
abbrev ps__law_plus : List Str := ["_law_x", "_law_y"]
theorem sc__law_plus : FnScope N__law_plus ps__law_plus d__law_plus.scope := ⟨rfl, rfl, rfl, by decide +kernel, rfl, by decide +kernel, by decide +kernel⟩
theorem bd__law_plus : ∀ (kV doc pm : Value) (an : Option Addr) (cdv ct : Value) (us : List Value), us.length = ps__law_plus.length → bindArgs (fnOf d__law_plus.name d__law_plus.qual d__law_plus.params d__law_plus.body d__law_plus.scope .none kV doc pm an cdv ct) ⟨us, []⟩ = pure (ps__law_plus.zip us) := fun _ _ _ _ _ _ us hl => match us, hl with | [_, _], _ => rfl
def c__law_plus : Ct := fun args Q _ => ∃ p q : Rat, args = [.val (tupR p), .val (tupR q)] ∧ Sz 4000000 p ∧ Sz 4000000 q ∧ Q (tupR (p + q)) args
def r__law_plus : QS := (qRet (qCall c__law_frac (qhVal (qBin oAdd (qBin oMul (qBin oIx (qVar 0) (qC (.int 0))) (qBin oIx (qVar 1) (qC (.int 1)))) (qBin oMul (qBin oIx (qVar 1) (qC (.int 0))) (qBin oIx (qVar 0) (qC (.int 1))))) (qhVal (qBin oMul (qBin oIx (qVar 0) (qC (.int 1))) (qBin oIx (qVar 1) (qC (.int 1)))) qhNil))))
theorem len__law_plus : ∀ args Q E, c__law_plus args Q E → args.length = ps__law_plus.length := by
  rintro args Q E ⟨_, _, rfl, _⟩
  rfl
theorem pure__law_plus : ∀ args Q E, c__law_plus args Q E → r__law_plus (startE N__law_plus.length args) (endsC args Q) (exnC args E) := by
  rintro args Q E ⟨p, q, rfl, hp, hx, hq⟩
  refine ⟨_, rfl, _, rfl, mul_ok hp.num hx.den (by decide), _, rfl, _, rfl, mul_ok hx.num hp.den (by decide), _, rfl, _, rfl, mul_ok hp.den hx.den (by decide), _, _, rfl, ?_, (hp.den.mul hx.den).mono (by decide), ?_⟩
  · intro h0
    rcases Int.mul_eq_zero.mp h0 with z | z
    · exact den_ne p z
    · exact den_ne q z
  · show Q (tupR (Rat.divInt (p.num * (q.den : Int) + q.num * (p.den : Int)) ((p.den : Int) * (q.den : Int)))) _
    rw [add_divInt]
    exact hq
theorem ok__law_plus {P : Program} {w : World} {K : Frag} {mg : Str → Option Value} {base : Heap} (W : Wd P K mg) (Fn : ∃ fd, FunD K d__law_plus.name d__law_plus.qual d__law_plus.params d__law_plus.body d__law_plus.scope (d__law_plus.dvs K) (d__law_plus.kws K) (d__law_plus.at_ K) fd) (h__law_frac : FnB P w K mg base d__law_frac 42 ps__law_frac c__law_frac) : FnB P w K mg base d__law_plus 45 ps__law_plus c__law_plus := by
  refine FnB.of (N := N__law_plus) (r := r__law_plus) Fn sc__law_plus len__law_plus pure__law_plus ?_
  intro f cdv A outer s H E0 hr G0 H0 B pin xa xd xc E tk hp h0
  have sc := sc__law_plus
  have hu := roomU hr
  exact (lss_one (ls_ret (le_callC (h__law_frac.all rfl rfl rfl rfl rfl rfl (hr.mono (by decide : 42 ≤ 44)) rfl rfl bd__law_frac) W.g__law_frac h__law_frac.kp tk (lc_p (lh_val (le_bin ol_add (le_bin ol_mul (le_ix (il_ix rfl) (le_var 0) le_int) (le_ix (il_ix rfl) (le_var 1) le_int)) (le_bin ol_mul (le_ix (il_ix rfl) (le_var 1) le_int) (le_ix (il_ix rfl) (le_var 0) le_int))) (lh_val (le_bin ol_mul (le_ix (il_ix rfl) (le_var 0) le_int) (le_ix (il_ix rfl) (le_var 1) le_int)) lh_nil))))))
abbrev N__law_times : List Str := ["_law_x", "_law_y"]
abbrev ps__law_times : List Str := ["_law_x", "_law_y"]
theorem sc__law_times : FnScope N__law_times ps__law_times d__law_times.scope := ⟨rfl, rfl, rfl, by decide +kernel, rfl, by decide +kernel, by decide +kernel⟩
theorem bd__law_times : ∀ (kV doc pm : Value) (an : Option Addr) (cdv ct : Value) (us : List Value), us.length = ps__law_times.length → bindArgs (fnOf d__law_times.name d__law_times.qual d__law_times.params d__law_times.body d__law_times.scope .none kV doc pm an cdv ct) ⟨us, []⟩ = pure (ps__law_times.zip us) := fun _ _ _ _ _ _ us hl => match us, hl with | [_, _], _ => rfl
def c__law_times : Ct := fun args Q _ => ∃ (d e : D) (p q : Rat), args = [.val d, .val e] ∧ TQ 4000000 d p ∧ TQ 4000000 e q ∧ Q (tupR (p * q)) args
def r__law_times : QS := (qRet (qCall c__law_frac (qhVal (qBin oMul (qBin oIx (qVar 0) (qC (.int 0))) (qBin oIx (qVar 1) (qC (.int 0)))) (qhVal (qBin oMul (qBin oIx (qVar 0) (qC (.int 1))) (qBin oIx (qVar 1) (qC (.int 1)))) qhNil))))
theorem len__law_times : ∀ args Q E, c__law_times args Q E → args.length = ps__law_times.length := by
  rintro args Q E ⟨_, _, _, _, rfl, _⟩
  rfl
theorem pure__law_times : ∀ args Q E, c__law_times args Q E → r__law_times (startE N__law_times.length args) (endsC args Q) (exnC args E) := by
  rintro args Q E ⟨_, _, p, q, rfl, ⟨a, b, rfl, hb, e1, a1, b1⟩, ⟨x, y, rfl, hy, e2, x1, y1⟩, hq⟩
  refine ⟨_, rfl, _, rfl, mul_ok a1 x1 (by decide), _, rfl, _, rfl, mul_ok b1 y1 (by decide), _, _, rfl, ?_, (b1.mul y1).mono (by decide), ?_⟩
  · intro h0
    rcases Int.mul_eq_zero.mp h0 with z | z
    · exact hb z
    · exact hy z
  · show Q (tupR (Rat.divInt _ (b * y))) _
    rw [← Rat.divInt_mul_divInt, e1, e2]
    exact hq
theorem ok__law_times {P : Program} {w : World} {K : Frag} {mg : Str → Option Value} {base : Heap} (W : Wd P K mg) (Fn : ∃ fd, FunD K d__law_times.name d__law_times.qual d__law_times.params d__law_times.body d__law_times.scope (d__law_times.dvs K) (d__law_times.kws K) (d__law_times.at_ K) fd) (h__law_frac : FnB P w K mg base d__law_frac 42 ps__law_frac c__law_frac) : FnB P w K mg base d__law_times 45 ps__law_times c__law_times := by
  refine FnB.of (N := N__law_times) (r := r__law_times) Fn sc__law_times len__law_times pure__law_times ?_
  intro f cdv A outer s H E0 hr G0 H0 B pin xa xd xc E tk hp h0
  have sc := sc__law_times
  have hu := roomU hr
  exact (lss_one (ls_ret (le_callC (h__law_frac.all rfl rfl rfl rfl rfl rfl (hr.mono (by decide : 42 ≤ 44)) rfl rfl bd__law_frac) W.g__law_frac h__law_frac.kp tk (lc_p (lh_val (le_bin ol_mul (le_ix (il_ix rfl) (le_var 0) le_int) (le_ix (il_ix rfl) (le_var 1) le_int)) (lh_val (le_bin ol_mul (le_ix (il_ix rfl) (le_var 0) le_int) (le_ix (il_ix rfl) (le_var 1) le_int)) lh_nil))))))
abbrev N__law_minus : List Str := ["_law_x", "_law_y"]
abbrev ps__law_minus : List Str := ["_law_x", "_law_y"]
theorem sc__law_minus : FnScope N__law_minus ps__law_minus d__law_minus.scope := ⟨rfl, rfl, rfl, by decide +kernel, rfl, by decide +kernel, by decide +kernel⟩
theorem bd__law_minus : ∀ (kV doc pm : Value) (an : Option Addr) (cdv ct : Value) (us : List Value), us.length = ps__law_minus.length → bindArgs (fnOf d__law_minus.name d__law_minus.qual d__law_minus.params d__law_minus.body d__law_minus.scope .none kV doc pm an cdv ct) ⟨us, []⟩ = pure (ps__law_minus.zip us) := fun _ _ _ _ _ _ us hl => match us, hl with | [_, _], _ => rfl
def c__law_minus : Ct := fun args Q _ => ∃ (d e : D) (p q : Rat), args = [.val d, .val e] ∧ TQ 4000000 d p ∧ TQ 4000000 e q ∧ Q (tupR (p - q)) args
def r__law_minus : QS := (qRet (qCall c__law_frac (qhVal (qBin oSub (qBin oMul (qBin oIx (qVar 0) (qC (.int 0))) (qBin oIx (qVar 1) (qC (.int 1)))) (qBin oMul (qBin oIx (qVar 1) (qC (.int 0))) (qBin oIx (qVar 0) (qC (.int 1))))) (qhVal (qBin oMul (qBin oIx (qVar 0) (qC (.int 1))) (qBin oIx (qVar 1) (qC (.int 1)))) qhNil))))
theorem len__law_minus : ∀ args Q E, c__law_minus args Q E → args.length = ps__law_minus.length := by
  rintro args Q E ⟨_, _, _, _, rfl, _⟩
  rfl
theorem pure__law_minus : ∀ args Q E, c__law_minus args Q E → r__law_minus (startE N__law_minus.length args) (endsC args Q) (exnC args E) := by
  rintro args Q E ⟨_, _, p, q, rfl, ⟨a, b, rfl, hb, e1, a1, b1⟩, ⟨x, y, rfl, hy, e2, x1, y1⟩, hq⟩
  refine ⟨_, rfl, _, rfl, mul_ok a1 y1 (by decide), _, rfl, _, rfl, mul_ok x1 b1 (by decide), _, rfl, _, rfl, mul_ok b1 y1 (by decide), _, _, rfl, ?_, (b1.mul y1).mono (by decide), ?_⟩
  · intro h0
    rcases Int.mul_eq_zero.mp h0 with z | z
    · exact hb z
    · exact hy z
  · show Q (tupR (Rat.divInt _ (b * y))) _
    rw [← Rat.divInt_sub_divInt a x hb hy, e1, e2]
    exact hq
theorem ok__law_minus {P : Program} {w : World} {K : Frag} {mg : Str → Option Value} {base : Heap} (W : Wd P K mg) (Fn : ∃ fd, FunD K d__law_minus.name d__law_minus.qual d__law_minus.params d__law_minus.body d__law_minus.scope (d__law_minus.dvs K) (d__law_minus.kws K) (d__law_minus.at_ K) fd) (h__law_frac : FnB P w K mg base d__law_frac 42 ps__law_frac c__law_frac) : FnB P w K mg base d__law_minus 45 ps__law_minus c__law_minus := by
  refine FnB.of (N := N__law_minus) (r := r__law_minus) Fn sc__law_minus len__law_minus pure__law_minus ?_
  intro f cdv A outer s H E0 hr G0 H0 B pin xa xd xc E tk hp h0
  have sc := sc__law_minus
  have hu := roomU hr
  exact (lss_one (ls_ret (le_callC (h__law_frac.all rfl rfl rfl rfl rfl rfl (hr.mono (by decide : 42 ≤ 44)) rfl rfl bd__law_frac) W.g__law_frac h__law_frac.kp tk (lc_p (lh_val (le_bin ol_sub (le_bin ol_mul (le_ix (il_ix rfl) (le_var 0) le_int) (le_ix (il_ix rfl) (le_var 1) le_int)) (le_bin ol_mul (le_ix (il_ix rfl) (le_var 1) le_int) (le_ix (il_ix rfl) (le_var 0) le_int))) (lh_val (le_bin ol_mul (le_ix (il_ix rfl) (le_var 0) le_int) (le_ix (il_ix rfl) (le_var 1) le_int)) lh_nil))))))
end K06
set_option Elab.async false
set_option linter.all false
set_option maxRecDepth 100000
set_option maxHeartbeats 4000000
namespace K06
open PySem L2 PySem.Spec PyProof.Rows He PySem.W Q
abbrev N__law_number : List Str := ["_law_box_here", "_law_most", "_law_up"]
abbrev ps__law_number : List Str := ["_law_box_here", "_law_most"]
theorem sc__law_number : FnScope N__law_number ps__law_number d__law_number.scope := ⟨rfl, rfl, rfl, by decide +kernel, rfl, by decide +kernel, by decide +kernel⟩
theorem bd__law_number : ∀ (kV doc pm : Value) (an : Option Addr) (cdv ct : Value) (us : List Value), us.length = ps__law_number.length → bindArgs (fnOf d__law_number.name d__law_number.qual d__law_number.params d__law_number.body d__law_number.scope .none kV doc pm an cdv ct) ⟨us, []⟩ = pure (ps__law_number.zip us) := fun _ _ _ _ _ _ us hl => match us, hl with | [_, _], _ => rfl
theorem BoxOk.next {a b c a' b' : Int} (h : BoxOk a b c) (h1 : 0 ≤ a') (h2 : 0 ≤ b') (h3 : b' < 1000000) : BoxOk a' b' c := ⟨h1, h2, h3, h.hc, h.hc2⟩
theorem bdn {n : Nat} {z : Int} (k : Int) (h1 : -k < z) (h2 : z < k) (hk : Nat.ble k.toNat (2 ^ n) = true) : Bd n z := by
  have := Nat.le_of_ble_eq_true hk
  unfold Bd
  omega
theorem pick6 {r w : Int} (h0 : 0 ≤ r) (h1 : r < 6) : ∃ z : Int, atD [.int 1, .int 1, .int 2, .int 3, .int 5, .int w] r = some (.int z) ∧ (z = w ∨ (1 ≤ z ∧ z ≤ 5)) := by
  have : r = 0 ∨ r = 1 ∨ r = 2 ∨ r = 3 ∨ r = 4 ∨ r = 5 := by omega
  rcases this with rfl | rfl | rfl | rfl | rfl | rfl
  · exact ⟨1, rfl, .inr (by decide)⟩
  · exact ⟨1, rfl, .inr (by decide)⟩
  · exact ⟨2, rfl, .inr (by decide)⟩
  · exact ⟨3, rfl, .inr (by decide)⟩
  · exact ⟨5, rfl, .inr (by decide)⟩
  · exact ⟨w, rfl, .inl rfl⟩
theorem bdk {m : Int} (h1 : -1000 < m) (h2 : m < 1000) : Bd 8000 m := (bdn (n := 10) 1024 (by omega) (by omega) rfl).mono (by decide)
def c__law_number : Ct := fun args Q _ => ∃ a b c m : Int, args = [boxD a b c, .val (.int m)] ∧ BoxOk a b c ∧ b < 900000 ∧ (m = 4 ∨ m = 9) ∧ ∀ (q : Rat) (a' b' : Int), NumM m q → 0 ≤ a' → 0 ≤ b' → b' ≤ b + 3 → Q (tupR q) [boxD a' b' c, .val (.int m)]
def r__law_number : QS := (qSeq (qSet 2 (qBin oSub (qCall c__law_take (qhAny 0 (qhVal (qBin oAdd (qBin oMul (qC (.int 2)) (qVar 1)) (qC (.int 1))) qhNil))) (qVar 1)))
    (qRet (qCall c__law_frac (qhVal (qVar 2) (qhVal (qBin oIx (qLst (qCons (qC (.int 1)) (qCons (qC (.int 1)) (qCons (qC (.int 2)) (qCons (qC (.int 3)) (qCons (qC (.int 5)) (qCons (qBin oAdd (qC (.int 1)) (qCall c__law_take (qhAny 0 (qhVal (qBin oAdd (qVar 1) (qC (.int 1))) qhNil)))) qNil))))))) (qCall c__law_take (qhAny 0 (qhVal (qC (.int 6)) qhNil)))) qhNil)))))
theorem len__law_number : ∀ args Q E, c__law_number args Q E → args.length = ps__law_number.length := by
  rintro args Q E ⟨_, _, _, _, rfl, _⟩
  rfl
theorem pure__law_number : ∀ args Q E, c__law_number args Q E → r__law_number (startE N__law_number.length args) (endsC args Q) (exnC args E) := by
  rintro args Q E ⟨a, b, c, m, rfl, hb, hb3, hm, hq⟩
  have hb0 := hb.hb
  have hm9 : 4 ≤ m ∧ m ≤ 9 := by omega
  refine ⟨mul_ok (n := 12) (m := 12) (bdn 4096 (by decide) (by decide) rfl) (bdn 4096 (by omega) (by omega) rfl) (by decide), a, b, c, 2 * m + 1, rfl, hb, by omega, bdk (by omega) (by omega), fun r a1 b1 h1 h2 h3 h4 h5 => ?_⟩
  refine ⟨a1, b1, c, m + 1, rfl, hb.next h3 h4 (by omega), by omega, bdk (by omega) (by omega), fun r2 a2 b2 g1 g2 g3 g4 g5 => ?_⟩
  refine ⟨Nat.le_of_ble_eq_true rfl, a2, b2, c, 6, rfl, hb.next g3 g4 (by omega), by decide, bdk (by decide) (by decide), fun r3 a3 b3 k1 k2 k3 k4 k5 => ?_⟩
  obtain ⟨z, hz, hzw⟩ := pick6 (w := 1 + r2) k1 k2
  have hz1 : 1 ≤ z ∧ z ≤ m + 1 := by rcases hzw with e | e <;> omega
  refine ⟨.int z, hz, r - m, z, rfl, by omega, (bdn (n := 12) 4096 (by omega) (by omega) rfl).mono (by decide), ?_⟩
  exact hq _ a3 b3 ⟨r - m, z, rfl, hz1.1, hz1.2, by omega, by omega⟩ k3 k4 (by omega)
theorem ok__law_number {P : Program} {w : World} {K : Frag} {mg : Str → Option Value} {base : Heap} (W : Wd P K mg) (Fn : ∃ fd, FunD K d__law_number.name d__law_number.qual d__law_number.params d__law_number.body d__law_number.scope (d__law_number.dvs K) (d__law_number.kws K) (d__law_number.at_ K) fd) (h__law_take : FnB P w K mg base d__law_take 2 ps__law_take c__law_take) (h__law_frac : FnB P w K mg base d__law_frac 42 ps__law_frac c__law_frac) : FnB P w K mg base d__law_number 45 ps__law_number c__law_number := by
  refine FnB.of (N := N__law_number) (r := r__law_number) Fn sc__law_number len__law_number pure__law_number ?_
  intro f cdv A outer s H E0 hr G0 H0 B pin xa xd xc E tk hp h0
  have sc := sc__law_number
  have hu := roomU hr
  exact (lss_cons (ls_set 2 sc.nd (le_bin ol_sub (le_callC (h__law_take.all rfl rfl rfl rfl rfl rfl (hr.mono (by decide : 2 ≤ 44)) rfl rfl bd__law_take) W.g__law_take h__law_take.kp tk (lc_p (lh_any 0 (lh_val (le_bin ol_add (le_bin ol_mul le_int (le_var 1)) le_int) lh_nil)))) (le_var 1)))
    (lss_one (ls_ret (le_callC (h__law_frac.all rfl rfl rfl rfl rfl rfl (hr.mono (by decide : 42 ≤ 44)) rfl rfl bd__law_frac) W.g__law_frac h__law_frac.kp tk (lc_p (lh_val (le_var 2) (lh_val (le_ix (il_ix rfl) (le_lst (la_cons le_int (la_cons le_int (la_cons le_int (la_cons le_int (la_cons le_int (la_cons (le_bin ol_add le_int (le_callC (h__law_take.all rfl rfl rfl rfl rfl rfl (hr.mono (by decide : 2 ≤ 44)) rfl rfl bd__law_take) W.g__law_take h__law_take.kp tk (lc_p (lh_any 0 (lh_val (le_bin ol_add (le_var 1) le_int) lh_nil))))) la_nil))))))) (le_callC (h__law_take.all rfl rfl rfl rfl rfl rfl (hr.mono (by decide : 2 ≤ 44)) rfl rfl bd__law_take) W.g__law_take h__law_take.kp tk (lc_p (lh_any 0 (lh_val le_int lh_nil))))) lh_nil)))))))
abbrev N__law_trimmed : List Str := ["_law_terms_here", "_law_found"]
abbrev ps__law_trimmed : List Str := ["_law_terms_here"]
theorem sc__law_trimmed : FnScope N__law_trimmed ps__law_trimmed d__law_trimmed.scope := ⟨rfl, rfl, rfl, by decide +kernel, rfl, by decide +kernel, by decide +kernel⟩
theorem bd__law_trimmed : ∀ (kV doc pm : Value) (an : Option Addr) (cdv ct : Value) (us : List Value), us.length = ps__law_trimmed.length → bindArgs (fnOf d__law_trimmed.name d__law_trimmed.qual d__law_trimmed.params d__law_trimmed.body d__law_trimmed.scope .none kV doc pm an cdv ct) ⟨us, []⟩ = pure (ps__law_trimmed.zip us) := fun _ _ _ _ _ _ us hl => match us, hl with | [_], _ => rfl
theorem trim_id {ps : List Rat} (h : ps = [] ∨ cf0 ps (ps.length - 1) ≠ 0) : trimR ps = ps := by
  have := trim_take (qs := ps) (l := ps.length) (Nat.le_refl _) (fun k hk => cf0_ge hk) (h.imp (fun e => by rw [e]; rfl) id)
  rwa [List.take_of_length_le (Nat.le_refl _)] at this
theorem trim_dropLast {ps : List Rat} (h : cf0 ps (ps.length - 1) = 0) : trimR ps.dropLast = trimR ps := trim_ext _ _ fun k => by
  rw [List.dropLast_eq_take]
  unfold cf0
  simp only [List.getD_eq_getElem?_getD, List.getElem?_take]
  split
  · rfl
  · rename_i hk
    by_cases e : k = ps.length - 1
    · subst e
      have := h
      unfold cf0 at this
      rw [List.getD_eq_getElem?_getD] at this
      rw [this]
      rfl
    · rw [List.getElem?_eq_none (by omega)]
def c__law_trimmed : Ct := fun args Q _ => ∃ qs : List Rat, args = [.val (lstR qs)] ∧ Q (lstR (trimR qs)) args
def r__law_trimmed : QS := (qSeq (qSetN 1 (qnList (qCons (qVar 0) qNil)))
    (qSeq (qWhile (qPeekT (qAnd (qTest (qBin oNe (qVar 1) (qLst qNil))) (qTest (qBin oEq (qBin oIx (qVar 1) (qUn oNeg (qC (.int 1)))) (qTup (qCons (qC (.int 0)) (qCons (qC (.int 1)) qNil))))))) (qDrop (qPop 1)))
    (qRet (qVF 1))))
theorem len__law_trimmed : ∀ args Q E, c__law_trimmed args Q E → args.length = ps__law_trimmed.length := by
  rintro args Q E ⟨_, rfl, _⟩
  rfl
theorem pure__law_trimmed : ∀ args Q E, c__law_trimmed args Q E → r__law_trimmed (startE N__law_trimmed.length args) (endsC args Q) (exnC args E) := by
  rintro args Q E ⟨qs, rfl, hq⟩
  refine ⟨fun m Γ => ∃ ps : List Rat, Γ = [.val (lstR qs), .own (.lst (ps.map tupR))] ∧ m = ps.length ∧ trimR ps = trimR qs, ⟨qs.length, qs, rfl, rfl, rfl⟩, ?_⟩
  rintro m Γ ⟨ps, rfl, rfl, ht⟩
  have fin : (ps = [] ∨ cf0 ps (ps.length - 1) ≠ 0) → Q (lstR ps) [.val (lstR qs)] := fun h => by
    rw [← trim_id h, ht]
    exact hq
  refine ⟨Nat.le_of_ble_eq_true rfl, plain_lstR ps, rfl, ?_⟩
  show (match !PyData.eqv (toPy (lstR ps)) (toPy (lstR [])) with | true => _ | false => _)
  rw [eqv_lstR]
  by_cases h0 : ps = []
  · subst h0
    exact fin (.inl rfl)
  · have hl : 0 < ps.length := List.length_pos_iff.mpr h0
    rw [decide_eq_false h0]
    have hg : (ps.map tupR)[ps.length - 1]? = some (tupR (cf0 ps (ps.length - 1))) := by
      rw [List.getElem?_map, List.getElem?_eq_getElem (by omega), cf0_lt (by omega)]
      rfl
    refine ⟨tupR (cf0 ps (ps.length - 1)), ?_, Nat.le_of_ble_eq_true rfl, rfl, rfl, ?_⟩
    · unfold atD
      rw [if_neg (by decide), List.length_map, if_pos (by omega), show (-1 + (ps.length : Int)).toNat = ps.length - 1 by omega]
      exact hg
    show (match PyData.eqv (toPy (tupR (cf0 ps (ps.length - 1)))) (toPy (tupR 0)) with | true => _ | false => _)
    rw [eqv_tupR]
    by_cases h1 : cf0 ps (ps.length - 1) = 0
    · rw [decide_eq_true h1]
      show (match (ps.map tupR)[(ps.map tupR).length - 1]? with | some d => _ | none => _)
      rw [List.length_map, hg]
      refine ⟨ps.length - 1, by omega, ps.dropLast, ?_, by simp, by rw [trim_dropLast h1]; exact ht⟩
      rw [List.map_dropLast]
      rfl
    · rw [decide_eq_false h1]
      exact fin (.inr h1)
theorem ok__law_trimmed {P : Program} {w : World} {K : Frag} {mg : Str → Option Value} {base : Heap} (W : Wd P K mg) (Fn : ∃ fd, FunD K d__law_trimmed.name d__law_trimmed.qual d__law_trimmed.params d__law_trimmed.body d__law_trimmed.scope (d__law_trimmed.dvs K) (d__law_trimmed.kws K) (d__law_trimmed.at_ K) fd) : FnB P w K mg base d__law_trimmed 2 ps__law_trimmed c__law_trimmed := by
  refine FnB.of (N := N__law_trimmed) (r := r__law_trimmed) Fn sc__law_trimmed len__law_trimmed pure__law_trimmed ?_
  intro f cdv A outer s H E0 hr G0 H0 B pin xa xd xc E tk hp h0
  have sc := sc__law_trimmed
  have hu := roomU hr
  exact (lss_cons (ls_setN 1 sc.nd (ln_list rfl (la_cons (le_var 0) la_nil) W.f_list))
    (lss_cons (ls_while hp (lt_peek fun q tk => (LW.lt (lw_and (lt_cmp (ol_ne rfl hr) (le_var 1) (le_lst la_nil)) (lw_and1 (lt_cmp (ol_eq rfl hr) (le_ix (il_ix rfl) (le_var 1) (le_un ul_neg le_int)) (le_tup (la_cons le_int (la_cons le_int la_nil)))))))) (lss_one (ls_expr (le_pop 1))))
    (lss_one (ls_ret (le_vF 1)))))
abbrev N__law_product : List Str := ["_law_one", "_law_other", "_law_found", "_law_j", "_law_k"]
abbrev ps__law_product : List Str := ["_law_one", "_law_other"]
theorem sc__law_product : FnScope N__law_product ps__law_product d__law_product.scope := ⟨rfl, rfl, rfl, by decide +kernel, rfl, by decide +kernel, by decide +kernel⟩
theorem bd__law_product : ∀ (kV doc pm : Value) (an : Option Addr) (cdv ct : Value) (us : List Value), us.length = ps__law_product.length → bindArgs (fnOf d__law_product.name d__law_product.qual d__law_product.params d__law_product.body d__law_product.scope .none kV doc pm an cdv ct) ⟨us, []⟩ = pure (ps__law_product.zip us) := fun _ _ _ _ _ _ us hl => match us, hl with | [_, _], _ => rfl
theorem flat_repT : ∀ k : Nat, List.flatten (List.replicate k [D.tup [.int 0, .int 1]]) = (List.replicate k (0 : Rat)).map tupR
  | 0 => rfl
  | k + 1 => by
    rw [List.replicate_succ, List.flatten_cons, flat_repT k]
    rfl
theorem mapT_at {as : List Rat} {i : Nat} (h : i < as.length) : atD (as.map tupR) (i : Int) = some (tupR (cf0 as i)) := by
  rw [atD_nat (by omega), Int.toNat_natCast, List.getElem?_map, List.getElem?_eq_getElem h, cf0_lt h]
  rfl
/-- what the rows before j give at n -/
def rowS (ps qs : List Rat) (j n : Nat) : Rat := sumTo j fun a => if a ≤ n then cf0 ps a * cf0 qs (n - a) else 0
theorem sumTo_cut {M : Nat} {f : Nat → Rat} (h : ∀ a, M ≤ a → f a = 0) : ∀ N, M ≤ N → sumTo N f = sumTo M f := by
  intro N
  induction N with
  | zero =>
    intro hN
    cases Nat.le_zero.mp hN
    rfl
  | succ N ih =>
    intro hN
    by_cases e : M = N + 1
    · rw [e]
    · show sumTo N f + f N = _
      rw [ih (by omega), h N (by omega)]
      grind
theorem rowS_conv (ps qs : List Rat) (n : Nat) : rowS ps qs ps.length n = conv ps qs n := by
  unfold rowS conv
  have z1 : ∀ a, n + 1 ≤ a → (if a ≤ n then cf0 ps a * cf0 qs (n - a) else 0 : Rat) = 0 := fun a h => if_neg (by omega)
  have z2 : ∀ a, ps.length ≤ a → (if a ≤ n then cf0 ps a * cf0 qs (n - a) else 0 : Rat) = 0 := fun a h => by
    rw [cf0_ge h]
    split <;> grind
  have e : sumTo (n + 1) (fun j => cf0 ps j * cf0 qs (n - j)) = sumTo (n + 1) fun a => if a ≤ n then cf0 ps a * cf0 qs (n - a) else 0 := sumTo_ext fun j hj => by rw [if_pos (by omega)]
  rw [e]
  by_cases h : n + 1 ≤ ps.length
  · exact sumTo_cut z1 _ h
  · exact (sumTo_cut z2 _ (by omega)).symm
theorem cf0_set {F : List Rat} {m : Nat} (hm : m < F.length) (x : Rat) (n : Nat) : cf0 (F.set m x) n = if n = m then x else cf0 F n := by
  unfold cf0
  rw [List.getD_eq_getElem?_getD, List.getD_eq_getElem?_getD, List.getElem?_set]
  by_cases e : m = n
  · subst e
    rw [if_pos rfl, if_pos hm, if_pos rfl]
    rfl
  · rw [if_neg e, if_neg (fun h => e h.symm)]
def c__law_product : Ct := fun args Q _ => ∃ (ds : List D) (ps qs : List Rat) (s : Nat), args = [.val (.lst ds), .val (lstR qs)] ∧ ds.length = ps.length ∧ (∀ j d, ds[j]? = some d → TQ s d (cf0 ps j)) ∧ ps.length ≤ 1000 ∧ qs.length ≤ 1000 ∧ 1 ≤ s ∧ (∀ p ∈ ps, Sz s p) ∧ (∀ q ∈ qs, Sz s q) ∧ (ps.length * qs.length) * (2 * s + 1) + 1 ≤ 3000000 ∧ Q (lstR (trimR (mulL ps qs))) args
def r__law_product : QS := (qSeq (qSetN 2 (qnMul (qLst (qCons (qTup (qCons (qC (.int 0)) (qCons (qC (.int 1)) qNil))) qNil)) (qBin oAdd (qB oLen (qCons (qVar 0) qNil)) (qB oLen (qCons (qVar 1) qNil)))))
    (qSeq (qFor (qRng1 (qB oLen (qCons (qVar 0) qNil))) (gV 3) (qFor (qRng1 (qB oLen (qCons (qVar 1) qNil))) (gV 4) (qSetIx 2 (qCall c__law_plus (qhVal (qIxM 2 (qBin oAdd (qVar 3) (qVar 4))) (qhVal (qCall c__law_times (qhVal (qBin oIx (qVar 0) (qVar 3)) (qhVal (qBin oIx (qVar 1) (qVar 4)) qhNil))) qhNil))) (qBin oAdd (qVar 3) (qVar 4)))))
    (qRet (qCall c__law_trimmed (qhVal (qVF 2) qhNil)))))
theorem len__law_product : ∀ args Q E, c__law_product args Q E → args.length = ps__law_product.length := by
  rintro args Q E ⟨_, _, _, _, rfl, _⟩
  rfl
theorem pure__law_product : ∀ args Q E, c__law_product args Q E → r__law_product (startE N__law_product.length args) (endsC args Q) (exnC args E) := by
  rintro args Q E ⟨ds, ps, qs, s, rfl, hds, hdT, h1, h2, hs1, hp, hs, hz, hq⟩
  refine ⟨Nat.le_of_ble_eq_true rfl, Nat.le_of_ble_eq_true rfl, by simp <;> omega, by simp <;> omega, by simp <;> omega, ?_⟩
  refine ⟨by omega, by omega, ?_⟩
  have eN : ((ds.length : Int) + ((qs.map tupR).length : Int)).toNat = ps.length + qs.length := by simp <;> omega
  refine loop_inv (fun j Γ => ∃ (F : List Rat) (f3 f4 : Bool) (d3 d4 : D), Γ = [.val (.lst ds), .val (lstR qs), .own (.lst (F.map tupR)), sl f3 d3, sl f4 d4] ∧ F.length = ps.length + qs.length ∧ (∀ n, cf0 F n = rowS ps qs j n) ∧ ∀ x ∈ F, Sz (j * qs.length * (2 * s + 1) + 1) x)
    ⟨List.replicate (ps.length + qs.length) 0, false, false, .non, .non, ?_, by simp, fun n => cf0_rep _ n, fun x hx => by rw [List.eq_of_mem_replicate hx]; exact Sz.zero (by omega)⟩ ?_ ?_
  · rw [← flat_repT, ← eN]
    rfl
  · rintro j t Γ K ed ⟨F, f3, f4, d3, d4, rfl, hl, hF, hsz⟩ hK
    obtain ⟨hj, rfl⟩ := rng_get ed
    have hj : j < ps.length := by rw [← hds]; simpa using hj
    have inner : ∀ (P : PEnds) (X : XP) (f4 : Bool) (d4 : D), P.nx = K → qFor (qRng1 (qB oLen (qCons (qVar 1) qNil))) (gV 4) (qSetIx 2 (qCall c__law_plus (qhVal (qIxM 2 (qBin oAdd (qVar 3) (qVar 4))) (qhVal (qCall c__law_times (qhVal (qBin oIx (qVar 0) (qVar 3)) (qhVal (qBin oIx (qVar 1) (qVar 4)) qhNil))) qhNil))) (qBin oAdd (qVar 3) (qVar 4))) [.val (.lst ds), .val (lstR qs), .own (.lst (F.map tupR)), .val (.int (j : Int)), sl f4 d4] P X := by
      intro P X f4 d4 hPK
      refine ⟨by simp <;> omega, by simp <;> omega, ?_⟩
      refine loop_inv (fun k Γ => ∃ (F : List Rat) (f4 : Bool) (d4 : D), Γ = [.val (.lst ds), .val (lstR qs), .own (.lst (F.map tupR)), .val (.int (j : Int)), sl f4 d4] ∧ F.length = ps.length + qs.length ∧ (∀ n, cf0 F n = rowS ps qs j n + if j ≤ n ∧ n < j + k then cf0 ps j * cf0 qs (n - j) else 0) ∧ ∀ x ∈ F, Sz ((j * qs.length + k) * (2 * s + 1) + 1) x) ⟨F, f4, d4, rfl, hl, fun n => by rw [hF n, if_neg (by omega)]; grind, hsz⟩ ?_ ?_
      · rintro k t Γ K' ek ⟨G, f4, d4, rfl, hl', hG, hsz'⟩ hK'
        obtain ⟨hk, rfl⟩ := rng_get ek
        have hk : k < qs.length := by simpa using hk
        have hjk : j + k < G.length := by omega
        have hb : (j * qs.length + (k + 1)) * (2 * s + 1) + 1 = (j * qs.length + k) * (2 * s + 1) + 1 + (s + s) + 1 := by
          rw [← Nat.add_assoc, Nat.add_mul _ 1]
          omega
        have hm1 : j * qs.length + (k + 1) ≤ ps.length * qs.length := by
          have : (j + 1) * qs.length ≤ ps.length * qs.length := Nat.mul_le_mul_right _ (by omega)
          rw [Nat.add_mul] at this
          omega
        have hm2 : (j * qs.length + (k + 1)) * (2 * s + 1) ≤ ps.length * qs.length * (2 * s + 1) := Nat.mul_le_mul_right _ hm1
        have hget : atD (G.map tupR) ((j : Int) + (k : Int)) = some (tupR (cf0 G (j + k))) := by
          have := mapT_at hjk
          rwa [show ((j + k : Nat) : Int) = (j : Int) + (k : Int) by omega] at this
        have szg : Sz ((j * qs.length + k) * (2 * s + 1) + 1) (cf0 G (j + k)) := cf0_sz hsz' (by omega) _
        have szp : Sz s (cf0 ps j) := cf0_sz hp hs1 _
        have szq : Sz s (cf0 qs k) := cf0_sz hs hs1 _
        have next : K' [.val (.lst ds), .val (lstR qs), .own (.lst ((G.set (j + k) (cf0 G (j + k) + cf0 ps j * cf0 qs k)).map tupR)), .val (.int (j : Int)), .val (.int (k : Int))] := by
          refine hK' _ ⟨_, true, .int (k : Int), rfl, by rw [List.length_set]; exact hl', fun n => ?_, fun x hx => ?_⟩
          · rw [cf0_set hjk, hG n]
            by_cases e : n = j + k
            · subst e
              rw [if_pos rfl, hG, if_neg (by omega), if_pos (by omega), show j + k - j = k by omega]
              grind
            · rw [if_neg e]
              congr 1
              by_cases e2 : j ≤ n ∧ n < j + k
              · rw [if_pos e2, if_pos (by omega)]
              · rw [if_neg e2, if_neg (by omega)]
          · rw [hb]
            rcases List.mem_or_eq_of_mem_set hx with hx | rfl
            · exact (hsz' x hx).mono (by omega)
            · exact szg.add (szp.mul szq)
        have ebl : Nat.ble (((j : Int) + (k : Int)).toNat + 1) (G.map tupR).length = true := Nat.ble_eq.mpr (by rw [List.length_map]; omega)
        have ens : ((j : Int) + (k : Int)).toNat = j + k := by omega
        obtain ⟨dj, hdj⟩ : ∃ dj, ds[j]? = some dj := ⟨ds[j]'(by omega), List.getElem?_eq_getElem _⟩
        have hatd : atD ds ((j : Nat) : Int) = some dj := by rw [atD_nat (by omega), Int.toNat_natCast]; exact hdj
        have tqj := hdT j dj hdj
        cases f4
        all_goals
          refine ⟨tupR (cf0 G (j + k)), hget, dj, hatd, tupR (cf0 qs k), mapT_at hk, dj, tupR (cf0 qs k), cf0 ps j, cf0 qs k, rfl, tqj.mono (by omega), TQ.of (szq.mono (by omega)), _, _, rfl, szg.mono (by omega), (szp.mul szq).mono (by omega), ?_⟩
          show (match Nat.ble (((j : Int) + (k : Int)).toNat + 1) (G.map tupR).length with | true => _ | false => _)
          rw [ebl]
          refine ⟨by omega, ?_⟩
          rw [ens]
          rw [List.map_set] at next
          exact next
      · rintro Γ ⟨G, f4, d4, rfl, hl', hG, hsz'⟩
        rw [List.length_map, List.length_range, List.length_map, Int.toNat_natCast] at hG hsz'
        rw [hPK]
        refine hK _ ⟨G, true, f4, .int (j : Int), d4, rfl, hl', fun n => ?_, fun x hx => ?_⟩
        · rw [hG n]
          show _ = rowS ps qs j n + (if j ≤ n then cf0 ps j * cf0 qs (n - j) else 0)
          congr 1
          by_cases e : j ≤ n
          · rw [if_pos e]
            by_cases e2 : n < j + qs.length
            · rw [if_pos ⟨e, e2⟩]
            · rw [if_neg (by omega), cf0_ge (qs := qs) (by omega)]
              grind
          · rw [if_neg e, if_neg (by omega)]
        · have := hsz' x hx
          rwa [show j * qs.length + qs.length = (j + 1) * qs.length by rw [Nat.add_mul, Nat.one_mul]] at this
    cases f3 <;> exact inner _ _ f4 d4 rfl
  · rintro Γ ⟨F, f3, f4, d3, d4, rfl, hl, hF, hsz⟩
    have e : trimR F = trimR (mulL ps qs) := trim_ext _ _ fun n => by
      have := hF n
      rw [List.length_map, List.length_range, Int.toNat_natCast, hds, rowS_conv] at this
      rw [this, mulL_cf]
    have fin : c__law_trimmed [.val (lstR F)] (fun d _ => Q (unfr d) [.val (.lst ds), .val (lstR qs)]) (fun x _ => E x [.val (.lst ds), .val (lstR qs)]) := ⟨F, rfl, by rw [e]; exact hq⟩
    cases f3 <;> cases f4 <;> exact fin
theorem ok__law_product {P : Program} {w : World} {K : Frag} {mg : Str → Option Value} {base : Heap} (W : Wd P K mg) (Fn : ∃ fd, FunD K d__law_product.name d__law_product.qual d__law_product.params d__law_product.body d__law_product.scope (d__law_product.dvs K) (d__law_product.kws K) (d__law_product.at_ K) fd) (h__law_plus : FnB P w K mg base d__law_plus 45 ps__law_plus c__law_plus) (h__law_times : FnB P w K mg base d__law_times 45 ps__law_times c__law_times) (h__law_trimmed : FnB P w K mg base d__law_trimmed 2 ps__law_trimmed c__law_trimmed) : FnB P w K mg base d__law_product 48 ps__law_product c__law_product := by
  refine FnB.of (N := N__law_product) (r := r__law_product) Fn sc__law_product len__law_product pure__law_product ?_
  intro f cdv A outer s H E0 hr G0 H0 B pin xa xd xc E tk hp h0
  have sc := sc__law_product
  have hu := roomU hr
  exact (lss_cons (ls_setN 2 sc.nd (ln_mul (le_lst (la_cons (le_tup (la_cons le_int (la_cons le_int la_nil))) la_nil)) (le_bin ol_add (le_b (bl_len rfl) (la_cons (le_var 0) la_nil) W.f_len) (le_b (bl_len rfl) (la_cons (le_var 1) la_nil) W.f_len))))
    (lss_cons (ls_for hp rfl (li_rng1 W.f_range (le_b (bl_len rfl) (la_cons (le_var 0) la_nil) W.f_len)) (lg_name 3 sc.nd) (lss_one (ls_for hp rfl (li_rng1 W.f_range (le_b (bl_len rfl) (la_cons (le_var 1) la_nil) W.f_len)) (lg_name 4 sc.nd) (lss_one (ls_setIx 2 (le_callC (h__law_plus.all rfl rfl rfl rfl rfl rfl (hr.mono (by decide : 45 ≤ 47)) rfl rfl bd__law_plus) W.g__law_plus h__law_plus.kp tk (lc_p (lh_val (le_ixM 2 rfl (le_bin ol_add (le_var 3) (le_var 4))) (lh_val (le_callC (h__law_times.all rfl rfl rfl rfl rfl rfl (hr.mono (by decide : 45 ≤ 47)) rfl rfl bd__law_times) W.g__law_times h__law_times.kp tk (lc_p (lh_val (le_ix (il_ix rfl) (le_var 0) (le_var 3)) (lh_val (le_ix (il_ix rfl) (le_var 1) (le_var 4)) lh_nil)))) lh_nil)))) (le_bin ol_add (le_var 3) (le_var 4)))))))
    (lss_one (ls_ret (le_callC (h__law_trimmed.all rfl rfl rfl rfl rfl rfl (hr.mono (by decide : 2 ≤ 47)) rfl rfl bd__law_trimmed) W.g__law_trimmed h__law_trimmed.kp tk (lc_p (lh_val (le_vF 2) lh_nil)))))))
abbrev N__law_made : List Str := ["_law_terms_here", "_law_term"]
abbrev ps__law_made : List Str := ["_law_terms_here"]
theorem sc__law_made : FnScope N__law_made ps__law_made d__law_made.scope := ⟨rfl, rfl, rfl, by decide +kernel, rfl, by decide +kernel, by decide +kernel⟩
theorem bd__law_made : ∀ (kV doc pm : Value) (an : Option Addr) (cdv ct : Value) (us : List Value), us.length = ps__law_made.length → bindArgs (fnOf d__law_made.name d__law_made.qual d__law_made.params d__law_made.body d__law_made.scope .none kV doc pm an cdv ct) ⟨us, []⟩ = pure (ps__law_made.zip us) := fun _ _ _ _ _ _ us hl => match us, hl with | [_], _ => rfl
def LQ (s : Nat) (d : D) (l : List Rat) : Prop := ∃ ds, d = .lst ds ∧ ds.length = l.length ∧ ∀ j e, ds[j]? = some e → TQ s e (cf0 l j)
theorem LQ.of {s : Nat} {l : List Rat} (h : ∀ x ∈ l, Sz s x) : LQ s (lstR l) l := ⟨l.map tupR, rfl, by rw [List.length_map], fun j e he => by
  rw [List.getElem?_map] at he
  obtain ⟨x, hx, rfl⟩ := Option.map_eq_some_iff.mp he
  obtain ⟨hj, e2⟩ := List.getElem?_eq_some_iff.mp hx
  rw [cf0_lt hj, e2]
  exact TQ.of (h x (List.mem_of_getElem? hx))⟩
theorem LQ.mono {s t : Nat} {d : D} {l : List Rat} (h : LQ s d l) (k : s ≤ t) : LQ t d l := by
  obtain ⟨ds, e, hl, ht⟩ := h
  exact ⟨ds, e, hl, fun j e he => (ht j e he).mono k⟩
theorem TQ.sz {s : Nat} {d : D} {p : Rat} (h : TQ s d p) : Sz s p := by
  obtain ⟨a, b, _, hb, e, h1, h2⟩ := h
  rw [← e]
  exact divInt_sz h1 h2 hb
def c__law_made : Ct := fun args Q _ => ∃ (d : D) (l : List Rat), args = [.val d] ∧ LQ 4000000 d l ∧ l.length ≤ 1000 ∧ Q (pD (mkP l)) args
def r__law_made : QS := (qRet (qCall (mkC .poly c_Polynomial_uinitu) (qhVal (qTell (qnLc (qiSeq (qVar 0)) (gV 1) qYes (qCall (mkC .ratio c_Ratio_uinitu) (qhVal (qBin oIx (qVar 1) (qC (.int 0))) (qhVal (qBin oIx (qVar 1) (qC (.int 1))) qhNil))) [1])) qhNil)))
theorem len__law_made : ∀ args Q E, c__law_made args Q E → args.length = ps__law_made.length := by
  rintro args Q E ⟨_, _, rfl, _⟩
  rfl
theorem pure__law_made : ∀ args Q E, c__law_made args Q E → r__law_made (startE N__law_made.length args) (endsC args Q) (exnC args E) := by
  rintro args Q E ⟨_, l, rfl, ⟨ds, rfl, hl, ht⟩, h1, hq⟩
  show qLcGo none _ _ _ _ ds [] [.val (.lst ds), .no] _ _
  refine lc_map (fun i => .rat (cf0 l i)) (by omega) trivial (fun i d Z X ed hZ => ?_) ?_
  · obtain ⟨a, b, rfl, hb, e, a1, b1⟩ := ht i d ed
    refine ⟨_, rfl, _, rfl, a, b, rfl, b1.mono (by decide), fun z => absurd z hb, fun _ => ⟨Rat.divInt a b, rfl, ?_⟩⟩
    rw [e]
    exact hZ _ rfl
  · have e : (List.range ds.length).map (fun i => D.rat (cf0 l i)) = rts l := by
      refine List.ext_getElem? fun i => ?_
      unfold rts
      rw [List.getElem?_map, List.getElem?_map, hl]
      by_cases h : i < l.length
      · rw [List.getElem?_range h, List.getElem?_eq_getElem h]
        show some (D.rat (cf0 l i)) = some (D.rat l[i])
        rw [cf0_lt h]
      · rw [List.getElem?_eq_none (by rw [List.length_range]; omega), List.getElem?_eq_none (l := l) (by omega)]
        rfl
    rw [e]
    dsimp only [qhNil, ixs, ndb, hmut, argsOf, Hd.arg, dMo, Bool.and_self]
    show mkC .poly c_Polynomial_uinitu [.val (.lst (rts l))] _ _
    refine mk_poly (by omega) (fun q hq => ?_) hq
    obtain ⟨i, hi, e2⟩ := List.getElem_of_mem hq
    obtain ⟨di, hdi⟩ : ∃ di, ds[i]? = some di := ⟨ds[i]'(by omega), List.getElem?_eq_getElem _⟩
    have := (ht i di hdi).sz
    rw [cf0_lt hi, e2] at this
    exact this.mono (by decide)
theorem ok__law_made {P : Program} {w : World} {K : Frag} {mg : Str → Option Value} {base : Heap} (W : Wd P K mg) (Fn : ∃ fd, FunD K d__law_made.name d__law_made.qual d__law_made.params d__law_made.body d__law_made.scope (d__law_made.dvs K) (d__law_made.kws K) (d__law_made.at_ K) fd) (h_Polynomial_uinitu : FnB P w K mg base d_Polynomial_uinitu 54 ps_Polynomial_uinitu c_Polynomial_uinitu) (h_Ratio_uinitu : FnB P w K mg base d_Ratio_uinitu 45 ps_Ratio_uinitu c_Ratio_uinitu) : FnB P w K mg base d__law_made 57 ps__law_made c__law_made := by
  refine FnB.of (N := N__law_made) (r := r__law_made) Fn sc__law_made len__law_made pure__law_made ?_
  intro f cdv A outer s H E0 hr G0 H0 B pin xa xd xc E tk hp h0
  have sc := sc__law_made
  have hu := roomU hr
  exact (lss_one (ls_ret (le_callC (code_make (pMk_ok W.mk_Polynomial) fun us kw => (h_Polynomial_uinitu.all rfl rfl rfl rfl rfl rfl ((hr.mono (by decide : 54 + 1 ≤ 56)).make _ us kw) rfl rfl bd_Polynomial_uinitu)) W.g_Polynomial W.mk_Polynomial.2.2.2 tk (lc_p (lh_val (le_tell (ln_lc [("_law_term", 1)] rfl sc.nd (Tk.def tk) (li_seq rfl (le_var 0)) (blkOk_by (by kernel_rfl)) (fun b q => (lgv_name 1 sc.nd)) (fun b q E' tk => lts_nil) (fun b q E' tk => (le_callC (code_make (pMk_ok W.mk_Ratio) fun us kw => (h_Ratio_uinitu.full rfl rfl rfl rfl rfl rfl ((hr.mono (by decide : 45 + 1 ≤ 56)).make _ us kw) (List.cons_ne_nil _ _) rfl bdf_Ratio_uinitu)) W.g_Ratio W.mk_Ratio.2.2.2 tk.t (lc_p (lh_val (le_ix (il_ix rfl) (le_var 1) le_int) (lh_val (le_ix (il_ix rfl) (le_var 1) le_int) lh_nil))))))) lh_nil)))))
end K06
set_option Elab.async false
set_option linter.all false
set_option maxRecDepth 100000
set_option maxHeartbeats 4000000
namespace K06
open PySem L2 PySem.Spec PyProof.Rows He PySem.W Q
abbrev N__law_factors : List Str := ["_law_box_here", "_law_zeros", "_law_k", "_law_x", "_law_found", "_law_c"]
abbrev ps__law_factors : List Str := ["_law_box_here"]
theorem sc__law_factors : FnScope N__law_factors ps__law_factors d__law_factors.scope := ⟨rfl, rfl, rfl, by decide +kernel, rfl, by decide +kernel, by decide +kernel⟩
theorem bd__law_factors : ∀ (kV doc pm : Value) (an : Option Addr) (cdv ct : Value) (us : List Value), us.length = ps__law_factors.length → bindArgs (fnOf d__law_factors.name d__law_factors.qual d__law_factors.params d__law_factors.body d__law_factors.scope .none kV doc pm an cdv ct) ⟨us, []⟩ = pure (ps__law_factors.zip us) := fun _ _ _ _ _ _ us hl => match us, hl with | [_], _ => rfl
theorem pick5 {r : Int} (h0 : 0 ≤ r) (h1 : r < 5) : ∃ c ∈ quadC, atD [.int 2, .int 3, .int (-1), .int (-2), .int 5] r = some (.int c) := by
  have : r = 0 ∨ r = 1 ∨ r = 2 ∨ r = 3 ∨ r = 4 := by omega
  rcases this with rfl | rfl | rfl | rfl | rfl
  · exact ⟨2, by decide, rfl⟩
  · exact ⟨3, by decide, rfl⟩
  · exact ⟨-1, by decide, rfl⟩
  · exact ⟨-2, by decide, rfl⟩
  · exact ⟨5, by decide, rfl⟩
theorem any_tup (q : Rat) : ∀ zs : List Rat, (toPys (zs.map tupR)).any (fun z => PyData.eqv z (toPy (tupR q))) = decide (q ∈ zs)
  | [] => by simp [toPys]
  | z :: zs => by
    show (PyData.eqv (toPy (tupR z)) (toPy (tupR q)) || (toPys (zs.map tupR)).any _) = _
    rw [any_tup q zs, eqv_tupR]
    by_cases h : z = q
    · simp [h]
    · have : q ≠ z := fun e => h e.symm
      simp [h, this]
theorem numM_sz {q : Rat} (h : NumM 4 q) : Sz 100 q := by
  obtain ⟨u, v, e, h1, h2, h3, h4⟩ := h
  rw [e]
  exact divInt_sz (bdn (n := 100) 100 (by omega) (by omega) rfl) (bdn (n := 100) 100 (by omega) (by omega) rfl) (by omega)
theorem plain_tups (zs : List Rat) : plainD (.lst (zs.map tupR)) = true := plain_lst tupR (fun _ => rfl) (fun _ => rfl) 1 (fun _ => Nat.le_of_ble_eq_true rfl) (by decide) zs
theorem nodup_snoc {zs : List Rat} {q : Rat} (h : zs.Nodup) (n : q ∉ zs) : (zs ++ [q]).Nodup := by
  rw [List.nodup_append]
  exact ⟨h, by simp, fun a ha b hb e => n (by rw [List.mem_singleton.mp hb] at e; rw [← e]; exact ha)⟩
theorem facs_D (zs : List Rat) (c : Int) : (zs.map fun z => D.lst [tupR (0 - z), tupR 1]) ++ [D.lst [.tup [.int (0 - c), .int 1], .tup [.int 0, .int 1], .tup [.int 1, .int 1]]] = (facs zs c).map lstR := by
  unfold facs
  rw [List.map_append, List.map_map]
  rfl
def c__law_factors : Ct := fun args Q _ => ∃ a b c : Int, args = [boxD a b c] ∧ BoxOk a b c ∧ b < 800000 ∧ ∀ (zs : List Rat) (cc a' b' : Int), FacOk zs cc → 0 ≤ a' → 0 ≤ b' → b' ≤ b + 20 → Q (.lst ((facs zs cc).map lstR)) [boxD a' b' c]
def r__law_factors : QS := (qSeq (qSetN 1 (qnLst qNil))
    (qSeq (qFor (qRng1 (qC (.int 3))) (gV 2) (qSeq (qSet 3 (qCall c__law_number (qhAny 0 (qhVal (qC (.int 4)) qhNil))))
    (qIfS (qPeekT (qTest (qBin oNotIn (qVar 3) (qVar 1)))) (qDrop (qAppend 1 (qVar 3))) qNx)))
    (qSeq (qSetN 4 (qnLc (qiAny 1) (gV 3) qYes (qLst (qCons (qCall c__law_minus (qhVal (qTup (qCons (qC (.int 0)) (qCons (qC (.int 1)) qNil))) (qhVal (qVar 3) qhNil))) (qCons (qTup (qCons (qC (.int 1)) (qCons (qC (.int 1)) qNil))) qNil))) [3]))
    (qSeq (qSet 5 (qBin oIx (qLst (qCons (qC (.int 2)) (qCons (qC (.int 3)) (qCons (qUn oNeg (qC (.int 1))) (qCons (qUn oNeg (qC (.int 2))) (qCons (qC (.int 5)) qNil)))))) (qCall c__law_take (qhAny 0 (qhVal (qC (.int 5)) qhNil)))))
    (qSeq (qDrop (qAppend 4 (qLst (qCons (qTup (qCons (qBin oSub (qC (.int 0)) (qVar 5)) (qCons (qC (.int 1)) qNil))) (qCons (qTup (qCons (qC (.int 0)) (qCons (qC (.int 1)) qNil))) (qCons (qTup (qCons (qC (.int 1)) (qCons (qC (.int 1)) qNil))) qNil))))))
    (qRet (qVF 4)))))))
theorem len__law_factors : ∀ args Q E, c__law_factors args Q E → args.length = ps__law_factors.length := by
  rintro args Q E ⟨_, _, _, rfl, _⟩
  rfl
theorem pure__law_factors : ∀ args Q E, c__law_factors args Q E → r__law_factors (startE N__law_factors.length args) (endsC args Q) (exnC args E) := by
  rintro args Q E ⟨a, b, c, rfl, hb, hb8, hq⟩
  have hb0 := hb.hb
  refine ⟨Nat.le_of_ble_eq_true rfl, by omega, by omega, ?_⟩
  refine loop_inv (fun i Γ => ∃ (zs : List Rat) (a1 b1 : Int) (s2 s3 : Slot), Γ = [boxD a1 b1 c, .own (.lst (zs.map tupR)), s2, s3, .no, .no] ∧ nvv s2 ∧ nvv s3 ∧ zs.Nodup ∧ zs.length ≤ i ∧ (∀ z ∈ zs, NumM 4 z) ∧ 0 ≤ a1 ∧ 0 ≤ b1 ∧ b1 ≤ b + 3 * i) ⟨[], a, b, .no, .no, rfl, .inl rfl, .inl rfl, List.nodup_nil, Nat.le_refl _, (fun _ h => nomatch h), hb.ha, hb0, by omega⟩ ?_ ?_
  · rintro i d Γ K ed ⟨zs, a1, b1, s2, s3, rfl, h2, h3, nd, hl, hn, g1, g2, g3⟩ hK
    have hi : i < 3 := by simpa using (List.getElem?_eq_some_iff.mp ed).1
    refine setV_mv (s := s2) rfl h2 ?_
    refine ⟨a1, b1, c, 4, rfl, hb.next g1 g2 (by omega), by omega, .inl rfl, fun q a2 b2 hq4 k1 k2 k3 => ?_⟩
    refine setV_mv (s := s3) rfl h3 ?_
    refine ⟨plain_tupR q, plain_tups zs, ?_⟩
    show (match !((toPys (zs.map tupR)).any fun z => PyData.eqv z (toPy (tupR q))) with | true => _ | false => _)
    rw [any_tup]
    by_cases hm : q ∈ zs
    · rw [decide_eq_true hm]
      exact hK _ ⟨zs, a2, b2, _, _, rfl, .inr ⟨_, rfl⟩, .inr ⟨_, rfl⟩, nd, by omega, hn, k1, k2, by omega⟩
    · rw [decide_eq_false hm]
      refine ⟨by rw [List.length_map]; omega, ?_⟩
      refine hK _ ⟨zs ++ [q], a2, b2, .val d, .val (tupR q), ?_, .inr ⟨_, rfl⟩, .inr ⟨_, rfl⟩, ?_, by rw [List.length_append, List.length_singleton]; omega, fun z hz => ?_, k1, k2, by omega⟩
      · rw [List.map_append]; rfl
      · exact nodup_snoc nd hm
      · rcases List.mem_append.mp hz with m | m
        · exact hn z m
        · rw [List.mem_singleton.mp m]; exact hq4
  · rintro Γ ⟨zs, a1, b1, s2, s3, rfl, h2, h3, nd, hl, hn, g1, g2, g3⟩
    have hl3 : zs.length ≤ 3 := by simpa using hl
    have hg3 : b1 ≤ b + 9 := by have : b1 ≤ b + 3 * (((List.range (3 : Int).toNat).map fun i : Nat => D.int (i : Int)).length : Int) := g3; simp at this; omega
    have hmap : (List.range (zs.map tupR).length).map (fun i => D.lst [tupR (0 - cf0 zs i), tupR 1]) = zs.map fun z => D.lst [tupR (0 - z), tupR 1] := by
      refine List.ext_getElem? fun i => ?_
      rw [List.getElem?_map, List.getElem?_map, List.length_map]
      by_cases h : i < zs.length
      · rw [List.getElem?_range h, List.getElem?_eq_getElem h]
        show some (D.lst [tupR (0 - cf0 zs i), tupR 1]) = some (D.lst [tupR (0 - zs[i]), tupR 1])
        rw [cf0_lt h]
      · rw [List.getElem?_eq_none (by rw [List.length_range]; omega), List.getElem?_eq_none (l := zs) (by omega)]
        rfl
    rcases h2 with rfl | ⟨d2, rfl⟩ <;> rcases h3 with rfl | ⟨d3, rfl⟩
    all_goals
      refine lc_map (fun i => .lst [tupR (0 - cf0 zs i), tupR 1]) (by rw [List.length_map]; omega) rfl (fun i d Z X ed hZ => ?_) ?_
      · have hi := (List.getElem?_eq_some_iff.mp ed).1
        rw [List.length_map] at hi
        have e3 : d = tupR (cf0 zs i) := by
          rw [List.getElem?_map, List.getElem?_eq_getElem hi] at ed
          rw [cf0_lt hi]
          exact (Option.some.inj ed).symm
        subst e3
        refine ⟨Nat.le_of_ble_eq_true rfl, tupR 0, tupR (cf0 zs i), 0, cf0 zs i, rfl, TQ.of (Sz.zero (by decide)), TQ.of ((numM_sz (hn _ (by rw [cf0_lt hi]; exact List.getElem_mem hi))).mono (by decide)), ?_⟩
        refine ⟨Nat.le_of_ble_eq_true rfl, Nat.le_of_ble_eq_true rfl, ?_⟩
        exact hZ _ rfl
      · rw [hmap]
        refine ⟨Nat.le_of_ble_eq_true rfl, a1, b1, c, 5, rfl, hb.next g1 g2 (by omega), by decide, bdk (by decide) (by decide), fun r a2 b2 k1 k2 k3 k4 k5 => ?_⟩
        obtain ⟨cc, hc, hcw⟩ := pick5 k1 k2
        refine ⟨.int cc, hcw, ?_⟩
        refine ⟨Nat.le_of_ble_eq_true rfl, Nat.le_of_ble_eq_true rfl, Nat.le_of_ble_eq_true rfl, Nat.le_of_ble_eq_true rfl, by rw [List.length_map]; omega, ?_⟩
        show Q (.lst ((zs.map fun z => D.lst [tupR (0 - z), tupR 1]) ++ _)) _
        rw [facs_D]
        exact hq zs cc a2 b2 ⟨nd, hl3, hn, hc⟩ k3 k4 (by omega)
theorem ok__law_factors {P : Program} {w : World} {K : Frag} {mg : Str → Option Value} {base : Heap} (W : Wd P K mg) (Fn : ∃ fd, FunD K d__law_factors.name d__law_factors.qual d__law_factors.params d__law_factors.body d__law_factors.scope (d__law_factors.dvs K) (d__law_factors.kws K) (d__law_factors.at_ K) fd) (h__law_number : FnB P w K mg base d__law_number 45 ps__law_number c__law_number) (h__law_minus : FnB P w K mg base d__law_minus 45 ps__law_minus c__law_minus) (h__law_take : FnB P w K mg base d__law_take 2 ps__law_take c__law_take) : FnB P w K mg base d__law_factors 48 ps__law_factors c__law_factors := by
  refine FnB.of (N := N__law_factors) (r := r__law_factors) Fn sc__law_factors len__law_factors pure__law_factors ?_
  intro f cdv A outer s H E0 hr G0 H0 B pin xa xd xc E tk hp h0
  have sc := sc__law_factors
  have hu := roomU hr
  exact (lss_cons (ls_setN 1 sc.nd (ln_lst la_nil))
    (lss_cons (ls_for hp rfl (li_rng1 W.f_range le_int) (lg_name 2 sc.nd) (lss_cons (ls_set 3 sc.nd (le_callC (h__law_number.all rfl rfl rfl rfl rfl rfl (hr.mono (by decide : 45 ≤ 47)) rfl rfl bd__law_number) W.g__law_number h__law_number.kp tk (lc_p (lh_any 0 (lh_val le_int lh_nil)))))
    (lss_one (ls_if (lt_peek fun q tk => (lt_cmp (ol_notIn rfl hu) (le_var 3) (le_var 1))) (lss_one (ls_expr (le_append 1 (le_var 3)))) lss_nil))))
    (lss_cons (ls_setLcN [("_law_x", 3)] 4 rfl sc.nd (Tk.def tk) (li_any 1 rfl) (blkOk_by (by kernel_rfl)) (fun b q => (lgv_name 3 sc.nd)) (fun b q E' tk => lts_nil) (fun b q E' tk => (le_lst (la_cons (le_callC (h__law_minus.all rfl rfl rfl rfl rfl rfl (hr.mono (by decide : 45 ≤ 47)) rfl rfl bd__law_minus) W.g__law_minus h__law_minus.kp tk.t (lc_p (lh_val (le_tup (la_cons le_int (la_cons le_int la_nil))) (lh_val (le_var 3) lh_nil)))) (la_cons (le_tup (la_cons le_int (la_cons le_int la_nil))) la_nil)))))
    (lss_cons (ls_set 5 sc.nd (le_ix (il_ix rfl) (le_lst (la_cons le_int (la_cons le_int (la_cons (le_un ul_neg le_int) (la_cons (le_un ul_neg le_int) (la_cons le_int la_nil)))))) (le_callC (h__law_take.all rfl rfl rfl rfl rfl rfl (hr.mono (by decide : 2 ≤ 47)) rfl rfl bd__law_take) W.g__law_take h__law_take.kp tk (lc_p (lh_any 0 (lh_val le_int lh_nil))))))
    (lss_cons (ls_expr (le_append 4 (le_lst (la_cons (le_tup (la_cons (le_bin ol_sub le_int (le_var 5)) (la_cons le_int la_nil))) (la_cons (le_tup (la_cons le_int (la_cons le_int la_nil))) (la_cons (le_tup (la_cons le_int (la_cons le_int la_nil))) la_nil))))))
    (lss_one (ls_ret (le_vF 4))))))))
end K06
set_option Elab.async false
set_option linter.all false
set_option maxRecDepth 100000
set_option maxHeartbeats 4000000
namespace K06
open PySem L2 PySem.Spec PyProof.Rows He PySem.W Q
abbrev N__law_powered : List Str := ["_law_factors_here", "_law_powers", "_law_scale", "_law_found", "_law_k", "_law_turn"]
abbrev ps__law_powered : List Str := ["_law_factors_here", "_law_powers", "_law_scale"]
theorem sc__law_powered : FnScope N__law_powered ps__law_powered d__law_powered.scope := ⟨rfl, rfl, rfl, by decide +kernel, rfl, by decide +kernel, by decide +kernel⟩
theorem bd__law_powered : ∀ (kV doc pm : Value) (an : Option Addr) (cdv ct : Value) (us : List Value), us.length = ps__law_powered.length → bindArgs (fnOf d__law_powered.name d__law_powered.qual d__law_powered.params d__law_powered.body d__law_powered.scope .none kV doc pm an cdv ct) ⟨us, []⟩ = pure (ps__law_powered.zip us) := fun _ _ _ _ _ _ us hl => match us, hl with | [_, _, _], _ => rfl
def PW (m : Nat) (p : Pol) (d : D) (l : List Rat) : Prop := LQ 100 d l ∧ l.length ≤ 2 * m + 1 ∧ mkP l = p ∧ BP (2 ^ (3 + 5 * m)) p
theorem PW.pl {m : Nat} {p : Pol} {d : D} {l : List Rat} (h : PW m p d l) : p.len ≤ 2 * m + 1 := by
  obtain ⟨_, h2, h3, _⟩ := h
  rw [← h3]
  exact Nat.le_trans (trim_len l) h2
theorem PW.step {m : Nat} {p : Pol} {d : D} {l f : List Rat} (h : PW m p d l) (hm : m ≤ 6) (hb : BP (2 ^ 3) (mkP f)) (hl : (mkP f).len ≤ 3) : PW (m + 1) (p * mkP f) (lstR (trimR (mulL l f))) (trimR (mulL l f)) := by
  have e : mkP (mulL l f) = p * mkP f := by rw [← h.2.2.1]; exact Pol.ext fun x => by rw [ev_mk, horner_mulL, ev_mul, ev_mk, ev_mk]
  have B : BP (2 ^ (3 + 5 * (m + 1))) (p * mkP f) := (h.2.2.2.mul hb (l := 2) (by show (mkP f).len ≤ 4; omega)).mono (p2 (by omega))
  have hl2 : (p * mkP f).len ≤ 2 * m + 2 + 1 := len_mul_le h.pl hl
  refine ⟨LQ.of fun x hx => ?_, ?_, ?_, B⟩
  · refine (B.sz x ?_).mono (by omega)
    rw [← e]; exact hx
  · have : (mkP (mulL l f)).len = (trimR (mulL l f)).length := rfl
    rw [← this, e]; omega
  · rw [← e]
    exact mkP_l (mkP (mulL l f))
theorem tk_sum : ∀ (ns : List Nat) (k : Nat), (ns.take k).sum ≤ ns.sum
  | [], k => by simp
  | n :: ns, 0 => by simp
  | n :: ns, k + 1 => by
    have := tk_sum ns k
    simp
    omega
theorem take_snoc {α : Type} {l : List α} {k : Nat} {a : α} (h : l[k]? = some a) : l.take (k + 1) = l.take k ++ [a] := by rw [List.take_add_one, h]; rfl
theorem sum_snoc (as : List Nat) (a : Nat) : (as ++ [a]).sum = as.sum + a := by simp
theorem atD_map {α : Type} {f : α → D} {l : List α} {k : Nat} {a : α} (h : l[k]? = some a) : atD (l.map f) ((k : Nat) : Int) = some (f a) := by
  rw [atD_nat (by omega), Int.toNat_natCast, List.getElem?_map, h]
  rfl
def c__law_powered : Ct := fun args Q _ => ∃ (xd : D) (x : Rat) (zs : List Rat) (cc : Int) (ns : List Nat), args = [.val (.lst ((facs zs cc).map lstR)), .val (.lst (ns.map fun n : Nat => D.int (n : Int))), .val xd] ∧ TQ 20 xd x ∧ BP (2 ^ 3) (Pol.C x) ∧ FacOk zs cc ∧ ns.length = (facs zs cc).length ∧ ns.sum ≤ 7 ∧ ∀ (ds : List D) (l : List Rat), PW ns.sum (Pol.C x * PPow ((facs zs cc).map mkP) ns) (.lst ds) l → Q (.lst ds) args
def r__law_powered : QS := (qSeq (qSet 3 (qLst (qCons (qVar 2) qNil)))
    (qSeq (qFor (qRng1 (qB oLen (qCons (qVar 0) qNil))) (gV 4) (qFor (qRng1 (qBin oIx (qVar 1) (qVar 4))) (gV 5) (qSet 3 (qCall c__law_product (qhVal (qVar 3) (qhVal (qBin oIx (qVar 0) (qVar 4)) qhNil))))))
    (qRet (qVar 3))))
theorem len__law_powered : ∀ args Q E, c__law_powered args Q E → args.length = ps__law_powered.length := by
  rintro args Q E ⟨_, _, _, _, _, rfl, _⟩
  rfl
theorem pure__law_powered : ∀ args Q E, c__law_powered args Q E → r__law_powered (startE N__law_powered.length args) (endsC args Q) (exnC args E) := by
  rintro args Q E ⟨xd, x, zs, cc, ns, rfl, hx, hxb, F, hl, hs, hq⟩
  have hfl : (facs zs cc).length ≤ 4 := by unfold facs; rw [List.length_append, List.length_map, List.length_singleton]; have := F.len; omega
  refine ⟨Nat.le_of_ble_eq_true rfl, ?_⟩
  refine ⟨by show (((facs zs cc).map lstR).length : Int) ≤ 100000; rw [List.length_map]; omega, by show -100000 ≤ (((facs zs cc).map lstR).length : Int); omega, ?_⟩
  refine loop_inv (fun k Γ => ∃ (d : D) (l : List Rat) (s4 s5 : Slot), Γ = [.val (.lst ((facs zs cc).map lstR)), .val (.lst (ns.map fun n : Nat => D.int (n : Int))), .val xd, .val d, s4, s5] ∧ nvv s4 ∧ nvv s5 ∧ PW (ns.take k).sum (Pol.C x * PPow (((facs zs cc).map mkP).take k) (ns.take k)) d l) ⟨.lst [xd], [x], .no, .no, rfl, .inl rfl, .inl rfl, ?_⟩ ?_ ?_
  · have e : mkP [x] = Pol.C x * PPow (((facs zs cc).map mkP).take 0) (ns.take 0) := by
      show mkP [x] = Pol.C x * 1
      exact Pol.ext fun y => by rw [ev_mk, ev_mul, ev_C, ev_one]; show 0 * y + x = _; grind
    refine ⟨⟨[xd], rfl, rfl, fun j e he => ?_⟩, Nat.le_refl _, e, ?_⟩
    · match j with
      | 0 => cases he; exact hx.mono (by decide)
      | j + 1 => cases he
    · rw [← e, e]
      have : Pol.C x * PPow (((facs zs cc).map mkP).take 0) (ns.take 0) = Pol.C x := by show Pol.C x * 1 = _; grind
      rw [this]; exact hxb
  · rintro k d Γ K ed ⟨dd, l, s4, s5, rfl, h4, h5, hp⟩ hK
    have hk : k < (facs zs cc).length := by simpa using (List.getElem?_eq_some_iff.mp ed).1
    obtain ⟨f, hf⟩ : ∃ f, (facs zs cc)[k]? = some f := ⟨_, List.getElem?_eq_getElem hk⟩
    obtain ⟨n, hn⟩ : ∃ n, ns[k]? = some n := ⟨_, List.getElem?_eq_getElem (by omega)⟩
    have hd : d = .int (k : Int) := by simpa using (by rw [List.getElem?_map, List.getElem?_range (by simpa using hk)] at ed; exact (Option.some.inj ed).symm)
    subst hd
    have hfm : f ∈ facs zs cc := List.mem_of_getElem? hf
    obtain ⟨fb, flen, fl, fsz⟩ := F.bp f hfm
    have hts : (ns.take (k + 1)).sum = (ns.take k).sum + n := by rw [take_snoc hn, sum_snoc]
    have htl := tk_sum ns (k + 1)
    refine setV_mv (s := s4) rfl h4 ?_
    refine ⟨_, atD_map hn, by omega, by omega, ?_⟩
    refine loop_inv (fun t Γ => ∃ (d : D) (l : List Rat) (s5 : Slot), Γ = [.val (.lst ((facs zs cc).map lstR)), .val (.lst (ns.map fun n : Nat => D.int (n : Int))), .val xd, .val d, .val (.int (k : Int)), s5] ∧ nvv s5 ∧ PW ((ns.take k).sum + t) (Pol.C x * PPow (((facs zs cc).map mkP).take k) (ns.take k) * mkP f ^ t) d l) ⟨dd, l, s5, rfl, h5, ?_⟩ ?_ ?_
    · have : Pol.C x * PPow (((facs zs cc).map mkP).take k) (ns.take k) * mkP f ^ 0 = Pol.C x * PPow (((facs zs cc).map mkP).take k) (ns.take k) := by grind
      rw [this]; exact hp
    · rintro t d Γ K' ed ⟨dd, l, s5, rfl, h5, hp⟩ hK'
      have ht : t < n := by simpa using (List.getElem?_eq_some_iff.mp ed).1
      refine setV_mv (s := s5) rfl h5 ?_
      refine ⟨_, atD_map hf, ?_⟩
      have hpm := hp
      obtain ⟨⟨ds, rfl, dl, dt⟩, ll, _, _⟩ := hpm
      refine ⟨ds, l, f, 100, rfl, dl, dt, by omega, by omega, by decide, fun p hp => ?_, fsz, ?_, ?_⟩
      · obtain ⟨i, hi, e2⟩ := List.getElem_of_mem hp
        obtain ⟨di, hdi⟩ : ∃ di, ds[i]? = some di := ⟨ds[i]'(by omega), List.getElem?_eq_getElem _⟩
        have := (dt i di hdi).sz
        rwa [cf0_lt hi, e2] at this
      · have : l.length * f.length ≤ 15 * 3 := Nat.mul_le_mul (by omega) fl
        omega
      · refine hK' _ ⟨lstR (trimR (mulL l f)), trimR (mulL l f), .val d, rfl, .inr ⟨d, rfl⟩, ?_⟩
        have e : Pol.C x * PPow (((facs zs cc).map mkP).take k) (ns.take k) * mkP f ^ (t + 1) = Pol.C x * PPow (((facs zs cc).map mkP).take k) (ns.take k) * mkP f ^ t * mkP f := by grind
        rw [e]
        exact hp.step (by omega) fb flen
    · rintro Γ ⟨dd, l, s5, rfl, h5, hp⟩
      refine hK _ ⟨dd, l, _, s5, rfl, .inr ⟨_, rfl⟩, h5, ?_⟩
      have e0 : ((List.range ((n : Int)).toNat).map fun i : Nat => D.int (i : Int)).length = n := by simp
      have hp : PW ((ns.take k).sum + ((List.range ((n : Int)).toNat).map fun i : Nat => D.int (i : Int)).length) (Pol.C x * PPow (((facs zs cc).map mkP).take k) (ns.take k) * mkP f ^ ((List.range ((n : Int)).toNat).map fun i : Nat => D.int (i : Int)).length) dd l := hp
      rw [e0] at hp
      have e : Pol.C x * PPow (((facs zs cc).map mkP).take (k + 1)) (ns.take (k + 1)) = Pol.C x * PPow (((facs zs cc).map mkP).take k) (ns.take k) * mkP f ^ n := by
        rw [take_snoc hn, take_snoc (by rw [List.getElem?_map, hf]; rfl), ppow_snoc _ _ _ _ (by rw [List.length_take, List.length_take, List.length_map, hl])]
        grind
      rw [hts, e]
      exact hp
  · rintro Γ ⟨dd, l, s4, s5, rfl, h4, h5, hp⟩
    have e0 : ((List.range ((((facs zs cc).map lstR).length : Nat) : Int).toNat).map fun i : Nat => D.int (i : Int)).length = (facs zs cc).length := by simp
    have hp : PW (ns.take ((List.range ((((facs zs cc).map lstR).length : Nat) : Int).toNat).map fun i : Nat => D.int (i : Int)).length).sum (Pol.C x * PPow (((facs zs cc).map mkP).take ((List.range ((((facs zs cc).map lstR).length : Nat) : Int).toNat).map fun i : Nat => D.int (i : Int)).length) (ns.take ((List.range ((((facs zs cc).map lstR).length : Nat) : Int).toNat).map fun i : Nat => D.int (i : Int)).length)) dd l := hp
    rw [e0, List.take_of_length_le (by omega), List.take_of_length_le (by rw [List.length_map]; exact Nat.le_refl _)] at hp
    have hpm := hp
    obtain ⟨⟨ds, rfl, _⟩, _⟩ := hpm
    exact hq ds l hp
theorem ok__law_powered {P : Program} {w : World} {K : Frag} {mg : Str → Option Value} {base : Heap} (W : Wd P K mg) (Fn : ∃ fd, FunD K d__law_powered.name d__law_powered.qual d__law_powered.params d__law_powered.body d__law_powered.scope (d__law_powered.dvs K) (d__law_powered.kws K) (d__law_powered.at_ K) fd) (h__law_product : FnB P w K mg base d__law_product 48 ps__law_product c__law_product) : FnB P w K mg base d__law_powered 51 ps__law_powered c__law_powered := by
  refine FnB.of (N := N__law_powered) (r := r__law_powered) Fn sc__law_powered len__law_powered pure__law_powered ?_
  intro f cdv A outer s H E0 hr G0 H0 B pin xa xd xc E tk hp h0
  have sc := sc__law_powered
  have hu := roomU hr
  exact (lss_cons (ls_set 3 sc.nd (le_lst (la_cons (le_var 2) la_nil)))
    (lss_cons (ls_for hp rfl (li_rng1 W.f_range (le_b (bl_len rfl) (la_cons (le_var 0) la_nil) W.f_len)) (lg_name 4 sc.nd) (lss_one (ls_for hp rfl (li_rng1 W.f_range (le_ix (il_ix rfl) (le_var 1) (le_var 4))) (lg_name 5 sc.nd) (lss_one (ls_set 3 sc.nd (le_callC (h__law_product.all rfl rfl rfl rfl rfl rfl (hr.mono (by decide : 48 ≤ 50)) rfl rfl bd__law_product) W.g__law_product h__law_product.kp tk (lc_p (lh_val (le_var 3) (lh_val (le_ix (il_ix rfl) (le_var 0) (le_var 4)) lh_nil)))))))))
    (lss_one (ls_ret (le_var 3)))))
abbrev N__law_least : List Str := ["_law_one", "_law_other"]
abbrev ps__law_least : List Str := ["_law_one", "_law_other"]
theorem sc__law_least : FnScope N__law_least ps__law_least d__law_least.scope := ⟨rfl, rfl, rfl, by decide +kernel, rfl, by decide +kernel, by decide +kernel⟩
theorem bd__law_least : ∀ (kV doc pm : Value) (an : Option Addr) (cdv ct : Value) (us : List Value), us.length = ps__law_least.length → bindArgs (fnOf d__law_least.name d__law_least.qual d__law_least.params d__law_least.body d__law_least.scope .none kV doc pm an cdv ct) ⟨us, []⟩ = pure (ps__law_least.zip us) := fun _ _ _ _ _ _ us hl => match us, hl with | [_, _], _ => rfl
def c__law_least : Ct := fun args Q _ => ∃ a b : Nat, args = [.val (.int (a : Int)), .val (.int (b : Int))] ∧ Q (.int ((min a b : Nat) : Int)) args
def r__law_least : QS := (qRet (qIf (qTest (qBin oLt (qVar 0) (qVar 1))) (qVar 0) (qVar 1)))
theorem len__law_least : ∀ args Q E, c__law_least args Q E → args.length = ps__law_least.length := by
  rintro args Q E ⟨_, _, rfl, _⟩
  rfl
theorem pure__law_least : ∀ args Q E, c__law_least args Q E → r__law_least (startE N__law_least.length args) (endsC args Q) (exnC args E) := by
  rintro args Q E ⟨a, b, rfl, hq⟩
  show (match decide ((a : Int) < (b : Int)) with | true => _ | false => _)
  by_cases h : a < b
  · rw [decide_eq_true (by omega)]
    rw [show min a b = a by omega] at hq
    exact hq
  · rw [decide_eq_false (by omega)]
    rw [show min a b = b by omega] at hq
    exact hq
theorem ok__law_least {P : Program} {w : World} {K : Frag} {mg : Str → Option Value} {base : Heap} (W : Wd P K mg) (Fn : ∃ fd, FunD K d__law_least.name d__law_least.qual d__law_least.params d__law_least.body d__law_least.scope (d__law_least.dvs K) (d__law_least.kws K) (d__law_least.at_ K) fd) : FnB P w K mg base d__law_least 2 ps__law_least c__law_least := by
  refine FnB.of (N := N__law_least) (r := r__law_least) Fn sc__law_least len__law_least pure__law_least ?_
  intro f cdv A outer s H E0 hr G0 H0 B pin xa xd xc E tk hp h0
  have sc := sc__law_least
  have hu := roomU hr
  exact (lss_one (ls_ret (le_if (lt_cmp ol_lt (le_var 0) (le_var 1)) (le_var 0) (le_var 1))))
abbrev N__law_zero : List Str := ["_law_poly", "_law_caught"]
abbrev ps__law_zero : List Str := ["_law_poly"]
theorem sc__law_zero : FnScope N__law_zero ps__law_zero d__law_zero.scope := ⟨rfl, rfl, rfl, by decide +kernel, rfl, by decide +kernel, by decide +kernel⟩
theorem bd__law_zero : ∀ (kV doc pm : Value) (an : Option Addr) (cdv ct : Value) (us : List Value), us.length = ps__law_zero.length → bindArgs (fnOf d__law_zero.name d__law_zero.qual d__law_zero.params d__law_zero.body d__law_zero.scope .none kV doc pm an cdv ct) ⟨us, []⟩ = pure (ps__law_zero.zip us) := fun _ _ _ _ _ _ us hl => match us, hl with | [_], _ => rfl
def c__law_zero : Ct := fun args Q _ => ∃ f : Pol, args = [.val (pD f)] ∧ f.len ≤ 40 ∧ Q (.bl true) args
def r__law_zero : QS := (qSeq (qSet 1 (qC (.int 0)))
    (qSeq (qTry exm_ByZero (qDrop (qMeth c_Polynomial_parted (qrVal .poly (qVar 0)) (qhVal (qCall (mkC .poly c_Polynomial_uinitu) (qhVal (qLst (qCons (qC (.int 0)) qNil)) qhNil)) qhNil))) (qSet 1 (qBin oAdd (qVar 1) (qC (.int 1)))))
    (qSeq (qTry exm_ZeroPolynomial (qDrop (qCall c_single (qhVal (qCall (mkC .poly c_Polynomial_uinitu) (qhVal (qLst qNil) qhNil)) qhNil))) (qSet 1 (qBin oAdd (qVar 1) (qC (.int 1)))))
    (qRet (qBin oEq (qVar 1) (qC (.int 2)))))))
theorem len__law_zero : ∀ args Q E, c__law_zero args Q E → args.length = ps__law_zero.length := by
  rintro args Q E ⟨_, rfl, _⟩
  rfl
theorem pure__law_zero : ∀ args Q E, c__law_zero args Q E → r__law_zero (startE N__law_zero.length args) (endsC args Q) (exnC args E) := by
  rintro args Q E ⟨f, rfl, hl, hq⟩
  refine ⟨Nat.le_of_ble_eq_true rfl, ?_⟩
  dsimp only [qhNil, ixs, ndb, hmut, argsOf, Hd.arg, dMo, Bool.and_self]
  show mkC .poly c_Polynomial_uinitu [.val (.lst [.int 0])] _ _
  refine mk_polyI (qs := [0]) (by simp) (fun d hd => ?_) (fun d hd x hx => ?_) rfl ?_
  · rw [List.mem_singleton.mp hd]; rfl
  · rw [List.mem_singleton.mp hd] at hx
    cases hx
    exact (Sz.zero (by decide))
  refine ⟨f, 0, 0, 0, rfl, hl, by rw [len_zero]; decide, fun _ => ?_, fun h => absurd rfl h⟩
  refine ⟨Nat.le_of_ble_eq_true rfl, ?_⟩
  dsimp only [qhNil, ixs, ndb, hmut, argsOf, Hd.arg, dMo, Bool.and_self]
  show mkC .poly c_Polynomial_uinitu [.val (.lst (rts []))] _ _
  refine mk_poly (by simp) (fun _ h => nomatch h) ?_
  refine ⟨0, 0, 0, rfl, by decide, by rw [len_zero]; decide, fun _ => ?_, fun h => absurd rfl h⟩
  refine ⟨rfl, rfl, ?_⟩
  show Q (.bl (PyData.eqv (.int (0 + 1 + 1)) (.int 2))) _
  rw [eqv_int]
  exact hq
theorem ok__law_zero {P : Program} {w : World} {K : Frag} {mg : Str → Option Value} {base : Heap} (W : Wd P K mg) (Fn : ∃ fd, FunD K d__law_zero.name d__law_zero.qual d__law_zero.params d__law_zero.body d__law_zero.scope (d__law_zero.dvs K) (d__law_zero.kws K) (d__law_zero.at_ K) fd) (h_Polynomial_parted : FnB P w K mg base d_Polynomial_parted 60 ps_Polynomial_parted c_Polynomial_parted) (h_Polynomial_uinitu : FnB P w K mg base d_Polynomial_uinitu 54 ps_Polynomial_uinitu c_Polynomial_uinitu) (h_single : FnB P w K mg base d_single 66 ps_single c_single) : FnB P w K mg base d__law_zero 69 ps__law_zero c__law_zero := by
  refine FnB.of (N := N__law_zero) (r := r__law_zero) Fn sc__law_zero len__law_zero pure__law_zero ?_
  intro f cdv A outer s H E0 hr G0 H0 B pin xa xd xc E tk hp h0
  have sc := sc__law_zero
  have hu := roomU hr
  exact (lss_cons (ls_set 1 sc.nd le_int)
    (lss_cons (ls_try (exm_ok' W.x_ByZero) rfl rfl rfl (names_own W.g_ByZero) tk (fun G pn xe E' tk hp => (lss_one (ls_expr (le_methC (h_Polynomial_parted.all rfl rfl rfl rfl rfl rfl (hr.mono (by decide : 60 ≤ 68)) rfl rfl bd_Polynomial_parted) rfl W.kl_poly (pMeth_ok W.m_Polynomial_parted) tk (lr_val (le_var 0)) (lc_p (lh_val (le_callC (code_make (pMk_ok W.mk_Polynomial) fun us kw => (h_Polynomial_uinitu.all rfl rfl rfl rfl rfl rfl ((hr.mono (by decide : 54 + 1 ≤ 68)).make _ us kw) rfl rfl bd_Polynomial_uinitu)) W.g_Polynomial W.mk_Polynomial.2.2.2 tk (lc_p (lh_val (le_lst (la_cons le_int la_nil)) lh_nil))) lh_nil)))))) (fun a oe pn => (lss_one (ls_set 1 sc.nd (le_bin ol_add (le_var 1) le_int)))))
    (lss_cons (ls_try (exm_ok' W.x_ZeroPolynomial) rfl rfl rfl (names_own W.g_ZeroPolynomial) tk (fun G pn xe E' tk hp => (lss_one (ls_expr (le_callC (h_single.all rfl rfl rfl rfl rfl rfl (hr.mono (by decide : 66 ≤ 68)) rfl rfl bd_single) W.g_single h_single.kp tk (lc_p (lh_val (le_callC (code_make (pMk_ok W.mk_Polynomial) fun us kw => (h_Polynomial_uinitu.all rfl rfl rfl rfl rfl rfl ((hr.mono (by decide : 54 + 1 ≤ 68)).make _ us kw) rfl rfl bd_Polynomial_uinitu)) W.g_Polynomial W.mk_Polynomial.2.2.2 tk (lc_p (lh_val (le_lst la_nil) lh_nil))) lh_nil)))))) (fun a oe pn => (lss_one (ls_set 1 sc.nd (le_bin ol_add (le_var 1) le_int)))))
    (lss_one (ls_ret (le_cmp (ol_eq rfl hr) (le_var 1) le_int))))))
end K06
set_option Elab.async false
set_option linter.all false
set_option maxRecDepth 100000
set_option maxHeartbeats 4000000
namespace K06
open PySem L2 PySem.Spec PyProof.Rows He PySem.W Q
abbrev N__law_parted : List Str := ["_law_one", "_law_other", "_law_told_here"]
abbrev ps__law_parted : List Str := ["_law_one", "_law_other"]
theorem sc__law_parted : FnScope N__law_parted ps__law_parted d__law_parted.scope := ⟨rfl, rfl, rfl, by decide +kernel, rfl, by decide +kernel, by decide +kernel⟩
theorem bd__law_parted : ∀ (kV doc pm : Value) (an : Option Addr) (cdv ct : Value) (us : List Value), us.length = ps__law_parted.length → bindArgs (fnOf d__law_parted.name d__law_parted.qual d__law_parted.params d__law_parted.body d__law_parted.scope .none kV doc pm an cdv ct) ⟨us, []⟩ = pure (ps__law_parted.zip us) := fun _ _ _ _ _ _ us hl => match us, hl with | [_, _], _ => rfl
def c__law_parted : Ct := fun args Q _ => ∃ (f g : Pol) (a b : Nat), args = [.val (pD f), .val (pD g)] ∧ f.len ≤ 40 ∧ g.len ≤ 40 ∧ g ≠ 0 ∧ BP (2 ^ a) f ∧ BP (2 ^ b) g ∧ a + (f.len + 1) * (b + 1) + b ≤ 20000 ∧ Q (.bl true) args
def r__law_parted : QS := (qSeq (qSet 2 (qMeth c_Polynomial_parted (qrVal .poly (qVar 0)) (qhVal (qVar 1) qhNil)))
    (qSeq (qIfS (qOr (qNot (qTest (qUn (oIsa isa_tuple) (qVar 2)))) (qOr (qTest (qBin (oSw .poly (oOwnN .poly cmt c_Polynomial_uequ) oNe) (qB (oLenC .poly c_Polynomial_ulenu oLen) (qCons (qVar 2) qNil)) (qC (.int 2)))) (qTest (qBin oGe (qB (oLenC .poly c_Polynomial_ulenu oLen) (qCons (qBin oIx (qVar 2) (qC (.int 1))) qNil)) (qB (oLenC .poly c_Polynomial_ulenu oLen) (qCons (qVar 1) qNil)))))) (qRet (qC (.bl false))) qNx)
    (qRet (qBin (oSw .poly (oOwnC .poly cmt c_Polynomial_uequ) oEq) (qBin (oSw .poly (oOwnS .poly c_Polynomial_uaddu) oAdd) (qBin (oSw .poly (oOwnS .poly c_Polynomial_umulu) oMul) (qBin oIx (qVar 2) (qC (.int 0))) (qVar 1)) (qBin oIx (qVar 2) (qC (.int 1)))) (qVar 0)))))
theorem len__law_parted : ∀ args Q E, c__law_parted args Q E → args.length = ps__law_parted.length := by
  rintro args Q E ⟨_, _, _, _, rfl, _⟩
  rfl
theorem pure__law_parted : ∀ args Q E, c__law_parted args Q E → r__law_parted (startE N__law_parted.length args) (endsC args Q) (exnC args E) := by
  rintro args Q E ⟨f, g, a, b, rfl, hf, hg, g0, F, G, hs, hq⟩
  refine ⟨f, g, a, b, rfl, hf, hg, fun z => absurd z g0, fun _ => ⟨F, G, by omega, ?_⟩⟩
  obtain ⟨e, hl⟩ := parted_spec (f := f) g0
  obtain ⟨B1, B2⟩ := (parted_pi F G g0).bp
  have ql := quo_len g0 e hl
  have e2 : (f.len + 1) * (b + 1) = f.len * (b + 1) + (b + 1) := Nat.succ_mul _ _
  generalize partedP f g = qr at e hl B1 B2 ql ⊢
  obtain ⟨q, r⟩ := qr
  have qlen : q.len ≤ 41 := by
    by_cases h : f.len < g.len
    · rw [show q = 0 from ql.1 h, len_zero]; omega
    · have := ql.2 (by omega)
      have : q.len + g.len = f.len + 1 := this
      omega
  have hl : r.len < g.len := hl
  have lr : ((r.l.length : Nat) : Int) = (r.len : Int) := rfl
  have lg : ((g.l.length : Nat) : Int) = (g.len : Int) := rfl
  refine ⟨rfl, rfl, pD r, rfl, r.l, rfl, Int.natCast_nonneg _, by rw [lr]; omega, g.l, rfl, Int.natCast_nonneg _, by rw [lg]; omega, ?_⟩
  show (match decide (((g.l.length : Nat) : Int) ≤ ((r.l.length : Nat) : Int)) with | true => _ | false => _)
  rw [decide_eq_false (by rw [lr, lg]; omega)]
  have hq1 : ∀ x ∈ q.l, Sz 20001 x := fun x hx => (B2.sz x hx).mono (by omega)
  have hg1 : ∀ x ∈ g.l, Sz 20001 x := fun x hx => (G.sz x hx).mono (by omega)
  refine ⟨pD q, rfl, q.l, g.l, 20001, rfl, by show q.len ≤ 1000; omega, by show g.len ≤ 1000; omega, by decide, hq1, hg1, ?_, fun hmul => ?_⟩
  · have : q.l.length * (2 * 20001 + 1) ≤ 41 * (2 * 20001 + 1) := Nat.mul_le_mul_right _ qlen
    omega
  have hml : (trimR (mulL q.l g.l)).length ≤ 1000 := Nat.le_trans (trim_len _) (by rw [mulL_len]; show q.len + g.len ≤ 1000; omega)
  refine ⟨pD r, rfl, trimR (mulL q.l g.l), r.l, rfl, hml, by show r.len ≤ 1000; omega, fun x hx => hmul x (trim_mem hx), fun x hx => (B1.sz x hx).mono (by omega), ?_⟩
  have ef : trimR (addL (trimR (mulL q.l g.l)) r.l) = f.l := by
    have : (q * g + r).l = f.l := by rw [show q * g + r = f from e]
    exact this
  rw [ef]
  refine ⟨f.l, pD f, rfl, .inl ⟨f.l, rfl, ?_⟩⟩
  rw [decide_eq_true rfl]
  exact hq
theorem ok__law_parted {P : Program} {w : World} {K : Frag} {mg : Str → Option Value} {base : Heap} (W : Wd P K mg) (Fn : ∃ fd, FunD K d__law_parted.name d__law_parted.qual d__law_parted.params d__law_parted.body d__law_parted.scope (d__law_parted.dvs K) (d__law_parted.kws K) (d__law_parted.at_ K) fd) (h_Polynomial_parted : FnB P w K mg base d_Polynomial_parted 60 ps_Polynomial_parted c_Polynomial_parted) (h_Polynomial_uequ : FnB P w K mg base d_Polynomial_uequ 13 ps_Polynomial_uequ c_Polynomial_uequ) (h_Polynomial_ulenu : FnB P w K mg base d_Polynomial_ulenu 2 ps_Polynomial_ulenu c_Polynomial_ulenu) (h_Polynomial_uaddu : FnB P w K mg base d_Polynomial_uaddu 57 ps_Polynomial_uaddu c_Polynomial_uaddu) (h_Polynomial_umulu : FnB P w K mg base d_Polynomial_umulu 57 ps_Polynomial_umulu c_Polynomial_umulu) : FnB P w K mg base d__law_parted 63 ps__law_parted c__law_parted := by
  refine FnB.of (N := N__law_parted) (r := r__law_parted) Fn sc__law_parted len__law_parted pure__law_parted ?_
  intro f cdv A outer s H E0 hr G0 H0 B pin xa xd xc E tk hp h0
  have sc := sc__law_parted
  have hu := roomU hr
  exact (lss_cons (ls_set 2 sc.nd (le_methC (h_Polynomial_parted.all rfl rfl rfl rfl rfl rfl (hr.mono (by decide : 60 ≤ 62)) rfl rfl bd_Polynomial_parted) rfl W.kl_poly (pMeth_ok W.m_Polynomial_parted) tk (lr_val (le_var 0)) (lc_p (lh_val (le_var 1) lh_nil))))
    (lss_cons (ls_if (LW.lt (lw_or (lt_not (lt_val (le_isi (isa_ok W.i_tuple W.isc_tuple) rfl (pe_bltn (v := .ty "tuple") (u := .type "tuple") rfl W.f_tuple rfl rfl) (.ty _) (le_var 2) W.f_isinstance))) (lw_or (lt_cmp (ol_sw (ol_cmpN rfl hr W.nf_Polynomial (ne_ok W.c_Polynomial W.ne_Polynomial W.m_Polynomial_uequ) (h_Polynomial_uequ.all (A := Around.in1 _) rfl rfl rfl rfl rfl rfl (hr.mono (by decide : 13 + 1 ≤ 62)).in1 rfl rfl bd_Polynomial_uequ) tk) (ol_ne rfl hr)) (le_b (bl_lenC rfl (len_ok W.m_Polynomial_ulenu) (h_Polynomial_ulenu.all (A := Around.in1 _) rfl rfl rfl rfl rfl rfl (hr.mono (by decide : 2 + 1 ≤ 62)).in1 rfl rfl bd_Polynomial_ulenu) tk (bl_len rfl)) (la_cons (le_var 2) la_nil) W.f_len) le_int) (lw_or1 (lt_cmp ol_ge (le_b (bl_lenC rfl (len_ok W.m_Polynomial_ulenu) (h_Polynomial_ulenu.all (A := Around.in1 _) rfl rfl rfl rfl rfl rfl (hr.mono (by decide : 2 + 1 ≤ 62)).in1 rfl rfl bd_Polynomial_ulenu) tk (bl_len rfl)) (la_cons (le_ix (il_ix rfl) (le_var 2) le_int) la_nil) W.f_len) (le_b (bl_lenC rfl (len_ok W.m_Polynomial_ulenu) (h_Polynomial_ulenu.all (A := Around.in1 _) rfl rfl rfl rfl rfl rfl (hr.mono (by decide : 2 + 1 ≤ 62)).in1 rfl rfl bd_Polynomial_ulenu) tk (bl_len rfl)) (la_cons (le_var 1) la_nil) W.f_len)))))) (lss_one (ls_ret le_bl)) lss_nil)
    (lss_one (ls_ret (le_cmp (ol_sw (ol_cmp rfl hr (fun _ _ => rfl) W.nf_Polynomial (cmp_ok (op := .Eq) rfl W.m_Polynomial_uequ) (h_Polynomial_uequ.all rfl rfl rfl rfl rfl rfl (hr.mono (by decide : 13 ≤ 62)) rfl rfl bd_Polynomial_uequ) tk) (ol_eq rfl hr)) (le_bin (ol_sw (ol_ownS rfl (op_ok (op := .Add) rfl W.first_Polynomial W.m_Polynomial_uaddu) (h_Polynomial_uaddu.all rfl rfl rfl rfl rfl rfl (hr.mono (by decide : 57 ≤ 62)) rfl rfl bd_Polynomial_uaddu) tk) ol_add) (le_bin (ol_sw (ol_ownS rfl (op_ok (op := .Mult) rfl W.first_Polynomial W.m_Polynomial_umulu) (h_Polynomial_umulu.all rfl rfl rfl rfl rfl rfl (hr.mono (by decide : 57 ≤ 62)) rfl rfl bd_Polynomial_umulu) tk) ol_mul) (le_ix (il_ix rfl) (le_var 2) le_int) (le_var 1)) (le_ix (il_ix rfl) (le_var 2) le_int)) (le_var 0))))))
end K06
set_option Elab.async false
set_option linter.all false
set_option maxRecDepth 100000
set_option maxHeartbeats 4000000
namespace K06
open PySem L2 PySem.Spec PyProof.Rows He PySem.W Q
abbrev N_law : List Str := ["_law_script", "_law_k", "_law_box_here", "_law_factors_here", "_law_first", "_law_second", "_law_x", "_law_one", "_law_other", "_law_shared", "_law_due", "_law_drawn", "_law_poly", "_law_factor", "_law_j"]
abbrev ps_law : List Str := ["_law_script"]
theorem sc_law : FnScope N_law ps_law d_law.scope := ⟨rfl, rfl, rfl, by decide +kernel, rfl, by decide +kernel, by decide +kernel⟩
theorem bd_law : ∀ (kV doc pm : Value) (an : Option Addr) (cdv ct : Value) (us : List Value), us.length = ps_law.length → bindArgs (fnOf d_law.name d_law.qual d_law.params d_law.body d_law.scope .none kV doc pm an cdv ct) ⟨us, []⟩ = pure (ps_law.zip us) := fun _ _ _ _ _ _ us hl => match us, hl with | [_], _ => rfl
def c_law : Ct := lawC 63
def r_law_f : QS := (qSeq (qIfS (qOr (qNot (qTest (qBin (oSw .poly (oOwnC .poly cmt c_Polynomial_uequ) oEq) (qCall c_common (qhVal (qVar 7) (qhVal (qCall (mkC .poly c_Polynomial_uinitu) (qhVal (qLst qNil) qhNil)) qhNil))) (qCall c_common (qhVal (qCall (mkC .poly c_Polynomial_uinitu) (qhVal (qLst qNil) qhNil)) (qhVal (qVar 7) qhNil)))))) (qNot (qTest (qCall c__law_zero (qhVal (qVar 7) qhNil))))) (qRet (qC (.bl false))) qNx)
    (qIfS (qNot (qTest (qBin (oSw .poly (oOwnC .poly cmt c_Polynomial_uequ) oEq) (qCall c_common (qhVal (qVar 7) (qhVal (qCall (mkC .poly c_Polynomial_uinitu) (qhVal (qLst qNil) qhNil)) qhNil))) (qCall c__law_made (qhVal (qCall c__law_powered (qhVal (qVar 3) (qhVal (qVar 4) (qhVal (qTup (qCons (qC (.int 1)) (qCons (qC (.int 1)) qNil))) qhNil)))) qhNil))))) (qRet (qC (.bl false))) qNx))
def r_law_e : QS := (qSeq (qFor (qiSeq (qLst (qCons (qVar 7) (qCons (qVar 8) (qCons (qVar 11) qNil))))) (gV 12) (qIfS (qAnd (qTest (qBin oGt (qB (oLenC .poly c_Polynomial_ulenu oLen) (qCons (qVar 12) qNil)) (qC (.int 0)))) (qOr (qNot (qTest (qCall c__law_parted (qhVal (qVar 7) (qhVal (qVar 12) qhNil))))) (qNot (qTest (qCall c__law_parted (qhVal (qVar 12) (qhVal (qVar 8) qhNil))))))) (qRet (qC (.bl false))) qNx))
    r_law_f)
def r_law_d : QS := (qSeq (qSet 11 (qCall c__law_made (qhVal (qTell (qnLc (qRng1 (qBin (oSw .poly (oOwnS .poly c_Polynomial_uaddu) oAdd) (qC (.int 1)) (qCall c__law_take (qhAny 2 (qhVal (qC (.int 7)) qhNil))))) (gV 14) qYes (qCall c__law_number (qhAny 2 (qhVal (qC (.int 9)) qhNil))) [14])) qhNil)))
    r_law_e)
def r_law_c : QS := (qSeq (qIfS (qOr (qNot (qTest (qBin (oSw .poly (oOwnC .poly cmt c_Polynomial_uequ) oEq) (qCall c_common (qhVal (qVar 7) (qhVal (qVar 8) qhNil))) (qVar 10)))) (qNot (qTest (qBin (oSw .poly (oOwnC .poly cmt c_Polynomial_uequ) oEq) (qCall c_common (qhVal (qVar 8) (qhVal (qVar 7) qhNil))) (qVar 10))))) (qRet (qC (.bl false))) qNx)
    (qSeq (qIfS (qNot (qTest (qBin (oSw .poly (oOwnC .poly cmt c_Polynomial_uequ) oEq) (qCall c_single (qhVal (qVar 7) qhNil)) (qCall c__law_made (qhVal (qCall c__law_powered (qhVal (qVar 3) (qhVal (qTell (qnLc (qiSeq (qVar 4)) (gV 14) qYes (qB oInt (qCons (qBin oGt (qVar 14) (qC (.int 0))) qNil)) [14])) (qhVal (qTup (qCons (qC (.int 1)) (qCons (qC (.int 1)) qNil))) qhNil)))) qhNil))))) (qRet (qC (.bl false))) qNx)
    r_law_d))
def r_law_b : QS := (qSeq (qSet 7 (qCall c__law_made (qhVal (qCall c__law_powered (qhVal (qVar 3) (qhVal (qVar 4) (qhVal (qVar 6) qhNil)))) qhNil)))
    (qSeq (qSet 8 (qCall c__law_made (qhVal (qCall c__law_powered (qhVal (qVar 3) (qhVal (qVar 5) (qhVal (qCall c__law_minus (qhVal (qTup (qCons (qC (.int 0)) (qCons (qC (.int 1)) qNil))) (qhVal (qVar 6) qhNil))) qhNil)))) qhNil)))
    (qSeq (qSet 9 (qTell (qnLc (qRng1 (qB (oLenC .poly c_Polynomial_ulenu oLen) (qCons (qVar 3) qNil))) (gV 14) qYes (qCall c__law_least (qhVal (qBin oIx (qVar 4) (qVar 14)) (qhVal (qBin oIx (qVar 5) (qVar 14)) qhNil))) [14])))
    (qSeq (qSet 10 (qCall c__law_made (qhVal (qCall c__law_powered (qhVal (qVar 3) (qhVal (qVar 9) (qhVal (qTup (qCons (qC (.int 1)) (qCons (qC (.int 1)) qNil))) qhNil)))) qhNil)))
    r_law_c))))
def r_law_x : QS := (qSeq (qSet 6 (qTup (qCons (qBin (oSw .poly (oOwnS .poly c_Polynomial_uaddu) oAdd) (qC (.int 1)) (qCall c__law_take (qhAny 2 (qhVal (qC (.int 5)) qhNil)))) (qCons (qBin (oSw .poly (oOwnS .poly c_Polynomial_uaddu) oAdd) (qC (.int 1)) (qCall c__law_take (qhAny 2 (qhVal (qC (.int 4)) qhNil)))) qNil))))
    r_law_b)
def r_law_w : QS := (qSeq (qSet 4 (qTell (qnLc (qiSeq (qVar 3)) (gV 13) qYes (qCall c__law_take (qhAny 2 (qhVal (qBin (oSw .poly (oOwnS .poly c_Polynomial_usubu) oSub) (qC (.int 5)) (qB (oLenC .poly c_Polynomial_ulenu oLen) (qCons (qVar 13) qNil))) qhNil))) [13])))
    (qSeq (qSet 5 (qTell (qnLc (qiSeq (qVar 3)) (gV 13) qYes (qCall c__law_take (qhAny 2 (qhVal (qBin (oSw .poly (oOwnS .poly c_Polynomial_usubu) oSub) (qC (.int 5)) (qB (oLenC .poly c_Polynomial_ulenu oLen) (qCons (qVar 13) qNil))) qhNil))) [13])))
    r_law_x))
def r_law_it : QS := (qSeq (qSetN 2 (qnCall c__law_box (qhVal (qVar 0) (qhVal (qVar 1) qhNil))))
    (qSeq (qSet 3 (qCall c__law_factors (qhAny 2 qhNil)))
    r_law_w))
def r_law_fin : QS := (qRet (qAndV (qBin (oSw .poly (oOwnC .poly cmt c_Polynomial_uequ) oEq) (qCall c_common (qhVal (qCall (mkC .poly c_Polynomial_uinitu) (qhVal (qLst qNil) qhNil)) (qhVal (qCall (mkC .poly c_Polynomial_uinitu) (qhVal (qLst (qCons (qC (.int 0)) qNil)) qhNil)) qhNil))) (qCall (mkC .poly c_Polynomial_uinitu) (qhVal (qLst qNil) qhNil))) (qBin (oSw .poly (oOwnC .poly cmt c_Polynomial_uequ) oEq) (qCall c_single (qhVal (qCall (mkC .poly c_Polynomial_uinitu) (qhVal (qLst (qCons (qC (.int 3)) qNil)) qhNil)) qhNil)) (qCall (mkC .poly c_Polynomial_uinitu) (qhVal (qLst (qCons (qC (.int 1)) qNil)) qhNil)))))
def r_law : QS := (qSeq (qFor (qRng1 (qB oMax (qCons (qC (.int 1)) (qCons (qB oMin (qCons (qC (.int 2)) (qCons (qB (oLenC .poly c_Polynomial_ulenu oLen) (qCons (qVar 0) qNil)) qNil))) qNil)))) (gV 1) r_law_it)
    r_law_fin)
def bx (f : Bool) (o : MO) : Slot := match f with
  | true => .own o
  | false => .no
structure PF (f : Pol) : Prop where
  len : f.len ≤ 16
  bp : BP (2 ^ 38) f
theorem PW.pf {m : Nat} {p : Pol} {d : D} {l : List Rat} (h : PW m p d l) (hm : m ≤ 7) : PF p := ⟨by have := h.pl; omega, h.2.2.2.mono (p2 (by omega))⟩
theorem one11 : Rat.divInt 1 1 = 1 := by decide +kernel
theorem tq11 : TQ 20 (.tup [.int 1, .int 1]) 1 := ⟨1, 1, rfl, by decide, one11, (bdn (n := 10) 1000 (by decide) (by decide) rfl).mono (by decide), (bdn (n := 10) 1000 (by decide) (by decide) rfl).mono (by decide)⟩
theorem bp11 : BP (2 ^ 3) (Pol.C 1) := by
  have := bp_C (u := 1) (v := 1) (by decide) (by decide) (by decide) (by decide)
  rwa [one11] at this
theorem szs : (eB 4 38 + 1) * (2 ^ 4 + 3) ≤ 30000 := by decide
theorem szs2 : (eB 4 (38 + 4) + 1) * (2 ^ 4 + 3) ≤ 30000 := by decide
structure Prm (zs : List Rat) (cc : Int) (as bs : List Nat) (u v : Int) : Prop where
  F : FacOk zs cc
  la : as.length = (facs zs cc).length
  lb : bs.length = (facs zs cc).length
  sa : as.sum ≤ 7
  sb : bs.sum ≤ 7
  u1 : 1 ≤ u
  u2 : u ≤ 5
  v1 : 1 ≤ v
  v2 : v ≤ 4
def fP (zs : List Rat) (cc : Int) (x : Rat) (as : List Nat) : Pol := Pol.C x * PPow ((facs zs cc).map mkP) as
theorem Prm.x0 {zs : List Rat} {cc : Int} {as bs : List Nat} {u v : Int} (h : Prm zs cc as bs u v) : Rat.divInt u v ≠ 0 := fun z => by
  have hv : v ≠ 0 := by have := h.v1; omega
  have hv' : (v : Rat) ≠ 0 := fun z => hv (Rat.intCast_inj.mp (z.trans (by rfl)))
  have e : Rat.divInt u v * (v : Rat) = (u : Rat) := by rw [Rat.divInt_eq_div, Rat.div_mul_cancel hv']
  rw [z, Rat.zero_mul] at e
  have e : (0 : Int) = u := Rat.intCast_inj.mp e
  have := h.u1
  omega
theorem Prm.y0 {zs : List Rat} {cc : Int} {as bs : List Nat} {u v : Int} (h : Prm zs cc as bs u v) : 0 - Rat.divInt u v ≠ 0 := fun z => h.x0 (by grind)
theorem Prm.ye {zs : List Rat} {cc : Int} {as bs : List Nat} {u v : Int} (h : Prm zs cc as bs u v) : 0 - Rat.divInt u v = Rat.divInt (-u) v := by
  rw [← Rat.neg_divInt]
  grind
theorem bds {m : Int} (h1 : -1000 < m) (h2 : m < 1000) : Bd 20 m := (bdn (n := 10) 1024 (by omega) (by omega) rfl).mono (by decide)
theorem int_range {as : List Nat} {g : Nat → Nat} {n : Nat} (hl : as.length = n) (h : ∀ i a, as[i]? = some a → g i = a) : (List.range n).map (fun i => D.int ((g i : Nat) : Int)) = as.map fun n : Nat => D.int (n : Int) := by
  refine List.ext_getElem? fun i => ?_
  rw [List.getElem?_map, List.getElem?_map]
  by_cases hi : i < n
  · rw [List.getElem?_range hi, List.getElem?_eq_getElem (by omega)]
    show some (D.int ((g i : Nat) : Int)) = some (D.int (as[i] : Int))
    rw [h i _ (List.getElem?_eq_getElem (by omega))]
  · rw [List.getElem?_eq_none (by rw [List.length_range]; omega), List.getElem?_eq_none (l := as) (by omega)]
    rfl
theorem part_f (ns : List Int) (k c a b : Int) (zs : List Rat) (cc : Int) (as bs ss : List Nat) (u v : Int) (d6 d10 d11 : D) (g : Pol) (s12 : Slot) (P : PEnds) (E : XP) (M : Prm zs cc as bs u v) (hf : PF (fP zs cc (Rat.divInt u v) as))
    (h : P.nx [.val (.scr ns), .val (.int k), .own (.lst [.int a, .int b, .int c]), .val (.lst ((facs zs cc).map lstR)), .val (.lst (as.map fun n : Nat => D.int (n : Int))), .val (.lst (bs.map fun n : Nat => D.int (n : Int))), .val d6, .val (pD (fP zs cc (Rat.divInt u v) as)), .val (pD g), .val (.lst (ss.map fun n : Nat => D.int (n : Int))), .val d10, .val d11, s12, .no, .no]) :
    r_law_f [.val (.scr ns), .val (.int k), .own (.lst [.int a, .int b, .int c]), .val (.lst ((facs zs cc).map lstR)), .val (.lst (as.map fun n : Nat => D.int (n : Int))), .val (.lst (bs.map fun n : Nat => D.int (n : Int))), .val d6, .val (pD (fP zs cc (Rat.divInt u v) as)), .val (pD g), .val (.lst (ss.map fun n : Nat => D.int (n : Int))), .val d10, .val d11, s12, .no, .no] P E := by
  have F := M.F
  obtain ⟨e1, e2⟩ := fin_zero (as := as) F M.x0
  have e1 : commonP (fP zs cc (Rat.divInt u v) as) 0 = fP zs cc 1 as := e1
  have e2 : commonP 0 (fP zs cc (Rat.divInt u v) as) = fP zs cc 1 as := e2
  generalize hff : fP zs cc (Rat.divInt u v) as = f at hf h e1 e2 ⊢
  have l0 : (0 : Pol).len ≤ 2 ^ 4 := by rw [len_zero]; decide
  have b0 : BP (2 ^ 38) 0 := bp_zero (by decide)
  refine ⟨Nat.le_of_ble_eq_true rfl, ?_⟩
  dsimp only [qhNil, ixs, ndb, hmut, argsOf, Hd.arg, dMo, Bool.and_self]
  show mkC .poly c_Polynomial_uinitu [.val (.lst (rts []))] _ _
  refine mk_poly (by simp) (fun _ h => nomatch h) ?_
  refine ⟨f, 0, 4, 38, rfl, by decide, hf.len, l0, hf.bp, b0, szs, ?_⟩
  refine ⟨Nat.le_of_ble_eq_true rfl, ?_⟩
  dsimp only [qhNil, ixs, ndb, hmut, argsOf, Hd.arg, dMo, Bool.and_self]
  show mkC .poly c_Polynomial_uinitu [.val (.lst (rts []))] _ _
  refine mk_poly (by simp) (fun _ h => nomatch h) ?_
  refine ⟨0, f, 4, 38, rfl, by decide, l0, hf.len, b0, hf.bp, szs, ?_⟩
  refine ⟨(commonP f 0).l, pD (commonP 0 f), rfl, .inl ⟨(commonP 0 f).l, rfl, ?_⟩⟩
  rw [e1, e2, decide_eq_true rfl]
  refine ⟨f, rfl, by have := hf.len; omega, ?_⟩
  refine ⟨Nat.le_of_ble_eq_true rfl, ?_⟩
  dsimp only [qhNil, ixs, ndb, hmut, argsOf, Hd.arg, dMo, Bool.and_self]
  show mkC .poly c_Polynomial_uinitu [.val (.lst (rts []))] _ _
  refine mk_poly (by simp) (fun _ h => nomatch h) ?_
  refine ⟨f, 0, 4, 38, rfl, by decide, hf.len, l0, hf.bp, b0, szs, ?_⟩
  refine ⟨Nat.le_of_ble_eq_true rfl, ?_⟩
  refine ⟨.tup [.int 1, .int 1], 1, zs, cc, as, rfl, tq11, bp11, F, M.la, M.sa, fun ds l hp => ⟨.lst ds, l, rfl, hp.1.mono (by decide), by have := hp.2.1; have := M.sa; omega, ?_⟩⟩
  refine ⟨(commonP f 0).l, pD (mkP l), rfl, .inl ⟨(mkP l).l, rfl, ?_⟩⟩
  rw [e1, show mkP l = fP zs cc 1 as from hp.2.2.1, decide_eq_true rfl]
  exact h
theorem part_e (ns : List Int) (k c a b : Int) (zs : List Rat) (cc : Int) (as bs ss : List Nat) (u v : Int) (d6 d10 : D) (g h : Pol) (s12 : Slot) (P : PEnds) (E : XP) (M : Prm zs cc as bs u v) (hf : PF (fP zs cc (Rat.divInt u v) as)) (hg : PF g) (hg0 : g ≠ 0) (hh : PF h) (h12 : nvv s12)
    (hk : ∀ d, r_law_f [.val (.scr ns), .val (.int k), .own (.lst [.int a, .int b, .int c]), .val (.lst ((facs zs cc).map lstR)), .val (.lst (as.map fun n : Nat => D.int (n : Int))), .val (.lst (bs.map fun n : Nat => D.int (n : Int))), .val d6, .val (pD (fP zs cc (Rat.divInt u v) as)), .val (pD g), .val (.lst (ss.map fun n : Nat => D.int (n : Int))), .val d10, .val (pD h), .val d, .no, .no] P E) :
    r_law_e [.val (.scr ns), .val (.int k), .own (.lst [.int a, .int b, .int c]), .val (.lst ((facs zs cc).map lstR)), .val (.lst (as.map fun n : Nat => D.int (n : Int))), .val (.lst (bs.map fun n : Nat => D.int (n : Int))), .val d6, .val (pD (fP zs cc (Rat.divInt u v) as)), .val (pD g), .val (.lst (ss.map fun n : Nat => D.int (n : Int))), .val d10, .val (pD h), s12, .no, .no] P E := by
  have F := M.F
  have key : ∀ p : Pol, PF p → ∀ q : Pol, PF q → q ≠ 0 → 38 + (p.len + 1) * (38 + 1) + 38 ≤ 20000 := fun p hp _ _ _ => by have := hp.len; omega
  refine ⟨Nat.le_of_ble_eq_true rfl, ?_⟩
  refine loop_inv (fun i Γ => ∃ s, nvv s ∧ (0 < i → ∃ d, s = .val d) ∧ Γ = [.val (.scr ns), .val (.int k), .own (.lst [.int a, .int b, .int c]), .val (.lst ((facs zs cc).map lstR)), .val (.lst (as.map fun n : Nat => D.int (n : Int))), .val (.lst (bs.map fun n : Nat => D.int (n : Int))), .val d6, .val (pD (fP zs cc (Rat.divInt u v) as)), .val (pD g), .val (.lst (ss.map fun n : Nat => D.int (n : Int))), .val d10, .val (pD h), s, .no, .no]) ⟨s12, h12, fun h => absurd h (Nat.lt_irrefl 0), rfl⟩ ?_ ?_
  · rintro i d Γ K ed ⟨s, hs, _, rfl⟩ hK
    have hd : ∃ p, PF p ∧ d = pD p := by
      rcases List.mem_cons.mp (List.mem_of_getElem? ed) with e | m
      · exact ⟨_, hf, e⟩
      rcases List.mem_cons.mp m with e | m
      · exact ⟨_, hg, e⟩
      exact ⟨_, hh, List.mem_singleton.mp m⟩
    obtain ⟨p, hp, rfl⟩ := hd
    have hpl := hp.len
    refine setV_mv (s := s) rfl hs ?_
    have lp : ((p.l.length : Nat) : Int) = (p.len : Int) := rfl
    refine ⟨p.l, rfl, Int.natCast_nonneg _, by rw [lp]; omega, ?_⟩
    show (match decide ((0 : Int) < ((p.l.length : Nat) : Int)) with | true => _ | false => _)
    by_cases h0 : p.len = 0
    · rw [decide_eq_false (by rw [lp]; omega)]
      exact hK _ ⟨_, .inr ⟨_, rfl⟩, fun _ => ⟨_, rfl⟩, rfl⟩
    · rw [decide_eq_true (by rw [lp]; omega)]
      have pne : p ≠ 0 := fun z => h0 (by rw [z, len_zero])
      refine ⟨fP zs cc (Rat.divInt u v) as, p, 38, 38, rfl, by have := hf.len; omega, by omega, pne, hf.bp, hp.bp, key _ hf _ hp pne, ?_⟩
      refine ⟨p, g, 38, 38, rfl, by omega, by have := hg.len; omega, hg0, hp.bp, hg.bp, key _ hp _ hg hg0, ?_⟩
      exact hK _ ⟨_, .inr ⟨_, rfl⟩, fun _ => ⟨_, rfl⟩, rfl⟩
  · rintro Γ ⟨s, hs, hd, rfl⟩
    obtain ⟨d, rfl⟩ := hd (by show 0 < 3; decide)
    exact hk d
theorem part_d (ns : List Int) (k c a b : Int) (zs : List Rat) (cc : Int) (as bs ss : List Nat) (u v : Int) (d6 d10 d11 d12 : D) (g : Pol) (f : Bool) (P : PEnds) (E : XP) (hb : BoxOk a b c) (hb9 : b < 100000)
    (hk : ∀ (a1 b1 : Int) (h : Pol), 0 ≤ a1 → 0 ≤ b1 → b1 ≤ b + 30 → PF h → r_law_e [.val (.scr ns), .val (.int k), .own (.lst [.int a1, .int b1, .int c]), .val (.lst ((facs zs cc).map lstR)), .val (.lst (as.map fun n : Nat => D.int (n : Int))), .val (.lst (bs.map fun n : Nat => D.int (n : Int))), .val d6, .val (pD (fP zs cc (Rat.divInt u v) as)), .val (pD g), .val (.lst (ss.map fun n : Nat => D.int (n : Int))), .val d10, .val (pD h), sl f d12, .no, .no] P E) :
    r_law_d [.val (.scr ns), .val (.int k), .own (.lst [.int a, .int b, .int c]), .val (.lst ((facs zs cc).map lstR)), .val (.lst (as.map fun n : Nat => D.int (n : Int))), .val (.lst (bs.map fun n : Nat => D.int (n : Int))), .val d6, .val (pD (fP zs cc (Rat.divInt u v) as)), .val (pD g), .val (.lst (ss.map fun n : Nat => D.int (n : Int))), .val d10, sl f d11, sl f d12, .no, .no] P E := by
  refine ⟨a, b, c, 7, rfl, hb, by decide, bdk (by decide) (by decide), fun r a1 b1 k1 k2 k3 k4 k5 => ?_⟩
  have hb0 := hb.hb
  refine ⟨by omega, by omega, ?_⟩
  cases f
  · refine lc_inv (fun i acc Γ => ∃ (l : List Rat) (a2 b2 : Int), acc = l.map tupR ∧ Γ = [.val (.scr ns), .val (.int k), .own (.lst [.int a2, .int b2, .int c]), .val (.lst ((facs zs cc).map lstR)), .val (.lst (as.map fun n : Nat => D.int (n : Int))), .val (.lst (bs.map fun n : Nat => D.int (n : Int))), .val d6, .val (pD (fP zs cc (Rat.divInt u v) as)), .val (pD g), .val (.lst (ss.map fun n : Nat => D.int (n : Int))), .val d10, sl false d11, sl false d12, .no, .no] ∧ l.length = i ∧ (∀ q ∈ l, NumM 9 q) ∧ 0 ≤ a2 ∧ 0 ≤ b2 ∧ b2 ≤ b1 + 3 * i) (by simp; omega) (fun _ _ _ _ _ => trivial) ⟨[], a1, b1, rfl, rfl, rfl, (fun _ h => nomatch h), k3, k4, by omega⟩ ?_ ?_
    · rintro i d acc Γ Z X ed hla ⟨l, a2, b2, rfl, rfl, hl, hn, g1, g2, g3⟩ hZ hX
      have hi : i < (1 + r).toNat := by simpa using (List.getElem?_eq_some_iff.mp ed).1
      refine ⟨a2, b2, c, 9, rfl, hb.next g1 g2 (by omega), by omega, .inr rfl, fun q a3 b3 hq m1 m2 m3 => ?_⟩
      refine hZ _ _ ⟨l ++ [q], a3, b3, by rw [List.map_append]; rfl, rfl, by rw [List.length_append, hl]; rfl, fun x hx => ?_, m1, m2, by omega⟩
      rcases List.mem_append.mp hx with m | m
      · exact hn x m
      · rw [List.mem_singleton.mp m]; exact hq
    · rintro acc Γ hla ⟨l, a2, b2, rfl, rfl, hl, hn, g1, g2, g3⟩
      have hll : l.length ≤ 7 := by
        have : l.length = ((List.range (1 + r).toNat).map fun i : Nat => D.int (i : Int)).length := hl
        simp at this
        omega
      refine ⟨lstR l, l, rfl, LQ.of fun q hq => (num9_sz (hn q hq)).mono (by decide), by omega, ?_⟩
      exact hk a2 b2 (mkP l) g1 g2 (by simp at g3; omega) ⟨Nat.le_trans (trim_len l) (by omega), (drawn_bp hn).mono (p2 (by decide))⟩
  · refine lc_inv (fun i acc Γ => ∃ (l : List Rat) (a2 b2 : Int), acc = l.map tupR ∧ Γ = [.val (.scr ns), .val (.int k), .own (.lst [.int a2, .int b2, .int c]), .val (.lst ((facs zs cc).map lstR)), .val (.lst (as.map fun n : Nat => D.int (n : Int))), .val (.lst (bs.map fun n : Nat => D.int (n : Int))), .val d6, .val (pD (fP zs cc (Rat.divInt u v) as)), .val (pD g), .val (.lst (ss.map fun n : Nat => D.int (n : Int))), .val d10, sl true d11, sl true d12, .no, .no] ∧ l.length = i ∧ (∀ q ∈ l, NumM 9 q) ∧ 0 ≤ a2 ∧ 0 ≤ b2 ∧ b2 ≤ b1 + 3 * i) (by simp; omega) (fun _ _ _ _ _ => trivial) ⟨[], a1, b1, rfl, rfl, rfl, (fun _ h => nomatch h), k3, k4, by omega⟩ ?_ ?_
    · rintro i d acc Γ Z X ed hla ⟨l, a2, b2, rfl, rfl, hl, hn, g1, g2, g3⟩ hZ hX
      have hi : i < (1 + r).toNat := by simpa using (List.getElem?_eq_some_iff.mp ed).1
      refine ⟨a2, b2, c, 9, rfl, hb.next g1 g2 (by omega), by omega, .inr rfl, fun q a3 b3 hq m1 m2 m3 => ?_⟩
      refine hZ _ _ ⟨l ++ [q], a3, b3, by rw [List.map_append]; rfl, rfl, by rw [List.length_append, hl]; rfl, fun x hx => ?_, m1, m2, by omega⟩
      rcases List.mem_append.mp hx with m | m
      · exact hn x m
      · rw [List.mem_singleton.mp m]; exact hq
    · rintro acc Γ hla ⟨l, a2, b2, rfl, rfl, hl, hn, g1, g2, g3⟩
      have hll : l.length ≤ 7 := by
        have : l.length = ((List.range (1 + r).toNat).map fun i : Nat => D.int (i : Int)).length := hl
        simp at this
        omega
      refine ⟨lstR l, l, rfl, LQ.of fun q hq => (num9_sz (hn q hq)).mono (by decide), by omega, ?_⟩
      exact hk a2 b2 (mkP l) g1 g2 (by simp at g3; omega) ⟨Nat.le_trans (trim_len l) (by omega), (drawn_bp hn).mono (p2 (by decide))⟩
theorem part_c (ns : List Int) (k c a b : Int) (zs : List Rat) (cc : Int) (as bs ss : List Nat) (u v : Int) (d6 d11 d12 : D) (f : Bool) (P : PEnds) (E : XP) (M : Prm zs cc as bs u v) (hf : PF (fP zs cc (Rat.divInt u v) as)) (hg : PF (fP zs cc (0 - Rat.divInt u v) bs))
    (h : r_law_d [.val (.scr ns), .val (.int k), .own (.lst [.int a, .int b, .int c]), .val (.lst ((facs zs cc).map lstR)), .val (.lst (as.map fun n : Nat => D.int (n : Int))), .val (.lst (bs.map fun n : Nat => D.int (n : Int))), .val d6, .val (pD (fP zs cc (Rat.divInt u v) as)), .val (pD (fP zs cc (0 - Rat.divInt u v) bs)), .val (.lst (ss.map fun n : Nat => D.int (n : Int))), .val (pD (fP zs cc 1 (minL as bs))), sl f d11, sl f d12, .no, .no] P E) :
    r_law_c [.val (.scr ns), .val (.int k), .own (.lst [.int a, .int b, .int c]), .val (.lst ((facs zs cc).map lstR)), .val (.lst (as.map fun n : Nat => D.int (n : Int))), .val (.lst (bs.map fun n : Nat => D.int (n : Int))), .val d6, .val (pD (fP zs cc (Rat.divInt u v) as)), .val (pD (fP zs cc (0 - Rat.divInt u v) bs)), .val (.lst (ss.map fun n : Nat => D.int (n : Int))), .val (pD (fP zs cc 1 (minL as bs))), sl f d11, sl f d12, .no, .no] P E := by
  have F := M.F
  have hlb : as.length = bs.length := M.la.trans M.lb.symm
  have e1 : commonP (fP zs cc (Rat.divInt u v) as) (fP zs cc (0 - Rat.divInt u v) bs) = fP zs cc 1 (minL as bs) := fin_common F hlb M.x0 M.y0
  have e2 : commonP (fP zs cc (0 - Rat.divInt u v) bs) (fP zs cc (Rat.divInt u v) as) = fP zs cc 1 (minL as bs) := (fin_common F hlb.symm M.y0 M.x0).trans (by rw [min_comm]; rfl)
  have e3 : singleP (fP zs cc (Rat.divInt u v) as) = fP zs cc 1 (onL as) := fin_single F M.x0
  have f0 : fP zs cc (Rat.divInt u v) as ≠ 0 := fin_ne F M.x0
  generalize fP zs cc (Rat.divInt u v) as = p at hf h e1 e2 e3 f0 ⊢
  generalize fP zs cc (0 - Rat.divInt u v) bs = q at hg h e1 e2 ⊢
  refine ⟨p, q, 4, 38, rfl, by decide, hf.len, hg.len, hf.bp, hg.bp, szs, ?_⟩
  refine ⟨(commonP p q).l, _, rfl, .inl ⟨(fP zs cc 1 (minL as bs)).l, rfl, ?_⟩⟩
  rw [e1, decide_eq_true rfl]
  refine ⟨q, p, 4, 38, rfl, by decide, hg.len, hf.len, hg.bp, hf.bp, szs, ?_⟩
  refine ⟨(commonP q p).l, _, rfl, .inl ⟨(fP zs cc 1 (minL as bs)).l, rfl, ?_⟩⟩
  rw [e2, decide_eq_true rfl]
  refine ⟨p, 4, 38, rfl, by decide, hf.len, fun z => absurd z f0, fun _ => ⟨hf.bp, szs2, ?_⟩⟩
  have hs1 : (onL as).sum ≤ 7 := Nat.le_trans (sum_on as) M.sa
  have hl1 : (onL as).length = (facs zs cc).length := by unfold onL; rw [List.length_map]; exact M.la
  cases f
  all_goals
    refine lc_map (fun i => .int (((onL as).getD i 0 : Nat) : Int)) (by rw [List.length_map, M.la, facs_len]; have := F.len; omega) trivial (fun i d Z X ed hZ => ?_) ?_
    · rw [List.getElem?_map] at ed
      obtain ⟨n, en, rfl⟩ := Option.map_eq_some_iff.mp ed
      have e : (onL as).getD i 0 = if 0 < n then 1 else 0 := by
        unfold onL
        rw [List.getD_eq_getElem?_getD, List.getElem?_map, en]
        rfl
      show Z (.int (if decide ((0 : Int) < (n : Int)) = true then 1 else 0)) _
      have e2 : D.int (if decide ((0 : Int) < (n : Int)) = true then 1 else 0) = D.int (((onL as).getD i 0 : Nat) : Int) := by
        rw [e]
        by_cases hn : 0 < n
        · rw [if_pos hn, decide_eq_true (by omega)]; rfl
        · rw [if_neg hn, decide_eq_false (by omega)]; rfl
      rw [e2]
      exact hZ _ rfl
    · rw [int_range (as := onL as) (g := fun i => (onL as).getD i 0) (by rw [List.length_map]; unfold onL; rw [List.length_map]) (fun i a ha => by rw [List.getD_eq_getElem?_getD, ha]; rfl)]
      refine ⟨Nat.le_of_ble_eq_true rfl, ?_⟩
      refine ⟨.tup [.int 1, .int 1], 1, zs, cc, onL as, rfl, tq11, bp11, F, hl1, hs1, fun ds l hp => ⟨.lst ds, l, rfl, hp.1.mono (by decide), by have := hp.2.1; have := hs1; omega, ?_⟩⟩
      refine ⟨(singleP p).l, pD (mkP l), rfl, .inl ⟨(mkP l).l, rfl, ?_⟩⟩
      rw [e3, show mkP l = fP zs cc 1 (onL as) from hp.2.2.1, decide_eq_true rfl]
      exact h
theorem part_b (ns : List Int) (k c a b : Int) (zs : List Rat) (cc : Int) (as bs : List Nat) (u v : Int) (d7 d8 d9 d10 d11 d12 : D) (f : Bool) (P : PEnds) (E : XP) (M : Prm zs cc as bs u v)
    (h : PF (fP zs cc (Rat.divInt u v) as) → PF (fP zs cc (0 - Rat.divInt u v) bs) → r_law_c [.val (.scr ns), .val (.int k), .own (.lst [.int a, .int b, .int c]), .val (.lst ((facs zs cc).map lstR)), .val (.lst (as.map fun n : Nat => D.int (n : Int))), .val (.lst (bs.map fun n : Nat => D.int (n : Int))), .val (.tup [.int u, .int v]), .val (pD (fP zs cc (Rat.divInt u v) as)), .val (pD (fP zs cc (0 - Rat.divInt u v) bs)), .val (.lst ((minL as bs).map fun n : Nat => D.int (n : Int))), .val (pD (fP zs cc 1 (minL as bs))), sl f d11, sl f d12, .no, .no] P E) :
    r_law_b [.val (.scr ns), .val (.int k), .own (.lst [.int a, .int b, .int c]), .val (.lst ((facs zs cc).map lstR)), .val (.lst (as.map fun n : Nat => D.int (n : Int))), .val (.lst (bs.map fun n : Nat => D.int (n : Int))), .val (.tup [.int u, .int v]), sl f d7, sl f d8, sl f d9, sl f d10, sl f d11, sl f d12, .no, .no] P E := by
  have F := M.F
  have hx : TQ 20 (.tup [.int u, .int v]) (Rat.divInt u v) := ⟨u, v, rfl, by have := M.v1; omega, rfl, bds (by have := M.u1; omega) (by have := M.u2; omega), bds (by have := M.v1; omega) (by have := M.v2; omega)⟩
  have hxb : BP (2 ^ 3) (Pol.C (Rat.divInt u v)) := bp_C M.v1 (by have := M.v2; omega) (by have := M.u1; omega) (by have := M.u2; omega)
  have hyb : BP (2 ^ 3) (Pol.C (0 - Rat.divInt u v)) := by rw [M.ye]; exact bp_C M.v1 (by have := M.v2; omega) (by have := M.u2; omega) (by have := M.u1; omega)
  have hy : Sz 20 (0 - Rat.divInt u v) := by rw [M.ye]; exact divInt_sz (bds (by have := M.u2; omega) (by have := M.u1; omega)) (bds (by have := M.v1; omega) (by have := M.v2; omega)) (by have := M.v1; omega)
  cases f
  all_goals
    refine ⟨.tup [.int u, .int v], Rat.divInt u v, zs, cc, as, rfl, hx, hxb, F, M.la, M.sa, fun ds l hp => ⟨.lst ds, l, rfl, hp.1.mono (by decide), by have := hp.2.1; have := M.sa; omega, ?_⟩⟩
    have hf := hp.pf M.sa
    have ef : mkP l = fP zs cc (Rat.divInt u v) as := hp.2.2.1
    rw [ef]
    refine ⟨Nat.le_of_ble_eq_true rfl, tupR 0, .tup [.int u, .int v], 0, Rat.divInt u v, rfl, TQ.of (Sz.zero (by decide)), hx.mono (by decide), ?_⟩
    refine ⟨tupR (0 - Rat.divInt u v), 0 - Rat.divInt u v, zs, cc, bs, rfl, TQ.of hy, hyb, F, M.lb, M.sb, fun ds l hp => ⟨.lst ds, l, rfl, hp.1.mono (by decide), by have := hp.2.1; have := M.sb; omega, ?_⟩⟩
    have hg := hp.pf M.sb
    have eg : mkP l = fP zs cc (0 - Rat.divInt u v) bs := hp.2.2.1
    rw [eg]
    have hfl : (facs zs cc).length ≤ 4 := by rw [facs_len]; have := F.len; omega
    have hlm : (minL as bs).length = (facs zs cc).length := by unfold minL; rw [List.length_zipWith, M.la, M.lb, Nat.min_self]
    have hsm : (minL as bs).sum ≤ 7 := Nat.le_trans (sum_min as bs) M.sa
    refine ⟨by rw [List.length_map]; omega, by rw [List.length_map]; omega, ?_⟩
    refine lc_map (fun i => .int (((minL as bs).getD i 0 : Nat) : Int)) (by simp; omega) trivial (fun i d Z X ed hZ => ?_) ?_
    · have hi : i < (facs zs cc).length := by simpa using (List.getElem?_eq_some_iff.mp ed).1
      have hd : d = .int (i : Int) := by simpa using (by rw [List.getElem?_map, List.getElem?_range (by simpa using hi)] at ed; exact (Option.some.inj ed).symm)
      subst hd
      obtain ⟨x, hxa⟩ : ∃ x, as[i]? = some x := ⟨_, List.getElem?_eq_getElem (by have := M.la; omega)⟩
      obtain ⟨y, hyb⟩ : ∃ y, bs[i]? = some y := ⟨_, List.getElem?_eq_getElem (by have := M.lb; omega)⟩
      refine ⟨_, atD_map hxa, _, atD_map hyb, x, y, rfl, ?_⟩
      have e : (minL as bs).getD i 0 = min x y := by rw [List.getD_eq_getElem?_getD, min_at hxa hyb]; rfl
      rw [← e]
      exact hZ _ rfl
    · rw [int_range (as := minL as bs) (g := fun i => (minL as bs).getD i 0) (by simp; exact hlm) (fun i a ha => by rw [List.getD_eq_getElem?_getD, ha]; rfl)]
      refine ⟨Nat.le_of_ble_eq_true rfl, ?_⟩
      refine ⟨.tup [.int 1, .int 1], 1, zs, cc, minL as bs, rfl, tq11, bp11, F, hlm, hsm, fun ds l hp => ⟨.lst ds, l, rfl, hp.1.mono (by decide), by have := hp.2.1; have := hsm; omega, ?_⟩⟩
      rw [show mkP l = fP zs cc 1 (minL as bs) from hp.2.2.1]
      exact h hf hg
theorem part_x (ns : List Int) (k c a b : Int) (zs : List Rat) (cc : Int) (as bs : List Nat) (d6 d7 d8 d9 d10 d11 d12 : D) (f : Bool) (P : PEnds) (E : XP) (hb : BoxOk a b c) (hb9 : b < 100000)
    (h : ∀ a1 b1 u v : Int, 0 ≤ a1 → 0 ≤ b1 → b1 ≤ b + 2 → 1 ≤ u → u ≤ 5 → 1 ≤ v → v ≤ 4 → r_law_b [.val (.scr ns), .val (.int k), .own (.lst [.int a1, .int b1, .int c]), .val (.lst ((facs zs cc).map lstR)), .val (.lst (as.map fun n : Nat => D.int (n : Int))), .val (.lst (bs.map fun n : Nat => D.int (n : Int))), .val (.tup [.int u, .int v]), sl f d7, sl f d8, sl f d9, sl f d10, sl f d11, sl f d12, .no, .no] P E) :
    r_law_x [.val (.scr ns), .val (.int k), .own (.lst [.int a, .int b, .int c]), .val (.lst ((facs zs cc).map lstR)), .val (.lst (as.map fun n : Nat => D.int (n : Int))), .val (.lst (bs.map fun n : Nat => D.int (n : Int))), sl f d6, sl f d7, sl f d8, sl f d9, sl f d10, sl f d11, sl f d12, .no, .no] P E := by
  have hb0 := hb.hb
  cases f
  all_goals
    refine ⟨a, b, c, 5, rfl, hb, by decide, bdk (by decide) (by decide), fun r a1 b1 k1 k2 k3 k4 k5 => ?_⟩
    refine ⟨a1, b1, c, 4, rfl, hb.next k3 k4 (by omega), by decide, bdk (by decide) (by decide), fun r2 a2 b2 m1 m2 m3 m4 m5 => ?_⟩
    refine ⟨Nat.le_of_ble_eq_true rfl, ?_⟩
    exact h a2 b2 (1 + r) (1 + r2) m3 m4 (by omega) (by omega) (by omega) (by omega) (by omega)
theorem part_w2 (ns : List Int) (k c a b : Int) (zs : List Rat) (cc : Int) (AS : List Nat) (d5 d6 d7 d8 d9 d10 d11 d12 : D) (f : Bool) (P : PEnds) (E : XP) (F : FacOk zs cc) (hb : BoxOk a b c) (hb9 : b < 100000)
    (h : ∀ (as : List Nat) (a1 b1 : Int), 0 ≤ a1 → 0 ≤ b1 → b1 ≤ b + 4 → as.length = (facs zs cc).length → (∀ (i a : Nat) (f : List Rat), as[i]? = some a → (facs zs cc)[i]? = some f → a + f.length ≤ 4) → P.nx [.val (.scr ns), .val (.int k), .own (.lst [.int a1, .int b1, .int c]), .val (.lst ((facs zs cc).map lstR)), .val (.lst (AS.map fun n : Nat => D.int (n : Int))), .val (.lst (as.map fun n : Nat => D.int (n : Int))), sl f d6, sl f d7, sl f d8, sl f d9, sl f d10, sl f d11, sl f d12, .no, .no]) :
    qSet 5 (qTell (qnLc (qiSeq (qVar 3)) (gV 13) qYes (qCall c__law_take (qhAny 2 (qhVal (qBin (oSw .poly (oOwnS .poly c_Polynomial_usubu) oSub) (qC (.int 5)) (qB (oLenC .poly c_Polynomial_ulenu oLen) (qCons (qVar 13) qNil))) qhNil))) [13])) [.val (.scr ns), .val (.int k), .own (.lst [.int a, .int b, .int c]), .val (.lst ((facs zs cc).map lstR)), .val (.lst (AS.map fun n : Nat => D.int (n : Int))), sl f d5, sl f d6, sl f d7, sl f d8, sl f d9, sl f d10, sl f d11, sl f d12, .no, .no] P E := by
  have hfl : (facs zs cc).length ≤ 4 := by rw [facs_len]; have := F.len; omega
  obtain ⟨a0, ea⟩ : ∃ a0, a0 = a := ⟨_, rfl⟩
  obtain ⟨b0, eb⟩ : ∃ b0, b0 = b := ⟨_, rfl⟩
  have ha0 : 0 ≤ a0 := ea ▸ hb.ha
  have hb0 : 0 ≤ b0 := eb ▸ hb.hb
  subst ea eb
  cases f
  · skip
    refine lc_inv (fun i acc Γ => ∃ (as : List Nat) (a2 b2 : Int), acc = as.map (fun n : Nat => D.int (n : Int)) ∧ Γ = [.val (.scr ns), .val (.int k), .own (.lst [.int a2, .int b2, .int c]), .val (.lst ((facs zs cc).map lstR)), .val (.lst (AS.map fun n : Nat => D.int (n : Int))), sl false d5, sl false d6, sl false d7, sl false d8, sl false d9, sl false d10, sl false d11, sl false d12, .no, .no] ∧ as.length = i ∧ (∀ (i a : Nat) (f : List Rat), as[i]? = some a → (facs zs cc)[i]? = some f → a + f.length ≤ 4) ∧ 0 ≤ a2 ∧ 0 ≤ b2 ∧ b2 ≤ b0 + i) (by rw [List.length_map]; omega) (fun _ _ _ _ _ => trivial) ⟨[], a0, b0, rfl, rfl, rfl, (fun _ _ _ h => by simp at h), ha0, hb0, by omega⟩ ?_ ?_
    · rintro i d acc Γ Z X ed hla ⟨as, a2, b2, rfl, rfl, hl, hn, g1, g2, g3⟩ hZ hX
      rw [List.getElem?_map] at ed
      obtain ⟨fl, ef, rfl⟩ := Option.map_eq_some_iff.mp ed
      have hi := (List.getElem?_eq_some_iff.mp ef).1
      obtain ⟨l2, l3⟩ := facs_at ef
      have lf : (((fl.map tupR).length : Nat) : Int) = (fl.length : Int) := by rw [List.length_map]
      refine ⟨a2, b2, c, 5 - (((fl.map tupR).length : Nat) : Int), rfl, hb.next g1 g2 (by omega), by rw [lf]; omega, bdk (by rw [lf]; omega) (by rw [lf]; omega), fun r a3 b3 m1 m2 m3 m4 m5 => ?_⟩
      rw [lf] at m2
      have er : r = ((r.toNat : Nat) : Int) := by omega
      rw [er]
      refine hZ _ _ ⟨as ++ [r.toNat], a3, b3, by rw [List.map_append]; rfl, rfl, by rw [List.length_append, hl]; rfl, fun j y g h1 h2 => ?_, m3, m4, by omega⟩
      by_cases hj : j < as.length
      · rw [List.getElem?_append_left hj] at h1
        exact hn j y g h1 h2
      · have hj2 : j = as.length := by
          have := (List.getElem?_eq_some_iff.mp h1).1
          rw [List.length_append, List.length_singleton] at this
          omega
        subst hj2
        rw [List.getElem?_append_right (Nat.le_refl _), Nat.sub_self] at h1
        cases h1
        rw [hl, ef] at h2
        cases h2
        omega
    · rintro acc Γ hla ⟨as, a1, b1, rfl, rfl, hl, hn, g1, g2, g3⟩
      have hl : as.length = (facs zs cc).length := by rw [hl, List.length_map]
      have g3 : b1 ≤ b0 + 4 := by rw [List.length_map] at g3; omega
      exact h as a1 b1 g1 g2 g3 hl hn
  · skip
    refine lc_inv (fun i acc Γ => ∃ (as : List Nat) (a2 b2 : Int), acc = as.map (fun n : Nat => D.int (n : Int)) ∧ Γ = [.val (.scr ns), .val (.int k), .own (.lst [.int a2, .int b2, .int c]), .val (.lst ((facs zs cc).map lstR)), .val (.lst (AS.map fun n : Nat => D.int (n : Int))), sl true d5, sl true d6, sl true d7, sl true d8, sl true d9, sl true d10, sl true d11, sl true d12, .no, .no] ∧ as.length = i ∧ (∀ (i a : Nat) (f : List Rat), as[i]? = some a → (facs zs cc)[i]? = some f → a + f.length ≤ 4) ∧ 0 ≤ a2 ∧ 0 ≤ b2 ∧ b2 ≤ b0 + i) (by rw [List.length_map]; omega) (fun _ _ _ _ _ => trivial) ⟨[], a0, b0, rfl, rfl, rfl, (fun _ _ _ h => by simp at h), ha0, hb0, by omega⟩ ?_ ?_
    · rintro i d acc Γ Z X ed hla ⟨as, a2, b2, rfl, rfl, hl, hn, g1, g2, g3⟩ hZ hX
      rw [List.getElem?_map] at ed
      obtain ⟨fl, ef, rfl⟩ := Option.map_eq_some_iff.mp ed
      have hi := (List.getElem?_eq_some_iff.mp ef).1
      obtain ⟨l2, l3⟩ := facs_at ef
      have lf : (((fl.map tupR).length : Nat) : Int) = (fl.length : Int) := by rw [List.length_map]
      refine ⟨a2, b2, c, 5 - (((fl.map tupR).length : Nat) : Int), rfl, hb.next g1 g2 (by omega), by rw [lf]; omega, bdk (by rw [lf]; omega) (by rw [lf]; omega), fun r a3 b3 m1 m2 m3 m4 m5 => ?_⟩
      rw [lf] at m2
      have er : r = ((r.toNat : Nat) : Int) := by omega
      rw [er]
      refine hZ _ _ ⟨as ++ [r.toNat], a3, b3, by rw [List.map_append]; rfl, rfl, by rw [List.length_append, hl]; rfl, fun j y g h1 h2 => ?_, m3, m4, by omega⟩
      by_cases hj : j < as.length
      · rw [List.getElem?_append_left hj] at h1
        exact hn j y g h1 h2
      · have hj2 : j = as.length := by
          have := (List.getElem?_eq_some_iff.mp h1).1
          rw [List.length_append, List.length_singleton] at this
          omega
        subst hj2
        rw [List.getElem?_append_right (Nat.le_refl _), Nat.sub_self] at h1
        cases h1
        rw [hl, ef] at h2
        cases h2
        omega
    · rintro acc Γ hla ⟨as, a1, b1, rfl, rfl, hl, hn, g1, g2, g3⟩
      have hl : as.length = (facs zs cc).length := by rw [hl, List.length_map]
      have g3 : b1 ≤ b0 + 4 := by rw [List.length_map] at g3; omega
      exact h as a1 b1 g1 g2 g3 hl hn
theorem part_w1 (ns : List Int) (k c a b : Int) (zs : List Rat) (cc : Int) (d4 d5 d6 d7 d8 d9 d10 d11 d12 : D) (f : Bool) (P : PEnds) (E : XP) (F : FacOk zs cc) (hb : BoxOk a b c) (hb9 : b < 100000)
    (h : ∀ (as : List Nat) (a1 b1 : Int), 0 ≤ a1 → 0 ≤ b1 → b1 ≤ b + 4 → as.length = (facs zs cc).length → (∀ (i a : Nat) (f : List Rat), as[i]? = some a → (facs zs cc)[i]? = some f → a + f.length ≤ 4) → P.nx [.val (.scr ns), .val (.int k), .own (.lst [.int a1, .int b1, .int c]), .val (.lst ((facs zs cc).map lstR)), .val (.lst (as.map fun n : Nat => D.int (n : Int))), sl f d5, sl f d6, sl f d7, sl f d8, sl f d9, sl f d10, sl f d11, sl f d12, .no, .no]) :
    qSet 4 (qTell (qnLc (qiSeq (qVar 3)) (gV 13) qYes (qCall c__law_take (qhAny 2 (qhVal (qBin (oSw .poly (oOwnS .poly c_Polynomial_usubu) oSub) (qC (.int 5)) (qB (oLenC .poly c_Polynomial_ulenu oLen) (qCons (qVar 13) qNil))) qhNil))) [13])) [.val (.scr ns), .val (.int k), .own (.lst [.int a, .int b, .int c]), .val (.lst ((facs zs cc).map lstR)), sl f d4, sl f d5, sl f d6, sl f d7, sl f d8, sl f d9, sl f d10, sl f d11, sl f d12, .no, .no] P E := by
  have hfl : (facs zs cc).length ≤ 4 := by rw [facs_len]; have := F.len; omega
  obtain ⟨a0, ea⟩ : ∃ a0, a0 = a := ⟨_, rfl⟩
  obtain ⟨b0, eb⟩ : ∃ b0, b0 = b := ⟨_, rfl⟩
  have ha0 : 0 ≤ a0 := ea ▸ hb.ha
  have hb0 : 0 ≤ b0 := eb ▸ hb.hb
  subst ea eb
  cases f
  · skip
    refine lc_inv (fun i acc Γ => ∃ (as : List Nat) (a2 b2 : Int), acc = as.map (fun n : Nat => D.int (n : Int)) ∧ Γ = [.val (.scr ns), .val (.int k), .own (.lst [.int a2, .int b2, .int c]), .val (.lst ((facs zs cc).map lstR)), sl false d4, sl false d5, sl false d6, sl false d7, sl false d8, sl false d9, sl false d10, sl false d11, sl false d12, .no, .no] ∧ as.length = i ∧ (∀ (i a : Nat) (f : List Rat), as[i]? = some a → (facs zs cc)[i]? = some f → a + f.length ≤ 4) ∧ 0 ≤ a2 ∧ 0 ≤ b2 ∧ b2 ≤ b0 + i) (by rw [List.length_map]; omega) (fun _ _ _ _ _ => trivial) ⟨[], a0, b0, rfl, rfl, rfl, (fun _ _ _ h => by simp at h), ha0, hb0, by omega⟩ ?_ ?_
    · rintro i d acc Γ Z X ed hla ⟨as, a2, b2, rfl, rfl, hl, hn, g1, g2, g3⟩ hZ hX
      rw [List.getElem?_map] at ed
      obtain ⟨fl, ef, rfl⟩ := Option.map_eq_some_iff.mp ed
      have hi := (List.getElem?_eq_some_iff.mp ef).1
      obtain ⟨l2, l3⟩ := facs_at ef
      have lf : (((fl.map tupR).length : Nat) : Int) = (fl.length : Int) := by rw [List.length_map]
      refine ⟨a2, b2, c, 5 - (((fl.map tupR).length : Nat) : Int), rfl, hb.next g1 g2 (by omega), by rw [lf]; omega, bdk (by rw [lf]; omega) (by rw [lf]; omega), fun r a3 b3 m1 m2 m3 m4 m5 => ?_⟩
      rw [lf] at m2
      have er : r = ((r.toNat : Nat) : Int) := by omega
      rw [er]
      refine hZ _ _ ⟨as ++ [r.toNat], a3, b3, by rw [List.map_append]; rfl, rfl, by rw [List.length_append, hl]; rfl, fun j y g h1 h2 => ?_, m3, m4, by omega⟩
      by_cases hj : j < as.length
      · rw [List.getElem?_append_left hj] at h1
        exact hn j y g h1 h2
      · have hj2 : j = as.length := by
          have := (List.getElem?_eq_some_iff.mp h1).1
          rw [List.length_append, List.length_singleton] at this
          omega
        subst hj2
        rw [List.getElem?_append_right (Nat.le_refl _), Nat.sub_self] at h1
        cases h1
        rw [hl, ef] at h2
        cases h2
        omega
    · rintro acc Γ hla ⟨as, a1, b1, rfl, rfl, hl, hn, g1, g2, g3⟩
      have hl : as.length = (facs zs cc).length := by rw [hl, List.length_map]
      have g3 : b1 ≤ b0 + 4 := by rw [List.length_map] at g3; omega
      exact h as a1 b1 g1 g2 g3 hl hn
  · skip
    refine lc_inv (fun i acc Γ => ∃ (as : List Nat) (a2 b2 : Int), acc = as.map (fun n : Nat => D.int (n : Int)) ∧ Γ = [.val (.scr ns), .val (.int k), .own (.lst [.int a2, .int b2, .int c]), .val (.lst ((facs zs cc).map lstR)), sl true d4, sl true d5, sl true d6, sl true d7, sl true d8, sl true d9, sl true d10, sl true d11, sl true d12, .no, .no] ∧ as.length = i ∧ (∀ (i a : Nat) (f : List Rat), as[i]? = some a → (facs zs cc)[i]? = some f → a + f.length ≤ 4) ∧ 0 ≤ a2 ∧ 0 ≤ b2 ∧ b2 ≤ b0 + i) (by rw [List.length_map]; omega) (fun _ _ _ _ _ => trivial) ⟨[], a0, b0, rfl, rfl, rfl, (fun _ _ _ h => by simp at h), ha0, hb0, by omega⟩ ?_ ?_
    · rintro i d acc Γ Z X ed hla ⟨as, a2, b2, rfl, rfl, hl, hn, g1, g2, g3⟩ hZ hX
      rw [List.getElem?_map] at ed
      obtain ⟨fl, ef, rfl⟩ := Option.map_eq_some_iff.mp ed
      have hi := (List.getElem?_eq_some_iff.mp ef).1
      obtain ⟨l2, l3⟩ := facs_at ef
      have lf : (((fl.map tupR).length : Nat) : Int) = (fl.length : Int) := by rw [List.length_map]
      refine ⟨a2, b2, c, 5 - (((fl.map tupR).length : Nat) : Int), rfl, hb.next g1 g2 (by omega), by rw [lf]; omega, bdk (by rw [lf]; omega) (by rw [lf]; omega), fun r a3 b3 m1 m2 m3 m4 m5 => ?_⟩
      rw [lf] at m2
      have er : r = ((r.toNat : Nat) : Int) := by omega
      rw [er]
      refine hZ _ _ ⟨as ++ [r.toNat], a3, b3, by rw [List.map_append]; rfl, rfl, by rw [List.length_append, hl]; rfl, fun j y g h1 h2 => ?_, m3, m4, by omega⟩
      by_cases hj : j < as.length
      · rw [List.getElem?_append_left hj] at h1
        exact hn j y g h1 h2
      · have hj2 : j = as.length := by
          have := (List.getElem?_eq_some_iff.mp h1).1
          rw [List.length_append, List.length_singleton] at this
          omega
        subst hj2
        rw [List.getElem?_append_right (Nat.le_refl _), Nat.sub_self] at h1
        cases h1
        rw [hl, ef] at h2
        cases h2
        omega
    · rintro acc Γ hla ⟨as, a1, b1, rfl, rfl, hl, hn, g1, g2, g3⟩
      have hl : as.length = (facs zs cc).length := by rw [hl, List.length_map]
      have g3 : b1 ≤ b0 + 4 := by rw [List.length_map] at g3; omega
      exact h as a1 b1 g1 g2 g3 hl hn
theorem part_it (ns : List Int) (k : Int) (o : MO) (d3 d4 d5 d6 d7 d8 d9 d10 d11 d12 : D) (f : Bool) (P : PEnds) (E : XP) (hk : 0 ≤ k) (hk1 : k ≤ 1)
    (hn : ∀ (o : MO) (d3 d4 d5 d6 d7 d8 d9 d10 d11 d12 : D), P.nx [.val (.scr ns), .val (.int k), .own o, .val d3, .val d4, .val d5, .val d6, .val d7, .val d8, .val d9, .val d10, .val d11, .val d12, .no, .no]) :
    r_law_it [.val (.scr ns), .val (.int k), bx f o, sl f d3, sl f d4, sl f d5, sl f d6, sl f d7, sl f d8, sl f d9, sl f d10, sl f d11, sl f d12, .no, .no] P E := by
  have bk : Bd 100 k := by
    have : k = 0 ∨ k = 1 := by omega
    rcases this with rfl | rfl <;> exact bd_of (by decide)
  cases f
  · refine ⟨ns, k, rfl, hk, bk, fun a ha => ?_⟩
    have hb : BoxOk a 0 (40503 * k + 911) := ⟨ha, by decide, by decide, by omega, by omega⟩
    refine ⟨a, 0, _, rfl, hb, by decide, fun zs cc a1 b1 F g1 g2 g3 => ?_⟩
    show r_law_w [.val (.scr ns), .val (.int k), .own (.lst [.int a1, .int b1, .int (40503 * k + 911)]), .val (.lst ((facs zs cc).map lstR)), sl false d4, sl false d5, sl false d6, sl false d7, sl false d8, sl false d9, sl false d10, sl false d11, sl false d12, .no, .no] P E
    unfold r_law_w qSeq
    refine part_w1 ns k _ a1 b1 zs cc d4 d5 d6 d7 d8 d9 d10 d11 d12 false _ _ F (hb.next g1 g2 (by omega)) (by omega) fun as a2 b2 m1 m2 m3 la sa => ?_
    refine part_w2 ns k _ a2 b2 zs cc as d5 d6 d7 d8 d9 d10 d11 d12 false _ _ F (hb.next m1 m2 (by omega)) (by omega) fun bs a3 b3 n1 n2 n3 lb sb => ?_
    have hb3 := hb.next n1 n2 (by omega)
    refine part_x ns k _ a3 b3 zs cc as bs d6 d7 d8 d9 d10 d11 d12 false _ _ hb3 (by omega) fun a4 b4 u v o1 o2 o3 u1 u2 v1 v2 => ?_
    have hb4 := hb.next o1 o2 (by omega)
    have M : Prm zs cc as bs u v := ⟨F, la, lb, pow_sum F la sa, pow_sum F lb sb, u1, u2, v1, v2⟩
    refine part_b ns k _ a4 b4 zs cc as bs u v d7 d8 d9 d10 d11 d12 false _ _ M fun hf hg => ?_
    refine part_c ns k _ a4 b4 zs cc as bs (minL as bs) u v (.tup [.int u, .int v]) d11 d12 false _ _ M hf hg ?_
    refine part_d ns k _ a4 b4 zs cc as bs (minL as bs) u v (.tup [.int u, .int v]) _ d11 d12 _ false _ _ hb4 (by omega) fun a5 b5 h p1 p2 p3 hh => ?_
    refine part_e ns k _ a5 b5 zs cc as bs (minL as bs) u v (.tup [.int u, .int v]) _ _ h _ _ _ M hf hg (fin_ne F M.y0) hh (.inl rfl) fun d => ?_
    refine part_f ns k _ a5 b5 zs cc as bs (minL as bs) u v (.tup [.int u, .int v]) _ _ _ (.val d) _ _ M hf ?_
    exact hn _ _ _ _ _ _ _ _ _ _ d
  · refine ⟨ns, k, rfl, hk, bk, fun a ha => ?_⟩
    have hb : BoxOk a 0 (40503 * k + 911) := ⟨ha, by decide, by decide, by omega, by omega⟩
    refine ⟨a, 0, _, rfl, hb, by decide, fun zs cc a1 b1 F g1 g2 g3 => ?_⟩
    show r_law_w [.val (.scr ns), .val (.int k), .own (.lst [.int a1, .int b1, .int (40503 * k + 911)]), .val (.lst ((facs zs cc).map lstR)), sl true d4, sl true d5, sl true d6, sl true d7, sl true d8, sl true d9, sl true d10, sl true d11, sl true d12, .no, .no] P E
    unfold r_law_w qSeq
    refine part_w1 ns k _ a1 b1 zs cc d4 d5 d6 d7 d8 d9 d10 d11 d12 true _ _ F (hb.next g1 g2 (by omega)) (by omega) fun as a2 b2 m1 m2 m3 la sa => ?_
    refine part_w2 ns k _ a2 b2 zs cc as d5 d6 d7 d8 d9 d10 d11 d12 true _ _ F (hb.next m1 m2 (by omega)) (by omega) fun bs a3 b3 n1 n2 n3 lb sb => ?_
    have hb3 := hb.next n1 n2 (by omega)
    refine part_x ns k _ a3 b3 zs cc as bs d6 d7 d8 d9 d10 d11 d12 true _ _ hb3 (by omega) fun a4 b4 u v o1 o2 o3 u1 u2 v1 v2 => ?_
    have hb4 := hb.next o1 o2 (by omega)
    have M : Prm zs cc as bs u v := ⟨F, la, lb, pow_sum F la sa, pow_sum F lb sb, u1, u2, v1, v2⟩
    refine part_b ns k _ a4 b4 zs cc as bs u v d7 d8 d9 d10 d11 d12 true _ _ M fun hf hg => ?_
    refine part_c ns k _ a4 b4 zs cc as bs (minL as bs) u v (.tup [.int u, .int v]) d11 d12 true _ _ M hf hg ?_
    refine part_d ns k _ a4 b4 zs cc as bs (minL as bs) u v (.tup [.int u, .int v]) _ d11 d12 _ true _ _ hb4 (by omega) fun a5 b5 h p1 p2 p3 hh => ?_
    refine part_e ns k _ a5 b5 zs cc as bs (minL as bs) u v (.tup [.int u, .int v]) _ _ h _ _ _ M hf hg (fin_ne F M.y0) hh (.inr ⟨_, rfl⟩) fun d => ?_
    refine part_f ns k _ a5 b5 zs cc as bs (minL as bs) u v (.tup [.int u, .int v]) _ _ _ (.val d) _ _ M hf ?_
    exact hn _ _ _ _ _ _ _ _ _ _ d
theorem part_fin (ns : List Int) (k : Int) (o : MO) (d3 d4 d5 d6 d7 d8 d9 d10 d11 : D) (s12 : Slot) (Q : D → List Slot → Prop) (E : Exn → List Slot → Prop) (hq : Q (.bl true) [.val (.scr ns)]) :
    r_law_fin [.val (.scr ns), .val (.int k), .own o, .val d3, .val d4, .val d5, .val d6, .val d7, .val d8, .val d9, .val d10, .val d11, s12, .no, .no] (endsC [.val (.scr ns)] Q) (exnC [.val (.scr ns)] E) := by
  have l0 : (0 : Pol).len ≤ 2 ^ 0 := by rw [len_zero]; decide
  have b0 : BP (2 ^ 1) 0 := bp_zero (by decide)
  have s3 : Sz 8000000 (((3 : Int)) : Rat) := (divInt_sz (a := 3) (b := 1) (bds (by decide) (by decide)) (bds (by decide) (by decide)) (by decide)).mono (n := 20) (by decide)
  have s1 : Sz 8000000 (((1 : Int)) : Rat) := (divInt_sz (a := 1) (b := 1) (bds (by decide) (by decide)) (bds (by decide) (by decide)) (by decide)).mono (n := 20) (by decide)
  refine ⟨Nat.le_of_ble_eq_true rfl, ?_⟩
  dsimp only [qhNil, ixs, ndb, hmut, argsOf, Hd.arg, dMo, Bool.and_self]
  show mkC .poly c_Polynomial_uinitu [.val (.lst (rts []))] _ _
  refine mk_poly (by simp) (fun _ h => nomatch h) ?_
  refine ⟨Nat.le_of_ble_eq_true rfl, ?_⟩
  dsimp only [qhNil, ixs, ndb, hmut, argsOf, Hd.arg, dMo, Bool.and_self]
  show mkC .poly c_Polynomial_uinitu [.val (.lst [.int 0])] _ _
  refine mk_polyI (qs := [0]) (by simp) (fun d hd => ?_) (fun d hd x hx => ?_) rfl ?_
  · rw [List.mem_singleton.mp hd]; rfl
  · rw [List.mem_singleton.mp hd] at hx
    cases hx
    exact (Sz.zero (by decide))
  refine ⟨0, 0, 0, 1, rfl, by decide, l0, l0, b0, b0, by decide, ?_⟩
  refine ⟨Nat.le_of_ble_eq_true rfl, ?_⟩
  dsimp only [qhNil, ixs, ndb, hmut, argsOf, Hd.arg, dMo, Bool.and_self]
  show mkC .poly c_Polynomial_uinitu [.val (.lst (rts []))] _ _
  refine mk_poly (by simp) (fun _ h => nomatch h) ?_
  refine ⟨(commonP 0 0).l, pD 0, rfl, .inl ⟨(0 : Pol).l, rfl, ?_⟩⟩
  rw [common_00, decide_eq_true rfl]
  refine ⟨Nat.le_of_ble_eq_true rfl, ?_⟩
  dsimp only [qhNil, ixs, ndb, hmut, argsOf, Hd.arg, dMo, Bool.and_self]
  show mkC .poly c_Polynomial_uinitu [.val (.lst [.int 3])] _ _
  refine mk_polyI (qs := [((3 : Int) : Rat)]) (by simp) (fun d hd => ?_) (fun d hd x hx => ?_) rfl ?_
  · rw [List.mem_singleton.mp hd]; rfl
  · rw [List.mem_singleton.mp hd] at hx
    cases hx
    exact s3
  have b3 : BP (2 ^ 3) (Pol.C ((3 : Int) : Rat)) := bp_C (u := 3) (v := 1) (by decide) (by decide) (by decide) (by decide)
  have n3 : ((3 : Int) : Rat) ≠ 0 := by decide
  refine ⟨Pol.C ((3 : Int) : Rat), 0, 3, rfl, by decide, trim_len [((3 : Int) : Rat)], fun z => absurd z (C_ne n3), fun _ => ⟨b3, by decide, ?_⟩⟩
  refine ⟨Nat.le_of_ble_eq_true rfl, ?_⟩
  dsimp only [qhNil, ixs, ndb, hmut, argsOf, Hd.arg, dMo, Bool.and_self]
  show mkC .poly c_Polynomial_uinitu [.val (.lst [.int 1])] _ _
  refine mk_polyI (qs := [((1 : Int) : Rat)]) (by simp) (fun d hd => ?_) (fun d hd x hx => ?_) rfl ?_
  · rw [List.mem_singleton.mp hd]; rfl
  · rw [List.mem_singleton.mp hd] at hx
    cases hx
    exact s1
  refine ⟨(singleP (Pol.C ((3 : Int) : Rat))).l, pD 1, rfl, .inl ⟨(1 : Pol).l, rfl, ?_⟩⟩
  rw [single_C n3, decide_eq_true rfl]
  exact hq
theorem len_law : ∀ args Q E, c_law args Q E → args.length = ps_law.length := by
  rintro args Q E ⟨_, rfl, _⟩
  rfl
theorem pure_law : ∀ args Q E, c_law args Q E → r_law (startE N_law.length args) (endsC args Q) (exnC args E) := by
  rintro args Q E ⟨ns, rfl, hl, hq⟩
  have fin := fun (k : Int) (o : MO) (d3 d4 d5 d6 d7 d8 d9 d10 d11 : D) (s12 : Slot) => part_fin ns k o d3 d4 d5 d6 d7 d8 d9 d10 d11 s12 Q E hq
  have hm : (if (if (ns.length : Int) < 2 then (ns.length : Int) else 2) > 1 then (if (ns.length : Int) < 2 then (ns.length : Int) else 2) else 1) = 1 ∨ (if (if (ns.length : Int) < 2 then (ns.length : Int) else 2) > 1 then (if (ns.length : Int) < 2 then (ns.length : Int) else 2) else 1) = 2 := by
    by_cases h1 : (ns.length : Int) < 2
    · rw [if_pos h1]
      by_cases h2 : (ns.length : Int) > 1
      · omega
      · rw [if_neg h2]
        exact .inl rfl
    · rw [if_neg h1]
      exact .inr rfl
  have go : ∀ m : Int, m = 1 ∨ m = 2 → m ≤ 100000 ∧ -100000 ≤ m ∧ qLoop none (gV 1) r_law_it ((List.range m.toNat).map fun i : Nat => D.int (i : Int)) (startE N_law.length [.val (.scr ns)]) { endsC [.val (.scr ns)] Q with nx := fun Γ1 => r_law_fin Γ1 (endsC [.val (.scr ns)] Q) (exnC [.val (.scr ns)] E) } (exnC [.val (.scr ns)] E) := by
    intro m h
    rcases h with rfl | rfl
    · refine ⟨by decide, by decide, ?_⟩
      exact part_it ns 0 (.lst []) .non .non .non .non .non .non .non .non .non .non false _ _ (by decide) (by decide) (fun o d3 d4 d5 d6 d7 d8 d9 d10 d11 d => fin 0 o d3 d4 d5 d6 d7 d8 d9 d10 d11 (.val d))
    · refine ⟨by decide, by decide, ?_⟩
      exact part_it ns 0 (.lst []) .non .non .non .non .non .non .non .non .non .non false _ _ (by decide) (by decide) (fun o d3 d4 d5 d6 d7 d8 d9 d10 d11 d =>
      part_it ns 1 o d3 d4 d5 d6 d7 d8 d9 d10 d11 d true _ _ (by decide) (by decide) (fun o d3 d4 d5 d6 d7 d8 d9 d10 d11 d => fin 1 o d3 d4 d5 d6 d7 d8 d9 d10 d11 (.val d)))
  exact go _ hm
theorem ok_law {P : Program} {w : World} {K : Frag} {mg : Str → Option Value} {base : Heap} (W : Wd P K mg) (Fn : ∃ fd, FunD K d_law.name d_law.qual d_law.params d_law.body d_law.scope (d_law.dvs K) (d_law.kws K) (d_law.at_ K) fd) (h_Polynomial_ulenu : FnB P w K mg base d_Polynomial_ulenu 2 ps_Polynomial_ulenu c_Polynomial_ulenu) (h__law_box : FnB P w K mg base d__law_box 5 ps__law_box c__law_box) (h__law_factors : FnB P w K mg base d__law_factors 48 ps__law_factors c__law_factors) (h__law_take : FnB P w K mg base d__law_take 2 ps__law_take c__law_take) (h_Polynomial_usubu : FnB P w K mg base d_Polynomial_usubu 57 ps_Polynomial_usubu c_Polynomial_usubu) (h_Polynomial_uaddu : FnB P w K mg base d_Polynomial_uaddu 57 ps_Polynomial_uaddu c_Polynomial_uaddu) (h__law_made : FnB P w K mg base d__law_made 57 ps__law_made c__law_made) (h__law_powered : FnB P w K mg base d__law_powered 51 ps__law_powered c__law_powered) (h__law_minus : FnB P w K mg base d__law_minus 45 ps__law_minus c__law_minus) (h__law_least : FnB P w K mg base d__law_least 2 ps__law_least c__law_least) (h_Polynomial_uequ : FnB P w K mg base d_Polynomial_uequ 13 ps_Polynomial_uequ c_Polynomial_uequ) (h_common : FnB P w K mg base d_common 63 ps_common c_common) (h_single : FnB P w K mg base d_single 66 ps_single c_single) (h__law_number : FnB P w K mg base d__law_number 45 ps__law_number c__law_number) (h__law_parted : FnB P w K mg base d__law_parted 63 ps__law_parted c__law_parted) (h_Polynomial_uinitu : FnB P w K mg base d_Polynomial_uinitu 54 ps_Polynomial_uinitu c_Polynomial_uinitu) (h__law_zero : FnB P w K mg base d__law_zero 69 ps__law_zero c__law_zero) : FnBG P w K mg base d_law 72 ps_law c_law := by
  refine FnBG.of (N := N_law) (r := r_law) Fn sc_law len_law pure_law ?_
  intro f cdv A outer s H E0 hr hgd G0 H0 B pin xa xd xc E tk hp h0
  have sc := sc_law
  have hu := roomU hr
  exact (lss_cons (ls_for hp rfl (li_rng1 W.f_range (le_b (bl_max rfl) (la_cons le_int (la_cons (le_b (bl_min rfl) (la_cons le_int (la_cons (le_b (bl_lenC rfl (len_ok W.m_Polynomial_ulenu) (h_Polynomial_ulenu.all (A := Around.in1 _) rfl rfl rfl rfl rfl rfl (hr.mono (by decide : 2 + 1 ≤ 71)).in1 rfl rfl bd_Polynomial_ulenu) tk (bl_len rfl)) (la_cons (le_var 0) la_nil) W.f_len) la_nil)) W.f_min) la_nil)) W.f_max)) (lg_name 1 sc.nd) (lss_cons (ls_setN 2 sc.nd (ln_call (h__law_box.all rfl rfl rfl rfl rfl rfl (hr.mono (by decide : 5 ≤ 71)) rfl rfl bd__law_box) W.g__law_box h__law_box.kp tk (lc_p (lh_val (le_var 0) (lh_val (le_var 1) lh_nil)))))
    (lss_cons (ls_set 3 sc.nd (le_callC (h__law_factors.all rfl rfl rfl rfl rfl rfl (hr.mono (by decide : 48 ≤ 71)) rfl rfl bd__law_factors) W.g__law_factors h__law_factors.kp tk (lc_p (lh_any 2 lh_nil))))
    (lss_cons (ls_set 4 sc.nd (le_tell (ln_lc [("_law_factor", 13)] rfl sc.nd (Tk.def tk) (li_seq rfl (le_var 3)) (blkOk_by (by kernel_rfl)) (fun b q => (lgv_name 13 sc.nd)) (fun b q E' tk => lts_nil) (fun b q E' tk => (le_callC (h__law_take.all rfl rfl rfl rfl rfl rfl (hr.mono (by decide : 2 ≤ 71)) rfl rfl bd__law_take) W.g__law_take h__law_take.kp tk.t (lc_p (lh_any 2 (lh_val (le_bin (ol_sw (ol_ownS rfl (op_ok (op := .Sub) rfl W.first_Polynomial W.m_Polynomial_usubu) (h_Polynomial_usubu.all rfl rfl rfl rfl rfl rfl (hr.mono (by decide : 57 ≤ 71)) rfl rfl bd_Polynomial_usubu) tk.t) ol_sub) le_int (le_b (bl_lenC rfl (len_ok W.m_Polynomial_ulenu) (h_Polynomial_ulenu.all (A := Around.in1 _) rfl rfl rfl rfl rfl rfl (hr.mono (by decide : 2 + 1 ≤ 71)).in1 rfl rfl bd_Polynomial_ulenu) tk.t (bl_len rfl)) (la_cons (le_var 13) la_nil) W.f_len)) lh_nil))))))))
    (lss_cons (ls_set 5 sc.nd (le_tell (ln_lc [("_law_factor", 13)] rfl sc.nd (Tk.def tk) (li_seq rfl (le_var 3)) (blkOk_by (by kernel_rfl)) (fun b q => (lgv_name 13 sc.nd)) (fun b q E' tk => lts_nil) (fun b q E' tk => (le_callC (h__law_take.all rfl rfl rfl rfl rfl rfl (hr.mono (by decide : 2 ≤ 71)) rfl rfl bd__law_take) W.g__law_take h__law_take.kp tk.t (lc_p (lh_any 2 (lh_val (le_bin (ol_sw (ol_ownS rfl (op_ok (op := .Sub) rfl W.first_Polynomial W.m_Polynomial_usubu) (h_Polynomial_usubu.all rfl rfl rfl rfl rfl rfl (hr.mono (by decide : 57 ≤ 71)) rfl rfl bd_Polynomial_usubu) tk.t) ol_sub) le_int (le_b (bl_lenC rfl (len_ok W.m_Polynomial_ulenu) (h_Polynomial_ulenu.all (A := Around.in1 _) rfl rfl rfl rfl rfl rfl (hr.mono (by decide : 2 + 1 ≤ 71)).in1 rfl rfl bd_Polynomial_ulenu) tk.t (bl_len rfl)) (la_cons (le_var 13) la_nil) W.f_len)) lh_nil))))))))
    (lss_cons (ls_set 6 sc.nd (le_tup (la_cons (le_bin (ol_sw (ol_ownS rfl (op_ok (op := .Add) rfl W.first_Polynomial W.m_Polynomial_uaddu) (h_Polynomial_uaddu.all rfl rfl rfl rfl rfl rfl (hr.mono (by decide : 57 ≤ 71)) rfl rfl bd_Polynomial_uaddu) tk) ol_add) le_int (le_callC (h__law_take.all rfl rfl rfl rfl rfl rfl (hr.mono (by decide : 2 ≤ 71)) rfl rfl bd__law_take) W.g__law_take h__law_take.kp tk (lc_p (lh_any 2 (lh_val le_int lh_nil))))) (la_cons (le_bin (ol_sw (ol_ownS rfl (op_ok (op := .Add) rfl W.first_Polynomial W.m_Polynomial_uaddu) (h_Polynomial_uaddu.all rfl rfl rfl rfl rfl rfl (hr.mono (by decide : 57 ≤ 71)) rfl rfl bd_Polynomial_uaddu) tk) ol_add) le_int (le_callC (h__law_take.all rfl rfl rfl rfl rfl rfl (hr.mono (by decide : 2 ≤ 71)) rfl rfl bd__law_take) W.g__law_take h__law_take.kp tk (lc_p (lh_any 2 (lh_val le_int lh_nil))))) la_nil))))
    (lss_cons (ls_set 7 sc.nd (le_callC (h__law_made.all rfl rfl rfl rfl rfl rfl (hr.mono (by decide : 57 ≤ 71)) rfl rfl bd__law_made) W.g__law_made h__law_made.kp tk (lc_p (lh_val (le_callC (h__law_powered.all rfl rfl rfl rfl rfl rfl (hr.mono (by decide : 51 ≤ 71)) rfl rfl bd__law_powered) W.g__law_powered h__law_powered.kp tk (lc_p (lh_val (le_var 3) (lh_val (le_var 4) (lh_val (le_var 6) lh_nil))))) lh_nil))))
    (lss_cons (ls_set 8 sc.nd (le_callC (h__law_made.all rfl rfl rfl rfl rfl rfl (hr.mono (by decide : 57 ≤ 71)) rfl rfl bd__law_made) W.g__law_made h__law_made.kp tk (lc_p (lh_val (le_callC (h__law_powered.all rfl rfl rfl rfl rfl rfl (hr.mono (by decide : 51 ≤ 71)) rfl rfl bd__law_powered) W.g__law_powered h__law_powered.kp tk (lc_p (lh_val (le_var 3) (lh_val (le_var 5) (lh_val (le_callC (h__law_minus.all rfl rfl rfl rfl rfl rfl (hr.mono (by decide : 45 ≤ 71)) rfl rfl bd__law_minus) W.g__law_minus h__law_minus.kp tk (lc_p (lh_val (le_tup (la_cons le_int (la_cons le_int la_nil))) (lh_val (le_var 6) lh_nil)))) lh_nil))))) lh_nil))))
    (lss_cons (ls_setLc [("_law_j", 14)] 9 rfl sc.nd (Tk.def tk) (li_rng1 W.f_range (le_b (bl_lenC rfl (len_ok W.m_Polynomial_ulenu) (h_Polynomial_ulenu.all (A := Around.in1 _) rfl rfl rfl rfl rfl rfl (hr.mono (by decide : 2 + 1 ≤ 71)).in1 rfl rfl bd_Polynomial_ulenu) tk (bl_len rfl)) (la_cons (le_var 3) la_nil) W.f_len)) (blkOk_by (by kernel_rfl)) (fun b q => (lgv_name 14 sc.nd)) (fun b q E' tk => lts_nil) (fun b q E' tk => (le_callC (h__law_least.all rfl rfl rfl rfl rfl rfl (hr.mono (by decide : 2 ≤ 71)) rfl rfl bd__law_least) W.g__law_least h__law_least.kp tk.t (lc_p (lh_val (le_ix (il_ix rfl) (le_var 4) (le_var 14)) (lh_val (le_ix (il_ix rfl) (le_var 5) (le_var 14)) lh_nil))))))
    (lss_cons (ls_set 10 sc.nd (le_callC (h__law_made.all rfl rfl rfl rfl rfl rfl (hr.mono (by decide : 57 ≤ 71)) rfl rfl bd__law_made) W.g__law_made h__law_made.kp tk (lc_p (lh_val (le_callC (h__law_powered.all rfl rfl rfl rfl rfl rfl (hr.mono (by decide : 51 ≤ 71)) rfl rfl bd__law_powered) W.g__law_powered h__law_powered.kp tk (lc_p (lh_val (le_var 3) (lh_val (le_var 9) (lh_val (le_tup (la_cons le_int (la_cons le_int la_nil))) lh_nil))))) lh_nil))))
    (lss_cons (ls_if (LW.lt (lw_or (lt_not (lt_cmp (ol_sw (ol_cmp rfl hr (fun _ _ => rfl) W.nf_Polynomial (cmp_ok (op := .Eq) rfl W.m_Polynomial_uequ) (h_Polynomial_uequ.all rfl rfl rfl rfl rfl rfl (hr.mono (by decide : 13 ≤ 71)) rfl rfl bd_Polynomial_uequ) tk) (ol_eq rfl hr)) (le_callC (h_common.all rfl rfl rfl rfl rfl rfl (hr.mono (by decide : 63 ≤ 71)) rfl rfl bd_common) W.g_common h_common.kp tk (lc_p (lh_val (le_var 7) (lh_val (le_var 8) lh_nil)))) (le_var 10))) (lw_or1 (lt_not (lt_cmp (ol_sw (ol_cmp rfl hr (fun _ _ => rfl) W.nf_Polynomial (cmp_ok (op := .Eq) rfl W.m_Polynomial_uequ) (h_Polynomial_uequ.all rfl rfl rfl rfl rfl rfl (hr.mono (by decide : 13 ≤ 71)) rfl rfl bd_Polynomial_uequ) tk) (ol_eq rfl hr)) (le_callC (h_common.all rfl rfl rfl rfl rfl rfl (hr.mono (by decide : 63 ≤ 71)) rfl rfl bd_common) W.g_common h_common.kp tk (lc_p (lh_val (le_var 8) (lh_val (le_var 7) lh_nil)))) (le_var 10)))))) (lss_one (ls_ret le_bl)) lss_nil)
    (lss_cons (ls_if (lt_not (lt_cmp (ol_sw (ol_cmp rfl hr (fun _ _ => rfl) W.nf_Polynomial (cmp_ok (op := .Eq) rfl W.m_Polynomial_uequ) (h_Polynomial_uequ.all rfl rfl rfl rfl rfl rfl (hr.mono (by decide : 13 ≤ 71)) rfl rfl bd_Polynomial_uequ) tk) (ol_eq rfl hr)) (le_callC (h_single.all rfl rfl rfl rfl rfl rfl (hr.mono (by decide : 66 ≤ 71)) rfl rfl bd_single) W.g_single h_single.kp tk (lc_p (lh_val (le_var 7) lh_nil))) (le_callC (h__law_made.all rfl rfl rfl rfl rfl rfl (hr.mono (by decide : 57 ≤ 71)) rfl rfl bd__law_made) W.g__law_made h__law_made.kp tk (lc_p (lh_val (le_callC (h__law_powered.all rfl rfl rfl rfl rfl rfl (hr.mono (by decide : 51 ≤ 71)) rfl rfl bd__law_powered) W.g__law_powered h__law_powered.kp tk (lc_p (lh_val (le_var 3) (lh_val (le_tell (ln_lc [("_law_j", 14)] rfl sc.nd (Tk.def tk) (li_seq rfl (le_var 4)) (blkOk_by (by kernel_rfl)) (fun b q => (lgv_name 14 sc.nd)) (fun b q E' tk => lts_nil) (fun b q E' tk => (le_bty bl_int (la_cons (le_cmp ol_gt (le_var 14) le_int) la_nil) W.f_int)))) (lh_val (le_tup (la_cons le_int (la_cons le_int la_nil))) lh_nil))))) lh_nil))))) (lss_one (ls_ret le_bl)) lss_nil)
    (lss_cons (ls_set 11 sc.nd (le_callC (h__law_made.all rfl rfl rfl rfl rfl rfl (hr.mono (by decide : 57 ≤ 71)) rfl rfl bd__law_made) W.g__law_made h__law_made.kp tk (lc_p (lh_val (le_tell (ln_lc [("_law_j", 14)] rfl sc.nd (Tk.def tk) (li_rng1 W.f_range (le_bin (ol_sw (ol_ownS rfl (op_ok (op := .Add) rfl W.first_Polynomial W.m_Polynomial_uaddu) (h_Polynomial_uaddu.all rfl rfl rfl rfl rfl rfl (hr.mono (by decide : 57 ≤ 71)) rfl rfl bd_Polynomial_uaddu) tk) ol_add) le_int (le_callC (h__law_take.all rfl rfl rfl rfl rfl rfl (hr.mono (by decide : 2 ≤ 71)) rfl rfl bd__law_take) W.g__law_take h__law_take.kp tk (lc_p (lh_any 2 (lh_val le_int lh_nil)))))) (blkOk_by (by kernel_rfl)) (fun b q => (lgv_name 14 sc.nd)) (fun b q E' tk => lts_nil) (fun b q E' tk => (le_callC (h__law_number.all rfl rfl rfl rfl rfl rfl (hr.mono (by decide : 45 ≤ 71)) rfl rfl bd__law_number) W.g__law_number h__law_number.kp tk.t (lc_p (lh_any 2 (lh_val le_int lh_nil))))))) lh_nil))))
    (lss_cons (ls_for hp rfl (li_seq rfl (le_lst (la_cons (le_var 7) (la_cons (le_var 8) (la_cons (le_var 11) la_nil))))) (lg_name 12 sc.nd) (lss_one (ls_if (LW.lt (lw_and (lt_cmp ol_gt (le_b (bl_lenC rfl (len_ok W.m_Polynomial_ulenu) (h_Polynomial_ulenu.all (A := Around.in1 _) rfl rfl rfl rfl rfl rfl (hr.mono (by decide : 2 + 1 ≤ 71)).in1 rfl rfl bd_Polynomial_ulenu) tk (bl_len rfl)) (la_cons (le_var 12) la_nil) W.f_len) le_int) (lw_and1 (LW.lt (lw_or (lt_not (lt_val (le_callC (h__law_parted.all rfl rfl rfl rfl rfl rfl (hr.mono (by decide : 63 ≤ 71)) rfl rfl bd__law_parted) W.g__law_parted h__law_parted.kp tk (lc_p (lh_val (le_var 7) (lh_val (le_var 12) lh_nil)))))) (lw_or1 (lt_not (lt_val (le_callC (h__law_parted.all rfl rfl rfl rfl rfl rfl (hr.mono (by decide : 63 ≤ 71)) rfl rfl bd__law_parted) W.g__law_parted h__law_parted.kp tk (lc_p (lh_val (le_var 12) (lh_val (le_var 8) lh_nil)))))))))))) (lss_one (ls_ret le_bl)) lss_nil)))
    (lss_cons (ls_if (LW.lt (lw_or (lt_not (lt_cmp (ol_sw (ol_cmp rfl hr (fun _ _ => rfl) W.nf_Polynomial (cmp_ok (op := .Eq) rfl W.m_Polynomial_uequ) (h_Polynomial_uequ.all rfl rfl rfl rfl rfl rfl (hr.mono (by decide : 13 ≤ 71)) rfl rfl bd_Polynomial_uequ) tk) (ol_eq rfl hr)) (le_callC (h_common.all rfl rfl rfl rfl rfl rfl (hr.mono (by decide : 63 ≤ 71)) rfl rfl bd_common) W.g_common h_common.kp tk (lc_p (lh_val (le_var 7) (lh_val (le_callC (code_make (pMk_ok W.mk_Polynomial) fun us kw => (h_Polynomial_uinitu.all rfl rfl rfl rfl rfl rfl ((hr.mono (by decide : 54 + 1 ≤ 71)).make _ us kw) rfl rfl bd_Polynomial_uinitu)) W.g_Polynomial W.mk_Polynomial.2.2.2 tk (lc_p (lh_val (le_lst la_nil) lh_nil))) lh_nil)))) (le_callC (h_common.all rfl rfl rfl rfl rfl rfl (hr.mono (by decide : 63 ≤ 71)) rfl rfl bd_common) W.g_common h_common.kp tk (lc_p (lh_val (le_callC (code_make (pMk_ok W.mk_Polynomial) fun us kw => (h_Polynomial_uinitu.all rfl rfl rfl rfl rfl rfl ((hr.mono (by decide : 54 + 1 ≤ 71)).make _ us kw) rfl rfl bd_Polynomial_uinitu)) W.g_Polynomial W.mk_Polynomial.2.2.2 tk (lc_p (lh_val (le_lst la_nil) lh_nil))) (lh_val (le_var 7) lh_nil)))))) (lw_or1 (lt_not (lt_val (le_callC (h__law_zero.all rfl rfl rfl rfl rfl rfl (hr.mono (by decide : 69 ≤ 71)) rfl rfl bd__law_zero) W.g__law_zero h__law_zero.kp tk (lc_p (lh_val (le_var 7) lh_nil)))))))) (lss_one (ls_ret le_bl)) lss_nil)
    (lss_one (ls_if (lt_not (lt_cmp (ol_sw (ol_cmp rfl hr (fun _ _ => rfl) W.nf_Polynomial (cmp_ok (op := .Eq) rfl W.m_Polynomial_uequ) (h_Polynomial_uequ.all rfl rfl rfl rfl rfl rfl (hr.mono (by decide : 13 ≤ 71)) rfl rfl bd_Polynomial_uequ) tk) (ol_eq rfl hr)) (le_callC (h_common.all rfl rfl rfl rfl rfl rfl (hr.mono (by decide : 63 ≤ 71)) rfl rfl bd_common) W.g_common h_common.kp tk (lc_p (lh_val (le_var 7) (lh_val (le_callC (code_make (pMk_ok W.mk_Polynomial) fun us kw => (h_Polynomial_uinitu.all rfl rfl rfl rfl rfl rfl ((hr.mono (by decide : 54 + 1 ≤ 71)).make _ us kw) rfl rfl bd_Polynomial_uinitu)) W.g_Polynomial W.mk_Polynomial.2.2.2 tk (lc_p (lh_val (le_lst la_nil) lh_nil))) lh_nil)))) (le_callC (h__law_made.all rfl rfl rfl rfl rfl rfl (hr.mono (by decide : 57 ≤ 71)) rfl rfl bd__law_made) W.g__law_made h__law_made.kp tk (lc_p (lh_val (le_callC (h__law_powered.all rfl rfl rfl rfl rfl rfl (hr.mono (by decide : 51 ≤ 71)) rfl rfl bd__law_powered) W.g__law_powered h__law_powered.kp tk (lc_p (lh_val (le_var 3) (lh_val (le_var 4) (lh_val (le_tup (la_cons le_int (la_cons le_int la_nil))) lh_nil))))) lh_nil))))) (lss_one (ls_ret le_bl)) lss_nil)))))))))))))))))
    (lss_one (ls_ret (le_and (le_cmp (ol_sw (ol_cmp rfl hr (fun _ _ => rfl) W.nf_Polynomial (cmp_ok (op := .Eq) rfl W.m_Polynomial_uequ) (h_Polynomial_uequ.all rfl rfl rfl rfl rfl rfl (hr.mono (by decide : 13 ≤ 71)) rfl rfl bd_Polynomial_uequ) tk) (ol_eq rfl hr)) (le_callC (h_common.all rfl rfl rfl rfl rfl rfl (hr.mono (by decide : 63 ≤ 71)) rfl rfl bd_common) W.g_common h_common.kp tk (lc_p (lh_val (le_callC (code_make (pMk_ok W.mk_Polynomial) fun us kw => (h_Polynomial_uinitu.all rfl rfl rfl rfl rfl rfl ((hr.mono (by decide : 54 + 1 ≤ 71)).make _ us kw) rfl rfl bd_Polynomial_uinitu)) W.g_Polynomial W.mk_Polynomial.2.2.2 tk (lc_p (lh_val (le_lst la_nil) lh_nil))) (lh_val (le_callC (code_make (pMk_ok W.mk_Polynomial) fun us kw => (h_Polynomial_uinitu.all rfl rfl rfl rfl rfl rfl ((hr.mono (by decide : 54 + 1 ≤ 71)).make _ us kw) rfl rfl bd_Polynomial_uinitu)) W.g_Polynomial W.mk_Polynomial.2.2.2 tk (lc_p (lh_val (le_lst (la_cons le_int la_nil)) lh_nil))) lh_nil)))) (le_callC (code_make (pMk_ok W.mk_Polynomial) fun us kw => (h_Polynomial_uinitu.all rfl rfl rfl rfl rfl rfl ((hr.mono (by decide : 54 + 1 ≤ 71)).make _ us kw) rfl rfl bd_Polynomial_uinitu)) W.g_Polynomial W.mk_Polynomial.2.2.2 tk (lc_p (lh_val (le_lst la_nil) lh_nil)))) (le_one (le_cmp (ol_sw (ol_cmp rfl hr (fun _ _ => rfl) W.nf_Polynomial (cmp_ok (op := .Eq) rfl W.m_Polynomial_uequ) (h_Polynomial_uequ.all rfl rfl rfl rfl rfl rfl (hr.mono (by decide : 13 ≤ 71)) rfl rfl bd_Polynomial_uequ) tk) (ol_eq rfl hr)) (le_callC (h_single.all rfl rfl rfl rfl rfl rfl (hr.mono (by decide : 66 ≤ 71)) rfl rfl bd_single) W.g_single h_single.kp tk (lc_p (lh_val (le_callC (code_make (pMk_ok W.mk_Polynomial) fun us kw => (h_Polynomial_uinitu.all rfl rfl rfl rfl rfl rfl ((hr.mono (by decide : 54 + 1 ≤ 71)).make _ us kw) rfl rfl bd_Polynomial_uinitu)) W.g_Polynomial W.mk_Polynomial.2.2.2 tk (lc_p (lh_val (le_lst (la_cons le_int la_nil)) lh_nil))) lh_nil))) (le_callC (code_make (pMk_ok W.mk_Polynomial) fun us kw => (h_Polynomial_uinitu.all rfl rfl rfl rfl rfl rfl ((hr.mono (by decide : 54 + 1 ≤ 71)).make _ us kw) rfl rfl bd_Polynomial_uinitu)) W.g_Polynomial W.mk_Polynomial.2.2.2 tk (lc_p (lh_val (le_lst (la_cons le_int la_nil)) lh_nil)))))))))
end K06
set_option Elab.async false
set_option linter.all false
set_option maxRecDepth 100000
set_option maxHeartbeats 4000000
set_option maxHeartbeats 0
namespace K06
open PySem L2 PySem.Spec PyProof.Rows He PySem.W Q
theorem wd {K : Frag} {h : Heap} {mg : Str → Option Value} (X : K.In h) (G : h.Ns mainGlobals mg) (c : SaysQ fa fn K) : Wd R.prog K mg where
  f_isinstance := mk_free X G (c.fact 0)
  f_int := mk_free X G (c.fact 1)
  f_bool := mk_free X G (c.fact 2)
  f_abs := mk_free X G (c.fact 3)
  f_max := mk_free X G (c.fact 4)
  f_min := mk_free X G (c.fact 5)
  f_len := mk_free X G (c.fact 6)
  f_range := mk_free X G (c.fact 7)
  f_list := mk_free X G (c.fact 8)
  f_tuple := mk_free X G (c.fact 9)
  f_enumerate := mk_free X G (c.fact 10)
  f_zip := mk_free X G (c.fact 11)
  g_is_integer := mk_glo X G (c.fact 12)
  g_greatest := mk_glo X G (c.fact 13)
  g_parts := mk_glo X G (c.fact 14)
  g_checked := mk_glo X G (c.fact 15)
  g_as_ratio := mk_glo X G (c.fact 16)
  g_shortened := mk_glo X G (c.fact 17)
  g_term_at := mk_glo X G (c.fact 18)
  g_folded := mk_glo X G (c.fact 19)
  g_scaled := mk_glo X G (c.fact 20)
  g_levelled := mk_glo X G (c.fact 21)
  g_common := mk_glo X G (c.fact 22)
  g_single := mk_glo X G (c.fact 23)
  g__law_cell := mk_glo X G (c.fact 24)
  g__law_box := mk_glo X G (c.fact 25)
  g__law_take := mk_glo X G (c.fact 26)
  g__law_frac := mk_glo X G (c.fact 27)
  g__law_plus := mk_glo X G (c.fact 28)
  g__law_times := mk_glo X G (c.fact 29)
  g__law_minus := mk_glo X G (c.fact 30)
  g__law_number := mk_glo X G (c.fact 31)
  g__law_trimmed := mk_glo X G (c.fact 32)
  g__law_product := mk_glo X G (c.fact 33)
  g__law_made := mk_glo X G (c.fact 34)
  g__law_factors := mk_glo X G (c.fact 35)
  g__law_powered := mk_glo X G (c.fact 36)
  g__law_least := mk_glo X G (c.fact 37)
  g__law_zero := mk_glo X G (c.fact 38)
  g__law_parted := mk_glo X G (c.fact 39)
  g_law := mk_glo X G (c.fact 40)
  g_FilterError := mk_glo X G (c.fact 41)
  g_ByZero := mk_glo X G (c.fact 42)
  g_BadNumber := mk_glo X G (c.fact 43)
  g_ZeroPolynomial := mk_glo X G (c.fact 44)
  g_Ratio := mk_glo X G (c.fact 45)
  g_Polynomial := mk_glo X G (c.fact 46)
  c_Ratio := c.fact 47
  no_ratio_top := c.fact 48
  no_ratio_bottom := c.fact 49
  mk_Ratio := c.fact 50
  first_Ratio := c.fact 51
  m_Ratio_uaddu := c.fact 52
  opt_Ratio_uaddu := c.fact 53
  m_Ratio_usubu := c.fact 54
  opt_Ratio_usubu := c.fact 55
  m_Ratio_umulu := c.fact 56
  opt_Ratio_umulu := c.fact 57
  m_Ratio_unegu := c.fact 58
  m_Ratio_uequ := c.fact 59
  ne_Ratio := c.fact 60
  nf0_Ratio := c.fact 61
  m_Ratio_over := c.fact 62
  c_Polynomial := c.fact 63
  no_poly_kept := c.fact 64
  mk_Polynomial := c.fact 65
  first_Polynomial := c.fact 66
  m_Polynomial_terms := c.fact 67
  m_Polynomial_ulenu := c.fact 68
  m_Polynomial_uequ := c.fact 69
  ne_Polynomial := c.fact 70
  nf0_Polynomial := c.fact 71
  m_Polynomial_uaddu := c.fact 72
  m_Polynomial_usubu := c.fact 73
  m_Polynomial_umulu := c.fact 74
  m_Polynomial_slope := c.fact 75
  m_Polynomial_parted := c.fact 76
  i_int := c.fact 77
  i_bool := c.fact 78
  i_tuple := c.fact 79
  i_Ratio := c.fact 80
  i_Polynomial := c.fact 81
  errB := c.fact 82
  e_ByZero := c.fact 83
  x_ByZero := c.fact 84
  e_BadNumber := c.fact 85
  no_BadNumber_given := c.fact 86
  e_ZeroPolynomial := c.fact 87
  x_ZeroPolynomial := c.fact 88
  py := c.fact 89
  pt := by kernel_rfl
theorem er_ByZero {P : Program} {w : World} {K : Frag} {mg : Str → Option Value} {base : Heap} (W : Wd P K mg) (Fn : ∃ fd, FunD K d_ByZero_uinitu.name d_ByZero_uinitu.qual d_ByZero_uinitu.params d_ByZero_uinitu.body d_ByZero_uinitu.scope (d_ByZero_uinitu.dvs K) (d_ByZero_uinitu.kws K) (d_ByZero_uinitu.at_ K) fd) : ∃ fd, Er0 P w (cf K) mg base .byZero (d_ByZero_uinitu.at_ K) fd ["self"] := by
  obtain ⟨fd, F⟩ := Fn
  refine ⟨fd, pErr_o W.e_ByZero, W.e_ByZero.2.2.2.2.2.1, W.e_ByZero.2.2.2.2.2.2.1, FunD.bindsN (ps := ["self"]) F fun _ _ _ _ _ _ us hl => match us, hl with | [_], _ => rfl, ?_⟩
  exact err_fn0 F (fun _ => ⟨_, rfl⟩) ⟨rfl, rfl, rfl, by decide +kernel, rfl, by decide +kernel, by decide +kernel⟩ (pErrB_ok W.errB) (pErr_o W.e_ByZero) W.g_FilterError rfl rfl
theorem er_BadNumber {P : Program} {w : World} {K : Frag} {mg : Str → Option Value} {base : Heap} (W : Wd P K mg) (Fn : ∃ fd, FunD K d_BadNumber_uinitu.name d_BadNumber_uinitu.qual d_BadNumber_uinitu.params d_BadNumber_uinitu.body d_BadNumber_uinitu.scope (d_BadNumber_uinitu.dvs K) (d_BadNumber_uinitu.kws K) (d_BadNumber_uinitu.at_ K) fd) : ∃ fd, Er1 P w (cf K) mg base .badNumber "given" (d_BadNumber_uinitu.at_ K) fd ["self", "given"] := by
  obtain ⟨fd, F⟩ := Fn
  refine ⟨fd, pErr_o W.e_BadNumber, W.e_BadNumber.2.2.2.2.2.1, W.e_BadNumber.2.2.2.2.2.2.1, FunD.bindsN (ps := ["self", "given"]) F fun _ _ _ _ _ _ us hl => match us, hl with | [_, _], _ => rfl, rfl, ?_⟩
  exact err_fn1 F (fun _ => ⟨_, rfl⟩) ⟨rfl, rfl, rfl, by decide +kernel, rfl, by decide +kernel, by decide +kernel⟩ (pErrB_ok W.errB) (pErr_o W.e_BadNumber) W.g_FilterError rfl rfl rfl (by decide) (by decide) W.no_BadNumber_given
theorem er_ZeroPolynomial {P : Program} {w : World} {K : Frag} {mg : Str → Option Value} {base : Heap} (W : Wd P K mg) (Fn : ∃ fd, FunD K d_ZeroPolynomial_uinitu.name d_ZeroPolynomial_uinitu.qual d_ZeroPolynomial_uinitu.params d_ZeroPolynomial_uinitu.body d_ZeroPolynomial_uinitu.scope (d_ZeroPolynomial_uinitu.dvs K) (d_ZeroPolynomial_uinitu.kws K) (d_ZeroPolynomial_uinitu.at_ K) fd) : ∃ fd, Er0 P w (cf K) mg base .zeroPolynomial (d_ZeroPolynomial_uinitu.at_ K) fd ["self"] := by
  obtain ⟨fd, F⟩ := Fn
  refine ⟨fd, pErr_o W.e_ZeroPolynomial, W.e_ZeroPolynomial.2.2.2.2.2.1, W.e_ZeroPolynomial.2.2.2.2.2.2.1, FunD.bindsN (ps := ["self"]) F fun _ _ _ _ _ _ us hl => match us, hl with | [_], _ => rfl, ?_⟩
  exact err_fn0 F (fun _ => ⟨_, rfl⟩) ⟨rfl, rfl, rfl, by decide +kernel, rfl, by decide +kernel, by decide +kernel⟩ (pErrB_ok W.errB) (pErr_o W.e_ZeroPolynomial) W.g_FilterError rfl rfl
theorem all_ok {P : Program} {w : World} {K : Frag} {mg : Str → Option Value} {base : Heap} (W : Wd P K mg) (c : SaysQ fa fn K) : FnBG P w K mg base d_law 72 ps_law c_law := by
  have e_ByZero := er_ByZero (P := P) (w := w) (base := base) W (c.def_ 45 (d := d_ByZero_uinitu) rfl)
  have e_BadNumber := er_BadNumber (P := P) (w := w) (base := base) W (c.def_ 46 (d := d_BadNumber_uinitu) rfl)
  have e_ZeroPolynomial := er_ZeroPolynomial (P := P) (w := w) (base := base) W (c.def_ 47 (d := d_ZeroPolynomial_uinitu) rfl)
  have h_is_integer := ok_is_integer (P := P) (w := w) (base := base) W (c.def_ 0 (d := d_is_integer) rfl)
  have h_greatest := ok_greatest (P := P) (w := w) (base := base) W (c.def_ 1 (d := d_greatest) rfl)
  have h_parts := ok_parts (P := P) (w := w) (base := base) W (c.def_ 2 (d := d_parts) rfl) h_is_integer
  have h_checked := ok_checked (P := P) (w := w) (base := base) W (c.def_ 3 (d := d_checked) rfl) h_parts e_BadNumber
  have h_Ratio_uinitu := ok_Ratio_uinitu (P := P) (w := w) (base := base) W (c.def_ 4 (d := d_Ratio_uinitu) rfl) h_greatest e_ByZero
  have h_Ratio_uaddu := ok_Ratio_uaddu (P := P) (w := w) (base := base) W (c.def_ 5 (d := d_Ratio_uaddu) rfl) h_checked h_Ratio_uinitu
  have h_Ratio_usubu := ok_Ratio_usubu (P := P) (w := w) (base := base) W (c.def_ 6 (d := d_Ratio_usubu) rfl) h_checked h_Ratio_uinitu
  have h_Ratio_umulu := ok_Ratio_umulu (P := P) (w := w) (base := base) W (c.def_ 7 (d := d_Ratio_umulu) rfl) h_checked h_Ratio_uinitu
  have h_Ratio_unegu := ok_Ratio_unegu (P := P) (w := w) (base := base) W (c.def_ 8 (d := d_Ratio_unegu) rfl) h_Ratio_uinitu
  have h_Ratio_uequ := ok_Ratio_uequ (P := P) (w := w) (base := base) W (c.def_ 9 (d := d_Ratio_uequ) rfl) h_parts
  have h_Ratio_over := ok_Ratio_over (P := P) (w := w) (base := base) W (c.def_ 10 (d := d_Ratio_over) rfl) h_checked h_Ratio_uinitu
  have h_as_ratio := ok_as_ratio (P := P) (w := w) (base := base) W (c.def_ 11 (d := d_as_ratio) rfl) h_checked h_Ratio_uinitu
  have h_shortened := ok_shortened (P := P) (w := w) (base := base) W (c.def_ 12 (d := d_shortened) rfl) h_Ratio_uequ h_Ratio_usubu
  have h_Polynomial_uinitu := ok_Polynomial_uinitu (P := P) (w := w) (base := base) W (c.def_ 13 (d := d_Polynomial_uinitu) rfl) h_shortened h_as_ratio
  have h_Polynomial_terms := ok_Polynomial_terms (P := P) (w := w) (base := base) W (c.def_ 14 (d := d_Polynomial_terms) rfl)
  have h_Polynomial_ulenu := ok_Polynomial_ulenu (P := P) (w := w) (base := base) W (c.def_ 15 (d := d_Polynomial_ulenu) rfl)
  have h_Polynomial_uequ := ok_Polynomial_uequ (P := P) (w := w) (base := base) W (c.def_ 16 (d := d_Polynomial_uequ) rfl) h_Ratio_uequ
  have h_term_at := ok_term_at (P := P) (w := w) (base := base) W (c.def_ 17 (d := d_term_at) rfl) h_Ratio_uinitu
  have h_Polynomial_uaddu := ok_Polynomial_uaddu (P := P) (w := w) (base := base) W (c.def_ 18 (d := d_Polynomial_uaddu) rfl) h_Polynomial_uinitu h_Ratio_uaddu h_term_at
  have h_Polynomial_usubu := ok_Polynomial_usubu (P := P) (w := w) (base := base) W (c.def_ 19 (d := d_Polynomial_usubu) rfl) h_Polynomial_uinitu h_Ratio_usubu h_term_at
  have h_folded := ok_folded (P := P) (w := w) (base := base) W (c.def_ 20 (d := d_folded) rfl) h_Ratio_umulu h_Ratio_uinitu h_Ratio_uaddu h_Ratio_usubu
  have h_Polynomial_umulu := ok_Polynomial_umulu (P := P) (w := w) (base := base) W (c.def_ 21 (d := d_Polynomial_umulu) rfl) h_Polynomial_uinitu h_folded
  have h_Polynomial_slope := ok_Polynomial_slope (P := P) (w := w) (base := base) W (c.def_ 22 (d := d_Polynomial_slope) rfl) h_Polynomial_uinitu h_Ratio_umulu
  have h_Polynomial_parted := ok_Polynomial_parted (P := P) (w := w) (base := base) W (c.def_ 23 (d := d_Polynomial_parted) rfl) h_Polynomial_uequ h_Polynomial_ulenu h_Polynomial_uinitu h_Ratio_over h_Polynomial_uaddu h_Polynomial_umulu h_Polynomial_usubu e_ByZero
  have h_scaled := ok_scaled (P := P) (w := w) (base := base) W (c.def_ 24 (d := d_scaled) rfl) h_Polynomial_ulenu h_Polynomial_terms h_Polynomial_uinitu h_Ratio_over
  have h_levelled := ok_levelled (P := P) (w := w) (base := base) W (c.def_ 25 (d := d_levelled) rfl) h_Ratio_uequ h_Polynomial_ulenu h_Polynomial_terms h_Polynomial_uinitu h_Ratio_over h_Ratio_unegu
  have h_common := ok_common (P := P) (w := w) (base := base) W (c.def_ 26 (d := d_common) rfl) h_Polynomial_ulenu h_levelled h_Polynomial_parted h_scaled
  have h_single := ok_single (P := P) (w := w) (base := base) W (c.def_ 27 (d := d_single) rfl) h_Polynomial_ulenu h_scaled h_Polynomial_parted h_common h_Polynomial_slope e_ZeroPolynomial
  have h__law_cell := ok__law_cell (P := P) (w := w) (base := base) W (c.def_ 28 (d := d__law_cell) rfl)
  have h__law_box := ok__law_box (P := P) (w := w) (base := base) W (c.def_ 29 (d := d__law_box) rfl) h__law_cell
  have h__law_take := ok__law_take (P := P) (w := w) (base := base) W (c.def_ 30 (d := d__law_take) rfl)
  have h__law_frac := ok__law_frac (P := P) (w := w) (base := base) W (c.def_ 31 (d := d__law_frac) rfl)
  have h__law_plus := ok__law_plus (P := P) (w := w) (base := base) W (c.def_ 32 (d := d__law_plus) rfl) h__law_frac
  have h__law_times := ok__law_times (P := P) (w := w) (base := base) W (c.def_ 33 (d := d__law_times) rfl) h__law_frac
  have h__law_minus := ok__law_minus (P := P) (w := w) (base := base) W (c.def_ 34 (d := d__law_minus) rfl) h__law_frac
  have h__law_number := ok__law_number (P := P) (w := w) (base := base) W (c.def_ 35 (d := d__law_number) rfl) h__law_take h__law_frac
  have h__law_trimmed := ok__law_trimmed (P := P) (w := w) (base := base) W (c.def_ 36 (d := d__law_trimmed) rfl)
  have h__law_product := ok__law_product (P := P) (w := w) (base := base) W (c.def_ 37 (d := d__law_product) rfl) h__law_plus h__law_times h__law_trimmed
  have h__law_made := ok__law_made (P := P) (w := w) (base := base) W (c.def_ 38 (d := d__law_made) rfl) h_Polynomial_uinitu h_Ratio_uinitu
  have h__law_factors := ok__law_factors (P := P) (w := w) (base := base) W (c.def_ 39 (d := d__law_factors) rfl) h__law_number h__law_minus h__law_take
  have h__law_powered := ok__law_powered (P := P) (w := w) (base := base) W (c.def_ 40 (d := d__law_powered) rfl) h__law_product
  have h__law_least := ok__law_least (P := P) (w := w) (base := base) W (c.def_ 41 (d := d__law_least) rfl)
  have h__law_zero := ok__law_zero (P := P) (w := w) (base := base) W (c.def_ 42 (d := d__law_zero) rfl) h_Polynomial_parted h_Polynomial_uinitu h_single
  have h__law_parted := ok__law_parted (P := P) (w := w) (base := base) W (c.def_ 43 (d := d__law_parted) rfl) h_Polynomial_parted h_Polynomial_uequ h_Polynomial_ulenu h_Polynomial_uaddu h_Polynomial_umulu
  have h_law := ok_law (P := P) (w := w) (base := base) W (c.def_ 44 (d := d_law) rfl) h_Polynomial_ulenu h__law_box h__law_factors h__law_take h_Polynomial_usubu h_Polynomial_uaddu h__law_made h__law_powered h__law_minus h__law_least h_Polynomial_uequ h_common h_single h__law_number h__law_parted h_Polynomial_uinitu h__law_zero
  exact h_law
end K06
open PySem PySem.W PySem.Calls PyProof.Rows
theorem PySem.Challenge.cw_filterorders_k06_divided_polynomials_holds : PySem.Challenge.rw_filterorders_k06_divided_polynomials.Holds := by
  w_on; o_law
  refine HandSHeadRun.head_any (r := OpenLaw.row PySem.Challenge.rw_filterorders_k06_divided_polynomials) (q := view (OpenLaw.row PySem.Challenge.rw_filterorders_k06_divided_polynomials).prog [47]) (H := K06.hk) (ob := K06.ob) (M := 12000) (loose := K06.loose) (d := HandSHeadRun.topDef (OpenLaw.row PySem.Challenge.rw_filterorders_k06_divided_polynomials).prog 47) (kwd := []) K06.ob_eq
    (by kernel_rfl) (fun s => by kernel_rfl) K06.run (by kernel_rfl) (by kernel_rfl) (by kernel_rfl) (by rfl) (by first | assumption | decide +kernel) (by decide +kernel) ⟨rfl, rfl, rfl, rfl, rfl, by decide +kernel⟩ ?hw ?hc
  case hw => w_witness2
  case hc =>
    refine Q.endG (l := PySem.Challenge.rw_filterorders_k06_divided_polynomials) (n := 63) (k := 72) (x := "_law_script") rfl (by decide) (by kernel_rfl) ⟨rfl, by decide, by decide⟩ ?F
    intro w mg fa h Y G hmg0
    obtain ⟨K, KX, c⟩ := Y
    have W := K06.wd KX G c
    have en : (HandSHeadRun.topDef (OpenLaw.row PySem.Challenge.rw_filterorders_k06_divided_polynomials).prog 47).name = ("law" : PySem.Str) := by kernel_rfl
    rw [en] at hmg0
    have ea := hmg0.symm.trans W.g_law
    cases ea
    obtain ⟨fd, F⟩ := c.def_ 44 (d := K06.d_law) rfl
    have hb := L2.FunD.bindsA (ps := K06.ps_law) F K06.bd_law
    refine ⟨K, fd, KX, fun s u => hb s [u] rfl, fun base _ _ => ?_⟩
    obtain ⟨fd2, F2, G2⟩ := (K06.all_ok (P := PySem.Challenge.rw_filterorders_k06_divided_polynomials.prog) (w := w) (base := base) W c).ex
    exact Q.same_fd F F2 ▸ G2
