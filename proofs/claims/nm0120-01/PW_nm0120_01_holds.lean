import PyProof.Rows.All
import Wide.All
import OpenK.AllK
import Wide.FinOn
import Lean
import PySem.Challenge.RW_nm0120_01
set_option Elab.async false
section
open PySem PySem.W PyProof.Rows PySem.Calls
namespace Mine

theorem and2 {a b : Bool} (h : (a && b) = true) : a = true ∧ b = true := Eq.mp (Bool.and_eq_true a b) h
theorem and3 {a b c : Bool} (h : (a && b && c) = true) : (a = true ∧ b = true) ∧ c = true := ⟨and2 (and2 h).1, (and2 h).2⟩
theorem and4 {a b c d : Bool} (h : (a && b && c && d) = true) : ((a = true ∧ b = true) ∧ c = true) ∧ d = true := ⟨and3 (and2 h).1, (and2 h).2⟩
theorem and5 {a b c d e : Bool} (h : (a && b && c && d && e) = true) : (((a = true ∧ b = true) ∧ c = true) ∧ d = true) ∧ e = true := ⟨and4 (and2 h).1, (and2 h).2⟩
theorem and6 {a b c d e f : Bool} (h : (a && b && c && d && e && f) = true) : ((((a = true ∧ b = true) ∧ c = true) ∧ d = true) ∧ e = true) ∧ f = true := ⟨and5 (and2 h).1, (and2 h).2⟩
theorem and7 {a b c d e f g : Bool} (h : (a && b && c && d && e && f && g) = true) : (((((a = true ∧ b = true) ∧ c = true) ∧ d = true) ∧ e = true) ∧ f = true) ∧ g = true := ⟨and6 (and2 h).1, (and2 h).2⟩
/-- plain data: what a value is, deep -/
inductive D where
  | none
  | bool (b : Bool)
  | int (i : Int)
  | str (x : Str)
  | bytes (xs : List Int)
  | il (xs : List Int)
  | tup (ds : List D)
  | lst (ds : List D)

/-- a value: data, a handle of an own object, a tuple that holds handles -/
inductive V where
  | d (x : D)
  | ref (k : Nat)
  | tup (vs : List V)

/-- an own object -/
inductive Ob where
  | dead
  | il (xs : List Int)
  | lst (ds : List D)
  | inst (c : Nat) (fs : List (Nat × V))

noncomputable abbrev Kn := Addr → Obj → Prop
noncomputable def tupOf (vs : List Value) (n : Nat) : Obj := { cls := .type "tuple", data := .seq vs.toArray n }

mutual
inductive DR (P : Kn) : D → Value → Prop
  | none : DR P .none .none
  | bool (b : Bool) : DR P (.bool b) (.bool b)
  | int (i : Int) (t : Tok) : DR P (.int i) (.int i t)
  | str (x : Str) (t : Tok) : DR P (.str x) (.str x t)
  | bytes {b : Array UInt8} {xs : List Int} (t : Tok) : KBw.bInts b = xs → DR P (.bytes xs) (.bytes b t)
  | il {a : Addr} {vs : List Value} {n : Nat} {xs : List Int} : P a (listOf vs.toArray n) → IntsAre vs xs → DR P (.il xs) (.ref a)
  | tup {a : Addr} {vs : List Value} {n : Nat} {ds : List D} : P a (tupOf vs n) → DRs P ds vs → DR P (.tup ds) (.ref a)
  | lst {a : Addr} {vs : List Value} {n : Nat} {ds : List D} : P a (listOf vs.toArray n) → DRs P ds vs → DR P (.lst ds) (.ref a)
inductive DRs (P : Kn) : List D → List Value → Prop
  | nil : DRs P [] []
  | cons {d : D} {ds : List D} {v : Value} {vs : List Value} : DR P d v → DRs P ds vs → DRs P (d :: ds) (v :: vs)
end
noncomputable def DRI (P : Kn) (d : D) (v : Value) : Prop := match d with
  | .none => v = .none
  | .bool b => v = .bool b
  | .int i => ∃ t, v = .int i t
  | .str x => ∃ t, v = .str x t
  | .bytes xs => ∃ b t, v = .bytes b t ∧ KBw.bInts b = xs
  | .il xs => ∃ a vs n, v = .ref a ∧ P a (listOf (List.toArray vs) n) ∧ IntsAre vs xs
  | .tup ds => ∃ a vs n, v = .ref a ∧ P a (tupOf vs n) ∧ DRs P ds vs
  | .lst ds => ∃ a vs n, v = .ref a ∧ P a (listOf (List.toArray vs) n) ∧ DRs P ds vs
theorem DR.inv {P : Kn} {d : D} {v : Value} (h : DR P d v) : DRI P d v :=
  DR.casesOn (motive_1 := fun d v _ => DRI P d v) h rfl (fun _ => rfl) (fun _ t => ⟨t, rfl⟩) (fun _ t => ⟨t, rfl⟩) (fun t e => ⟨_, t, rfl, e⟩) (fun h r => ⟨_, _, _, rfl, h, r⟩) (fun h r => ⟨_, _, _, rfl, h, r⟩) (fun h r => ⟨_, _, _, rfl, h, r⟩)
noncomputable def DRsI (P : Kn) (ds : List D) (ws : List Value) : Prop := match ds with
  | [] => ws = []
  | d :: ds => ∃ v vs, ws = v :: vs ∧ DR P d v ∧ DRs P ds vs
theorem DRs.inv {P : Kn} {d : List D} {v : List Value} (h : DRs P d v) : DRsI P d v :=
  DRs.casesOn (motive_2 := fun d v _ => DRsI P d v) h rfl (fun h r => ⟨_, _, rfl, h, r⟩)
theorem DRs.ind {P : Kn} {m : List D → List Value → Prop} (h0 : m [] []) (hc : ∀ {d v ds vs}, DR P d v → DRs P ds vs → m ds vs → m (d :: ds) (v :: vs)) {ds : List D} {vs : List Value} (h : DRs P ds vs) : m ds vs :=
  DRs.rec (motive_1 := fun _ _ _ => True) (motive_2 := fun ds vs _ => m ds vs) trivial (fun _ => trivial) (fun _ _ => trivial) (fun _ _ => trivial) (fun _ _ => trivial) (fun _ _ => trivial) (fun _ _ _ => trivial) (fun _ _ _ => trivial) h0 (fun h r _ i => hc h r i) h
theorem DR.mono {P P' : Kn} (hp : ∀ a o, P a o → P' a o) {d : D} {v : Value} (h : DR P d v) : DR P' d v :=
  DR.rec (motive_1 := fun d v _ => DR P' d v) (motive_2 := fun ds vs _ => DRs P' ds vs) .none .bool .int .str (fun t e => .bytes t e) (fun h r => .il (hp _ _ h) r) (fun h _ r => .tup (hp _ _ h) r) (fun h _ r => .lst (hp _ _ h) r) .nil (fun _ _ h r => .cons h r) h
theorem DRs.mono {P P' : Kn} (hp : ∀ a o, P a o → P' a o) {ds : List D} {vs : List Value} (h : DRs P ds vs) : DRs P' ds vs :=
  h.ind .nil fun h _ i => .cons (h.mono hp) i
theorem DRs.length {P : Kn} {ds : List D} {vs : List Value} (h : DRs P ds vs) : vs.length = ds.length :=
  h.ind (m := fun ds vs => vs.length = ds.length) rfl fun _ _ i => congrArg (· + 1) i
theorem DRs.append {P : Kn} {ds es : List D} {vs ws : List Value} (h : DRs P ds vs) (k : DRs P es ws) : DRs P (ds ++ es) (vs ++ ws) :=
  h.ind (m := fun ds vs => DRs P (ds ++ es) (vs ++ ws)) k fun h _ i => .cons h i
theorem DRs.get {P : Kn} {ds : List D} {vs : List Value} (h : DRs P ds vs) : ∀ {k : Nat} {d : D}, ds[k]? = some d → ∃ v, vs[k]? = some v ∧ DR P d v :=
  h.ind (m := fun ds vs => ∀ {k : Nat} {d : D}, ds[k]? = some d → ∃ v, vs[k]? = some v ∧ DR P d v) (fun e => absurd e (by rw [List.getElem?_nil]; exact nofun)) fun {d v ds vs} h _ i k d' e => Nat.rec (motive := fun k => (d :: ds)[k]? = some d' → ∃ w, (v :: vs)[k]? = some w ∧ DR P d' w) (fun e => ⟨v, rfl, (Option.some.inj e : d = d') ▸ h⟩) (fun _ _ e => i e) k e

mutual
inductive VR (P : Kn) (ρ : List Addr) : V → Value → Prop
  | d {x : D} {v : Value} : DR P x v → VR P ρ (.d x) v
  | ref {k : Nat} {a : Addr} : ρ[k]? = some a → VR P ρ (.ref k) (.ref a)
  | tup {a : Addr} {n : Nat} {vs : List V} {rvs : List Value} : P a (tupOf rvs n) → VRs P ρ vs rvs → VR P ρ (.tup vs) (.ref a)
inductive VRs (P : Kn) (ρ : List Addr) : List V → List Value → Prop
  | nil : VRs P ρ [] []
  | cons {v : V} {vs : List V} {rv : Value} {rvs : List Value} : VR P ρ v rv → VRs P ρ vs rvs → VRs P ρ (v :: vs) (rv :: rvs)
end
theorem prefix_get {α : Type} {l l' : List α} (h : l <+: l') {k : Nat} {a : α} (e : l[k]? = some a) : l'[k]? = some a := by
  obtain ⟨t, rfl⟩ := h
  rw [List.getElem?_append_left (List.getElem?_eq_some_iff.mp e).1]; exact e
noncomputable def VRI (P : Kn) (ρ : List Addr) (d : V) (v : Value) : Prop := match d with
  | .d x => DR P x v
  | .ref k => ∃ a, v = .ref a ∧ ρ[k]? = some a
  | .tup vs => ∃ a n rvs, v = .ref a ∧ P a (tupOf rvs n) ∧ VRs P ρ vs rvs
theorem VR.inv {P : Kn} {ρ : List Addr} {d : V} {v : Value} (h : VR P ρ d v) : VRI P ρ d v :=
  VR.casesOn (motive_1 := fun d v _ => VRI P ρ d v) h (fun h => h) (fun h => ⟨_, rfl, h⟩) (fun h r => ⟨_, _, _, rfl, h, r⟩)
theorem VR.dd {P : Kn} {ρ : List Addr} {d : D} {v : Value} (h : VR P ρ (.d d) v) : DR P d v := h.inv
theorem VR.of {P : Kn} {ρ : List Addr} {w : V} {d : D} {v : Value} (h : VR P ρ w v) (e : w = .d d) : DR P d v := (e ▸ h).dd
theorem VR.ofRef {P : Kn} {ρ : List Addr} {w : V} {k : Nat} {v : Value} (h : VR P ρ w v) (e : w = .ref k) : ∃ a, v = .ref a ∧ ρ[k]? = some a := (e ▸ h).inv
noncomputable def VRsI (P : Kn) (ρ : List Addr) (ds : List V) (ws : List Value) : Prop := match ds with
  | [] => ws = []
  | d :: ds => ∃ v vs, ws = v :: vs ∧ VR P ρ d v ∧ VRs P ρ ds vs
theorem VRs.inv {P : Kn} {ρ : List Addr} {d : List V} {v : List Value} (h : VRs P ρ d v) : VRsI P ρ d v :=
  VRs.casesOn (motive_2 := fun d v _ => VRsI P ρ d v) h rfl (fun h r => ⟨_, _, rfl, h, r⟩)
theorem VRs.ind {P : Kn} {ρ : List Addr} {m : List V → List Value → Prop} (h0 : m [] []) (hc : ∀ {d v ds vs}, VR P ρ d v → VRs P ρ ds vs → m ds vs → m (d :: ds) (v :: vs)) {ds : List V} {vs : List Value} (h : VRs P ρ ds vs) : m ds vs :=
  VRs.rec (motive_1 := fun _ _ _ => True) (motive_2 := fun ds vs _ => m ds vs) (fun _ => trivial) (fun _ => trivial) (fun _ _ _ => trivial) h0 (fun h r _ i => hc h r i) h
theorem VR.mono {P P' : Kn} {ρ ρ' : List Addr} (hp : ∀ a o, P a o → P' a o) (hr : ρ <+: ρ') {v : V} {rv : Value} (h : VR P ρ v rv) : VR P' ρ' v rv :=
  VR.rec (motive_1 := fun d v _ => VR P' ρ' d v) (motive_2 := fun ds vs _ => VRs P' ρ' ds vs) (fun h => .d (h.mono hp)) (fun h => .ref (prefix_get hr h)) (fun h _ r => .tup (hp _ _ h) r) .nil (fun _ _ h r => .cons h r) h
theorem VRs.mono {P P' : Kn} {ρ ρ' : List Addr} (hp : ∀ a o, P a o → P' a o) (hr : ρ <+: ρ') {v : List V} {rv : List Value} (h : VRs P ρ v rv) : VRs P' ρ' v rv :=
  h.ind .nil fun h _ i => .cons (h.mono hp hr) i
theorem VRs.length {P : Kn} {ρ : List Addr} {ds : List V} {vs : List Value} (h : VRs P ρ ds vs) : vs.length = ds.length :=
  h.ind (m := fun ds vs => vs.length = ds.length) rfl fun _ _ i => congrArg (· + 1) i
theorem VRs.append {P : Kn} {ρ : List Addr} {ds es : List V} {vs ws : List Value} (h : VRs P ρ ds vs) (k : VRs P ρ es ws) : VRs P ρ (ds ++ es) (vs ++ ws) :=
  h.ind (m := fun ds vs => VRs P ρ (ds ++ es) (vs ++ ws)) k fun h _ i => .cons h i
theorem VRs.get {P : Kn} {ρ : List Addr} {ds : List V} {vs : List Value} (h : VRs P ρ ds vs) : ∀ {k : Nat} {d : V}, ds[k]? = some d → ∃ v, vs[k]? = some v ∧ VR P ρ d v :=
  h.ind (m := fun ds vs => ∀ {k : Nat} {d : V}, ds[k]? = some d → ∃ v, vs[k]? = some v ∧ VR P ρ d v) (fun e => absurd e (by rw [List.getElem?_nil]; exact nofun)) fun {d v ds vs} h _ i k d' e => Nat.rec (motive := fun k => (d :: ds)[k]? = some d' → ∃ w, (v :: vs)[k]? = some w ∧ VR P ρ d' w) (fun e => ⟨v, rfl, (Option.some.inj e : d = d') ▸ h⟩) (fun _ _ e => i e) k e
/-- a tuple of data is data -/
noncomputable def allD : List V → Option (List D)
  | [] => some []
  | .d x :: r => (allD r).map (x :: ·)
  | _ :: _ => Option.none
noncomputable def mkTup (vs : List V) : V := match allD vs with
  | some ds => .d (.tup ds)
  | Option.none => .tup vs
theorem allD_cons {v : V} {r : List V} {ds : List D} (h : allD (v :: r) = some ds) : ∃ x es, v = .d x ∧ allD r = some es ∧ ds = x :: es := by
  cases v with
  | d x => obtain ⟨es, h1, h2⟩ := Option.map_eq_some_iff.mp (show (allD r).map (x :: ·) = some ds from h); exact ⟨x, es, rfl, h1, h2.symm⟩
  | _ => exact nomatch (show Option.none = some ds from h)
theorem allD_R {P : Kn} {ρ : List Addr} {vs : List V} {rvs : List Value} (h : VRs P ρ vs rvs) : ∀ ds : List D, allD vs = some ds → DRs P ds rvs :=
  h.ind (m := fun vs rvs => ∀ ds : List D, allD vs = some ds → DRs P ds rvs) (fun ds e => (Option.some.inj e : [] = ds) ▸ .nil) fun h _ i ds e => by
    obtain ⟨x, es, rfl, h1, rfl⟩ := allD_cons e
    exact .cons h.dd (i _ h1)
theorem mkTup_R {P : Kn} {ρ : List Addr} {a : Addr} {n : Nat} {vs : List V} {rvs : List Value} (h : P a (tupOf rvs n)) (r : VRs P ρ vs rvs) : VR P ρ (mkTup vs) (.ref a) := by
  unfold mkTup
  split
  · rename_i ds e; exact .d (.tup h (allD_R r _ e))
  · exact .tup h r
theorem DRs_V {P : Kn} {ρ : List Addr} {ds : List D} {rvs : List Value} (h : DRs P ds rvs) : VRs P ρ (ds.map V.d) rvs :=
  h.ind (m := fun ds rvs => VRs P ρ (ds.map V.d) rvs) .nil fun h _ i => .cons (.d h) i

/-- the names, by number -/
noncomputable def NAMES : List String := ["self", "octets", "at", "end", "many", "found", "bits", "shift", "begin", "octet", "left", "follow", "point", "least", "signs", "cursor", "part", "name", "place", "number", "walk", "rest", "script", "form", "names", "told", "length", "content", "groups", "head", "way", "k", "value", "is_more", "text", "width", "more", "why", "row", "passed", "fault"]
noncomputable def nmS (n : Nat) : String := NAMES.getD n "?"
noncomputable def nm (n : Nat) : Str := Str.ofString (nmS n)
theorem nm_inj : ∀ i < 41, ∀ j < 41, nm i = nm j → i = j := by decide +kernel

noncomputable def clsA : Nat → Addr
  | 0 => 176
  | _ => 241

inductive FldR (P : Kn) (ρ : List Addr) : List (Nat × V) → List DictEntry → Prop
  | nil : FldR P ρ [] []
  | cons {f : Nat} {v : V} {fs : List (Nat × V)} {e : DictEntry} {es : List DictEntry} {t : Tok} : f < 41 → e.key = .str (nm f) t → VR P ρ v e.val → FldR P ρ fs es → FldR P ρ ((f, v) :: fs) (e :: es)
theorem FldR.mono {P P' : Kn} {ρ ρ' : List Addr} (hp : ∀ a o, P a o → P' a o) (hr : ρ <+: ρ') {fs : List (Nat × V)} {es : List DictEntry} (h : FldR P ρ fs es) : FldR P' ρ' fs es := by
  induction h with
  | nil => exact .nil
  | cons f k h _ i => exact .cons f k (h.mono hp hr) i

noncomputable def PieceR (P : Kn) (ρ : List Addr) (a : Addr) (o : Ob) (pc : List (Addr × Obj)) : Prop := match o with
  | .dead => pc = []
  | .il xs => ∃ vs n, pc = [(a, listOf (List.toArray vs) n)] ∧ IntsAre vs xs
  | .lst ds => ∃ vs n, pc = [(a, listOf (List.toArray vs) n)] ∧ DRs P ds vs
  | .inst c fs => ∃ d es n, pc = [(a, instObj (clsA c) d), (d, dictOf es n)] ∧ FldR P ρ fs es
theorem PieceR.mono {P P' : Kn} {ρ ρ' : List Addr} (hp : ∀ a o, P a o → P' a o) (hr : ρ <+: ρ') {a : Addr} {o : Ob} {pc : List (Addr × Obj)} (h : PieceR P ρ a o pc) : PieceR P' ρ' a o pc := by
  cases o with
  | dead => exact h
  | il xs => exact h
  | lst ds => obtain ⟨vs, n, e, r⟩ := h; exact ⟨vs, n, e, r.mono hp⟩
  | inst c fs => obtain ⟨d, es, n, e, r⟩ := h; exact ⟨d, es, n, e, r.mono hp hr⟩

inductive ObsR (P : Kn) (ρ : List Addr) : List Addr → List Ob → List (Addr × Obj) → Prop
  | nil : ObsR P ρ [] [] []
  | cons {a : Addr} {as : List Addr} {o : Ob} {os : List Ob} {pc own : List (Addr × Obj)} : PieceR P ρ a o pc → ObsR P ρ as os own → ObsR P ρ (a :: as) (o :: os) (pc ++ own)
theorem ObsR.mono {P P' : Kn} {ρ ρ' : List Addr} (hp : ∀ a o, P a o → P' a o) (hr : ρ <+: ρ') {as : List Addr} {os : List Ob} {own : List (Addr × Obj)} (h : ObsR P ρ as os own) : ObsR P' ρ' as os own := by
  induction h with
  | nil => exact .nil
  | cons h _ i => exact .cons (h.mono hp hr) i
theorem ObsR.length {P : Kn} {ρ : List Addr} {as : List Addr} {os : List Ob} {own : List (Addr × Obj)} (h : ObsR P ρ as os own) : as.length = os.length := by
  induction h with
  | nil => rfl
  | cons _ _ i => exact congrArg (· + 1) i
theorem ObsR.get {P : Kn} {ρ : List Addr} {as : List Addr} {os : List Ob} {own : List (Addr × Obj)} (h : ObsR P ρ as os own) : ∀ {k : Nat} {o : Ob}, os[k]? = some o →
    ∃ a pc l r, as[k]? = some a ∧ own = l ++ (pc ++ r) ∧ PieceR P ρ a o pc ∧ ∀ o' pc', PieceR P ρ a o' pc' → ObsR P ρ as (os.set k o') (l ++ (pc' ++ r)) := by
  induction h with
  | nil => exact fun e => nomatch (show Option.none = some _ from e)
  | @cons a as o1 os pc own h r i =>
    intro k o e
    cases k with
    | zero =>
      obtain rfl : o1 = o := Option.some.inj e
      refine ⟨a, pc, [], own, rfl, rfl, h, fun o' pc' h' => .cons (pc := pc') h' r⟩
    | succ k =>
      obtain ⟨a, pc1, l, rr, h1, rfl, h3, h4⟩ := i (k := k) e
      exact ⟨a, pc1, pc ++ l, rr, h1, (List.append_assoc ..).symm, h3, fun o' pc' h' => (List.append_assoc pc l _).symm ▸ .cons h (h4 o' pc' h')⟩
theorem ObsR.append {P : Kn} {ρ : List Addr} {as bs : List Addr} {os ps : List Ob} {own own' : List (Addr × Obj)} (h : ObsR P ρ as os own) (k : ObsR P ρ bs ps own') : ObsR P ρ (as ++ bs) (os ++ ps) (own ++ own') := by
  induction h with
  | nil => exact k
  | cons h _ i => rw [List.append_assoc]; exact .cons h i
theorem ObsR.split {P : Kn} {ρ : List Addr} {as : List Addr} {os : List Ob} {own : List (Addr × Obj)} (h : ObsR P ρ as os own) : ∀ n : Nat, ∃ o1 o2, own = o1 ++ o2 ∧ ObsR P ρ (as.take n) (os.take n) o1 ∧ ObsR P ρ (as.drop n) (os.drop n) o2 := by
  induction h with
  | nil => exact fun n => ⟨[], [], rfl, by rw [List.take_nil, List.take_nil]; exact .nil, by rw [List.drop_nil, List.drop_nil]; exact .nil⟩
  | cons h r i =>
    intro n
    cases n with
    | zero => exact ⟨[], _, rfl, .nil, .cons h r⟩
    | succ n =>
      obtain ⟨o1, o2, rfl, h1, h2⟩ := i n
      exact ⟨_ ++ o1, o2, (List.append_assoc ..).symm, .cons h h1, h2⟩

noncomputable def kn (base : Heap) (fro : List (Addr × Obj)) : Kn := fun a o => base.get? a = some o ∨ (a, o) ∈ fro
theorem kn_mono {base : Heap} {fro fro' : List (Addr × Obj)} (h : ∀ p ∈ fro, p ∈ fro') (a : Addr) (o : Obj) (k : kn base fro a o) : kn base fro' a o := k.imp id (h _)

structure CS (base : Heap) (L : Addr) (m : Str → Option Value) (fro rest : List (Addr × Obj)) (ρ : List Addr) (obs : List Ob) (h : Heap) : Prop where
  fr : Fr base L h m
  own : ∃ own, News base L h (own ++ (fro ++ rest)) ∧ ((own ++ (fro ++ rest)).map (·.1)).Nodup ∧ ObsR (kn base fro) ρ ρ obs own

section
variable {base h h' : Heap} {L : Addr} {m m' : Str → Option Value} {fro rest : List (Addr × Obj)} {ρ : List Addr} {obs : List Ob}
theorem CS.at (C : CS base L m fro rest ρ obs h) {a : Addr} {o : Obj} (k : kn base fro a o) : h.get? a = some o := by
  obtain ⟨own, N, _, _⟩ := C.own
  rcases k with k | k
  · exact C.fr.keep _ _ k
  · exact (N _ (List.mem_append_right _ (List.mem_append_left _ k))).1
theorem CS.ext (C : CS base L m fro rest ρ obs h) (k : ∀ b o, h.get? b = some o → h'.get? b = some o) : CS base L m fro rest ρ obs h' := by
  obtain ⟨own, N, hn, r⟩ := C.own
  exact ⟨C.fr.keeps k, own, fun p hp => ⟨k _ _ (N p hp).1, (N p hp).2⟩, hn, r⟩
theorem fresh_of (F : Fr base L h m) {a : Addr} (ha : h.objs.size ≤ a) : base.get? a = none := by
  cases q : base.get? a with
  | none => rfl
  | some o => exact absurd (Heap.lt_size (F.keep _ _ q)) (Nat.not_lt.mpr ha)
/-- a new object that is known from now on -/
theorem CS.grow (C : CS base L m fro rest ρ obs h) (k : ∀ b o, h.get? b = some o → h'.get? b = some o) {a : Addr} {o : Obj} (ho : h'.get? a = some o) (ha : h.objs.size ≤ a) : CS base L m ((a, o) :: fro) rest ρ obs h' := by
  obtain ⟨own, N, hn, r⟩ := C.own
  have hne : ∀ p ∈ own ++ (fro ++ rest), p.1 ≠ a := fun p hp e => absurd (Heap.lt_size (N p hp).1) (Nat.not_lt.mpr (e ▸ ha))
  refine ⟨C.fr.keeps k, own, fun p hp => ?_, ?_, r.mono (kn_mono fun _ hp => .tail _ hp) (List.prefix_refl _)⟩
  · rcases List.mem_append.mp hp with hp | hp
    · exact ⟨k _ _ (N p (List.mem_append_left _ hp)).1, (N p (List.mem_append_left _ hp)).2⟩
    · rcases List.mem_cons.mp hp with rfl | hp
      · refine ⟨ho, fun e => ?_, fresh_of C.fr ha⟩
        obtain ⟨oL, _, _, hL, _⟩ := C.fr.ns
        exact absurd (Heap.lt_size hL) (Nat.not_lt.mpr (e ▸ ha))
      · exact ⟨k _ _ (N p (List.mem_append_right _ hp)).1, (N p (List.mem_append_right _ hp)).2⟩
  · rw [List.map_append, List.cons_append, List.map_cons]
    refine List.Perm.nodup_iff (List.perm_middle) |>.mpr ?_
    rw [← List.map_append]
    exact List.nodup_cons.mpr ⟨fun hm => by obtain ⟨p, hp, e⟩ := List.mem_map.mp hm; exact hne p hp e, hn⟩
theorem CS.push (C : CS base L m fro rest ρ obs h) (o : Obj) (hf : o.isFreed = false := by rfl) : CS base L m ((h.objs.size, o) :: fro) rest ρ obs (h.push o) :=
  C.grow (fun _ _ e => Heap.get?_push_of_some _ e) (Heap.get?_push_size _ hf) (Nat.le_refl _)
/-- the frame is turned -/
theorem CS.set (C : CS base L m fro rest ρ obs h) (hn : h'.Ns L m') (hs : Heap.SameBut L h h') : CS base L m' fro rest ρ obs h' := by
  obtain ⟨own, N, hd, r⟩ := C.own
  exact ⟨C.fr.set hn hs, own, N.set hs, hd, r⟩
/-- a new own object -/
theorem CS.make (C : CS base L m fro rest ρ obs h) {o : Ob} {a : Addr} {pc : List (Addr × Obj)} (k : ∀ b x, h.get? b = some x → h'.get? b = some x) (hp : PieceR (kn base fro) (ρ ++ [a]) a o pc) (hg : ∀ p ∈ pc, h'.get? p.1 = some p.2 ∧ h.objs.size ≤ p.1)
    (hd : (pc.map (·.1)).Nodup) : CS base L m fro rest (ρ ++ [a]) (obs ++ [o]) h' := by
  obtain ⟨own, N, hn, r⟩ := C.own
  have hpre : ρ <+: ρ ++ [a] := List.prefix_append _ _
  refine ⟨C.fr.keeps k, own ++ pc, fun p hq => ?_, ?_, ?_⟩
  · have old : p ∈ own ++ (fro ++ rest) → (h'.get? p.1 = some p.2 ∧ p.1 ≠ L ∧ base.get? p.1 = none) := fun hq => ⟨k _ _ (N p hq).1, (N p hq).2⟩
    rcases List.mem_append.mp hq with hq | hq
    · rcases List.mem_append.mp hq with hq | hq
      · exact old (List.mem_append_left _ hq)
      · refine ⟨(hg p hq).1, fun e => ?_, fresh_of C.fr (hg p hq).2⟩
        obtain ⟨oL, _, _, hL, _⟩ := C.fr.ns
        exact absurd (Heap.lt_size hL) (Nat.not_lt.mpr (e ▸ (hg p hq).2))
    · exact old (List.mem_append_right _ hq)
  · have e : List.Perm ((own ++ pc ++ (fro ++ rest)).map (·.1)) ((pc ++ (own ++ (fro ++ rest))).map (·.1)) := by
      refine List.Perm.map _ ?_
      rw [← List.append_assoc pc]
      exact List.Perm.append_right _ List.perm_append_comm
    refine e.nodup_iff.mpr ?_
    rw [List.map_append, List.nodup_append]
    refine ⟨hd, hn, fun x hx y hy e => ?_⟩
    obtain ⟨p, hp', rfl⟩ := List.mem_map.mp hx
    obtain ⟨q, hq', rfl⟩ := List.mem_map.mp hy
    exact absurd (Heap.lt_size (N q hq').1) (Nat.not_lt.mpr (e ▸ (hg p hp').2))
  · have r1 := r.mono (P' := kn base fro) (fun _ _ h => h) hpre
    have r2 : ObsR (kn base fro) (ρ ++ [a]) [a] [o] pc := by simpa using ObsR.cons hp ObsR.nil
    exact r1.append r2
/-- an own object is turned -/
theorem CS.upd (C : CS base L m fro rest ρ obs h) {k : Nat} {o : Ob} (e : obs[k]? = some o) : ∃ a pc, ρ[k]? = some a ∧ PieceR (kn base fro) ρ a o pc ∧ (∀ p ∈ pc, h.get? p.1 = some p.2 ∧ base.get? p.1 = none ∧ p.1 ≠ L) ∧ (pc.map (·.1)).Nodup ∧
    ∀ h' o' pc', PieceR (kn base fro) ρ a o' pc' → pc'.map (·.1) = pc.map (·.1) → (∀ p ∈ pc', h'.get? p.1 = some p.2) → (∀ b x, b ∉ pc.map (·.1) → h.get? b = some x → h'.get? b = some x) → CS base L m fro rest ρ (obs.set k o') h' := by
  obtain ⟨own, N, hn, r⟩ := C.own
  obtain ⟨a, pc, l, rr, h1, rfl, h3, h4⟩ := r.get e
  have hin : ∀ p ∈ pc, p ∈ l ++ (pc ++ rr) ++ (fro ++ rest) := fun p hp => by simp [hp]
  have hpcd : (pc.map (·.1)).Nodup := by
    have := hn
    simp only [List.map_append, List.append_assoc] at this
    exact (List.nodup_append.mp (List.nodup_append.mp this).2.1).1
  refine ⟨a, pc, h1, h3, fun p hp => ⟨(N p (hin p hp)).1, (N p (hin p hp)).2.2, (N p (hin p hp)).2.1⟩, hpcd, fun h' o' pc' hp' he hg hk => ?_⟩
  have hpc : ∀ p ∈ l ++ rr ++ (fro ++ rest), p.1 ∉ pc.map (·.1) := fun p hp hm => by
    have := hn
    simp only [List.map_append, List.append_assoc] at this
    have d1 := List.nodup_append.mp this
    have d2 := List.nodup_append.mp d1.2.1
    simp only [List.mem_append] at hp
    rcases hp with (hp | hp) | hp
    · exact d1.2.2 p.1 (List.mem_map_of_mem hp) p.1 (List.mem_append_left _ hm) rfl
    · exact d2.2.2 p.1 hm p.1 (List.mem_append_left _ (List.mem_map_of_mem hp)) rfl
    · refine d2.2.2 p.1 hm p.1 (List.mem_append_right _ ?_) rfl
      rw [← List.map_append]
      exact List.mem_map_of_mem (by simpa using hp)
  have hb : ∀ p ∈ pc, base.get? p.1 = none := fun p hp => (N p (hin p hp)).2.2
  have hL : L ∉ pc.map (·.1) := fun hm => by
    obtain ⟨p, hp, e⟩ := List.mem_map.mp hm
    exact (N p (hin p hp)).2.1 e
  obtain ⟨oL, a1, a2, hoL, a3⟩ := C.fr.ns
  have sub : ∀ p, p ∈ l ++ rr ++ (fro ++ rest) → p ∈ l ++ (pc ++ rr) ++ (fro ++ rest) := fun p hp => by
    simp only [List.mem_append] at hp ⊢
    rcases hp with (hp | hp) | hp <;> simp [hp]
  refine ⟨⟨⟨oL, a1, a2, hk _ _ hL hoL, a3⟩, fun b x q => hk _ _ (fun hm => ?_) (C.fr.keep b x q), C.fr.above⟩, l ++ (pc' ++ rr), fun p hp => ?_, ?_, h4 o' pc' hp'⟩
  · obtain ⟨p, hp, rfl⟩ := List.mem_map.mp hm
    rw [hb p hp] at q; cases q
  · by_cases hm : p ∈ pc'
    · have : p.1 ∈ pc.map (·.1) := he ▸ List.mem_map_of_mem hm
      obtain ⟨q, hq, e⟩ := List.mem_map.mp this
      have z := N q (hin q hq)
      exact ⟨hg p hm, e ▸ z.2.1, e ▸ z.2.2⟩
    · have hp2 : p ∈ l ++ rr ++ (fro ++ rest) := by
        simp only [List.mem_append] at hp ⊢
        rcases hp with (hp | hp | hp) | hp
        · exact .inl (.inl hp)
        · exact absurd hp hm
        · exact .inl (.inr hp)
        · exact .inr hp
      have z := N p (sub p hp2)
      exact ⟨hk _ _ (hpc p hp2) z.1, z.2⟩
  · have : (l ++ (pc' ++ rr) ++ (fro ++ rest)).map (·.1) = (l ++ (pc ++ rr) ++ (fro ++ rest)).map (·.1) := by simp only [List.map_append, he]
    rw [this]; exact hn
end
end Mine
end

section
open PySem PySem.W PyProof.Rows PySem.Calls
namespace Mine

inductive Op | add | sub | mul | fdiv | mod | pow | shl | shr | band | bor
inductive Cp | lt | le | gt | ge | eq | ne

mutual
inductive X
  | loc (n : Nat)
  | glob (g : Nat)
  | cnone
  | cbool (b : Bool)
  | cint (i : Int)
  | cstr (s : String)
  | neg (i : Int)
  | attr (o : X) (f : Nat)
  | bin (op : Op) (a b : X)
  | cmp (op : Cp) (a b : X)
  | cmp2 (o1 o2 : Cp) (a b c : X)
  | isNone (a : X)
  | inn (a b : X)
  | and (a b : X)
  | or (a b : X)
  | or3 (a b c : X)
  | not (a : X)
  | ife (c a b : X)
  | tup (xs : Xs)
  | il (xs : Xs)
  | dl (xs : Xs)
  | mil (xs : Xs)
  | mdl
  | idx (a i : X)
  | slc (a lo hi : X)
  | slcTo (a hi : X)
  | slcFrom (a lo : X)
  | call (f : Nat) (xs : Xs)
  | meth (f : Nat) (o : X) (xs : Xs)
  | len (a : X)
  | max (a b : X)
  | min (a b : X)
  | toB (a : X)
  | chr (a : X)
  | any (a : X)
  | join (a : X)
  | tindex (a b : X)
  | pop0 (a : X)
  | frz (a : X)
  | compR (n : Nat) (e it : X)
  | compL (n : Nat) (e it : X)
inductive Xs
  | nil
  | cons (x : X) (xs : Xs)
end

mutual
inductive S
  | asg (n : Nat) (e : X)
  | asgT (ns : List Nat) (e : X)
  | asgA (o : X) (f : Nat) (e : X)
  | asgI (o i e : X)
  | sif (c : X) (t e : Ss)
  | whl (ns : List Nat) (k : Nat) (c : X) (b : Ss)
  | forD (ns : List Nat) (k : Nat) (x : List Nat) (it : X) (b : Ss)
  | forR (ns : List Nat) (k : Nat) (x : Nat) (it : X) (b : Ss)
  | ret (j : Nat) (e : X)
  | raise (w : String) (a : X)
  | app (o e : X)
  | expr (e : X)
inductive Ss
  | nil
  | cons (s : S) (ss : Ss)
end

/-! the program's names, by number -/
noncomputable def gName : Nat → String
  | 0 => "MAGIC" | 1 => "VERSION" | 2 => "PLACES" | 3 => "CUSTOM" | _ => "LAST_SECTION"
noncomputable def gVal : Nat → D
  | 0 => .bytes [0, 97, 115, 109] | 1 => .bytes [1, 0, 0, 0] | 2 => .tup ([1, 2, 3, 4, 5, 6, 7, 8, 9, 12, 10, 11].map D.int) | 3 => .int 0 | _ => .int 12
noncomputable def fName : Nat → String
  | 0 => "left" | 1 => "is_done" | 2 => "peek" | 3 => "octet" | 4 => "take" | 5 => "part" | 6 => "unsigned" | 7 => "u32" | 8 => "name" | 9 => "head_of" | 10 => "text_of" | 11 => "read_head" | 12 => "custom_at" | 13 => "is_done" | 14 => "step"
  | 15 => "sections_of" | 16 => "_law_digit" | 17 => "_law_groups" | 18 => "_law_custom" | 19 => "_law_section" | 20 => "_law_octets" | 21 => "_law_number" | 22 => "_law_width" | 23 => "_law_text" | 24 => "_law_named" | 25 => "_law_head" | 26 => "_law_passed" | 27 => "_law_due"
  | 28 => "Cursor" | _ => "SectionWalk"
noncomputable def fAddr : Nat → Addr
  | 0 => 82 | 1 => 89 | 2 => 96 | 3 => 103 | 4 => 110 | 5 => 117 | 6 => 124 | 7 => 138 | 8 => 173 | 9 => 187 | 10 => 195 | 11 => 203 | 12 => 210 | 13 => 231 | 14 => 238
  | 15 => 252 | 16 => 259 | 17 => 264 | 18 => 271 | 19 => 276 | 20 => 283 | 21 => 290 | 22 => 297 | 23 => 302 | 24 => 309 | 25 => 316 | 26 => 323 | 27 => 330
  | 28 => 176 | _ => 241
/-- is it a method of the class -/
noncomputable def methOk (c f : Nat) : Bool := match c with
  | 0 => Nat.ble f 8
  | _ => f == 13 || f == 14

structure St where
  loc : List (Nat × V)
  obs : List Ob

noncomputable def getN {α : Type} (n : Nat) : List (Nat × α) → Option α
  | [] => none
  | p :: r => match Nat.beq n p.1 with
    | true => some p.2
    | false => getN n r
noncomputable def setN {α : Type} (n : Nat) (v : α) : List (Nat × α) → List (Nat × α)
  | [] => [(n, v)]
  | p :: r => match Nat.beq n p.1 with
    | true => (n, v) :: r
    | false => p :: setN n v r
noncomputable def St.put (σ : St) (n : Nat) (v : V) : St := ⟨setN n v σ.loc, σ.obs⟩
noncomputable def putsN : List Nat → List D → St → St
  | n :: ns, d :: ds, σ => putsN ns ds (σ.put n (.d d))
  | _, _, σ => σ
noncomputable def putsV : List Nat → List V → St → St
  | n :: ns, d :: ds, σ => putsV ns ds (σ.put n d)
  | _, _, σ => σ

/-- an own list read as data -/
noncomputable def view (σ : St) : V → Option D
  | .d x => some x
  | .ref k => match σ.obs[k]? with
    | some (.il xs) => some (.il xs)
    | some (.lst ds) => some (.lst ds)
    | _ => none
  | .tup _ => none

noncomputable def opI : Op → Int → Int → (D → Prop) → Prop
  | .add, a, b, q => q (.int (a + b))
  | .sub, a, b, q => q (.int (a - b))
  | .mul, a, b, q => IntMulOk a b ∧ q (.int (a * b))
  | .fdiv, a, b, q => 0 < b ∧ b < 2 ^ 64 ∧ q (.int (a / b))
  | .mod, a, b, q => 0 < b ∧ q (.int (a % b))
  | .pow, a, b, q => 0 ≤ b ∧ b ≤ 1000 ∧ a.natAbs < 2 ^ 64 ∧ q (.int (a ^ b.toNat))
  | .shl, a, b, q => 0 ≤ b ∧ b ≤ 1000 ∧ a.natAbs < 2 ^ 64 ∧ q (.int (a * 2 ^ b.toNat))
  | .shr, a, b, q => 0 ≤ b ∧ q (.int (a / 2 ^ b.toNat))
  | .band, a, b, q => q (.int (Builtin.bitAnd a b))
  | .bor, a, b, q => q (.int (Builtin.bitOr a b))
noncomputable def opAdd (op : Op) (q : Prop) : Prop := match op with
  | .add => q
  | _ => False
noncomputable def opMul (op : Op) (q : Prop) : Prop := match op with
  | .mul => q
  | _ => False
theorem opAdd_iff {op : Op} {q : Prop} (h : opAdd op q) : op = .add ∧ q := by
  cases op <;> first | exact ⟨rfl, h⟩ | exact False.elim h
theorem opMul_iff {op : Op} {q : Prop} (h : opMul op q) : op = .mul ∧ q := by
  cases op <;> first | exact ⟨rfl, h⟩ | exact False.elim h
noncomputable def opD (op : Op) (x y : D) (q : D → Prop) : Prop := match x with
  | .int a => (match y with
    | .int b => opI op a b q
    | _ => False)
  | .str a => (match y with
    | .str b => opAdd op (a.length + b.length ≤ 1000000 ∧ q (.str (a ++ b)))
    | _ => False)
  | .il a => (match y with
    | .il b => opAdd op (a.length + b.length ≤ 1000000 ∧ q (.il (a ++ b)))
    | .int n => opMul op (a.length * n.toNat ≤ 1000000 ∧ 0 ≤ n ∧ n ≤ 1000000 ∧ q (.il (List.replicate n.toNat a).flatten))
    | _ => False)
  | _ => False

noncomputable def cmpI : Cp → Int → Int → (Bool → Prop) → Prop
  | .lt, a, b, q => q (decide (a < b))
  | .le, a, b, q => q (decide (a ≤ b))
  | .gt, a, b, q => q (decide (b < a))
  | .ge, a, b, q => q (decide (b ≤ a))
  | .eq, a, b, q => q (decide (a = b))
  | .ne, a, b, q => q (!decide (a = b))
noncomputable def cmpE (op : Cp) (b : Bool) (q : Bool → Prop) : Prop := match op with
  | .eq => q b
  | .ne => q (!b)
  | _ => False
noncomputable def cmpN (op : Cp) (b : Bool) (q : Bool → Prop) : Prop := match op with
  | .ne => q (!b)
  | _ => False
theorem cmpE_iff {op : Cp} {b : Bool} {q : Bool → Prop} (h : cmpE op b q) : (op = .eq ∧ q b) ∨ (op = .ne ∧ q (!b)) := by
  cases op <;> first | exact .inl ⟨rfl, h⟩ | exact .inr ⟨rfl, h⟩ | exact False.elim h
theorem cmpN_iff {op : Cp} {b : Bool} {q : Bool → Prop} (h : cmpN op b q) : op = .ne ∧ q (!b) := by
  cases op <;> first | exact ⟨rfl, h⟩ | exact False.elim h
noncomputable def cmpD (op : Cp) (x y : D) (q : Bool → Prop) : Prop := match x with
  | .int a => (match y with
    | .int b => cmpI op a b q
    | _ => False)
  | .str a => (match y with
    | .str b => cmpE op (decide (a = b)) q
    | _ => False)
  | .bytes a => (match y with
    | .bytes b => cmpE op (decide (a = b)) q
    | _ => False)
  | .il a => (match y with
    | .il b => cmpN op (decide (a = b)) q
    | _ => False)
  | _ => False

/-- a cut as Python clamps it -/
noncomputable def clampI (i : Int) (n : Nat) : Nat := if i < 0 then (i + n).toNat else min i.toNat n
noncomputable def cut {α : Type} (xs : List α) (lo hi : Int) : List α := (xs.take (clampI hi xs.length)).drop (clampI lo xs.length)

noncomputable def idxD : D → D → (D → Prop) → Prop
  | .il xs, .int i, q => (0 ≤ i ∧ i < xs.length ∧ xs.length ≤ 1000000000) ∧ ∀ x, xs[i.toNat]? = some x → q (.int x)
  | .bytes xs, .int i, q => (0 ≤ i ∧ i < xs.length ∧ xs.length ≤ 1000000000) ∧ ∀ x, xs[i.toNat]? = some x → q (.int x)
  | .lst ds, .int i, q => (0 ≤ i ∧ i < ds.length ∧ ds.length ≤ 1000000000) ∧ ∀ x, ds[i.toNat]? = some x → q x
  | _, _, _ => False
noncomputable def slcD : D → Int → Int → (D → Prop) → Prop
  | .il xs, lo, hi, q => xs.length ≤ 1000000 ∧ q (.il (cut xs lo hi))
  | .bytes xs, lo, hi, q => xs.length ≤ 1000000 ∧ q (.bytes (cut xs lo hi))
  | _, _, _, _ => False
noncomputable def lenD : D → Option Nat
  | .il xs => some xs.length
  | .bytes xs => some xs.length
  | .lst ds => some ds.length
  | _ => none
/-- what a loop takes -/
noncomputable def itemsD : D → Option (List D)
  | .il xs => some (xs.map D.int)
  | .bytes xs => some (xs.map D.int)
  | .lst ds => some ds
  | _ => none
noncomputable def intsD : List D → Option (List Int)
  | [] => some []
  | .int i :: r => (intsD r).map (i :: ·)
  | _ :: _ => none
noncomputable def strsD : List D → Option (List Str)
  | [] => some []
  | .str x :: r => (strsD r).map (x :: ·)
  | _ :: _ => none
noncomputable def intsV (vs : List V) : Option (List Int) := (allD vs).bind intsD
noncomputable def joinS (xs : List Str) : Str := ⟨(xs.flatMap fun x => x.cps.toList).toArray⟩

/-! handles through a call -/
noncomputable def refsV : V → List Nat
  | .ref k => [k]
  | .tup vs => refsVs vs
  | .d _ => []
where refsVs : List V → List Nat
  | [] => []
  | v :: r => refsV v ++ refsVs r
noncomputable def refsO : Ob → List Nat
  | .inst _ fs => fs.flatMap fun p => refsV p.2
  | _ => []
noncomputable def addN (ks : List Nat) (k : Nat) : List Nat := if ks.contains k then ks else ks ++ [k]
/-- the handles met from vs on, to a depth -/
noncomputable def reach (obs : List Ob) : Nat → List Nat → List Nat → List Nat
  | 0, _, acc => acc
  | n + 1, todo, acc => todo.foldl (fun acc k => if acc.contains k then acc else match obs[k]? with
    | some o => reach obs n (refsO o) (acc ++ [k])
    | none => acc ++ [k]) acc
noncomputable def idxOf (k : Nat) : List Nat → Nat
  | [] => 0
  | x :: r => match Nat.beq k x with
    | true => 0
    | false => idxOf k r + 1
noncomputable def mapV (f : Nat → Nat) : V → V
  | .ref k => .ref (f k)
  | .tup vs => .tup (mapVs vs)
  | .d x => .d x
where mapVs : List V → List V
  | [] => []
  | v :: r => mapV f v :: mapVs r
noncomputable def mapO (f : Nat → Nat) : Ob → Ob
  | .inst c fs => .inst c (fs.map fun p => (p.1, mapV f p.2))
  | o => o
noncomputable def nodupN : List Nat → Bool
  | [] => true
  | k :: r => !r.contains k && nodupN r
noncomputable def closedN (ks : List Nat) (obs : List Ob) (vs : List V) : Bool :=
  nodupN ks && (refsV.refsVs vs).all ks.contains && ks.all fun k => match obs[k]? with
    | some o => (refsO o).all ks.contains
    | none => false
noncomputable def setAll : List Ob → List Nat → List Ob → List Ob
  | obs, k :: ks, o :: os => setAll (obs.set k o) ks os
  | obs, _, _ => obs
noncomputable def back (ks : List Nat) (n : Nat) (i : Nat) : Nat := match ks[i]? with
  | some k => k
  | none => n + (i - ks.length)

noncomputable abbrev FSpec := List V → List Ob → (V → List Ob → Prop) → (Str → Prop) → Prop
noncomputable def callS (Γ : Nat → FSpec) (XQ : Str → Prop) (f : Nat) (vs : List V) (σ : St) (q : V → St → Prop) : Prop :=
  let ks := reach σ.obs 4 (refsV.refsVs vs) []
  closedN ks σ.obs vs = true ∧ Γ f (mapV.mapVs (idxOf · ks) vs) (ks.map fun k => mapO (idxOf · ks) (σ.obs.getD k .dead))
    (fun v obs' => ks.length ≤ obs'.length ∧ q (mapV (back ks σ.obs.length) v) ⟨σ.loc, setAll σ.obs ks (obs'.map (mapO (back ks σ.obs.length))) ++ (obs'.drop ks.length).map (mapO (back ks σ.obs.length))⟩) XQ

/-- what stands at a loop's head: the locals ns, the first k own objects -/
noncomputable def keepL (ns : List Nat) (loc : List (Nat × V)) : List (Nat × V) := ns.filterMap fun n => (getN n loc).map fun v => (n, v)
noncomputable def St.keep (ns : List Nat) (k : Nat) (σ : St) : St := ⟨keepL ns σ.loc, σ.obs.take k⟩
noncomputable def belowOk (n0 k : Nat) (loc : List (Nat × V)) (obs : List Ob) : Bool :=
  Nat.ble n0 k && Nat.ble k obs.length && (loc.all fun p => (refsV p.2).all fun i => Nat.blt i k) && (obs.take k).all fun o => (refsO o).all fun i => Nat.blt i k
noncomputable def keepOk (n0 : Nat) (ns : List Nat) (k : Nat) (σ : St) : Bool := belowOk n0 k (keepL ns σ.loc) σ.obs

/-- the loop's own names take an item -/
noncomputable def tgt (xs : List Nat) (d : D) (σ : St) (body : St → Prop) : Prop := match xs with
  | [x] => body (σ.put x (.d d))
  | _ => match d with
    | .tup es => es.length = xs.length ∧ body (putsN xs es σ)
    | _ => False
noncomputable def isLst (σ : St) (k : Nat) : Bool := match σ.obs[k]? with
  | some (.lst _) => true
  | some (.il _) => true
  | _ => false
noncomputable def isB (v : V) (q : Bool → Prop) : Prop := match v with
  | .d (.bool b) => q b
  | _ => False

/-- a comprehension's item: ints alone -/
noncomputable def locI (loc : List (Nat × V)) (n : Nat) (i : Int) (k : Nat) : Option Int := match Nat.beq k n with
  | true => some i
  | false => match getN k loc with
    | some (.d (.int j)) => some j
    | _ => none
noncomputable def boolD : D → Bool
  | .bool b => b
  | _ => false
noncomputable def isBD (v : D) (q : Bool → Prop) : Prop := match v with
  | .bool b => q b
  | _ => False
noncomputable def evE (ev : Nat → Option Int) : X → (D → Prop) → Prop
  | .loc n, q => match ev n with
    | some i => q (.int i)
    | none => False
  | .cint i, q => q (.int i)
  | .bin op a b, q => evE ev a fun x => evE ev b fun y => match x, y with
    | .int i, .int j => opD op (.int i) (.int j) q
    | _, _ => False
  | .cmp op a b, q => evE ev a fun x => evE ev b fun y => match x, y with
    | .int i, .int j => cmpD op (.int i) (.int j) fun z => q (.bool z)
    | _, _ => False
  | .ife c a b, q => evE ev c fun x => isBD x fun t => (t = true → evE ev a q) ∧ (t = false → evE ev b q)
  | _, _ => False

section
variable (Γ : Nat → FSpec) (XQ : Str → Prop)
mutual
noncomputable def vcX : X → St → (V → St → Prop) → Prop
  | .loc n, σ, q => match getN n σ.loc with
    | some v => q v σ
    | none => False
  | .glob g, σ, q => q (.d (gVal g)) σ
  | .cnone, σ, q => q (.d .none) σ
  | .cbool b, σ, q => q (.d (.bool b)) σ
  | .cint i, σ, q => q (.d (.int i)) σ
  | .cstr s, σ, q => q (.d (.str (Str.ofString s))) σ
  | .neg i, σ, q => q (.d (.int (-i))) σ
  | .attr o f, σ, q => vcX o σ fun v σ1 => match v with
    | .ref k => match σ1.obs[k]? with
      | some (.inst _ fs) => match getN f fs with
        | some w => q w σ1
        | none => False
      | _ => False
    | _ => False
  | .bin op a b, σ, q => vcX a σ fun v σ1 => vcX b σ1 fun w σ2 => match view σ2 v, view σ2 w with
    | some x, some y => opD op x y fun z => q (.d z) σ2
    | _, _ => False
  | .cmp op a b, σ, q => vcX a σ fun v σ1 => vcX b σ1 fun w σ2 => match view σ2 v, view σ2 w with
    | some x, some y => cmpD op x y fun z => q (.d (.bool z)) σ2
    | _, _ => False
  | .cmp2 o1 o2 a b c, σ, q => vcX a σ fun v σ1 => vcX b σ1 fun w σ2 => match v, w with
    | .d x, .d y => cmpD o1 x y fun z => (z = true → vcX c σ2 fun u σ3 => match u with
        | .d x' => cmpD o2 y x' fun z' => q (.d (.bool z')) σ3
        | _ => False) ∧ (z = false → q (.d (.bool false)) σ2)
    | _, _ => False
  | .isNone a, σ, q => vcX a σ fun v σ1 => match v with
    | .d .none => q (.d (.bool true)) σ1
    | .d _ => q (.d (.bool false)) σ1
    | _ => False
  | .inn a b, σ, q => vcX a σ fun v σ1 => vcX b σ1 fun w σ2 => match v, w with
    | .d (.int i), .d (.il xs) => q (.d (.bool (decide (i ∈ xs)))) σ2
    | _, _ => False
  | .and a b, σ, q => vcX a σ fun v σ1 => isB v fun t => (t = true → vcX b σ1 fun w σ2 => isB w fun u => q (.d (.bool u)) σ2) ∧ (t = false → q (.d (.bool false)) σ1)
  | .or a b, σ, q => vcX a σ fun v σ1 => isB v fun t => (t = true → q (.d (.bool true)) σ1) ∧ (t = false → vcX b σ1 fun w σ2 => isB w fun u => q (.d (.bool u)) σ2)
  | .or3 a b c, σ, q => vcX a σ fun v σ1 => isB v fun t => (t = true → q (.d (.bool true)) σ1) ∧ (t = false → vcX b σ1 fun w σ2 => isB w fun t' => (t' = true → q (.d (.bool true)) σ2) ∧ (t' = false → vcX c σ2 fun u σ3 => isB u fun u' => q (.d (.bool u')) σ3))
  | .not a, σ, q => vcX a σ fun v σ1 => isB v fun t => q (.d (.bool (!t))) σ1
  | .ife c a b, σ, q => vcX c σ fun v σ1 => isB v fun t => (t = true → vcX a σ1 q) ∧ (t = false → vcX b σ1 q)
  | .tup xs, σ, q => vcXs xs σ fun vs σ1 => vs.length ≤ 1000 ∧ q (mkTup vs) σ1
  | .il xs, σ, q => vcXs xs σ fun vs σ1 => match intsV vs with
    | some ns => ns.length ≤ 1000 ∧ q (.d (.il ns)) σ1
    | none => False
  | .dl xs, σ, q => vcXs xs σ fun vs σ1 => match allD vs with
    | some ds => ds.length ≤ 1000 ∧ q (.d (.lst ds)) σ1
    | none => False
  | .mil xs, σ, q => vcXs xs σ fun vs σ1 => match intsV vs with
    | some ns => ns.length ≤ 1000 ∧ q (.ref σ1.obs.length) ⟨σ1.loc, σ1.obs ++ [.il ns]⟩
    | none => False
  | .mdl, σ, q => q (.ref σ.obs.length) ⟨σ.loc, σ.obs ++ [.lst []]⟩
  | .idx a i, σ, q => vcX a σ fun v σ1 => vcX i σ1 fun w σ2 => match v, w with
    | .d x, .d y => idxD x y fun z => q (.d z) σ2
    | _, _ => False
  | .slc a lo hi, σ, q => vcX a σ fun v σ1 => vcX lo σ1 fun w σ2 => vcX hi σ2 fun u σ3 => match view σ3 v, w, u with
    | some x, .d (.int i), .d (.int j) => slcD x i j fun z => q (.d z) σ3
    | _, _, _ => False
  | .slcTo a hi, σ, q => vcX a σ fun v σ1 => vcX hi σ1 fun u σ3 => match view σ3 v, u with
    | some x, .d (.int j) => slcD x 0 j fun z => q (.d z) σ3
    | _, _ => False
  | .slcFrom a lo, σ, q => vcX a σ fun v σ1 => vcX lo σ1 fun u σ3 => match view σ3 v, u with
    | some x, .d (.int j) => match lenD x with
      | some n => slcD x j n fun z => q (.d z) σ3
      | none => False
    | _, _ => False
  | .call f xs, σ, q => vcXs xs σ fun vs σ1 => callS Γ XQ f vs σ1 q
  | .meth f o xs, σ, q => vcX o σ fun v σ1 => match v with
    | .ref k => match σ1.obs[k]? with
      | some (.inst c fs) => methOk c f = true ∧ (fs.all fun p => nm p.1 != Str.ofString (fName f)) = true ∧ vcXs xs σ1 fun vs σ2 => callS Γ XQ f (.ref k :: vs) σ2 q
      | _ => False
    | _ => False
  | .len a, σ, q => vcX a σ fun v σ1 => match view σ1 v with
    | some x => match lenD x with
      | some n => n ≤ 1000000000 ∧ q (.d (.int n)) σ1
      | none => False
    | none => False
  | .max a b, σ, q => vcX a σ fun v σ1 => vcX b σ1 fun w σ2 => match v, w with
    | .d (.int i), .d (.int j) => q (.d (.int (if i < j then j else i))) σ2
    | _, _ => False
  | .min a b, σ, q => vcX a σ fun v σ1 => vcX b σ1 fun w σ2 => match v, w with
    | .d (.int i), .d (.int j) => q (.d (.int (if j < i then j else i))) σ2
    | _, _ => False
  | .toB a, σ, q => vcX a σ fun v σ1 => match v with
    | .d (.il xs) => (∀ x ∈ xs, 0 ≤ x ∧ x < 256) ∧ xs.length ≤ 1000000 ∧ q (.d (.bytes xs)) σ1
    | .d (.bytes xs) => q (.d (.bytes xs)) σ1
    | _ => False
  | .chr a, σ, q => vcX a σ fun v σ1 => match v with
    | .d (.int i) => (0 ≤ i ∧ i ≤ 1114111) ∧ q (.d (.str ⟨#[i.toNat]⟩)) σ1
    | _ => False
  | .any a, σ, q => vcX a σ fun v σ1 => match v with
    | .d (.lst ds) => (∀ d ∈ ds, ∃ b, d = .bool b) ∧ q (.d (.bool (ds.any boolD))) σ1
    | _ => False
  | .join a, σ, q => vcX a σ fun v σ1 => match view σ1 v with
    | some (.lst ds) => match strsD ds with
      | some xs => (joinS xs).length ≤ 1000000 ∧ q (.d (.str (joinS xs))) σ1
      | none => False
    | _ => False
  | .tindex a b, σ, q => vcX a σ fun v σ1 => match v with
    | .d (.tup ds) => match intsD ds with
      | some ns => vcX b σ1 fun w σ2 => match w with
        | .d (.int i) => i ∈ ns ∧ ns.length ≤ 1000 ∧ q (.d (.int (ns.idxOf i))) σ2
        | _ => False
      | none => False
    | _ => False
  | .pop0 a, σ, q => vcX a σ fun v σ1 => match v with
    | .ref k => match σ1.obs[k]? with
      | some (.il (x :: xs)) => xs.length ≤ 1000000 ∧ q (.d (.int x)) ⟨σ1.loc, σ1.obs.set k (.il xs)⟩
      | _ => False
    | _ => False
  | .frz a, σ, q => vcX a σ fun v σ1 => match v with
    | .ref k => match view σ1 v with
      | some x => q (.d x) ⟨σ1.loc, σ1.obs.set k .dead⟩
      | none => False
    | _ => False
  | .compR n e it, σ, q => ∃ f : Int → Int, vcX it σ fun v σ1 => match v with
    | .d (.int m) => (-1000 ≤ m ∧ m ≤ 1000) ∧ (∀ i : Int, 0 ≤ i → i < m → evE (locI σ1.loc n i) e fun w => w = .int (f i)) ∧ q (.d (.il ((List.range m.toNat).map fun (i : Nat) => f i))) σ1
    | _ => False
  | .compL n e it, σ, q => ∃ f : Int → Bool, vcX it σ fun v σ1 => match v with
    | .d (.il xs) => xs.length ≤ 1000 ∧ (∀ i ∈ xs, evE (locI σ1.loc n i) e fun w => w = .bool (f i)) ∧ q (.d (.lst (xs.map fun i => .bool (f i)))) σ1
    | _ => False
noncomputable def vcXs : Xs → St → (List V → St → Prop) → Prop
  | .nil, σ, q => q [] σ
  | .cons x xs, σ, q => vcX x σ fun v σ1 => vcXs xs σ1 fun vs σ2 => q (v :: vs) σ2
end
end

section
variable (Γ : Nat → FSpec) (n0 : Nat) (XQ : Str → Prop)
/-- a while, n turns at most -/
noncomputable def wl (c : X) (ns : List Nat) (k : Nat) (body : St → (St → Prop) → Prop) (N : St → Prop) : Nat → St → Prop
  | 0, _ => False
  | n + 1, σ => keepOk n0 ns k σ = true ∧ vcX Γ XQ c (σ.keep ns k) fun v σ1 => isB v fun t => (t = true → body σ1 (wl c ns k body N n)) ∧ (t = false → N σ1)
/-- a for over data -/
noncomputable def fl (xs : List Nat) (ns : List Nat) (k : Nat) (body : St → (St → Prop) → Prop) (N : St → Prop) : List D → St → Prop
  | [], σ => keepOk n0 ns k σ = true ∧ N (σ.keep ns k)
  | d :: ds, σ => keepOk n0 ns k σ = true ∧ tgt xs d (σ.keep ns k) fun σ' => body σ' (fl xs ns k body N ds)
mutual
noncomputable def vcS : S → St → (St → Prop) → (V → St → Prop) → Prop
  | .asg n e, σ, N, _ => vcX Γ XQ e σ fun v σ1 => N (σ1.put n v)
  | .asgT ns e, σ, N, _ => vcX Γ XQ e σ fun v σ1 => match v with
    | .d (.tup ds) => ds.length = ns.length ∧ N (putsN ns ds σ1)
    | .tup vs => vs.length = ns.length ∧ N (putsV ns vs σ1)
    | _ => False
  | .asgA o f e, σ, N, _ => vcX Γ XQ e σ fun v σ1 => vcX Γ XQ o σ1 fun w σ2 => match w with
    | .ref k => match σ2.obs[k]? with
      | some (.inst c fs) => Nat.blt fs.length 900 = true ∧ N ⟨σ2.loc, σ2.obs.set k (.inst c (setN f v fs))⟩
      | _ => False
    | _ => False
  | .asgI o i e, σ, N, _ => vcX Γ XQ e σ fun v σ1 => vcX Γ XQ o σ1 fun w σ2 => vcX Γ XQ i σ2 fun u σ3 => match v, w, u with
    | .d (.int x), .ref k, .d (.int j) => match σ3.obs[k]? with
      | some (.il xs) => (0 ≤ j ∧ j < xs.length ∧ xs.length ≤ 1000000) ∧ N ⟨σ3.loc, σ3.obs.set k (.il (xs.set j.toNat x))⟩
      | _ => False
    | _, _, _ => False
  | .sif c t e, σ, N, R => vcX Γ XQ c σ fun v σ1 => isB v fun b => (b = true → vcSs t σ1 N R) ∧ (b = false → vcSs e σ1 N R)
  | .whl ns k c b, σ, N, R => ∃ n, wl Γ n0 XQ c ns k (fun σ1 N1 => vcSs b σ1 N1 R) N n σ
  | .forD ns k xs it b, σ, N, R => vcX Γ XQ it σ fun v σ1 => match v with
    | .d x => match itemsD x with
      | some ds => fl n0 xs ns k (fun σ1 N1 => vcSs b σ1 N1 R) N ds σ1
      | none => False
    | _ => False
  | .forR ns k x it b, σ, N, R => vcX Γ XQ it σ fun v σ1 => match v with
    | .d (.int m) => (-1000 ≤ m ∧ m ≤ 1000) ∧ fl n0 [x] ns k (fun σ1 N1 => vcSs b σ1 N1 R) N ((List.range m.toNat).map fun (i : Nat) => .int i) σ1
    | _ => False
  | .ret j e, σ, _, R => vcX Γ XQ e σ fun v σ1 => (belowOk n0 (n0 + j) [] σ1.obs && (refsV v).all fun i => Nat.blt i (n0 + j)) = true ∧ R v ⟨[], σ1.obs.take (n0 + j)⟩
  | .raise w a, σ, _, _ => vcX Γ XQ a σ fun v _ => match v with
    | .d (.int _) => XQ (Str.ofString w)
    | _ => False
  | .app o e, σ, N, _ => vcX Γ XQ o σ fun w σ1 => match w with
    | .ref k => isLst σ1 k = true ∧ vcX Γ XQ e σ1 fun v σ2 => match v with
      | .d x => match σ2.obs[k]? with
        | some (.lst ds) => ds.length ≤ 1000000 ∧ N ⟨σ2.loc, σ2.obs.set k (.lst (ds ++ [x]))⟩
        | some (.il xs) => match x with
          | .int i => xs.length ≤ 1000000 ∧ N ⟨σ2.loc, σ2.obs.set k (.il (xs ++ [i]))⟩
          | _ => False
        | _ => False
      | _ => False
    | _ => False
  | .expr e, σ, N, _ => vcX Γ XQ e σ fun v σ1 => match v with
    | .d .none => N σ1
    | _ => False
noncomputable def vcSs : Ss → St → (St → Prop) → (V → St → Prop) → Prop
  | .nil, σ, N, _ => N σ
  | .cons s ss, σ, N, R => vcS s σ (fun σ1 => vcSs ss σ1 N R) R
end
/-- a def's body: n0 own objects handed in -/
noncomputable def zipL : List Nat → List V → List (Nat × V)
  | n :: ns, v :: vs => (n, v) :: zipL ns vs
  | _, _ => []
end
noncomputable def vcF (Γ : Nat → FSpec) (params : List Nat) (body : Ss) (vs : List V) (obs : List Ob) (Q : V → List Ob → Prop) (XQ : Str → Prop) : Prop :=
  vs.length = params.length ∧ vcSs Γ obs.length XQ body ⟨zipL params vs, obs⟩ (fun σ => ∃ j, belowOk obs.length (obs.length + j) [] σ.obs = true ∧ Q (.d .none) (σ.obs.take (obs.length + j))) (fun v σ => Q v σ.obs)
end Mine
end

section
open PySem PySem.W PyProof.Rows PySem.Calls
namespace Mine
theorem b31 (x : Int) : Builtin.bitAnd x 31 = x % 32 := bitAnd_m5 x
theorem b15 (x : Int) : Builtin.bitAnd x 15 = x % 16 := bitAnd_m4 x
theorem b7 (x : Int) : Builtin.bitAnd x 7 = x % 8 := bitAnd_m3 x
theorem b63 (x : Int) : Builtin.bitAnd x 63 = x % 64 := bitAnd_m6 x
theorem b127 (x : Int) : Builtin.bitAnd x 127 = x % 128 := bitAnd_m7 x
theorem bn192 : ∀ n : Nat, n < 256 → (Builtin.bitAnd (n : Int) 192 = 128 ↔ (n : Int) / 64 = 2) := by decide +kernel
theorem b192 {o : Int} (h : 0 ≤ o ∧ o < 256) : Builtin.bitAnd o 192 = 128 ↔ o / 64 = 2 := by
  obtain ⟨n, rfl⟩ := Int.eq_ofNat_of_zero_le h.1
  exact bn192 n (by omega)
theorem bAnd0 (x y : Int) (k : Nat) : 0 ≤ y → y < 2 ^ k → Builtin.bitAnd (2 ^ k * x) y = 0 := by
  induction k generalizing x y with
  | zero => intro h1 h2; obtain rfl : y = 0 := by simp at h2; omega
            rw [bitAnd_comm]; have := bitAnd_range (2 ^ 0 * x) (y := 0) (Int.le_refl _); rw [bitAnd_comm]; omega
  | succ k ih =>
    intro h1 h2
    rw [kbt_halves]
    have e1 : (2 : Int) ^ (k + 1) * x = 2 * (2 ^ k * x) := by rw [Int.pow_succ, Int.mul_comm (2 ^ k) 2, Int.mul_assoc]
    have e2 : (2 : Int) ^ (k + 1) = 2 * 2 ^ k := by rw [Int.pow_succ, Int.mul_comm]
    rw [e1]
    generalize hz : (2 : Int) ^ k * x = z at *
    rw [show 2 * z / 2 = z by (clear ih h1 h2 e2 hz e1; omega), ← hz, ih _ _ (by (clear ih h2 e2 hz e1; omega)) (by (clear ih h1 e2 hz e1; omega))]
    rw [hz, if_neg (by (clear ih h1 h2 e2 hz e1; omega))]; rfl
theorem bOr6 (p o : Int) : Builtin.bitOr (p * 2 ^ 6) (Builtin.bitAnd o 63) = 64 * p + o % 64 := by
  rw [b63, bitOr_and, Int.mul_comm p, bAnd0 p (o % 64) 6 (by exact Int.emod_nonneg _ (by decide)) (by exact Int.emod_lt_of_pos _ (by decide))]
  show 64 * p + _ - 0 = _
  omega
end Mine
end

section
open PySem PySem.W PyProof.Rows PySem.Calls
namespace Mine
/-! the words of each def, printed by tools/words.py -/
noncomputable def w75 : Ss := (.cons (.asgA (.loc 0) 1 (.loc 1)) (.cons (.asgA (.loc 0) 2 (.loc 2)) (.cons (.asgA (.loc 0) 3 (.ife (.isNone (.loc 3)) (.len (.loc 1)) (.loc 3))) .nil)))
noncomputable def p75 : List Nat := [0, 1, 2, 3]
noncomputable def w82 : Ss := (.cons (.ret 0 (.bin .sub (.attr (.loc 0) 3) (.attr (.loc 0) 2))) .nil)
noncomputable def p82 : List Nat := [0]
noncomputable def w89 : Ss := (.cons (.ret 0 (.cmp .ge (.attr (.loc 0) 2) (.attr (.loc 0) 3))) .nil)
noncomputable def p89 : List Nat := [0]
noncomputable def w96 : Ss := (.cons (.sif (.cmp .ge (.attr (.loc 0) 2) (.attr (.loc 0) 3)) (.cons (.raise "unexpected end" (.attr (.loc 0) 2)) .nil) .nil) (.cons (.ret 0 (.idx (.attr (.loc 0) 1) (.attr (.loc 0) 2))) .nil))
noncomputable def p96 : List Nat := [0]
noncomputable def w103 : Ss := (.cons (.asg 5 (.meth 2 (.loc 0) .nil)) (.cons (.asgA (.loc 0) 2 (.bin .add (.attr (.loc 0) 2) (.cint 1))) (.cons (.ret 0 (.loc 5)) .nil)))
noncomputable def p103 : List Nat := [0]
noncomputable def w110 : Ss := (.cons (.sif (.cmp .gt (.loc 4) (.meth 0 (.loc 0) .nil)) (.cons (.raise "unexpected end" (.attr (.loc 0) 3)) .nil) .nil) (.cons (.asg 5 (.toB (.slc (.attr (.loc 0) 1) (.attr (.loc 0) 2) (.bin .add (.attr (.loc 0) 2) (.loc 4))))) (.cons (.asgA (.loc 0) 2 (.bin .add (.attr (.loc 0) 2) (.loc 4))) (.cons (.ret 0 (.loc 5)) .nil))))
noncomputable def p110 : List Nat := [0, 4]
noncomputable def w117 : Ss := (.cons (.sif (.cmp .gt (.loc 4) (.meth 0 (.loc 0) .nil)) (.cons (.raise "length out of bounds" (.attr (.loc 0) 2)) .nil) .nil) (.cons (.asg 5 (.call 28 (.cons (.attr (.loc 0) 1) (.cons (.attr (.loc 0) 2) (.cons (.bin .add (.attr (.loc 0) 2) (.loc 4)) .nil))))) (.cons (.asgA (.loc 0) 2 (.bin .add (.attr (.loc 0) 2) (.loc 4))) (.cons (.ret 1 (.loc 5)) .nil))))
noncomputable def p117 : List Nat := [0, 4]
noncomputable def w124 : Ss := (.cons (.asgT [5, 7, 8] (.tup (.cons (.cint 0) (.cons (.cint 0) (.cons (.attr (.loc 0) 2) .nil))))) (.cons (.whl [0, 6, 5, 7, 8] 1 (.cbool true) (.cons (.asg 9 (.meth 3 (.loc 0) .nil)) (.cons (.asg 10 (.bin .sub (.loc 6) (.loc 7))) (.cons (.sif (.and (.cmp .lt (.loc 10) (.cint 7)) (.cmp .ne (.bin .shr (.bin .band (.loc 9) (.cint 127)) (.loc 10)) (.cint 0))) (.cons (.raise "integer too large" (.loc 8)) .nil) .nil) (.cons (.sif (.and (.cmp .le (.loc 10) (.cint 7)) (.cmp .ge (.loc 9) (.cint 128))) (.cons (.raise "integer representation too long" (.loc 8)) .nil) .nil) (.cons (.asg 5 (.bin .add (.loc 5) (.bin .shl (.bin .band (.loc 9) (.cint 127)) (.loc 7)))) (.cons (.sif (.cmp .lt (.loc 9) (.cint 128)) (.cons (.ret 0 (.loc 5)) .nil) .nil) (.cons (.asg 7 (.bin .add (.loc 7) (.cint 7))) .nil)))))))) .nil))
noncomputable def p124 : List Nat := [0, 6]
noncomputable def w138 : Ss := (.cons (.ret 0 (.meth 6 (.loc 0) (.cons (.cint 32) .nil))) .nil)
noncomputable def p138 : List Nat := [0]
noncomputable def w173 : Ss := (.cons (.asg 4 (.meth 7 (.loc 0) .nil)) (.cons (.sif (.cmp .gt (.loc 4) (.meth 0 (.loc 0) .nil)) (.cons (.raise "length out of bounds" (.attr (.loc 0) 2)) .nil) .nil) (.cons (.asg 8 (.attr (.loc 0) 2)) (.cons (.ret 0 (.call 10 (.cons (.meth 4 (.loc 0) (.cons (.loc 4) .nil)) (.cons (.loc 8) .nil)))) .nil))))
noncomputable def p173 : List Nat := [0]
noncomputable def w187 : Ss := (.cons (.sif (.cmp .lt (.loc 9) (.cint 128)) (.cons (.ret 0 (.tup (.cons (.cint 0) (.cons (.loc 9) (.cons (.cint 0) .nil))))) .nil) .nil) (.cons (.sif (.cmp2 .le .lt (.cint 192) (.loc 9) (.cint 224)) (.cons (.ret 0 (.tup (.cons (.cint 1) (.cons (.bin .band (.loc 9) (.cint 31)) (.cons (.cint 128) .nil))))) .nil) .nil) (.cons (.sif (.cmp2 .le .lt (.cint 224) (.loc 9) (.cint 240)) (.cons (.ret 0 (.tup (.cons (.cint 2) (.cons (.bin .band (.loc 9) (.cint 15)) (.cons (.cint 2048) .nil))))) .nil) .nil) (.cons (.sif (.cmp2 .le .lt (.cint 240) (.loc 9) (.cint 248)) (.cons (.ret 0 (.tup (.cons (.cint 3) (.cons (.bin .band (.loc 9) (.cint 7)) (.cons (.cint 65536) .nil))))) .nil) .nil) (.cons (.raise "malformed UTF-8 encoding" (.loc 2)) .nil)))))
noncomputable def p187 : List Nat := [9, 2]
noncomputable def w195 : Ss := (.cons (.asgT [14, 2] (.tup (.cons .mdl (.cons (.cint 0) .nil)))) (.cons (.whl [1, 8, 14, 2] 1 (.cmp .lt (.loc 2) (.len (.loc 1))) (.cons (.asgT [11, 12, 13] (.call 9 (.cons (.idx (.loc 1) (.loc 2)) (.cons (.bin .add (.loc 8) (.loc 2)) .nil)))) (.cons (.sif (.cmp .ge (.bin .add (.loc 2) (.loc 11)) (.len (.loc 1))) (.cons (.raise "malformed UTF-8 encoding" (.bin .add (.loc 8) (.loc 2))) .nil) .nil) (.cons (.forD [1, 8, 14, 2, 11, 12, 13] 1 [9] (.slc (.loc 1) (.bin .add (.loc 2) (.cint 1)) (.bin .add (.bin .add (.loc 2) (.cint 1)) (.loc 11))) (.cons (.sif (.cmp .ne (.bin .band (.loc 9) (.cint 192)) (.cint 128)) (.cons (.raise "malformed UTF-8 encoding" (.bin .add (.loc 8) (.loc 2))) .nil) .nil) (.cons (.asg 12 (.bin .bor (.bin .shl (.loc 12) (.cint 6)) (.bin .band (.loc 9) (.cint 63)))) .nil))) (.cons (.sif (.or3 (.cmp .lt (.loc 12) (.loc 13)) (.cmp .gt (.loc 12) (.cint 1114111)) (.cmp2 .le .lt (.cint 55296) (.loc 12) (.cint 57344))) (.cons (.raise "malformed UTF-8 encoding" (.bin .add (.loc 8) (.loc 2))) .nil) .nil) (.cons (.app (.loc 14) (.chr (.loc 12))) (.cons (.asg 2 (.bin .add (.bin .add (.loc 2) (.cint 1)) (.loc 11))) .nil))))))) (.cons (.ret 0 (.join (.loc 14))) .nil)))
noncomputable def p195 : List Nat := [1, 8]
noncomputable def w203 : Ss := (.cons (.sif (.cmp .ne (.meth 4 (.loc 15) (.cons (.len (.glob 0)) .nil)) (.glob 0)) (.cons (.raise "magic header not detected" (.cint 0)) .nil) .nil) (.cons (.sif (.cmp .ne (.meth 4 (.loc 15) (.cons (.len (.glob 1)) .nil)) (.glob 1)) (.cons (.raise "unknown binary version" (.len (.glob 0))) .nil) .nil) .nil))
noncomputable def p203 : List Nat := [15]
noncomputable def w210 : Ss := (.cons (.asg 17 (.meth 8 (.loc 16) .nil)) (.cons (.ret 0 (.tup (.cons (.loc 17) (.cons (.meth 4 (.loc 16) (.cons (.meth 0 (.loc 16) .nil) .nil)) .nil)))) .nil))
noncomputable def p210 : List Nat := [16]
noncomputable def w224 : Ss := (.cons (.asgA (.loc 0) 15 (.call 28 (.cons (.loc 1) .nil))) (.cons (.asgA (.loc 0) 18 (.neg 1)) (.cons (.expr (.call 11 (.cons (.attr (.loc 0) 15) .nil))) .nil)))
noncomputable def p224 : List Nat := [0, 1]
noncomputable def w231 : Ss := (.cons (.ret 0 (.meth 1 (.attr (.loc 0) 15) .nil)) .nil)
noncomputable def p231 : List Nat := [0]
noncomputable def w238 : Ss := (.cons (.asg 2 (.attr (.attr (.loc 0) 15) 2)) (.cons (.asg 19 (.meth 3 (.attr (.loc 0) 15) .nil)) (.cons (.sif (.cmp .gt (.loc 19) (.glob 4)) (.cons (.raise "malformed section id" (.loc 2)) .nil) .nil) (.cons (.asg 16 (.meth 5 (.attr (.loc 0) 15) (.cons (.meth 7 (.attr (.loc 0) 15) .nil) .nil))) (.cons (.sif (.cmp .ne (.loc 19) (.glob 3)) (.cons (.asg 18 (.tindex (.glob 2) (.loc 19))) (.cons (.sif (.cmp .le (.loc 18) (.attr (.loc 0) 18)) (.cons (.raise "unexpected content after last section" (.loc 2)) .nil) .nil) (.cons (.asgA (.loc 0) 18 (.loc 18)) .nil))) .nil) (.cons (.ret 1 (.tup (.cons (.loc 19) (.cons (.loc 16) .nil)))) .nil))))))
noncomputable def p238 : List Nat := [0]
noncomputable def w252 : Ss := (.cons (.asgT [20, 5] (.tup (.cons (.call 29 (.cons (.loc 1) .nil)) (.cons .mdl .nil)))) (.cons (.whl [1, 20, 5] 3 (.not (.meth 13 (.loc 20) .nil)) (.cons (.asgT [19, 16] (.meth 14 (.loc 20) .nil)) (.cons (.sif (.cmp .eq (.loc 19) (.glob 3)) (.cons (.asgT [17, 21] (.call 12 (.cons (.loc 16) .nil))) (.cons (.app (.loc 5) (.tup (.cons (.loc 19) (.cons (.loc 17) (.cons (.loc 21) .nil))))) .nil)) (.cons (.app (.loc 5) (.tup (.cons (.loc 19) (.cons .cnone (.cons (.meth 4 (.loc 16) (.cons (.meth 0 (.loc 16) .nil) .nil)) .nil))))) .nil)) .nil))) (.cons (.ret 0 (.frz (.loc 5))) .nil)))
noncomputable def p252 : List Nat := [1]
noncomputable def w259 : Ss := (.cons (.ret 0 (.ife (.cmp .lt (.loc 2) (.len (.loc 22))) (.idx (.loc 22) (.loc 2)) (.cint 0))) .nil)
noncomputable def p259 : List Nat := [22, 2]
noncomputable def w264 : Ss := (.cons (.ret 0 (.compR 31 (.bin .add (.bin .mod (.bin .fdiv (.loc 19) (.bin .pow (.cint 128) (.loc 31))) (.cint 128)) (.ife (.cmp .lt (.loc 31) (.bin .sub (.loc 4) (.cint 1))) (.cint 128) (.cint 0))) (.loc 4))) .nil)
noncomputable def p264 : List Nat := [19, 4]
noncomputable def w271 : Ss := (.cons (.asg 24 (.dl (.cons (.il (.cons (.cint 97) .nil)) (.cons (.il .nil) (.cons (.il (.cons (.cint 195) (.cons (.cint 169) .nil))) (.cons (.il (.cons (.cint 226) (.cons (.cint 130) (.cons (.cint 172) (.cons (.cint 98) .nil))))) (.cons (.il (.cons (.cint 128) .nil)) (.cons (.il (.cons (.cint 193) (.cons (.cint 129) .nil))) (.cons (.il (.cons (.cint 237) (.cons (.cint 160) (.cons (.cint 128) .nil)))) (.cons (.il (.cons (.cint 240) (.cons (.cint 144) (.cons (.cint 141) (.cons (.cint 136) .nil))))) .nil)))))))))) (.cons (.asg 17 (.idx (.loc 24) (.bin .mod (.loc 23) (.cint 8)))) (.cons (.asg 25 (.max (.cint 0) (.bin .add (.len (.loc 17)) (.idx (.il (.cons (.cint 0) (.cons (.cint 0) (.cons (.cint 0) (.cons (.cint 0) (.cons (.cint 1) (.cons (.neg 1) (.cons (.cint 9) .nil)))))))) (.bin .mod (.bin .fdiv (.loc 23) (.cint 8)) (.cint 7)))))) (.cons (.ret 0 (.bin .add (.bin .add (.il (.cons (.loc 25) .nil)) (.loc 17)) (.bin .mul (.il (.cons (.bin .mod (.bin .fdiv (.loc 23) (.cint 56)) (.cint 256)) .nil)) (.bin .mod (.bin .fdiv (.loc 23) (.cint 14336)) (.cint 3))))) .nil))))
noncomputable def p271 : List Nat := [23]
noncomputable def w276 : Ss := (.cons (.asg 27 (.ife (.cmp .eq (.loc 19) (.cint 0)) (.call 18 (.cons (.loc 23) .nil)) (.compR 31 (.bin .mod (.bin .fdiv (.loc 23) (.bin .pow (.cint 256) (.loc 31))) (.cint 256)) (.bin .mod (.loc 23) (.cint 5))))) (.cons (.asg 25 (.max (.cint 0) (.bin .add (.len (.loc 27)) (.idx (.il (.cons (.cint 0) (.cons (.cint 0) (.cons (.cint 0) (.cons (.cint 0) (.cons (.cint 0) (.cons (.cint 0) (.cons (.cint 1) (.cons (.neg 1) .nil))))))))) (.bin .mod (.loc 26) (.cint 8)))))) (.cons (.asg 28 (.call 17 (.cons (.loc 25) (.cons (.bin .add (.cint 1) (.bin .mod (.bin .fdiv (.loc 26) (.cint 8)) (.cint 6))) .nil)))) (.cons (.ret 0 (.bin .add (.bin .add (.il (.cons (.loc 19) .nil)) (.loc 28)) (.loc 27))) .nil))))
noncomputable def p276 : List Nat := [19, 26, 23]
noncomputable def w283 : Ss := (.cons (.asg 29 (.mil (.cons (.cint 0) (.cons (.cint 97) (.cons (.cint 115) (.cons (.cint 109) (.cons (.cint 1) (.cons (.cint 0) (.cons (.cint 0) (.cons (.cint 0) .nil)))))))))) (.cons (.asg 30 (.call 16 (.cons (.loc 22) (.cons (.cint 0) .nil)))) (.cons (.sif (.cmp .eq (.bin .mod (.loc 30) (.cint 5)) (.cint 4)) (.cons (.asgI (.loc 29) (.bin .mod (.bin .fdiv (.loc 30) (.cint 5)) (.cint 8)) (.bin .mod (.bin .fdiv (.loc 30) (.cint 40)) (.cint 256))) .nil) .nil) (.cons (.asg 1 (.frz (.loc 29))) (.cons (.forR [22, 1] 0 31 (.min (.cint 9) (.bin .fdiv (.bin .sub (.len (.loc 22)) (.cint 1)) (.cint 3))) (.cons (.asg 19 (.bin .mod (.call 16 (.cons (.loc 22) (.cons (.bin .add (.bin .mul (.cint 3) (.loc 31)) (.cint 1)) .nil))) (.cint 15))) (.cons (.asg 1 (.bin .add (.loc 1) (.call 19 (.cons (.loc 19) (.cons (.call 16 (.cons (.loc 22) (.cons (.bin .add (.bin .mul (.cint 3) (.loc 31)) (.cint 2)) .nil))) (.cons (.call 16 (.cons (.loc 22) (.cons (.bin .add (.bin .mul (.cint 3) (.loc 31)) (.cint 3)) .nil))) .nil)))))) .nil))) (.cons (.ret 0 (.slcTo (.loc 1) (.bin .sub (.len (.loc 1)) (.bin .mod (.call 16 (.cons (.loc 22) (.cons (.cint 28) .nil))) (.bin .add (.len (.loc 1)) (.cint 1)))))) .nil))))))
noncomputable def p283 : List Nat := [22]
noncomputable def w290 : Ss := (.cons (.asgT [32, 4, 33] (.tup (.cons (.cint 0) (.cons (.cint 0) (.cons (.cbool true) .nil))))) (.cons (.whl [1, 2, 3, 32, 4, 33] 0 (.loc 33) (.cons (.sif (.cmp .ge (.bin .add (.loc 2) (.loc 4)) (.loc 3)) (.cons (.ret 0 (.tup (.cons (.cint 0) (.cons (.loc 2) (.cons (.cstr "unexpected end") .nil))))) .nil) .nil) (.cons (.asg 32 (.bin .add (.loc 32) (.bin .mul (.bin .mod (.idx (.loc 1) (.bin .add (.loc 2) (.loc 4))) (.cint 128)) (.bin .pow (.cint 128) (.loc 4))))) (.cons (.asgT [33, 4] (.tup (.cons (.cmp .ge (.idx (.loc 1) (.bin .add (.loc 2) (.loc 4))) (.cint 128)) (.cons (.bin .add (.loc 4) (.cint 1)) .nil)))) (.cons (.sif (.cmp .ge (.loc 32) (.bin .pow (.cint 2) (.cint 32))) (.cons (.ret 0 (.tup (.cons (.cint 0) (.cons (.loc 2) (.cons (.cstr "integer too large") .nil))))) .nil) .nil) (.cons (.sif (.and (.loc 33) (.cmp .eq (.loc 4) (.cint 5))) (.cons (.ret 0 (.tup (.cons (.cint 0) (.cons (.loc 2) (.cons (.cstr "integer representation too long") .nil))))) .nil) .nil) .nil)))))) (.cons (.ret 0 (.tup (.cons (.loc 32) (.cons (.bin .add (.loc 2) (.loc 4)) (.cons (.cstr "") .nil))))) .nil)))
noncomputable def p290 : List Nat := [1, 2, 3]
noncomputable def w297 : Ss := (.cons (.sif (.cmp .lt (.loc 9) (.cint 128)) (.cons (.ret 0 (.cint 1)) .nil) .nil) (.cons (.sif (.and (.cmp .le (.cint 194) (.loc 9)) (.cmp .lt (.loc 9) (.cint 224))) (.cons (.ret 0 (.cint 2)) .nil) .nil) (.cons (.sif (.and (.cmp .le (.cint 224) (.loc 9)) (.cmp .lt (.loc 9) (.cint 240))) (.cons (.ret 0 (.cint 3)) .nil) .nil) (.cons (.ret 0 (.ife (.and (.cmp .le (.cint 240) (.loc 9)) (.cmp .lt (.loc 9) (.cint 245))) (.cint 4) (.cint 0))) .nil))))
noncomputable def p297 : List Nat := [9]
noncomputable def w302 : Ss := (.cons (.asgT [34, 2] (.tup (.cons (.cstr "") (.cons (.cint 0) .nil)))) (.cons (.whl [1, 34, 2] 0 (.cmp .lt (.loc 2) (.len (.loc 1))) (.cons (.asg 35 (.call 22 (.cons (.idx (.loc 1) (.loc 2)) .nil))) (.cons (.asg 36 (.slc (.loc 1) (.bin .add (.loc 2) (.cint 1)) (.bin .add (.loc 2) (.loc 35)))) (.cons (.sif (.or3 (.cmp .eq (.loc 35) (.cint 0)) (.cmp .ne (.len (.loc 36)) (.bin .sub (.loc 35) (.cint 1))) (.any (.compL 9 (.cmp .ne (.bin .fdiv (.loc 9) (.cint 64)) (.cint 2)) (.loc 36)))) (.cons (.ret 0 .cnone) .nil) .nil) (.cons (.asg 12 (.bin .mod (.idx (.loc 1) (.loc 2)) (.idx (.il (.cons (.cint 128) (.cons (.cint 32) (.cons (.cint 16) (.cons (.cint 8) .nil))))) (.bin .sub (.loc 35) (.cint 1))))) (.cons (.forD [1, 34, 2, 35, 36, 12] 0 [9] (.loc 36) (.cons (.asg 12 (.bin .add (.bin .mul (.cint 64) (.loc 12)) (.bin .mod (.loc 9) (.cint 64)))) .nil)) (.cons (.sif (.or3 (.cmp .lt (.loc 12) (.idx (.il (.cons (.cint 0) (.cons (.cint 128) (.cons (.cint 2048) (.cons (.cint 65536) .nil))))) (.bin .sub (.loc 35) (.cint 1)))) (.cmp .ge (.loc 12) (.cint 1114112)) (.and (.cmp .le (.cint 55296) (.loc 12)) (.cmp .lt (.loc 12) (.cint 57344)))) (.cons (.ret 0 .cnone) .nil) .nil) (.cons (.asgT [34, 2] (.tup (.cons (.bin .add (.loc 34) (.chr (.loc 12))) (.cons (.bin .add (.loc 2) (.loc 35)) .nil)))) .nil)))))))) (.cons (.ret 0 (.loc 34)) .nil)))
noncomputable def p302 : List Nat := [1]
noncomputable def w309 : Ss := (.cons (.asgT [4, 2, 37] (.call 21 (.cons (.loc 1) (.cons (.loc 2) (.cons (.loc 3) .nil))))) (.cons (.sif (.cmp .ne (.loc 37) (.cstr "")) (.cons (.ret 0 (.tup (.cons .cnone (.cons (.loc 37) .nil)))) .nil) .nil) (.cons (.sif (.cmp .gt (.loc 4) (.bin .sub (.loc 3) (.loc 2))) (.cons (.ret 0 (.tup (.cons .cnone (.cons (.cstr "length out of bounds") .nil)))) .nil) .nil) (.cons (.asg 17 (.call 23 (.cons (.slc (.loc 1) (.loc 2) (.bin .add (.loc 2) (.loc 4))) .nil))) (.cons (.sif (.isNone (.loc 17)) (.cons (.ret 0 (.tup (.cons .cnone (.cons (.cstr "malformed UTF-8 encoding") .nil)))) .nil) .nil) (.cons (.ret 0 (.tup (.cons (.tup (.cons (.cint 0) (.cons (.loc 17) (.cons (.toB (.slc (.loc 1) (.bin .add (.loc 2) (.loc 4)) (.loc 3))) .nil)))) (.cons (.cstr "") .nil)))) .nil))))))
noncomputable def p309 : List Nat := [1, 2, 3]
noncomputable def w316 : Ss := (.cons (.forD [1] 0 [16, 37] (.dl (.cons (.tup (.cons (.il (.cons (.cint 0) (.cons (.cint 97) (.cons (.cint 115) (.cons (.cint 109) .nil))))) (.cons (.cstr "magic header not detected") .nil))) (.cons (.tup (.cons (.il (.cons (.cint 1) (.cons (.cint 0) (.cons (.cint 0) (.cons (.cint 0) .nil))))) (.cons (.cstr "unknown binary version") .nil))) .nil))) (.cons (.sif (.cmp .lt (.len (.loc 1)) (.cint 4)) (.cons (.ret 0 (.cstr "unexpected end")) .nil) .nil) (.cons (.sif (.cmp .ne (.slcTo (.loc 1) (.cint 4)) (.loc 16)) (.cons (.ret 0 (.loc 37)) .nil) .nil) (.cons (.asg 1 (.slcFrom (.loc 1) (.cint 4))) .nil)))) (.cons (.ret 0 (.cstr "")) .nil))
noncomputable def p316 : List Nat := [1]
noncomputable def w323 : Ss := (.cons (.asg 38 (.mil (.cons (.cint 1) (.cons (.cint 2) (.cons (.cint 3) (.cons (.cint 4) (.cons (.cint 5) (.cons (.cint 6) (.cons (.cint 7) (.cons (.cint 8) (.cons (.cint 9) (.cons (.cint 12) (.cons (.cint 10) (.cons (.cint 11) .nil)))))))))))))) (.cons (.asg 5 (.mil .nil)) (.cons (.whl [19, 38, 5] 2 (.and (.cmp .ne (.loc 38) (.il .nil)) (.cmp .ne (.slcFrom (.loc 5) (.neg 1)) (.il (.cons (.loc 19) .nil)))) (.cons (.app (.loc 5) (.pop0 (.loc 38))) .nil)) (.cons (.ret 0 (.frz (.loc 5))) .nil))))
noncomputable def p323 : List Nat := [19]
noncomputable def w330 : Ss := (.cons (.asg 37 (.call 25 (.cons (.loc 1) .nil))) (.cons (.sif (.cmp .ne (.loc 37) (.cstr "")) (.cons (.ret 0 (.tup (.cons .cnone (.cons (.loc 37) .nil)))) .nil) .nil) (.cons (.asgT [2, 5, 39] (.tup (.cons (.cint 8) (.cons .mdl (.cons (.il .nil) .nil))))) (.cons (.whl [1, 2, 5, 39] 1 (.cmp .lt (.loc 2) (.len (.loc 1))) (.cons (.asg 19 (.idx (.loc 1) (.loc 2))) (.cons (.sif (.cmp .gt (.loc 19) (.cint 12)) (.cons (.ret 0 (.tup (.cons .cnone (.cons (.cstr "malformed section id") .nil)))) .nil) .nil) (.cons (.asgT [4, 2, 37] (.call 21 (.cons (.loc 1) (.cons (.bin .add (.loc 2) (.cint 1)) (.cons (.len (.loc 1)) .nil))))) (.cons (.sif (.cmp .ne (.loc 37) (.cstr "")) (.cons (.ret 0 (.tup (.cons .cnone (.cons (.loc 37) .nil)))) .nil) .nil) (.cons (.sif (.cmp .gt (.loc 4) (.bin .sub (.len (.loc 1)) (.loc 2))) (.cons (.ret 0 (.tup (.cons .cnone (.cons (.cstr "length out of bounds") .nil)))) .nil) .nil) (.cons (.sif (.cmp .eq (.loc 19) (.cint 0)) (.cons (.asgT [25, 37] (.call 24 (.cons (.loc 1) (.cons (.loc 2) (.cons (.bin .add (.loc 2) (.loc 4)) .nil))))) (.cons (.sif (.cmp .ne (.loc 37) (.cstr "")) (.cons (.ret 0 (.tup (.cons .cnone (.cons (.loc 37) .nil)))) .nil) .nil) (.cons (.app (.loc 5) (.loc 25)) .nil))) (.cons (.sif (.inn (.loc 19) (.loc 39)) (.cons (.ret 0 (.tup (.cons .cnone (.cons (.cstr "unexpected content after last section") .nil)))) .nil) .nil) (.cons (.asg 39 (.call 26 (.cons (.loc 19) .nil))) (.cons (.app (.loc 5) (.tup (.cons (.loc 19) (.cons .cnone (.cons (.toB (.slc (.loc 1) (.loc 2) (.bin .add (.loc 2) (.loc 4)))) .nil))))) .nil)))) (.cons (.asg 2 (.bin .add (.loc 2) (.loc 4))) .nil)))))))) (.cons (.ret 0 (.tup (.cons (.frz (.loc 5)) (.cons (.cstr "") .nil)))) .nil)))))
noncomputable def p330 : List Nat := [1]
end Mine
end

section
open PySem PySem.W PyProof.Rows PySem.Calls
namespace Mine
/-! the reading, plain -/
noncomputable def Good (xs : List Int) : Prop := (∀ x ∈ xs, 0 ≤ x ∧ x < 256) ∧ xs.length ≤ 1000
noncomputable def wE : String := "unexpected end"
noncomputable def wL : String := "length out of bounds"
noncomputable def wT : String := "malformed UTF-8 encoding"

/-- a number by powers of 128 -/
noncomputable def numP (xs : List Int) (a e : Int) : Nat → Nat → Int → Except String (Int × Int)
  | 0, _, _ => .error ""
  | n + 1, k, acc =>
    if e ≤ a + k then .error wE else
    let o := xs.getD (a + k).toNat 0
    let acc' := acc + o % 128 * 128 ^ k
    if 4294967296 ≤ acc' then .error "integer too large" else
    if 128 ≤ o then (if k + 1 = 5 then .error "integer representation too long" else numP xs a e n (k + 1) acc') else .ok (acc', a + k + 1)
noncomputable def num (xs : List Int) (a e : Int) : Except String (Int × Int) := numP xs a e 5 0 0

/-- one sign of UTF-8: its point and its width -/
noncomputable def widthP (o : Int) : Int := if o < 128 then 1 else if 194 ≤ o ∧ o < 224 then 2 else if 224 ≤ o ∧ o < 240 then 3 else if 240 ≤ o ∧ o < 245 then 4 else 0
noncomputable def baseP (w : Int) : Int := if w = 1 then 128 else if w = 2 then 32 else if w = 3 then 16 else 8
noncomputable def leastP (w : Int) : Int := if w = 1 then 0 else if w = 2 then 128 else if w = 3 then 2048 else 65536
noncomputable def ptP (p : Int) (ms : List Int) : Int := ms.foldl (fun p o => 64 * p + o % 64) p
noncomputable def stepP (xs : List Int) (a : Int) : Option (Int × Int) :=
  let o := xs.getD a.toNat 0
  let w := widthP o
  let more := cut xs (a + 1) (a + w)
  if w = 0 ∨ (more.length : Int) ≠ w - 1 ∨ (∃ o ∈ more, o / 64 ≠ 2) then none else
  let p := ptP (o % baseP w) more
  if p < leastP w ∨ 1114112 ≤ p ∨ (55296 ≤ p ∧ p < 57344) then none else some (p, w)
noncomputable def txtP (xs : List Int) : Nat → Int → Option (List Nat)
  | 0, _ => some []
  | n + 1, a => if xs.length ≤ a then some [] else match stepP xs a with
    | none => none
    | some (p, w) => (txtP xs n (a + w)).map (p.toNat :: ·)
noncomputable def txt (xs : List Int) : Option Str := (txtP xs xs.length 0).map fun l => ⟨l.toArray⟩

noncomputable def headP (xs : List Int) : Option String :=
  if xs.length < 4 then some wE else
  if xs.take 4 ≠ [0, 97, 115, 109] then some "magic header not detected" else
  if xs.length < 8 then some wE else
  if (xs.drop 4).take 4 ≠ [1, 0, 0, 0] then some "unknown binary version" else none
/-- a custom section's content -/
noncomputable def custP (xs : List Int) (a e : Int) : Except String D := match num xs a e with
  | .error w => .error w
  | .ok (m, b) => if e - b < m then .error wL else match txt (cut xs b (b + m)) with
    | none => .error wT
    | some s => .ok (.tup [.int 0, .str s, .bytes (cut xs (b + m) e)])
noncomputable def ROW : List Int := [1, 2, 3, 4, 5, 6, 7, 8, 9, 12, 10, 11]
noncomputable def dueP (xs : List Int) : Nat → Int → Int → List D → Except String (List D)
  | 0, _, _, acc => .ok acc
  | n + 1, a, pl, acc => if xs.length ≤ a then .ok acc else
    let o := xs.getD a.toNat 0
    if 12 < o then .error "malformed section id" else match num xs (a + 1) xs.length with
    | .error w => .error w
    | .ok (m, b) => if xs.length - b < m then .error wL else
      if o = 0 then match custP xs b (b + m) with
        | .error w => .error w
        | .ok d => dueP xs n (b + m) pl (acc ++ [d])
      else if (ROW.idxOf o : Int) ≤ pl then .error "unexpected content after last section"
      else dueP xs n (b + m) (ROW.idxOf o) (acc ++ [.tup [.int o, .none, .bytes (cut xs b (b + m))]])
noncomputable def secP (xs : List Int) : Except String (List D) := match headP xs with
  | some w => .error w
  | none => dueP xs xs.length 8 (-1) []

/-! the functions' words -/
noncomputable def cur (xs : List Int) (a e : Int) : Ob := .inst 0 [(1, .d (.bytes xs)), (2, .d (.int a)), (3, .d (.int e))]
noncomputable def walk (p : Int) : Ob := .inst 1 [(15, .ref 1), (18, .d (.int p))]
noncomputable def WF (xs : List Int) (a e : Int) : Prop := Good xs ∧ 0 ≤ a ∧ a ≤ e ∧ e ≤ xs.length
noncomputable def sI (i : Int) : V := .d (.int i)
noncomputable def sB (xs : List Int) : V := .d (.bytes xs)
noncomputable def sL (xs : List Int) : V := .d (.il xs)
noncomputable def sW (w : String) : D := .str (Str.ofString w)

noncomputable def f0 : FSpec := fun vs obs q _ => ∃ xs a e, vs = [.ref 0] ∧ obs = [cur xs a e] ∧ q (sI (e - a)) [cur xs a e]
noncomputable def f1 : FSpec := fun vs obs q _ => ∃ xs a e, vs = [.ref 0] ∧ obs = [cur xs a e] ∧ q (.d (.bool (decide (e ≤ a)))) [cur xs a e]
/-- peek, octet: d is the way ahead -/
noncomputable def fOct (d : Int) : FSpec := fun vs obs q XQ => ∃ xs a e, vs = [.ref 0] ∧ obs = [cur xs a e] ∧ WF xs a e ∧ (e ≤ a → XQ (Str.ofString wE)) ∧ (a < e → q (sI (xs.getD a.toNat 0)) [cur xs (a + d) e])
noncomputable def f2 := fOct 0
noncomputable def f3 := fOct 1
noncomputable def f4 : FSpec := fun vs obs q XQ => ∃ xs a e m, vs = [.ref 0, sI m] ∧ obs = [cur xs a e] ∧ WF xs a e ∧ 0 ≤ m ∧ (e - a < m → XQ (Str.ofString wE)) ∧ (m ≤ e - a → q (sB (cut xs a (a + m))) [cur xs (a + m) e])
noncomputable def f5 : FSpec := fun vs obs q XQ => ∃ xs a e m, vs = [.ref 0, sI m] ∧ obs = [cur xs a e] ∧ WF xs a e ∧ 0 ≤ m ∧ (e - a < m → XQ (Str.ofString wL)) ∧ (m ≤ e - a → q (.ref 1) [cur xs (a + m) e, cur xs a (a + m)])
noncomputable def fNum (vs0 : List V) : FSpec := fun vs obs q XQ => ∃ xs a e, vs = vs0 ∧ obs = [cur xs a e] ∧ WF xs a e ∧ (∀ w, num xs a e = .error w → XQ (Str.ofString w)) ∧ (∀ m b, num xs a e = .ok (m, b) → q (sI m) [cur xs b e])
noncomputable def f6 := fNum [.ref 0, sI 32]
noncomputable def f7 := fNum [.ref 0]
noncomputable def f8 : FSpec := fun vs obs q XQ => ∃ xs a e, vs = [.ref 0] ∧ obs = [cur xs a e] ∧ WF xs a e ∧ (∀ w, num xs a e = .error w → XQ (Str.ofString w)) ∧
  (∀ m b, num xs a e = .ok (m, b) → (e - b < m → XQ (Str.ofString wL)) ∧ (m ≤ e - b → (txt (cut xs b (b + m)) = none → XQ (Str.ofString wT)) ∧ (∀ s, txt (cut xs b (b + m)) = some s → q (.d (.str s)) [cur xs (b + m) e])))
/-- head_of -/
noncomputable def f9 : FSpec := fun vs obs q XQ => ∃ o a, vs = [sI o, sI a] ∧ obs = [] ∧ (0 ≤ o ∧ o < 256) ∧
  (o < 128 → q (.d (.tup [.int 0, .int o, .int 0])) []) ∧ (192 ≤ o ∧ o < 224 → q (.d (.tup [.int 1, .int (o % 32), .int 128])) []) ∧ (224 ≤ o ∧ o < 240 → q (.d (.tup [.int 2, .int (o % 16), .int 2048])) []) ∧
  (240 ≤ o ∧ o < 248 → q (.d (.tup [.int 3, .int (o % 8), .int 65536])) []) ∧ ((128 ≤ o ∧ o < 192) ∨ 248 ≤ o → XQ (Str.ofString wT))
noncomputable def f10 : FSpec := fun vs obs q XQ => ∃ xs b, vs = [sB xs, sI b] ∧ obs = [] ∧ Good xs ∧ (txt xs = none → XQ (Str.ofString wT)) ∧ (∀ s, txt xs = some s → q (.d (.str s)) [])
noncomputable def f11 : FSpec := fun vs obs q XQ => ∃ xs, vs = [.ref 0] ∧ obs = [cur xs 0 xs.length] ∧ Good xs ∧ (∀ w, headP xs = some w → XQ (Str.ofString w)) ∧ (headP xs = none → 8 ≤ xs.length → q (.d .none) [cur xs 8 xs.length])
noncomputable def f12 : FSpec := fun vs obs q XQ => ∃ xs a e, vs = [.ref 0] ∧ obs = [cur xs a e] ∧ WF xs a e ∧ (∀ w, custP xs a e = .error w → XQ (Str.ofString w)) ∧ (∀ s r, custP xs a e = .ok (.tup [.int 0, .str s, .bytes r]) → q (.d (.tup [.str s, .bytes r])) [cur xs e e])
noncomputable def f13 : FSpec := fun vs obs q _ => ∃ xs a e p, vs = [.ref 0] ∧ obs = [walk p, cur xs a e] ∧ q (.d (.bool (decide (e ≤ a)))) [walk p, cur xs a e]
noncomputable def f14 : FSpec := fun vs obs q XQ => ∃ xs a p, vs = [.ref 0] ∧ obs = [walk p, cur xs a xs.length] ∧ WF xs a xs.length ∧ a < xs.length ∧
  (12 < xs.getD a.toNat 0 → XQ (Str.ofString "malformed section id")) ∧
  (xs.getD a.toNat 0 ≤ 12 → (∀ w, num xs (a + 1) xs.length = .error w → XQ (Str.ofString w)) ∧ (∀ m b, num xs (a + 1) xs.length = .ok (m, b) → (xs.length - b < m → XQ (Str.ofString wL)) ∧ (m ≤ xs.length - b →
    (xs.getD a.toNat 0 = 0 → q (.tup [sI 0, .ref 2]) [walk p, cur xs (b + m) xs.length, cur xs b (b + m)]) ∧
    (xs.getD a.toNat 0 ≠ 0 → ((ROW.idxOf (xs.getD a.toNat 0) : Int) ≤ p → XQ (Str.ofString "unexpected content after last section")) ∧
      (p < (ROW.idxOf (xs.getD a.toNat 0) : Int) → q (.tup [sI (xs.getD a.toNat 0), .ref 2]) [walk (ROW.idxOf (xs.getD a.toNat 0)), cur xs (b + m) xs.length, cur xs b (b + m)])))))
noncomputable def f15 : FSpec := fun vs obs q XQ => ∃ xs, vs = [sB xs] ∧ obs = [] ∧ Good xs ∧ (∀ w, secP xs = .error w → XQ (Str.ofString w)) ∧ (∀ ds, secP xs = .ok ds → q (.d (.lst ds)) [])
noncomputable def f16 : FSpec := fun vs obs q _ => ∃ xs a, vs = [sL xs, sI a] ∧ obs = [] ∧ xs.length ≤ 1000 ∧ 0 ≤ a ∧ ∀ i, q (sI i) []
noncomputable def f17 : FSpec := fun vs obs q _ => ∃ n m, vs = [sI n, sI m] ∧ obs = [] ∧ 0 ≤ m ∧ m ≤ 8 ∧ ∀ xs, (∀ x ∈ xs, 0 ≤ x ∧ x < 256) → xs.length ≤ 8 → q (sL xs) []
noncomputable def f18 : FSpec := fun vs obs q _ => ∃ n, vs = [sI n] ∧ obs = [] ∧ ∀ xs, (∀ x ∈ xs, 0 ≤ x ∧ x < 256) → xs.length ≤ 10 → q (sL xs) []
noncomputable def f19 : FSpec := fun vs obs q _ => ∃ n l f, vs = [sI n, sI l, sI f] ∧ obs = [] ∧ 0 ≤ n ∧ n < 256 ∧ ∀ xs, (∀ x ∈ xs, 0 ≤ x ∧ x < 256) → xs.length ≤ 30 → q (sL xs) []
noncomputable def f20 : FSpec := fun vs obs q _ => ∃ xs, vs = [sL xs] ∧ obs = [] ∧ xs.length ≤ 1000 ∧ ∀ ys, Good ys → q (sL ys) []
noncomputable def f21 : FSpec := fun vs obs q _ => ∃ xs a e, vs = [sL xs, sI a, sI e] ∧ obs = [] ∧ WF xs a e ∧ (∀ w, num xs a e = .error w → w ≠ "" → q (.d (.tup [.int 0, .int a, sW w])) []) ∧ (∀ m b, num xs a e = .ok (m, b) → q (.d (.tup [.int m, .int b, sW ""])) [])
noncomputable def f22 : FSpec := fun vs obs q _ => ∃ o, vs = [sI o] ∧ obs = [] ∧ q (sI (widthP o)) []
noncomputable def f23 : FSpec := fun vs obs q _ => ∃ xs, vs = [sL xs] ∧ obs = [] ∧ Good xs ∧ (txt xs = none → q (.d .none) []) ∧ (∀ s, txt xs = some s → q (.d (.str s)) [])
noncomputable def f24 : FSpec := fun vs obs q _ => ∃ xs a e, vs = [sL xs, sI a, sI e] ∧ obs = [] ∧ WF xs a e ∧ (∀ w, custP xs a e = .error w → w ≠ "" → q (.d (.tup [.none, sW w])) []) ∧ (∀ d, custP xs a e = .ok d → q (.d (.tup [d, sW ""])) [])
noncomputable def f25 : FSpec := fun vs obs q _ => ∃ xs, vs = [sL xs] ∧ obs = [] ∧ Good xs ∧ (∀ w, headP xs = some w → w ≠ "" → q (.d (sW w)) []) ∧ (headP xs = none → 8 ≤ xs.length → q (.d (sW "")) [])
noncomputable def f26 : FSpec := fun vs obs q _ => ∃ o, vs = [sI o] ∧ obs = [] ∧ 0 < o ∧ o ≤ 12 ∧ q (sL (ROW.take (ROW.idxOf o + 1))) []
noncomputable def f27 : FSpec := fun vs obs q _ => ∃ xs, vs = [sL xs] ∧ obs = [] ∧ Good xs ∧ (∀ w, secP xs = .error w → q (.d (.tup [.none, sW w])) []) ∧ (∀ ds, secP xs = .ok ds → q (.d (.tup [.lst ds, sW ""])) [])
noncomputable def f28 : FSpec := fun vs obs q _ => (∃ xs, vs = [sB xs] ∧ obs = [] ∧ xs.length ≤ 1000 ∧ q (.ref 0) [cur xs 0 xs.length]) ∨ ∃ xs a e, vs = [sB xs, sI a, sI e] ∧ obs = [] ∧ q (.ref 0) [cur xs a e]
noncomputable def f29 : FSpec := fun vs obs q XQ => ∃ xs, vs = [sB xs] ∧ obs = [] ∧ Good xs ∧ (∀ w, headP xs = some w → XQ (Str.ofString w)) ∧ (headP xs = none → 8 ≤ xs.length → q (.ref 0) [walk (-1), cur xs 8 xs.length])
noncomputable def fNo : FSpec := fun _ _ _ _ => False
/-- the functions in the order of their proofs -/
noncomputable def SEQ : List (Nat × FSpec) := [(0, f0), (1, f1), (2, f2), (3, f3), (4, f4), (28, f28), (5, f5), (6, f6), (7, f7), (9, f9), (10, f10), (8, f8), (11, f11), (12, f12), (13, f13), (14, f14), (29, f29), (15, f15), (16, f16), (17, f17), (18, f18), (19, f19), (20, f20), (21, f21), (22, f22), (23, f23), (24, f24), (25, f25), (26, f26), (27, f27)]
noncomputable def Gam (n f : Nat) : FSpec := (getN f (SEQ.take n)).getD fNo

theorem getD_eq {xs : List Int} {i : Nat} {x : Int} (h : xs[i]? = some x) : xs.getD i 0 = x := by rw [List.getD_eq_getElem?_getD, h]; rfl
end Mine
end

section
open PySem PySem.W PyProof.Rows PySem.Calls
set_option linter.unusedVariables false
namespace Mine
variable {vs : List V} {obs : List Ob} {q : V → List Ob → Prop} {XQ : Str → Prop}
theorem v0 (h : f0 vs obs q XQ) : vcF (Gam 0) p82 w82 vs obs q XQ := by
  obtain ⟨xs, a, e, rfl, rfl, h⟩ := h
  exact And.intro rfl (And.intro rfl h)
theorem v1 (h : f1 vs obs q XQ) : vcF (Gam 1) p89 w89 vs obs q XQ := by
  obtain ⟨xs, a, e, rfl, rfl, h⟩ := h
  exact And.intro rfl (And.intro rfl h)
theorem v2 (h : f2 vs obs q XQ) : vcF (Gam 2) p96 w96 vs obs q XQ := by
  obtain ⟨xs, a, e, rfl, rfl, hw, h1, h2⟩ := h
  obtain ⟨⟨hg, hl⟩, ha, hae, hel⟩ := hw
  refine And.intro rfl (And.intro (fun h => ?_) (fun h => ?_))
  · exact h1 (of_decide_eq_true h)
  · have h := of_decide_eq_false h
    refine And.intro ⟨ha, by omega, by exact Nat.le_add_left_of_le hl⟩ fun x hx => And.intro rfl ?_
    have := h2 (by exact Int.lt_of_not_ge h)
    rw [getD_eq hx, Int.add_zero] at this
    exact this
theorem v3 (h : f3 vs obs q XQ) : vcF (Gam 3) p103 w103 vs obs q XQ := by
  obtain ⟨xs, a, e, rfl, rfl, hw, h1, h2⟩ := h
  refine And.intro rfl (And.intro rfl (And.intro rfl (And.intro rfl ?_)))
  refine ⟨xs, a, e, rfl, rfl, hw, h1, fun h => And.intro (Nat.le_refl _) (And.intro rfl (And.intro rfl ?_))⟩
  rw [Int.add_zero]
  exact h2 h
theorem v4 (h : f4 vs obs q XQ) : vcF (Gam 4) p110 w110 vs obs q XQ := by
  obtain ⟨xs, a, e, m, rfl, rfl, hw, hm, h1, h2⟩ := h
  refine And.intro rfl (And.intro rfl (And.intro rfl (And.intro rfl ⟨xs, a, e, rfl, rfl, And.intro (Nat.le_refl _) (And.intro (fun h => ?_) (fun h => ?_))⟩)))
  · exact h1 (of_decide_eq_true h)
  · have h := of_decide_eq_false h
    have := h2 (by exact Int.not_lt.mp h)
    obtain ⟨⟨hg, hl⟩, ha, hae, hel⟩ := hw
    refine And.intro (by exact Nat.le_add_left_of_le hl) (And.intro rfl (And.intro rfl this))
theorem v28a {xs : List Int} {a e : Int} (h : q (.ref 0) [cur xs a e]) : vcF (Gam 5) p75 w75 [.ref 0, sB xs, sI a, sI e] [.inst 0 []] (fun v obs' => v = .d .none ∧ q (.ref 0) obs') XQ := by
  refine And.intro rfl (And.intro rfl (And.intro rfl (And.intro (fun h => by cases h) (fun _ => And.intro rfl ⟨0, rfl, rfl, h⟩))))
theorem v28b {xs : List Int} (hx : xs.length ≤ 1000) (h : q (.ref 0) [cur xs 0 xs.length]) : vcF (Gam 5) p75 w75 [.ref 0, sB xs, sI 0, .d .none] [.inst 0 []] (fun v obs' => v = .d .none ∧ q (.ref 0) obs') XQ := by
  refine And.intro rfl (And.intro rfl (And.intro rfl (And.intro (fun _ => And.intro (by exact Nat.le_add_left_of_le hx) (And.intro rfl ⟨0, rfl, rfl, h⟩)) (fun h => by cases h))))
theorem v28 (h : f28 vs obs q XQ) : 1 + vs.length ≤ p75.length ∧ vcF (Gam 5) p75 w75 (.ref obs.length :: vs ++ ([.int 0, .none].drop (1 + vs.length + 2 - p75.length)).map .d) (obs ++ [.inst 0 []]) (fun v obs' => v = .d .none ∧ q (.ref obs.length) obs') XQ := by
  rcases h with ⟨xs, rfl, rfl, hx, h⟩ | ⟨xs, a, e, rfl, rfl, h⟩
  · exact ⟨by show 2 ≤ 4; decide, v28b hx h⟩
  · exact ⟨by show 4 ≤ 4; decide, v28a h⟩
theorem v5 (h : f5 vs obs q XQ) : vcF (Gam 6) p117 w117 vs obs q XQ := by
  obtain ⟨xs, a, e, m, rfl, rfl, hw, hm, h1, h2⟩ := h
  refine And.intro rfl (And.intro rfl (And.intro rfl (And.intro rfl ⟨xs, a, e, rfl, rfl, And.intro (Nat.le_refl _) (And.intro (fun h => ?_) (fun h => ?_))⟩)))
  · exact h1 (of_decide_eq_true h)
  · have h := of_decide_eq_false h
    have := h2 (by exact Int.not_lt.mp h)
    refine And.intro rfl (.inr ⟨xs, a, a + m, rfl, rfl, And.intro (Nat.zero_le _) (And.intro rfl (And.intro rfl this))⟩)
end Mine
end

section
open PySem PySem.W PyProof.Rows PySem.Calls
set_option linter.unusedVariables false
namespace Mine
noncomputable def nthS : Ss → Nat → S
  | .cons s _, 0 => s
  | .cons _ r, n + 1 => nthS r n
  | .nil, _ => .expr .cnone
noncomputable def bodyOf : S → Ss
  | .whl _ _ _ b => b
  | .forD _ _ _ _ b => b
  | .forR _ _ _ _ b => b
  | _ => .nil
noncomputable def condOf : S → X
  | .whl _ _ c _ => c
  | _ => .cnone
theorem sand {c1 c2 : Bool} {T E : Prop} (ht : c1 = true → c2 = true → T) (he : (c1 = true → c2 = false) → E) : (c1 = true → (c2 = true → T) ∧ (c2 = false → E)) ∧ (c1 = false → (false = true → T) ∧ (false = false → E)) :=
  ⟨fun h => ⟨ht h, fun k => he fun _ => k⟩, fun h => ⟨fun k => (Bool.noConfusion k), fun _ => he fun k => by rw [h] at k; cases k⟩⟩
theorem sandP {c1 c2 : Bool} {P T E : Prop} (hp : c1 = true → P) (ht : c1 = true → c2 = true → T) (he : (c1 = true → c2 = false) → E) : (c1 = true → P ∧ (c2 = true → T) ∧ (c2 = false → E)) ∧ (c1 = false → (false = true → T) ∧ (false = false → E)) :=
  ⟨fun h => ⟨hp h, ht h, fun k => he fun _ => k⟩, fun h => ⟨fun k => (Bool.noConfusion k), fun _ => he fun k => by rw [h] at k; cases k⟩⟩
theorem getD_at {xs : List Int} {i : Nat} (h : i < xs.length) : xs[i]? = some (xs.getD i 0) := by
  rw [List.getD_eq_getElem?_getD, List.getElem?_eq_getElem h]; rfl
theorem Good.at {xs : List Int} (h : Good xs) (i : Nat) : 0 ≤ xs.getD i 0 ∧ xs.getD i 0 < 256 := by
  by_cases hi : i < xs.length
  · exact h.1 _ (List.mem_of_getElem? (getD_at hi))
  · rw [List.getD_eq_getElem?_getD, List.getElem?_eq_none (by exact Nat.le_of_not_lt hi)]; decide
variable {vs : List V} {obs : List Ob} {q : V → List Ob → Prop} {XQ : Str → Prop}
theorem u_loop {xs : List Int} {a e : Int} {N : St → Prop} (hw : WF xs a e) : ∀ (n k : Nat) (acc s at' : Int) (σ : St), keepOk 1 [0, 6, 5, 7, 8] 1 σ = true → σ.keep [0, 6, 5, 7, 8] 1 = ⟨[(0, .ref 0), (6, sI 32), (5, sI acc), (7, sI s), (8, sI a)], [cur xs at' e]⟩ → n + k = 5 → k < 5 → 0 ≤ acc → acc < 128 ^ k → s = 7 * k → at' = a + k → at' ≤ e →
    (∀ w, numP xs a e n k acc = .error w → XQ (Str.ofString w)) → (∀ m b, numP xs a e n k acc = .ok (m, b) → q (sI m) [cur xs b e]) →
    wl (Gam 7) 1 XQ (.cbool true) [0, 6, 5, 7, 8] 1 (fun σ1 N1 => vcSs (Gam 7) 1 XQ (bodyOf (nthS w124 1)) σ1 N1 (fun v σ => q v σ.obs)) N n σ
  | 0, k, _, _, _, _, _, _, hk, hk5, _, _, _, _, _, _, _ => by omega
  | n + 1, k, acc, s, at', σ, hko, hσ, hk, hk5, h0, h1, hs, hat, hae, hX, hQ => by
    subst hs hat
    unfold numP at hX hQ
    dsimp only at hX hQ
    have hw' : WF xs (a + k) e := ⟨hw.1, by have := hw.2.1; (clear hko hk hk5 h0 h1 hae hσ hX hQ; omega), hae, hw.2.2.2⟩
    refine And.intro hko ?_
    rw [hσ]
    clear hσ hko
    refine And.intro (fun _ => ?_) (fun h => by cases h)
    refine And.intro rfl (And.intro rfl (And.intro rfl ⟨xs, a + k, e, rfl, rfl, hw', fun h => ?_, fun h => And.intro (Nat.le_refl _) ?_⟩))
    · exact hX _ (if_pos h)
    rw [if_neg (by omega)] at hX hQ
    have ho := hw.1.at (a + k).toNat
    generalize xs.getD (a + k).toNat 0 = o at ho hX hQ ⊢
    have hm := b127 o
    have hpow : (128 : Int) ^ k = 2 ^ (7 * k) := by rw [Int.pow_mul]; rfl
    have hlt : acc + o % 128 * 128 ^ k < 128 ^ (k + 1) := by
      rw [Int.pow_succ, Int.mul_comm (128 ^ k)]
      have : o % 128 * 128 ^ k ≤ 127 * 128 ^ k := Int.mul_le_mul_of_nonneg_right (by (clear hk hk5 h0 h1 hae h ho hX hQ hm hpow; omega)) (by exact Int.natCast_nonneg _)
      (clear hk hk5 h0 hae h ho hX hQ hm hpow; omega)
    have hnn : 0 ≤ acc + o % 128 * 128 ^ k := by
      have : 0 ≤ o % 128 * 128 ^ k := Int.mul_nonneg (by exact Int.emod_nonneg _ (by decide)) (by exact Int.natCast_nonneg _)
      exact Int.add_nonneg h0 this
    have hsh : ((7 * (k : Int)).toNat) = 7 * k := by exact rfl
    have hX1 : 4294967296 ≤ acc + o % 128 * 128 ^ k → XQ (Str.ofString "integer too large") := fun hh => hX _ (if_pos hh)
    refine sandP (fun c1 => ?_) (fun c1 c2 => ?_) (fun c1 => ?_)
    · (clear hk h0 h1 hae h ho hX hQ hm hpow hlt hnn hsh hX1 c1; omega)
    · have c1 := of_decide_eq_true c1
      obtain rfl : k = 4 := by (clear hk h0 h1 hae h ho hX hQ hm hpow hlt hnn hsh hX1 c2; omega)
      have c2 : ¬ (Builtin.bitAnd o 127 / 2 ^ 4 = 0) := by simpa using c2
      exact hX1 (by (clear ho hk hk5 h1 hae h hX hQ hpow hlt hnn hsh hX1 c1; omega))
    have hsm : ¬ 4294967296 ≤ acc + o % 128 * 128 ^ k := by
      by_cases hk4 : k = 4
      · subst hk4
        have c2 : Builtin.bitAnd o 127 / 2 ^ 4 = 0 := by simpa using c1 (by decide)
        (clear h0 ho hk hk5 hae h hX hQ hpow hlt hnn hsh hX1 c1; omega)
      · have : (128 : Int) ^ (k + 1) ≤ 268435456 := by
          have : k = 0 ∨ k = 1 ∨ k = 2 ∨ k = 3 := by (clear hk h0 h1 hae h ho hX hQ hm hpow hlt hnn hsh hX1 c1; omega)
          rcases this with rfl | rfl | rfl | rfl <;> decide
        (clear hk hk5 h0 h1 hae h ho hX hQ hm hpow hnn hsh hX1 c1 hk4; omega)
    rw [if_neg hsm] at hX hQ
    clear hX1
    refine sand (fun c1 c2 => ?_) (fun c1 => ?_)
    · have c1 := of_decide_eq_true c1
      have c2 := of_decide_eq_true c2
      exact hX _ (by rw [if_pos c2, if_pos (by (clear hk h0 h1 hae h ho hX hQ hm hpow hlt hnn hsh hsm c2; omega))])
    have hsv : acc + Builtin.bitAnd o 127 * 2 ^ (7 * (k : Int)).toNat = acc + o % 128 * 128 ^ k := by rw [hm, hsh, hpow]
    refine And.intro (by exact Int.natCast_nonneg _) (And.intro (by (clear hk h0 h1 hae h ho hX hQ hm hpow hlt hnn hsh hsm c1 hsv; omega)) (And.intro (by (clear hk hk5 h0 h1 hae h ho hX hQ hpow hlt hnn hsh hsm c1 hsv; omega)) (And.intro (fun c => ?_) (fun c => ?_))))
    · have c := of_decide_eq_true c
      rw [if_neg (by exact Int.not_le.mpr c)] at hQ
      have := hQ _ _ rfl
      rw [← hsv] at this
      exact And.intro rfl this
    · have c := of_decide_eq_false c
      rw [if_pos (by omega)] at hX hQ
      have hk4 : ¬ k + 1 = 5 := fun hk4 => by
        have := c1 (decide_eq_true (by (clear hk hk5 h0 h1 hae h ho hX hQ hm hpow hlt hnn hsh hsm c1 hsv c; omega)))
        simp at this; exact absurd this c
      rw [if_neg hk4] at hX hQ
      rw [← hsv] at hX hQ hlt hnn
      exact u_loop hw n (k + 1) _ (7 * k + 7) (a + k + 1) _ rfl rfl (by (clear hk5 h0 h1 hae h ho hX hQ hm hpow hlt hnn hsh hsm c1 hsv c hk4; omega)) (by exact Nat.lt_of_le_of_ne hk5 hk4) hnn hlt (by exact rfl) (by (clear hk hk5 h0 h1 hae h ho hX hQ hm hpow hlt hnn hsh hsm c1 hsv c hk4; omega)) (by exact h) hX hQ
theorem v6 (h : f6 vs obs q XQ) : vcF (Gam 7) p124 w124 vs obs q XQ := by
  obtain ⟨xs, a, e, rfl, rfl, hw, h1, h2⟩ := h
  refine And.intro rfl (And.intro (by show 3 ≤ 1000; decide) (And.intro rfl ⟨5, ?_⟩))
  exact u_loop hw 5 0 0 0 a _ rfl rfl rfl (by decide) (by decide) (by decide) rfl (by simp) hw.2.2.1 h1 h2
end Mine
end

section
open PySem PySem.W PyProof.Rows PySem.Calls
set_option linter.unusedVariables false
namespace Mine
variable {vs : List V} {obs : List Ob} {q : V → List Ob → Prop} {XQ : Str → Prop}
theorem cut_nn {α : Type} (xs : List α) {lo hi : Int} (h1 : 0 ≤ lo) (h2 : 0 ≤ hi) : cut xs lo hi = (xs.take hi.toNat).drop lo.toNat := by
  unfold cut clampI
  rw [if_neg (by exact Int.not_lt_of_ge h1), if_neg (by exact Int.not_lt_of_ge h2)]
  have e1 : xs.take (min hi.toNat xs.length) = xs.take hi.toNat := by
    rcases Nat.le_total hi.toNat xs.length with h | h
    · rw [Nat.min_eq_left h]
    · rw [Nat.min_eq_right h, List.take_of_length_le h, List.take_of_length_le (Nat.le_refl _)]
  rw [e1]
  rcases Nat.le_total lo.toNat xs.length with h | h
  · rw [Nat.min_eq_left h]
  · rw [Nat.min_eq_right h, List.drop_eq_nil_of_le (by rw [List.length_take]; omega), List.drop_eq_nil_of_le (by rw [List.length_take]; omega)]
theorem cut_len {α : Type} (xs : List α) {lo hi : Int} (h1 : 0 ≤ lo) (h2 : 0 ≤ hi) : (cut xs lo hi).length = min hi.toNat xs.length - lo.toNat := by
  rw [cut_nn xs h1 h2, List.length_drop, List.length_take]
theorem cut_mem {α : Type} {xs : List α} {lo hi : Int} {x : α} (h : x ∈ cut xs lo hi) : x ∈ xs := List.mem_of_mem_take (List.mem_of_mem_drop h)
theorem Good.cut {xs : List Int} (h : Good xs) (lo hi : Int) : Good (cut xs lo hi) := by
  refine ⟨fun x hx => h.1 x (cut_mem hx), ?_⟩
  have := h.2
  unfold Mine.cut
  rw [List.length_drop, List.length_take]
  omega
theorem v7 (h : f7 vs obs q XQ) : vcF (Gam 8) p138 w138 vs obs q XQ := by
  obtain ⟨xs, a, e, rfl, rfl, hw, h1, h2⟩ := h
  exact And.intro rfl (And.intro rfl (And.intro rfl (And.intro rfl ⟨xs, a, e, rfl, rfl, hw, h1, fun m b h => And.intro (Nat.le_refl _) (And.intro rfl (h2 m b h))⟩)))
theorem b31' {o : Int} {P : Int → Prop} (h : P (o % 32)) : P (Builtin.bitAnd o 31) := by rw [b31]; exact h
theorem scmp2 {c1 c2 : Bool} {T E : Prop} (ht : c1 = true → c2 = true → T) (he : (c1 = true → c2 = false) → E) : (c1 = true → (c2 = true → T) ∧ (c2 = false → E)) ∧ (c1 = false → (false = true → T) ∧ (false = false → E)) := sand ht he
theorem v9 (h : f9 vs obs q XQ) : vcF (Gam 9) p187 w187 vs obs q XQ := by
  obtain ⟨o, a, rfl, rfl, ho, h1, h2, h3, h4, h5⟩ := h
  refine And.intro rfl (And.intro (fun c => ?_) (fun c => ?_))
  · exact And.intro (by show 3 ≤ 1000; decide) (And.intro rfl (h1 (of_decide_eq_true c)))
  have c := of_decide_eq_false c
  refine sand (fun c1 c2 => ?_) (fun c1 => ?_)
  · have := h2 ⟨of_decide_eq_true c1, of_decide_eq_true c2⟩
    rw [← b31] at this
    exact And.intro (by show 3 ≤ 1000; decide) (And.intro rfl this)
  have c1 : 192 ≤ o → ¬ o < 224 := fun h => of_decide_eq_false (c1 (decide_eq_true h))
  refine sand (fun c1 c2 => ?_) (fun c2 => ?_)
  · have := h3 ⟨of_decide_eq_true c1, of_decide_eq_true c2⟩
    rw [← b15] at this
    exact And.intro (by show 3 ≤ 1000; decide) (And.intro rfl this)
  have c2 : 224 ≤ o → ¬ o < 240 := fun h => of_decide_eq_false (c2 (decide_eq_true h))
  refine sand (fun c1 c2 => ?_) (fun c3 => ?_)
  · have := h4 ⟨of_decide_eq_true c1, of_decide_eq_true c2⟩
    rw [← b7] at this
    exact And.intro (by show 3 ≤ 1000; decide) (And.intro rfl this)
  have c3 : 240 ≤ o → ¬ o < 248 := fun h => of_decide_eq_false (c3 (decide_eq_true h))
  exact h5 (by (clear ho h1 h2 h3 h4 h5; omega))
end Mine
end

section
open PySem PySem.W PyProof.Rows PySem.Calls
set_option linter.unusedVariables false
namespace Mine
variable {vs : List V} {obs : List Ob} {q : V → List Ob → Prop} {XQ : Str → Prop}
noncomputable abbrev badP (p ls : Int) : Prop := p < ls ∨ 1114112 ≤ p ∨ (55296 ≤ p ∧ p < 57344)
noncomputable def LT (xs : List Int) (b a fo p ls : Int) : List (Nat × V) := [(1, sB xs), (8, sI b), (14, .ref 0), (2, sI a), (11, sI fo), (12, sI p), (13, sI ls)]
theorem t_for {xs : List Int} {b a fo ls : Int} {ds : List D} {R : V → St → Prop} {N : St → Prop} : ∀ (ms : List Int) (p : Int) (σ : St), keepOk 0 [1, 8, 14, 2, 11, 12, 13] 1 σ = true → σ.keep [1, 8, 14, 2, 11, 12, 13] 1 = ⟨LT xs b a fo p ls, [.lst ds]⟩ →
    0 ≤ p → (p + 1) * 64 ^ ms.length ≤ 2 ^ 60 → ((∃ o ∈ ms, o / 64 ≠ 2) → XQ (Str.ofString wT)) → (∀ x ∈ ms, 0 ≤ x ∧ x < 256) → ((∀ o ∈ ms, o / 64 = 2) → N ⟨LT xs b a fo (ptP p ms) ls, [.lst ds]⟩) →
    fl 0 [9] [1, 8, 14, 2, 11, 12, 13] 1 (fun σ1 N1 => vcSs (Gam 10) 0 XQ (bodyOf (nthS (bodyOf (nthS w195 1)) 2)) σ1 N1 R) N (ms.map D.int) σ
  | [], p, σ, hk, hσ, h0, hb, hX, hg, hN => by
    refine And.intro hk ?_
    rw [hσ]
    exact hN fun _ h => by cases h
  | o :: ms, p, σ, hk, hσ, h0, hb, hX, hg, hN => by
    refine And.intro hk ?_
    rw [hσ]
    have ho := hg o (.head _)
    have h192 := b192 ho
    have h6 := bOr6 p o
    have hb1 : (p + 1) * 64 * 64 ^ ms.length ≤ 2 ^ 60 := by rw [List.length_cons, Int.pow_succ, Int.mul_comm (64 ^ ms.length)] at hb; rw [Int.mul_assoc]; exact hb
    have hpp : 0 < (64 : Int) ^ ms.length := Int.pow_pos (by decide)
    have hle : (p + 1) * 64 ≤ (p + 1) * 64 * 64 ^ ms.length := by
      have := Int.mul_le_mul_of_nonneg_left (a := 1) (b := 64 ^ ms.length) (c := (p + 1) * 64) (by exact hpp) (by (clear hk hσ hb hX hg hN ho h192 h6 hb1 hpp; omega))
      (clear hk hσ h0 hb hX hg hN ho h192 h6 hb1 hpp; omega)
    refine And.intro (fun c => ?_) (fun c => ?_)
    · have c : ¬ Builtin.bitAnd o 192 = 128 := by simpa using c
      exact hX ⟨o, .head _, fun h => c (h192.mpr h)⟩
    · have c : Builtin.bitAnd o 192 = 128 := by simpa using c
      have ho2 := h192.mp c
      refine And.intro (by decide) (And.intro (by decide) (And.intro (by (clear hk hσ hb hX hg hN ho h192 h6 hpp c ho2; omega)) ?_))
      refine t_for ms (Builtin.bitOr (p * 2 ^ 6) (Builtin.bitAnd o 63)) _ rfl rfl (by rw [h6]; (clear hk hσ hb hX hg hN ho h192 h6 hb1 hpp hle c ho2; omega)) (by
        rw [h6]
        have : 64 * p + o % 64 + 1 ≤ (p + 1) * 64 := by (clear hk hσ h0 hb hX hg hN ho h192 h6 hb1 hpp hle c ho2; omega)
        have := Int.mul_le_mul_of_nonneg_right this (c := 64 ^ ms.length) (by exact Int.natCast_nonneg _)
        exact Int.le_trans this hb1) (fun ⟨x, hx, h⟩ => hX ⟨x, .tail _ hx, h⟩) (fun x hx => hg x (.tail _ hx)) (fun h => ?_)
      rw [h6]
      refine hN fun x hx => ?_
      rcases List.mem_cons.mp hx with rfl | hx
      · exact ho2
      · exact h x hx
noncomputable def dropS : Nat → Ss → Ss
  | 0, s => s
  | n + 1, .cons _ r => dropS n r
  | _, .nil => .nil
theorem sor3z {c1 c2 z z' : Bool} {T E : Prop} (ht : c1 = true ∨ c2 = true ∨ (z = true ∧ z' = true) → T) (he : c1 = false → c2 = false → (z = true → z' = false) → E) :
    (c1 = true → (true = true → T) ∧ (true = false → E)) ∧ (c1 = false → (c2 = true → (true = true → T) ∧ (true = false → E)) ∧ (c2 = false → (z = true → (z' = true → T) ∧ (z' = false → E)) ∧ (z = false → (false = true → T) ∧ (false = false → E)))) :=
  ⟨fun h => ⟨fun _ => ht (.inl h), fun k => Bool.noConfusion k⟩, fun h => ⟨fun h' => ⟨fun _ => ht (.inr (.inl h')), fun k => Bool.noConfusion k⟩, fun h' => sand (fun a b => ht (.inr (.inr ⟨a, b⟩))) (he h h')⟩⟩
theorem ptP_ge : ∀ (ms : List Int) (p : Int), 0 ≤ p → p * 64 ^ ms.length ≤ ptP p ms
  | [], p, h => by show p * 64 ^ 0 ≤ p; omega
  | o :: ms, p, h => by
    have := ptP_ge ms (64 * p + o % 64) (by omega)
    have h2 := Int.mul_le_mul_of_nonneg_right (show p * 64 ≤ 64 * p + o % 64 by (clear h this; omega)) (Int.le_of_lt (Int.pow_pos (n := 64) (m := ms.length) (by decide)))
    rw [List.length_cons, Int.pow_succ, Int.mul_comm (64 ^ ms.length), ← Int.mul_assoc]
    exact Int.le_trans h2 this
theorem t_tail {xs : List Int} {b a fo p ls : Int} {ds : List D} {R : V → St → Prop} {N : St → Prop} (σ : St) (hσ : σ = ⟨LT xs b a fo p ls, [.lst ds]⟩) (hg : Good xs) (ha : 0 ≤ a) (hax : a < xs.length) (hf : 0 ≤ fo ∧ fo ≤ 3) (hp : 0 ≤ p ∧ p < 128) (hd : ds.length ≤ 1000)
    (hX : xs.length ≤ a + fo ∨ (∃ o ∈ cut xs (a + 1) (a + 1 + fo), o / 64 ≠ 2) ∨ badP (ptP p (cut xs (a + 1) (a + 1 + fo))) ls → XQ (Str.ofString wT))
    (hN : a + fo < xs.length → (∀ o ∈ cut xs (a + 1) (a + 1 + fo), o / 64 = 2) → ¬ badP (ptP p (cut xs (a + 1) (a + 1 + fo))) ls → N ⟨LT xs b (a + 1 + fo) fo (ptP p (cut xs (a + 1) (a + 1 + fo))) ls, [.lst (ds ++ [.str ⟨#[(ptP p (cut xs (a + 1) (a + 1 + fo))).toNat]⟩])]⟩) :
    vcSs (Gam 10) 0 XQ (dropS 1 (bodyOf (nthS w195 1))) σ N R := by
  subst hσ
  have hl := hg.2
  have hml : (cut xs (a + 1) (a + 1 + fo)).length ≤ 3 := by rw [cut_len _ (by exact Int.le_add_one ha) (by omega)]; omega
  refine And.intro (by exact Nat.le_add_left_of_le hl) (And.intro (fun c => ?_) (fun c => ?_))
  · exact hX (.inl (of_decide_eq_true c))
  have c : ¬ (xs.length : Int) ≤ a + fo := of_decide_eq_false c
  refine And.intro (by exact Nat.le_add_left_of_le hl) ?_
  refine t_for _ p _ rfl rfl hp.1 ?_ (fun h => hX (.inr (.inl h))) (fun x hx => hg.1 x (cut_mem hx)) (fun h2 => ?_)
  · generalize (cut xs (a + 1) (a + 1 + fo)).length = n at hml
    have : n = 0 ∨ n = 1 ∨ n = 2 ∨ n = 3 := by (clear ha hax hf hp hd hX hN hl c; omega)
    rcases this with rfl | rfl | rfl | rfl <;> simp <;> omega
  have hz := ptP_ge (cut xs (a + 1) (a + 1 + fo)) p hp.1
  have hz : 0 ≤ ptP p (cut xs (a + 1) (a + 1 + fo)) := Int.le_trans (Int.mul_nonneg hp.1 (Int.le_of_lt (Int.pow_pos (by decide)))) hz
  generalize ptP p (cut xs (a + 1) (a + 1 + fo)) = z at hX hN hz ⊢
  refine sor3z (fun h => hX (.inr (.inr ?_))) (fun c1 c2 c3 => ?_)
  · rcases h with h | h | ⟨h, h'⟩
    · exact .inl (of_decide_eq_true h)
    · have := of_decide_eq_true h
      exact .inr (.inl (by exact this))
    · exact .inr (.inr ⟨of_decide_eq_true h, of_decide_eq_true h'⟩)
  have c1 := of_decide_eq_false c1
  have c2 := of_decide_eq_false c2
  have c3 : 55296 ≤ z → ¬ z < 57344 := fun h => of_decide_eq_false (c3 (decide_eq_true h))
  refine And.intro rfl (And.intro ⟨hz, by exact Int.not_lt.mp c2⟩ (And.intro (by exact Nat.le_add_left_of_le hd) ?_))
  exact hN (by exact Int.lt_of_not_ge c) h2 (fun h => by unfold badP at h; (clear ha hax hf hp hd hl hml c h2 hX hN hz; omega))
theorem stepP_of {xs : List Int} {a w : Int} (hw : widthP (xs.getD a.toNat 0) = w) (h1 : 1 ≤ w) (ha : 0 ≤ a) (hax : a < xs.length) : stepP xs a = if (xs.length : Int) < a + w ∨ (∃ o ∈ cut xs (a + 1) (a + w), o / 64 ≠ 2) ∨ badP (ptP (xs.getD a.toNat 0 % baseP w) (cut xs (a + 1) (a + w))) (leastP w) then none else some (ptP (xs.getD a.toNat 0 % baseP w) (cut xs (a + 1) (a + w)), w) := by
  unfold stepP
  dsimp only
  rw [hw]
  have hl : (((cut xs (a + 1) (a + w)).length : Int) ≠ w - 1) ↔ (xs.length : Int) < a + w := by rw [cut_len _ (by exact Int.le_add_one ha) (by (clear hw hax; omega))]; (clear hw; omega)
  by_cases c1 : w = 0 ∨ ((cut xs (a + 1) (a + w)).length : Int) ≠ w - 1 ∨ ∃ o ∈ cut xs (a + 1) (a + w), o / 64 ≠ 2
  · rw [if_pos c1, if_pos]
    rcases c1 with c1 | c1 | c1
    · omega
    · exact .inl (hl.mp c1)
    · exact .inr (.inl c1)
  · rw [if_neg c1]
    by_cases c2 : badP (ptP (xs.getD a.toNat 0 % baseP w) (cut xs (a + 1) (a + w))) (leastP w)
    · rw [if_pos (c := (xs.length : Int) < a + w ∨ _) (.inr (.inr c2))]
      exact if_pos c2
    · have c3 : ¬ ((xs.length : Int) < a + w ∨ (∃ o ∈ cut xs (a + 1) (a + w), o / 64 ≠ 2) ∨ badP (ptP (xs.getD a.toNat 0 % baseP w) (cut xs (a + 1) (a + w))) (leastP w)) := fun h => by
        rcases h with h | h | h
        · exact c1 (.inr (.inl (hl.mpr h)))
        · exact c1 (.inr (.inr h))
        · exact c2 h
      rw [if_neg c3]
      exact if_neg c2
theorem stepP_no {xs : List Int} {a : Int} (hw : widthP (xs.getD a.toNat 0) = 0) : stepP xs a = none := by
  unfold stepP
  dsimp only
  rw [hw]
  exact if_pos (.inl rfl)
end Mine
end

section
open PySem PySem.W PyProof.Rows PySem.Calls
set_option linter.unusedVariables false
namespace Mine
variable {vs : List V} {obs : List Ob} {q : V → List Ob → Prop} {XQ : Str → Prop}
theorem vc_join {Γ : Nat → FSpec} {n k : Nat} {σ : St} {q : V → St → Prop} {ds : List D} {ss : List Str} (h1 : getN n σ.loc = some (.ref k)) (h2 : σ.obs[k]? = some (.lst ds)) (h3 : strsD ds = some ss) (h4 : (joinS ss).length ≤ 1000000) (h5 : q (.d (.str (joinS ss))) σ) : vcX Γ XQ (.join (.loc n)) σ q := by
  show (match getN n σ.loc with
    | some v => (match view σ v with
      | some (.lst ds) => (match strsD ds with
        | some xs => (joinS xs).length ≤ 1000000 ∧ q (.d (.str (joinS xs))) σ
        | none => False)
      | _ => False)
    | none => False)
  rw [h1]
  have hv : view σ (.ref k) = some (.lst ds) := by
    show (match σ.obs[k]? with
      | some (.il xs) => some (Mine.D.il xs)
      | some (.lst ds) => some (Mine.D.lst ds)
      | _ => none) = _
    rw [h2]
  show (match view σ (.ref k) with
      | some (.lst ds) => (match strsD ds with
        | some xs => (joinS xs).length ≤ 1000000 ∧ q (.d (.str (joinS xs))) σ
        | none => False)
      | _ => False)
  rw [hv]
  show (match strsD ds with
        | some xs => (joinS xs).length ≤ 1000000 ∧ q (.d (.str (joinS xs))) σ
        | none => False)
  rw [h3]
  exact ⟨h4, h5⟩
noncomputable def chrD (n : Nat) : D := .str ⟨#[n]⟩
theorem strsD_chr : ∀ l : List Nat, strsD (l.map chrD) = some (l.map fun n => ⟨#[n]⟩)
  | [] => rfl
  | n :: l => by
    show (strsD (l.map chrD)).map _ = _
    rw [strsD_chr l]; rfl
theorem joinS_chr (l : List Nat) : joinS (l.map fun n => ⟨#[n]⟩) = ⟨l.toArray⟩ := by
  unfold joinS
  congr 2
  induction l with
  | nil => rfl
  | cons n l ih => rw [List.map_cons, List.flatMap_cons, ih]; rfl
theorem t_loop {xs : List Int} {b : Int} {NN : St → Prop} (hg : Good xs) : ∀ (n : Nat) (a : Int) (acc : List Nat) (σ : St), keepOk 0 [1, 8, 14, 2] 1 σ = true → σ.keep [1, 8, 14, 2] 1 = ⟨[(1, sB xs), (8, sI b), (14, .ref 0), (2, sI a)], [.lst (acc.map chrD)]⟩ →
    0 ≤ a → acc.length ≤ a → a ≤ xs.length → xs.length ≤ a + n → (txtP xs n a = none → XQ (Str.ofString wT)) → (∀ l, txtP xs n a = some l → q (.d (.str ⟨(acc ++ l).toArray⟩)) []) →
    wl (Gam 10) 0 XQ (condOf (nthS w195 1)) [1, 8, 14, 2] 1 (fun σ1 N1 => vcSs (Gam 10) 0 XQ (bodyOf (nthS w195 1)) σ1 N1 (fun v σ => q v σ.obs)) (fun σ1 => vcSs (Gam 10) 0 XQ (dropS 2 w195) σ1 NN (fun v σ => q v σ.obs)) (n + 1) σ := by
  intro n
  induction n with
  | zero =>
    intro a acc σ hk hσ h0 hacc hax hn hX hQ
    have hl := hg.2
    refine And.intro hk ?_
    rw [hσ]
    refine And.intro (by exact Nat.le_add_left_of_le hl) (And.intro (fun c => ?_) (fun c => ?_))
    · have := of_decide_eq_true c; (clear hk hσ h0 hacc hax hX hQ hl c; omega)
    · have := hQ [] rfl
      rw [List.append_nil] at this
      show vcX (Gam 10) XQ (.join (.loc 14)) ⟨[(1, sB xs), (8, sI b), (14, .ref 0), (2, sI a)], [.lst (acc.map chrD)]⟩ fun v σ1 => (belowOk 0 (0 + 0) [] σ1.obs && (refsV v).all fun i => Nat.blt i (0 + 0)) = true ∧ q v (σ1.obs.take (0 + 0))
      refine vc_join (k := 0) rfl rfl (strsD_chr acc) ?_ ?_
      · rw [joinS_chr]; show acc.toArray.size ≤ _; simp; (clear hk hσ h0 hn hX hQ c; omega)
      · rw [joinS_chr]; exact And.intro rfl this
  | succ n ih =>
    intro a acc σ hk hσ h0 hacc hax hn hX hQ
    have hl := hg.2
    refine And.intro hk ?_
    rw [hσ]
    clear hk hσ
    refine And.intro (by exact Nat.le_add_left_of_le hl) (And.intro (fun c => ?_) (fun c => ?_))
    · have c : a < xs.length := of_decide_eq_true c
      refine And.intro ⟨h0, c, by exact Nat.le_add_left_of_le hl⟩ fun x hx => ?_
      have ho := hg.at a.toNat
      have hxe := getD_eq hx
      unfold txtP at hX hQ
      rw [if_neg (by omega)] at hX hQ
      have key : ∀ fo p ls : Int, 0 ≤ fo → fo ≤ 3 → 0 ≤ p → p < 128 → ((widthP x = fo + 1 ∧ p = x % baseP (fo + 1) ∧ ls = leastP (fo + 1)) ∨ (widthP x = 0 ∧ ∀ ms : List Int, (∀ o ∈ ms, o / 64 = 2) → (ms.length : Int) = fo → badP (ptP p ms) ls)) →
          vcSs (Gam 10) 0 XQ (dropS 1 (bodyOf (nthS w195 1))) ⟨LT xs b a fo p ls, [.lst (acc.map chrD)]⟩ (wl (Gam 10) 0 XQ (condOf (nthS w195 1)) [1, 8, 14, 2] 1 (fun σ1 N1 => vcSs (Gam 10) 0 XQ (bodyOf (nthS w195 1)) σ1 N1 (fun v σ => q v σ.obs)) (fun σ1 => vcSs (Gam 10) 0 XQ (dropS 2 w195) σ1 NN (fun v σ => q v σ.obs)) (n + 1)) (fun v σ => q v σ.obs) := by
        intro fo p ls f0 f3 p0 p1 hh
        rw [← hxe] at hh
        rcases hh with ⟨hw, rfl, rfl⟩ | ⟨hw, hb⟩
        · have hs := stepP_of hw (by exact Int.lt_add_one_of_le f0) h0 c
          rw [show a + (fo + 1) = a + 1 + fo by (clear ih h0 hacc hax hn hl c hx ho hxe hX hQ f0 f3 hw p0 p1 hs; omega)] at hs
          refine t_tail _ rfl hg h0 c ⟨f0, f3⟩ ⟨p0, p1⟩ (by rw [List.length_map]; (clear ih h0 hax hn hx ho hxe hX hQ f0 f3 hw p0 p1 hs; omega)) (fun h => hX ?_) (fun c1 c2 c3 => ?_)
          · rw [hs, if_pos]
            rcases h with h | h
            · exact .inl (by (clear ih h0 hacc hax hn hl c hx ho hxe hX hQ f0 f3 hw p0 p1 hs; omega))
            · exact .inr h
          · have hn' : ¬ ((xs.length : Int) < a + 1 + fo ∨ (∃ o ∈ cut xs (a + 1) (a + 1 + fo), o / 64 ≠ 2) ∨ badP (ptP (xs.getD a.toNat 0 % baseP (fo + 1)) (cut xs (a + 1) (a + 1 + fo))) (leastP (fo + 1))) := fun h => by
              rcases h with h | ⟨o, h, h'⟩ | h
              · (clear ih h0 hacc hax hn hl c hx ho hxe hX hQ f0 f3 hw p0 p1 hs c2 c3; omega)
              · exact h' (c2 o h)
              · exact c3 h
            rw [if_neg hn'] at hs
            rw [hs] at hX hQ
            dsimp only at hX hQ
            rw [show a + (fo + 1) = a + 1 + fo by omega] at hX hQ
            generalize ptP (xs.getD a.toNat 0 % baseP (fo + 1)) (cut xs (a + 1) (a + 1 + fo)) = z at hX hQ ⊢
            refine ih (a + 1 + fo) (acc ++ [z.toNat]) _ rfl ?_ (by (clear ih h0 hax hn hl c hx ho hxe f3 hw p0 p1 hs c1 c2 c3 hn' hX hQ; omega)) (by rw [List.length_append]; simp; (clear ih h0 hax hn hl c hx ho hxe f3 hw p0 p1 hs c1 c2 c3 hn' hX hQ; omega)) (by (clear ih h0 hacc hax hn hl c hx ho hxe f0 f3 hw p0 p1 hs c1 c2 c3 hX hQ; omega)) (by (clear ih h0 hacc hax hl c hx ho hxe f3 hw p0 p1 hs c1 c2 c3 hn' hX hQ; omega)) (fun h => hX (by rw [h]; rfl)) (fun l h => ?_)
            · rw [List.map_append]; rfl
            · rw [List.append_assoc]; exact hQ _ (by rw [h]; rfl)
        · have hs := stepP_no hw
          rw [hs] at hX
          have hX := hX rfl
          refine t_tail _ rfl hg h0 c ⟨f0, f3⟩ ⟨p0, p1⟩ (by rw [List.length_map]; (clear ih h0 hax hn hx ho hxe hQ f0 f3 p0 p1 hw hb hs; omega)) (fun h => hX) (fun c1 c2 c3 => ?_)
          exact absurd (hb _ c2 (by rw [cut_len _ (by omega) (by (clear ih h0 hax hn hl c hx ho hxe hQ f3 p0 p1 hw hb hs c1 c2 c3; omega))]; (clear ih h0 hax hn hl c hx ho hxe hQ f3 p0 p1 hw hb hs c2 c3; omega))) c3
      rw [hxe] at ho
      have hX0 : widthP x = 0 → XQ (Str.ofString wT) := fun h => hX (by rw [stepP_no (by rw [hxe]; exact h)])
      clear hX hQ ih
      refine And.intro rfl ⟨x, b + a, rfl, rfl, ho, fun h => ?_, fun h => ?_, fun h => ?_, fun h => ?_, fun h => ?_⟩
      · refine And.intro (Nat.le_refl _) (And.intro rfl (key 0 x 0 (by decide) (by decide) ho.1 h (.inl ⟨by unfold widthP; rw [if_pos h]; rfl, by show x = x % 128; (clear h0 hacc hax hn hl c hx hxe key hX0; omega), rfl⟩)))
      · refine And.intro (Nat.le_refl _) (And.intro rfl (key 1 (x % 32) 128 (by decide) (by decide) (by exact Int.emod_nonneg _ (by decide)) (by (clear h0 hacc hax hn hl c hx ho hxe key hX0 h; omega)) ?_))
        by_cases h2 : 194 ≤ x
        · refine .inl ⟨by unfold widthP; rw [if_neg (by (clear h0 hacc hax hn hl c hx ho hxe key hX0 h; omega)), if_pos ⟨h2, h.2⟩]; rfl, rfl, rfl⟩
        · refine .inr ⟨by unfold widthP; rw [if_neg (by (clear h0 hacc hax hn hl c hx ho hxe key hX0 h2; omega)), if_neg (by (clear h0 hacc hax hn hl c hx ho hxe key hX0 h; omega)), if_neg (by (clear h0 hacc hax hn hl c hx ho hxe key hX0 h; omega)), if_neg (by (clear h0 hacc hax hn hl c hx ho hxe key hX0 h; omega))], fun ms h4 h5 => .inl ?_⟩
          match ms, h5 with
          | [y], _ =>
            have := h4 y (.head _)
            show 64 * (x % 32) + y % 64 < 128
            (clear h0 hacc hax hn hl c hx ho hxe key hX0 h5 h4 this; omega)
      · refine And.intro (Nat.le_refl _) (And.intro rfl (key 2 (x % 16) 2048 (by decide) (by decide) (by exact Int.emod_nonneg _ (by decide)) (by (clear h0 hacc hax hn hl c hx ho hxe key hX0 h; omega)) (.inl ⟨by unfold widthP; rw [if_neg (by (clear h0 hacc hax hn hl c hx ho hxe key hX0; omega)), if_neg (by (clear h0 hacc hax hn hl c hx ho hxe key hX0; omega)), if_pos ⟨h.1, h.2⟩]; rfl, rfl, rfl⟩)))
      · refine And.intro (Nat.le_refl _) (And.intro rfl (key 3 (x % 8) 65536 (by decide) (by decide) (by exact Int.emod_nonneg _ (by decide)) (by (clear h0 hacc hax hn hl c hx ho hxe key hX0 h; omega)) ?_))
        by_cases h2 : x < 245
        · refine .inl ⟨by unfold widthP; rw [if_neg (by (clear h0 hacc hax hn hl c hx ho hxe key hX0 h2; omega)), if_neg (by (clear h0 hacc hax hn hl c hx ho hxe key hX0 h2; omega)), if_neg (by (clear h0 hacc hax hn hl c hx ho hxe key hX0 h2; omega)), if_pos ⟨h.1, h2⟩]; rfl, rfl, rfl⟩
        · refine .inr ⟨by unfold widthP; rw [if_neg (by (clear h0 hacc hax hn hl c hx ho hxe key hX0 h; omega)), if_neg (by (clear h0 hacc hax hn hl c hx ho hxe key hX0 h; omega)), if_neg (by (clear h0 hacc hax hn hl c hx ho hxe key hX0 h; omega)), if_neg (by (clear h0 hacc hax hn hl c hx ho hxe key hX0 h; omega))], fun ms h4 h5 => .inr (.inl ?_)⟩
          have := ptP_ge ms (x % 8) (by exact Int.emod_nonneg _ (by decide))
          have h6 : ms.length = 3 := by exact Int.ofNat_inj.mp h5
          rw [h6] at this
          have e : (64 : Int) ^ 3 = 262144 := by decide
          rw [e] at this
          (clear h0 hacc hax hn hl c hx ho hxe key hX0 h4 h5 h6 e; omega)
      · refine hX0 ?_
        unfold widthP
        rw [if_neg (by (clear h0 hacc hax hn hl c hx ho hxe key hX0; omega)), if_neg (by (clear h0 hacc hax hn hl c hx ho hxe key hX0; omega)), if_neg (by (clear h0 hacc hax hn hl c hx ho hxe key hX0; omega)), if_neg (by (clear h0 hacc hax hn hl c hx ho hxe key hX0; omega))]
    · have c : ¬ a < xs.length := of_decide_eq_false c
      unfold txtP at hQ
      rw [if_pos (by exact Int.not_lt.mp c)] at hQ
      have := hQ [] rfl
      rw [List.append_nil] at this
      show vcX (Gam 10) XQ (.join (.loc 14)) ⟨[(1, sB xs), (8, sI b), (14, .ref 0), (2, sI a)], [.lst (acc.map chrD)]⟩ fun v σ1 => (belowOk 0 (0 + 0) [] σ1.obs && (refsV v).all fun i => Nat.blt i (0 + 0)) = true ∧ q v (σ1.obs.take (0 + 0))
      refine vc_join (k := 0) rfl rfl (strsD_chr acc) ?_ ?_
      · rw [joinS_chr]; show acc.toArray.size ≤ _; simp; (clear ih h0 hn hX c hQ; omega)
      · rw [joinS_chr]; exact And.intro rfl this
theorem v10 (h : f10 vs obs q XQ) : vcF (Gam 10) p195 w195 vs obs q XQ := by
  obtain ⟨xs, b, rfl, rfl, hg, h1, h2⟩ := h
  refine And.intro rfl (And.intro (by show 2 ≤ 1000; decide) (And.intro rfl ⟨xs.length + 1, ?_⟩))
  refine t_loop hg xs.length 0 [] _ rfl rfl (by decide) (by decide) (by exact Int.natCast_nonneg _) (by omega) (fun h => h1 ?_) (fun l h => ?_)
  · unfold txt; rw [h]; rfl
  · exact h2 _ (by unfold txt; rw [h]; rfl)
end Mine
end

section
open PySem PySem.W PyProof.Rows PySem.Calls
set_option linter.unusedVariables false
namespace Mine
variable {vs : List V} {obs : List Ob} {q : V → List Ob → Prop} {XQ : Str → Prop}
theorem numP_ok {xs : List Int} {a e m b : Int} (hg : Good xs) : ∀ (n k : Nat) (acc : Int), 0 ≤ acc → numP xs a e n k acc = .ok (m, b) → 0 ≤ m ∧ a + k < b ∧ b ≤ e
  | 0, _, _, _, h => by cases h
  | n + 1, k, acc, h0, h => by
    unfold numP at h
    dsimp only at h
    have ho := hg.at (a + k).toNat
    have hp : 0 ≤ xs.getD (a + k).toNat 0 % 128 * 128 ^ k := Int.mul_nonneg (by exact Int.emod_nonneg _ (by decide)) (Int.le_of_lt (Int.pow_pos (by decide)))
    split at h
    · cases h
    split at h
    · cases h
    split at h
    · split at h
      · cases h
      · have := numP_ok hg n (k + 1) _ (by exact Int.add_nonneg h0 hp) h
        (clear h0 ho hp h; omega)
    · cases h
      omega
theorem num_ok {xs : List Int} {a e m b : Int} (hg : Good xs) (h : num xs a e = .ok (m, b)) : 0 ≤ m ∧ a < b ∧ b ≤ e := by
  have := numP_ok hg 5 0 0 (Int.le_refl _) h
  omega
theorem v8 (h : f8 vs obs q XQ) : vcF (Gam 11) p173 w173 vs obs q XQ := by
  obtain ⟨xs, a, e, rfl, rfl, hw, h1, h2⟩ := h
  refine And.intro rfl (And.intro rfl (And.intro rfl (And.intro rfl ⟨xs, a, e, rfl, rfl, hw, h1, fun m b hm => And.intro (Nat.le_refl _) ?_⟩)))
  obtain ⟨h3, h4⟩ := h2 m b hm
  have hn := num_ok hw.1 hm
  have hw' : WF xs b e := ⟨hw.1, by have := hw.2.1; omega, hn.2.2, hw.2.2.2⟩
  refine And.intro rfl (And.intro rfl (And.intro rfl ⟨xs, b, e, rfl, rfl, And.intro (Nat.le_refl _) (And.intro (fun c => ?_) (fun c => ?_))⟩))
  · exact h3 (of_decide_eq_true c)
  have c : ¬ e - b < m := of_decide_eq_false c
  obtain ⟨h5, h6⟩ := h4 (by exact Int.not_lt.mp c)
  refine And.intro rfl (And.intro rfl (And.intro rfl ⟨xs, b, e, m, rfl, rfl, hw', hn.1, fun h => absurd h c, fun _ => And.intro (Nat.le_refl _) (And.intro rfl ⟨_, b, rfl, rfl, hw.1.cut _ _, h5, fun s hs => And.intro (Nat.le_refl _) (And.intro rfl (h6 s hs))⟩)⟩))
theorem v11 (h : f11 vs obs q XQ) : vcF (Gam 12) p203 w203 vs obs q XQ := by
  obtain ⟨xs, rfl, rfl, hg, h1, h2⟩ := h
  have hl := hg.2
  unfold headP at h1 h2
  refine And.intro rfl ?_
  refine And.intro rfl (And.intro rfl (And.intro (by show 4 ≤ 1000000000; decide) (And.intro rfl ⟨xs, 0, xs.length, 4, rfl, rfl, ⟨hg, by exact Int.natCast_nonneg _, by exact Int.natCast_nonneg _, by exact Int.le_refl _⟩, by decide, fun h => ?_, fun h => And.intro (Nat.le_refl _) ?_⟩)))
  · exact h1 _ (if_pos (by exact Int.ofNat_lt.mp h))
  rw [if_neg (by omega)] at h1 h2
  have e1 : cut xs 0 (0 + 4) = xs.take 4 := by rw [cut_nn _ (by decide) (by decide)]; rfl
  rw [e1]
  refine And.intro (fun c => ?_) (fun c => ?_)
  · exact h1 _ (if_pos fun h => by rw [h] at c; exact absurd c (by decide))
  have c : xs.take 4 = [0, 97, 115, 109] := by simpa using c
  rw [if_neg (fun h => h c)] at h1 h2
  refine And.intro rfl (And.intro rfl (And.intro (by show 4 ≤ 1000000000; decide) (And.intro rfl ⟨xs, 4, xs.length, 4, rfl, rfl, ⟨hg, by exact Int.natCast_nonneg _, by exact h, by exact Int.le_refl _⟩, by decide, fun h => ?_, fun h => And.intro (Nat.le_refl _) ?_⟩)))
  · exact h1 _ (if_pos (by (clear h1 h2 hl e1 c; omega)))
  rw [if_neg (by omega)] at h1 h2
  have e2 : cut xs 4 (4 + 4) = (xs.drop 4).take 4 := by rw [cut_nn _ (by decide) (by decide), List.take_drop]; rfl
  rw [e2]
  refine And.intro (fun c => ?_) (fun c => ?_)
  · refine And.intro (by show 4 ≤ 1000000000; decide) (h1 _ (if_pos fun h => by rw [h] at c; exact absurd c (by decide)))
  have c : (xs.drop 4).take 4 = [1, 0, 0, 0] := by simpa using c
  rw [if_neg (fun h => h c)] at h2
  exact ⟨0, rfl, h2 rfl (by (clear h1 h2 hl e1 e2 c; omega))⟩
theorem v12 (h : f12 vs obs q XQ) : vcF (Gam 13) p210 w210 vs obs q XQ := by
  obtain ⟨xs, a, e, rfl, rfl, hw, h1, h2⟩ := h
  unfold custP at h1 h2
  refine And.intro rfl (And.intro rfl (And.intro rfl (And.intro rfl ⟨xs, a, e, rfl, rfl, hw, fun w hn => ?_, fun m b hn => ?_⟩)))
  · rw [hn] at h1; exact h1 _ rfl
  have hk := num_ok hw.1 hn
  rw [hn] at h1 h2
  dsimp only at h1 h2
  refine ⟨fun c => h1 _ (if_pos c), fun c => ?_⟩
  rw [if_neg (by omega)] at h1 h2
  refine ⟨fun ht => h1 _ (by rw [ht]), fun s hs => And.intro (Nat.le_refl _) ?_⟩
  rw [hs] at h2
  have hh := h2 _ _ rfl
  refine And.intro rfl (And.intro rfl (And.intro rfl (And.intro rfl (And.intro rfl ⟨xs, b + m, e, rfl, rfl, And.intro (Nat.le_refl _) (And.intro rfl ⟨xs, b + m, e, e - (b + m), rfl, rfl, ⟨hw.1, ?_, by omega, hw.2.2.2⟩, by omega, fun h => absurd h (by omega), fun _ => And.intro (Nat.le_refl _) (And.intro (by show 2 ≤ 1000; decide) (And.intro rfl ?_))⟩)⟩))))
  · have := hw.2.1; omega
  rw [show b + m + (e - (b + m)) = e by omega]
  exact hh
theorem v13 (h : f13 vs obs q XQ) : vcF (Gam 14) p231 w231 vs obs q XQ := by
  obtain ⟨xs, a, e, p, rfl, rfl, h⟩ := h
  refine And.intro rfl (And.intro rfl (And.intro rfl (And.intro rfl ⟨xs, a, e, rfl, rfl, And.intro (Nat.le_refl _) (And.intro rfl h)⟩)))
end Mine
end

section
open PySem PySem.W PyProof.Rows PySem.Calls
set_option linter.unusedVariables false
namespace Mine
variable {vs : List V} {obs : List Ob} {q : V → List Ob → Prop} {XQ : Str → Prop}
theorem vc_tindex {Γ : Nat → FSpec} {g n : Nat} {σ : St} {q : V → St → Prop} {i : Int} (hg : gVal g = .tup (ROW.map D.int)) (h1 : getN n σ.loc = some (sI i)) (h2 : i ∈ ROW) (h5 : q (sI (ROW.idxOf i)) σ) : vcX Γ XQ (.tindex (.glob g) (.loc n)) σ q := by
  show (match V.d (gVal g) with
    | .d (.tup ds) => (match intsD ds with
      | some ns => (match getN n σ.loc with
        | some w => (match w with
          | .d (.int i) => i ∈ ns ∧ ns.length ≤ 1000 ∧ q (.d (.int (ns.idxOf i))) σ
          | _ => False)
        | none => False)
      | none => False)
    | _ => False)
  rw [hg]
  show (match intsD (ROW.map D.int) with
      | some ns => (match getN n σ.loc with
        | some w => (match w with
          | .d (.int i) => i ∈ ns ∧ ns.length ≤ 1000 ∧ q (.d (.int (ns.idxOf i))) σ
          | _ => False)
        | none => False)
      | none => False)
  have e : intsD (ROW.map D.int) = some ROW := rfl
  rw [e]
  show (match getN n σ.loc with
        | some w => (match w with
          | .d (.int i) => i ∈ ROW ∧ ROW.length ≤ 1000 ∧ q (.d (.int (ROW.idxOf i))) σ
          | _ => False)
        | none => False)
  rw [h1]
  exact ⟨h2, by decide, h5⟩
noncomputable def thenOf : S → Ss
  | .sif _ t _ => t
  | _ => .nil
theorem row_memN : ∀ n : Nat, n < 13 → 0 < n → (n : Int) ∈ ROW := by decide
theorem row_mem {o : Int} (h0 : 0 < o) (h1 : o ≤ 12) : o ∈ ROW := by
  obtain ⟨n, rfl⟩ := Int.eq_ofNat_of_zero_le (Int.le_of_lt h0)
  exact row_memN n (by (clear h0; omega)) (by exact Int.ofNat_lt.mp h0)
theorem v14 (h : f14 vs obs q XQ) : vcF (Gam 15) p238 w238 vs obs q XQ := by
  obtain ⟨xs, a, p, rfl, rfl, hw, hax, h1, h2⟩ := h
  have ho := hw.1.at a.toNat
  have ha := hw.2.1
  refine And.intro rfl (And.intro rfl (And.intro rfl (And.intro rfl ⟨xs, a, xs.length, rfl, rfl, hw, fun h => absurd h (by exact Int.not_le.mpr hax), fun _ => And.intro (Nat.le_refl _) ?_⟩)))
  generalize xs.getD a.toNat 0 = o at ho h1 h2 ⊢
  show vcSs (Gam 15) 2 XQ (dropS 2 w238) ⟨[(0, .ref 0), (2, sI a), (19, sI o)], [walk p, cur xs (a + 1) xs.length]⟩ _ (fun v σ => q v σ.obs)
  refine And.intro (fun c => h1 (of_decide_eq_true c)) (fun c => ?_)
  have c : ¬ (12 < o) := of_decide_eq_false c
  obtain ⟨h3, h4⟩ := h2 (by exact Int.not_lt.mp c)
  refine And.intro rfl (And.intro rfl (And.intro rfl (And.intro rfl (And.intro rfl ⟨xs, a + 1, xs.length, rfl, rfl, ⟨hw.1, by exact Int.le_add_one ha, by omega, by exact Int.le_refl _⟩, h3, fun m b hn => And.intro (Nat.le_refl _) ?_⟩))))
  have hk := num_ok hw.1 hn
  obtain ⟨h5, h6⟩ := h4 m b hn
  refine And.intro rfl ⟨xs, b, xs.length, m, rfl, rfl, ⟨hw.1, by omega, by omega, by exact Int.le_refl _⟩, hk.1, h5, fun hm => And.intro (Nat.le_succ 1) ?_⟩
  show vcSs (Gam 15) 2 XQ (dropS 4 w238) ⟨[(0, .ref 0), (2, sI a), (19, sI o), (16, .ref 2)], [walk p, cur xs (b + m) xs.length, cur xs b (b + m)]⟩ _ (fun v σ => q v σ.obs)
  obtain ⟨h7, h8⟩ := h6 hm
  refine And.intro (fun c => ?_) (fun c => ?_)
  · have c : ¬ o = 0 := by simpa using c
    obtain ⟨h9, h10⟩ := h8 c
    show vcX (Gam 15) XQ (.tindex (.glob 2) (.loc 19)) ⟨[(0, .ref 0), (2, sI a), (19, sI o), (16, .ref 2)], [walk p, cur xs (b + m) xs.length, cur xs b (b + m)]⟩ fun v σ => vcSs (Gam 15) 2 XQ (dropS 1 (thenOf (nthS w238 4))) (σ.put 18 v) (fun σ => vcSs (Gam 15) 2 XQ (dropS 5 w238) σ _ (fun v σ => q v σ.obs)) (fun v σ => q v σ.obs)
    refine vc_tindex rfl rfl (row_mem (by (clear hax ha h1 h2 h3 h4 hn hk h5 h6 hm h7 h8 h9 h10; omega)) (by (clear hax ha ho h1 h2 h3 h4 hn hk h5 h6 hm h7 h8 c h9 h10; omega))) ?_
    generalize (List.idxOf o ROW : Int) = j at h9 h10 ⊢
    refine And.intro (fun c => h9 (of_decide_eq_true c)) (fun c => And.intro rfl ?_)
    exact And.intro (by show 2 ≤ 1000; decide) (And.intro rfl (h10 (by have := of_decide_eq_false c; exact Int.lt_of_not_ge this)))
  · have c : o = 0 := by simpa using c
    have := h7 c
    subst c
    exact And.intro (by show 2 ≤ 1000; decide) (And.intro rfl this)
end Mine
end

section
open PySem PySem.W PyProof.Rows PySem.Calls
set_option linter.unusedVariables false
namespace Mine
variable {vs : List V} {obs : List Ob} {q : V → List Ob → Prop} {XQ : Str → Prop}
theorem v29 (h : f29 vs obs q XQ) : 1 + vs.length ≤ p224.length ∧ vcF (Gam 16) p224 w224 (.ref obs.length :: vs ++ (([] : List Mine.D).drop (1 + vs.length + 0 - p224.length)).map .d) (obs ++ [.inst 1 []]) (fun v obs' => v = .d .none ∧ q (.ref obs.length) obs') XQ := by
  obtain ⟨xs, rfl, rfl, hg, h1, h2⟩ := h
  refine And.intro (by show 2 ≤ 2; decide) (And.intro rfl (And.intro rfl (.inl ⟨xs, rfl, rfl, hg.2, And.intro (Nat.zero_le _) (And.intro rfl ?_)⟩)))
  show vcSs (Gam 16) 1 XQ (dropS 1 w224) ⟨[(0, .ref 0), (1, sB xs)], [.inst 1 [(15, .ref 1)], cur xs 0 xs.length]⟩ _ _
  refine And.intro rfl (And.intro rfl ⟨xs, rfl, rfl, hg, h1, fun h3 h4 => And.intro (Nat.le_refl _) ⟨1, rfl, rfl, h2 h3 h4⟩⟩)
noncomputable def elseOf : S → Ss
  | .sif _ _ e => e
  | _ => .nil
theorem s_loop {xs : List Int} {NN : St → Prop} (hg : Good xs) : ∀ (n : Nat) (a p : Int) (acc : List D) (σ : St), keepOk 0 [1, 20, 5] 3 σ = true → σ.keep [1, 20, 5] 3 = ⟨[(1, sB xs), (20, .ref 0), (5, .ref 2)], [walk p, cur xs a xs.length, .lst acc]⟩ →
    0 ≤ a → a ≤ xs.length → acc.length ≤ a → xs.length ≤ a + n → (∀ w, dueP xs n a p acc = .error w → XQ (Str.ofString w)) → (∀ ds, dueP xs n a p acc = .ok ds → q (.d (.lst ds)) []) →
    wl (Gam 17) 0 XQ (condOf (nthS w252 1)) [1, 20, 5] 3 (fun σ1 N1 => vcSs (Gam 17) 0 XQ (bodyOf (nthS w252 1)) σ1 N1 (fun v σ => q v σ.obs)) (fun σ1 => vcSs (Gam 17) 0 XQ (dropS 2 w252) σ1 NN (fun v σ => q v σ.obs)) (n + 1) σ := by
  intro n
  induction n with
  | zero =>
    intro a p acc σ hk hσ h0 hax hacc hn hX hQ
    refine And.intro hk ?_
    rw [hσ]
    refine And.intro rfl (And.intro rfl (And.intro rfl ⟨xs, a, xs.length, p, rfl, rfl, And.intro (Nat.le_refl _) (And.intro (fun c => ?_) (fun c => ?_))⟩))
    · have : ¬ (xs.length : Int) ≤ a := by simpa using c
      (clear hk hσ h0 hax hacc hX hQ c; omega)
    · exact And.intro rfl (hQ acc rfl)
  | succ n ih =>
    intro a p acc σ hk hσ h0 hax hacc hn hX hQ
    have hl := hg.2
    refine And.intro hk ?_
    rw [hσ]
    clear hk hσ
    unfold dueP at hX hQ
    dsimp only at hX hQ
    refine And.intro rfl (And.intro rfl (And.intro rfl ⟨xs, a, xs.length, p, rfl, rfl, And.intro (Nat.le_refl _) (And.intro (fun c => ?_) (fun c => ?_))⟩))
    · have c : ¬ (xs.length : Int) ≤ a := by simpa using c
      rw [if_neg c] at hX hQ
      show vcSs (Gam 17) 0 XQ (bodyOf (nthS w252 1)) ⟨[(1, sB xs), (20, .ref 0), (5, .ref 2)], [walk p, cur xs a xs.length, .lst acc]⟩ _ (fun v σ => q v σ.obs)
      generalize ho : xs.getD a.toNat 0 = o at hX hQ
      refine And.intro rfl (And.intro rfl (And.intro rfl ⟨xs, a, p, rfl, rfl, ⟨hg, h0, hax, Int.le_refl _⟩, by exact Int.lt_of_not_ge c, ?_⟩))
      rw [ho]
      refine ⟨fun h => hX _ (if_pos h), fun h => ?_⟩
      rw [if_neg (by omega)] at hX hQ
      refine ⟨fun w hw => hX w (by rw [hw]), fun m b hm => ?_⟩
      have hk := num_ok hg hm
      rw [hm] at hX hQ
      dsimp only at hX hQ
      refine ⟨fun h => hX _ (if_pos h), fun h => ?_⟩
      rw [if_neg (by omega)] at hX hQ
      have body : ∀ p' : Int, (∀ r, custP xs b (b + m) = r → o = 0 → (∀ w, r = .error w → XQ (Str.ofString w)) ∧ (∀ d, r = .ok d → (∀ w, dueP xs n (b + m) p' (acc ++ [d]) = .error w → XQ (Str.ofString w)) ∧ (∀ ds, dueP xs n (b + m) p' (acc ++ [d]) = .ok ds → q (.d (.lst ds)) []))) →
          (o ≠ 0 → (∀ w, dueP xs n (b + m) p' (acc ++ [.tup [.int o, .none, .bytes (cut xs b (b + m))]]) = .error w → XQ (Str.ofString w)) ∧ (∀ ds, dueP xs n (b + m) p' (acc ++ [.tup [.int o, .none, .bytes (cut xs b (b + m))]]) = .ok ds → q (.d (.lst ds)) [])) →
          vcSs (Gam 17) 0 XQ (dropS 1 (bodyOf (nthS w252 1))) ⟨[(1, sB xs), (20, .ref 0), (5, .ref 2), (19, sI o), (16, .ref 3)], [walk p', cur xs (b + m) xs.length, .lst acc, cur xs b (b + m)]⟩
            (wl (Gam 17) 0 XQ (condOf (nthS w252 1)) [1, 20, 5] 3 (fun σ1 N1 => vcSs (Gam 17) 0 XQ (bodyOf (nthS w252 1)) σ1 N1 (fun v σ => q v σ.obs)) (fun σ1 => vcSs (Gam 17) 0 XQ (dropS 2 w252) σ1 NN (fun v σ => q v σ.obs)) (n + 1)) (fun v σ => q v σ.obs) := by
        intro p' hc hd
        have hwf : WF xs b (b + m) := ⟨hg, by (clear ih h0 hax hn hl c ho hQ hX hm h hc hd; omega), by (clear ih h0 hax hacc hn hl c ho hQ hX hm h hc hd; omega), by (clear ih h0 hax hacc hn hl c ho hQ hX hm hk hc hd; omega)⟩
        refine And.intro (fun c => ?_) (fun c => ?_)
        · have c := of_decide_eq_true c
          obtain ⟨c1, c2⟩ := hc _ rfl c
          refine And.intro rfl ⟨xs, b, b + m, rfl, rfl, hwf, c1, fun s r hr => And.intro (Nat.le_refl _) (And.intro rfl ?_)⟩
          obtain ⟨c3, c4⟩ := c2 _ hr
          show vcSs (Gam 17) 0 XQ (dropS 1 (thenOf (nthS (bodyOf (nthS w252 1)) 1))) ⟨[(1, sB xs), (20, .ref 0), (5, .ref 2), (19, sI o), (16, .ref 3), (17, .d (.str s)), (21, sB r)], [walk p', cur xs (b + m) xs.length, .lst acc, cur xs (b + m) (b + m)]⟩ _ (fun v σ => q v σ.obs)
          refine And.intro rfl (And.intro (by show 3 ≤ 1000; decide) (And.intro (by (clear ih h0 hax hn ho hQ hX hm h hc hd c c1 c2 hr c3 c4; omega)) ?_))
          refine ih (b + m) p' (acc ++ [.tup [.int o, .str s, .bytes r]]) _ rfl rfl (by (clear ih h0 hax hn hl ho hQ hX hm h hc hd c c1 c2 hr c3 c4; omega)) (by (clear ih h0 hax hacc hn hl ho hQ hX hm hk hc hd c c1 c2 hr c3 c4; omega)) (by rw [List.length_append]; simp; omega) (by (clear ih h0 hax hacc hl ho hQ hX hm h hc hd c c1 c2 hr c3 c4; omega)) ?_ ?_
          · rw [c]; exact c3
          · rw [c]; exact c4
        · have c := of_decide_eq_false c
          obtain ⟨c3, c4⟩ := hd c
          refine And.intro rfl (And.intro rfl (And.intro rfl (And.intro rfl (And.intro rfl (And.intro rfl ⟨xs, b, b + m, rfl, rfl, And.intro (Nat.le_refl _) (And.intro rfl ⟨xs, b, b + m, b + m - b, rfl, rfl, hwf, by (clear ih h0 hax hacc hn hl ho hQ hX hm h hc hd c c3 c4; omega), fun h => absurd h (by (clear ih h0 hax hacc hn hl ho hQ hX hm hk hc hd c c3 c4 h; omega)), fun _ => And.intro (Nat.le_refl _) (And.intro (by show 3 ≤ 1000; decide) ?_)⟩)⟩)))))
          rw [show b + (b + m - b) = b + m by (clear ih h0 hax hacc hn hl ho hQ hX hm hk h hc hd c c3 c4; omega)]
          refine And.intro (by show acc.length ≤ _; (clear ih h0 hax hn ho hQ hX hm h hc hd c c3 c4; omega)) ?_
          exact ih (b + m) p' (acc ++ [.tup [.int o, .none, .bytes (cut xs b (b + m))]]) _ rfl rfl (by (clear ih h0 hax hn hl ho hQ hX hm h hc hd c c3 c4; omega)) (by (clear ih h0 hax hacc hn hl ho hQ hX hm hk hc hd c c3 c4; omega)) (by rw [List.length_append]; simp; omega) (by (clear ih h0 hax hacc hl ho hQ hX hm h hc hd c c3 c4; omega)) c3 c4
      refine ⟨fun h => ?_, fun h => ⟨fun h' => ?_, fun h' => ?_⟩⟩
      · refine And.intro (Nat.le_succ 2) (And.intro rfl ?_)
        have := body p (fun r hr h => ?_) (fun h' => absurd h h')
        · subst h; exact this
        · rw [if_pos h, hr] at hX hQ
          refine ⟨fun w hw => hX w (by rw [hw]), fun d hd => ?_⟩
          rw [hd] at hX hQ
          exact ⟨hX, hQ⟩
      · refine hX _ ?_
        rw [if_neg h, if_pos h']
      · rw [if_neg h, if_neg (by omega)] at hX hQ
        refine And.intro (Nat.le_succ 2) (And.intro rfl ?_)
        exact body (ROW.idxOf o) (fun r hr h' => absurd h' h) (fun _ => ⟨hX, hQ⟩)
    · have c : (xs.length : Int) ≤ a := by simpa using c
      rw [if_pos c] at hQ
      exact And.intro rfl (hQ acc rfl)
theorem v15 (h : f15 vs obs q XQ) : vcF (Gam 17) p252 w252 vs obs q XQ := by
  obtain ⟨xs, rfl, rfl, hg, h1, h2⟩ := h
  unfold secP at h1 h2
  refine And.intro rfl (And.intro rfl ⟨xs, rfl, rfl, hg, fun w hw => h1 w (by rw [hw]), fun hh hl => And.intro (Nat.zero_le _) ?_⟩)
  rw [hh] at h1 h2
  refine And.intro (by show 2 ≤ 1000; decide) (And.intro rfl ⟨xs.length + 1, ?_⟩)
  exact s_loop hg xs.length 8 (-1) [] _ rfl rfl (by decide) (by exact Int.ofNat_le.mpr hl) (by decide) (by omega) h1 h2
end Mine
end

section
open PySem PySem.W PyProof.Rows PySem.Calls
set_option linter.unusedVariables false
namespace Mine
variable {vs : List V} {obs : List Ob} {q : V → List Ob → Prop} {XQ : Str → Prop}
theorem v16 (h : f16 vs obs q XQ) : vcF (Gam 18) p259 w259 vs obs q XQ := by
  obtain ⟨xs, a, rfl, rfl, hl, ha, h⟩ := h
  refine And.intro rfl (And.intro (by exact Nat.le_add_left_of_le hl) (And.intro (fun c => And.intro ⟨ha, of_decide_eq_true c, by exact Nat.le_add_left_of_le hl⟩ fun x hx => And.intro rfl (h x)) (fun c => And.intro rfl (h 0))))
theorem pow_lt {b : Int} {k n : Nat} (hb : 1 ≤ b) (h : k ≤ n) : 0 < b ^ k ∧ b ^ k ≤ b ^ n := by
  have h0 : ∀ j : Nat, 0 < b ^ j := fun j => Int.pow_pos (by exact hb)
  refine ⟨h0 k, ?_⟩
  obtain ⟨d, rfl⟩ := Nat.exists_eq_add_of_le h
  rw [Int.pow_add]
  have := Int.mul_le_mul_of_nonneg_left (show (1 : Int) ≤ b ^ d from h0 d) (Int.le_of_lt (h0 k))
  (clear hb h0 h; omega)
theorem v17 (h : f17 vs obs q XQ) : vcF (Gam 19) p264 w264 vs obs q XQ := by
  obtain ⟨n, m, rfl, rfl, h0, h8, h⟩ := h
  refine And.intro rfl ⟨fun i => n / 128 ^ i.toNat % 128 + (if i < m - 1 then 128 else 0), And.intro ⟨by exact Int.le_trans (by decide) h0, by exact Int.le_trans h8 (by decide)⟩ (And.intro (fun i i0 i1 => ?_) (And.intro rfl (h _ (fun x hx => ?_) (by rw [List.length_map, List.length_range]; omega))))⟩
  · have hp := pow_lt (b := 128) (k := i.toNat) (n := 7) (by decide) (by (clear h0 h i0; omega))
    refine And.intro (by omega) (And.intro (by (clear h0 h i0 hp; omega)) (And.intro (by decide) (And.intro hp.1 (And.intro (by omega) (And.intro (by decide) (And.intro (fun c => ?_) (fun c => ?_)))))))
    · dsimp only
      rw [if_pos (of_decide_eq_true c)]; rfl
    · dsimp only
      rw [if_neg (of_decide_eq_false c)]; rfl
  · obtain ⟨i, _, rfl⟩ := List.mem_map.mp hx
    dsimp only
    split <;> omega
theorem Good8 {xs : List Int} (h : ∀ x ∈ xs, 0 ≤ x ∧ x < 256) (hl : xs.length ≤ 1000) : Good xs := ⟨h, hl⟩
theorem app_mem {xs ys : List Int} (h1 : ∀ x ∈ xs, 0 ≤ x ∧ x < 256) (h2 : ∀ x ∈ ys, 0 ≤ x ∧ x < 256) : ∀ x ∈ xs ++ ys, 0 ≤ x ∧ x < 256 := fun x hx => (List.mem_append.mp hx).elim (h1 x) (h2 x)
theorem one_mem {a : Int} (h : 0 ≤ a ∧ a < 256) : ∀ x ∈ [a], 0 ≤ x ∧ x < 256 := fun x hx => by rw [List.mem_singleton.mp hx]; exact h
noncomputable def isNameD (d : D) : Prop := ∃ l, d = .il l ∧ (∀ x ∈ l, 0 ≤ x ∧ x < 256) ∧ l.length ≤ 4
noncomputable def NM8 : List D := [D.il [97], D.il [], D.il [195, 169], D.il [226, 130, 172, 98], D.il [128], D.il [193, 129], D.il [237, 160, 128], D.il [240, 144, 141, 136]]
theorem name_of {i : Int} {x : D} (hx : [D.il [97], D.il [], D.il [195, 169], D.il [226, 130, 172, 98], D.il [128], D.il [193, 129], D.il [237, 160, 128], D.il [240, 144, 141, 136]][i.toNat]? = some x) : isNameD x := by
  have h := List.mem_of_getElem? hx
  simp only [List.mem_cons, List.not_mem_nil, or_false] at h
  rcases h with rfl | rfl | rfl | rfl | rfl | rfl | rfl | rfl <;> exact ⟨_, rfl, by decide, by decide⟩
theorem told_of {i x : Int} (hx : ([0, 0, 0, 0, 1, -1, 9] : List Int)[i.toNat]? = some x) : x ≤ 9 := by
  have h := List.mem_of_getElem? hx
  simp only [List.mem_cons, List.not_mem_nil, or_false] at h
  rcases h with rfl | rfl | rfl | rfl | rfl | rfl | rfl <;> decide
theorem rep_mem {c : Int} (hc : 0 ≤ c ∧ c < 256) (n : Nat) : ∀ x ∈ (List.replicate n [c]).flatten, 0 ≤ x ∧ x < 256 := fun x hx => by
  obtain ⟨l, hl, h⟩ := List.mem_flatten.mp hx
  rw [List.eq_of_mem_replicate hl] at h
  exact one_mem hc x h
theorem rep_len (c : Int) (n : Nat) : (List.replicate n [c]).flatten.length = n := by
  rw [List.length_flatten]; simp
theorem v18 (h : f18 vs obs q XQ) : vcF (Gam 20) p271 w271 vs obs q XQ := by
  obtain ⟨n, rfl, rfl, h⟩ := h
  refine And.intro rfl ?_
  refine And.intro (by decide) (And.intro (by decide) (And.intro (by decide) (And.intro (by decide) (And.intro (by decide) (And.intro (by decide) (And.intro (by decide) (And.intro (by decide) (And.intro (by decide) ?_))))))))
  refine And.intro (by decide) (And.intro ⟨by exact Int.emod_nonneg _ (by decide), by show n % 8 < 8; exact Int.emod_lt_of_pos _ (by decide), by decide⟩ fun x hx => ?_)
  obtain ⟨l, rfl, hg, hl⟩ := name_of hx
  clear hx
  refine And.intro (by exact Nat.le_add_left_of_le hl) (And.intro (by decide) (And.intro (by decide) (And.intro (by decide) (And.intro (by decide) (And.intro ⟨by exact Int.emod_nonneg _ (by decide), by show n / 8 % 7 < 7; exact Int.emod_lt_of_pos _ (by decide), by decide⟩ fun y hy => ?_)))))
  have hy := told_of hy
  generalize ht : (if 0 < (l.length : Int) + y then (l.length : Int) + y else 0) = t
  have ht' : 0 ≤ t ∧ t < 256 := by rw [← ht]; split <;> omega
  show vcSs (Gam 20) 0 XQ (dropS 3 w271) ⟨[(23, sI n), (24, .d (.lst NM8)), (17, sL l), (25, sI (if 0 < (l.length : Int) + y then (l.length : Int) + y else 0))], []⟩ (fun σ => ∃ j, belowOk 0 (0 + j) [] σ.obs = true ∧ q (.d .none) (σ.obs.take (0 + j))) (fun v σ => q v σ.obs)
  rw [ht]
  refine And.intro (by show 1 ≤ 1000; decide) (And.intro (by show [t].length + l.length ≤ 1000000; simp; (clear h hg hy ht ht'; omega)) ?_)
  refine And.intro (by decide) (And.intro (by decide) (And.intro (by decide) (And.intro (by show 1 ≤ 1000; decide) (And.intro (by decide) (And.intro (by decide) (And.intro (by decide) ?_))))))
  refine And.intro (by show 1 * (n / 14336 % 3).toNat ≤ 1000000; (clear h hg hl hy ht ht'; omega)) (And.intro (by exact Int.emod_nonneg _ (by decide)) (And.intro (by (clear h hg hl hy ht ht'; omega)) (And.intro ?_ (And.intro rfl (h _ ?_ ?_)))))
  · rw [rep_len]
    show ([t] ++ l).length + _ ≤ _
    simp; (clear h hg hy ht ht'; omega)
  · exact app_mem (app_mem (one_mem ht') hg) (rep_mem ⟨by exact Int.emod_nonneg _ (by decide), by exact Int.emod_lt_of_pos _ (by decide)⟩ _)
  · rw [List.length_append, rep_len]
    show ([t] ++ l).length + _ ≤ _
    simp; (clear h hg hy ht ht'; omega)
theorem told_of2 {i x : Int} (hx : ([0, 0, 0, 0, 0, 0, 1, -1] : List Int)[i.toNat]? = some x) : x ≤ 1 := by
  have h := List.mem_of_getElem? hx
  simp only [List.mem_cons, List.not_mem_nil, or_false] at h
  rcases h with rfl | rfl | rfl | rfl | rfl | rfl | rfl | rfl <;> decide
theorem v19 (h : f19 vs obs q XQ) : vcF (Gam 21) p276 w276 vs obs q XQ := by
  obtain ⟨n, l, f, rfl, rfl, h0, h1, h⟩ := h
  have body : ∀ cs : List Int, (∀ x ∈ cs, 0 ≤ x ∧ x < 256) → cs.length ≤ 10 → vcSs (Gam 21) 0 XQ (dropS 1 w276) ⟨[(19, sI n), (26, sI l), (23, sI f), (27, sL cs)], []⟩ (fun σ => ∃ j, belowOk 0 (0 + j) [] σ.obs = true ∧ q (.d .none) (σ.obs.take (0 + j))) (fun v σ => q v σ.obs) := by
    intro cs hg hl
    refine And.intro (by exact Nat.le_add_left_of_le hl) (And.intro (by decide) (And.intro (by decide) (And.intro ⟨by exact Int.emod_nonneg _ (by decide), by show l % 8 < 8; exact Int.emod_lt_of_pos _ (by decide), by decide⟩ fun y hy => ?_)))
    have hy := told_of2 hy
    refine And.intro (by decide) (And.intro (by decide) (And.intro (by decide) (And.intro rfl ⟨_, _, rfl, rfl, by (clear h0 h1 h hg hl hy; omega), by (clear h0 h1 h hg hl hy; omega), fun gs h1 h2 => And.intro (Nat.le_refl _) ?_⟩)))
    refine And.intro (by show 1 ≤ 1000; decide) (And.intro (by show [n].length + gs.length ≤ 1000000; simp; omega) (And.intro (by show ([n] ++ gs).length + cs.length ≤ 1000000; simp; omega) (And.intro rfl (h _ ?_ ?_))))
    · exact app_mem (app_mem (one_mem ⟨by omega, by omega⟩) h1) hg
    · show ([n] ++ gs ++ cs).length ≤ 30
      simp; omega
  refine And.intro rfl (And.intro (fun c => ?_) (fun c => ?_))
  · refine And.intro rfl ⟨_, rfl, rfl, fun xs h1 h2 => And.intro (Nat.le_refl _) (body xs h1 h2)⟩
  · refine ⟨fun i => f / 256 ^ i.toNat % 256, And.intro (by decide) (And.intro ⟨by omega, by omega⟩ (And.intro (fun i i0 i1 => ?_) ?_))⟩
    · have hp := pow_lt (b := 256) (k := i.toNat) (n := 4) (by decide) (by (clear h0 h1 h body c i0; omega))
      exact And.intro (by omega) (And.intro (by omega) (And.intro (by decide) (And.intro hp.1 (And.intro (by (clear h0 h1 h body c i0 i1; omega)) (And.intro (by decide) rfl)))))
    · refine body _ (fun x hx => ?_) (by rw [List.length_map, List.length_range]; omega)
      obtain ⟨i, _, rfl⟩ := List.mem_map.mp hx
      dsimp only
      omega
end Mine
end

section
open PySem PySem.W PyProof.Rows PySem.Calls
set_option linter.unusedVariables false
namespace Mine
variable {vs : List V} {obs : List Ob} {q : V → List Ob → Prop} {XQ : Str → Prop}
theorem mul_small {a b : Int} (h : a.natAbs < 2 ^ 64) : IntMulOk a b := IntMulOk.of_left (intBits_le_iff.mpr h)
theorem o_for {xs : List Int} {R : V → St → Prop} {N : St → Prop} (hl : xs.length ≤ 1000) : ∀ (is : List Nat) (ys : List Int) (σ : St), keepOk 0 [22, 1] 0 σ = true → σ.keep [22, 1] 0 = ⟨[(22, sL xs), (1, sL ys)], []⟩ → Good ys → ys.length + 30 * is.length ≤ 1000 →
    (∀ zs, Good zs → N ⟨[(22, sL xs), (1, sL zs)], []⟩) → fl 0 [31] [22, 1] 0 (fun σ1 N1 => vcSs (Gam 22) 0 XQ (bodyOf (nthS w283 4)) σ1 N1 R) N (is.map fun (i : Nat) => .int i) σ
  | [], ys, σ, hk, hσ, hg, hn, hN => by
    refine And.intro hk ?_
    rw [hσ]
    exact hN ys hg
  | i :: is, ys, σ, hk, hσ, hg, hn, hN => by
    refine And.intro hk ?_
    rw [hσ]
    rw [List.length_cons] at hn
    refine And.intro (mul_small (by decide)) (And.intro rfl ⟨xs, _, rfl, rfl, hl, by exact Int.natCast_nonneg _, fun a => And.intro (Nat.le_refl _) (And.intro (by decide) ?_)⟩)
    refine And.intro (mul_small (by decide)) (And.intro rfl ⟨xs, _, rfl, rfl, hl, by exact Int.natCast_nonneg _, fun b => And.intro (Nat.le_refl _) ?_⟩)
    refine And.intro (mul_small (by decide)) (And.intro rfl ⟨xs, _, rfl, rfl, hl, by exact Int.natCast_nonneg _, fun c => And.intro (Nat.le_refl _) ?_⟩)
    refine And.intro rfl ⟨_, _, _, rfl, rfl, by exact Int.emod_nonneg _ (by decide), by (clear hl hk hσ hn hN; omega), fun zs h1 h2 => And.intro (Nat.le_refl _) (And.intro (by omega) ?_)⟩
    exact o_for hl is (ys ++ zs) _ rfl rfl ⟨app_mem hg.1 h1, by rw [List.length_append]; omega⟩ (by rw [List.length_append]; omega) hN
theorem v20 (h : f20 vs obs q XQ) : vcF (Gam 22) p283 w283 vs obs q XQ := by
  obtain ⟨xs, rfl, rfl, hl, h⟩ := h
  have rest : ∀ (hd : List Int) (way : Int), (∀ x ∈ hd, 0 ≤ x ∧ x < 256) → hd.length = 8 → vcSs (Gam 22) 0 XQ (dropS 3 w283) ⟨[(22, sL xs), (29, .ref 0), (30, sI way)], [.il hd]⟩ (fun σ => ∃ j, belowOk 0 (0 + j) [] σ.obs = true ∧ q (.d .none) (σ.obs.take (0 + j))) (fun v σ => q v σ.obs) := by
    intro hd way hg h8
    refine And.intro (by exact Nat.le_add_left_of_le hl) (And.intro (by decide) (And.intro (by decide) ?_))
    generalize hm : (if ((xs.length : Int) - 1) / 3 < 9 then ((xs.length : Int) - 1) / 3 else 9) = m
    have hm' : -1 ≤ m ∧ m ≤ 9 := by rw [← hm]; split <;> omega
    show (-1000 ≤ (if ((xs.length : Int) - 1) / 3 < 9 then ((xs.length : Int) - 1) / 3 else 9) ∧ (if ((xs.length : Int) - 1) / 3 < 9 then ((xs.length : Int) - 1) / 3 else 9) ≤ 1000) ∧ fl 0 [31] [22, 1] 0 (fun σ1 N1 => vcSs (Gam 22) 0 XQ (bodyOf (nthS w283 4)) σ1 N1 (fun v σ => q v σ.obs)) (fun σ1 => vcSs (Gam 22) 0 XQ (dropS 5 w283) σ1 _ (fun v σ => q v σ.obs)) ((List.range (if ((xs.length : Int) - 1) / 3 < 9 then ((xs.length : Int) - 1) / 3 else 9).toNat).map fun (i : Nat) => .int i) ⟨[(22, sL xs), (29, .ref 0), (30, sI way), (1, sL hd)], [.dead]⟩
    rw [hm]
    refine And.intro ⟨by (clear hl h hg h8 hm; omega), by (clear hl h hg h8 hm; omega)⟩ (o_for hl _ hd _ rfl rfl ⟨hg, by (clear hl h hg hm hm'; omega)⟩ (by rw [List.length_range]; (clear hl h hg hm; omega)) fun zs hz => ?_)
    have hz2 := hz.2
    refine And.intro (by exact Nat.le_add_left_of_le hz2) (And.intro rfl ⟨xs, 28, rfl, rfl, hl, by decide, fun d => And.intro (Nat.le_refl _) (And.intro (by exact Nat.le_add_left_of_le hz2) (And.intro (by (clear hl h hg h8 hm hm' hz2; omega)) (And.intro (by exact Nat.le_add_left_of_le hz2) (And.intro rfl (h _ (hz.cut _ _))))))⟩)
  refine And.intro rfl (And.intro (by decide) (And.intro rfl ⟨xs, 0, rfl, rfl, hl, by decide, fun way => And.intro (Nat.le_refl _) ?_⟩))
  refine And.intro (by decide) (And.intro (fun c => ?_) (fun c => ?_))
  · refine And.intro (by decide) (And.intro (by decide) (And.intro (by decide) (And.intro (by decide) (And.intro (by decide) (And.intro (by decide) (And.intro ⟨by exact Int.emod_nonneg _ (by decide), by show way / 5 % 8 < 8; exact Int.emod_lt_of_pos _ (by decide), by decide⟩ ?_))))))
    refine rest (List.set [0, 97, 115, 109, 1, 0, 0, 0] (way / 5 % 8).toNat (way / 40 % 256)) way (fun x hx => ?_) (by rw [List.length_set]; rfl)
    rcases List.mem_or_eq_of_mem_set hx with hx | rfl
    · exact (by decide : ∀ x ∈ ([0, 97, 115, 109, 1, 0, 0, 0] : List Int), 0 ≤ x ∧ x < 256) x hx
    · omega
  · exact rest [0, 97, 115, 109, 1, 0, 0, 0] way (by decide) rfl
theorem v22 (h : f22 vs obs q XQ) : vcF (Gam 24) p297 w297 vs obs q XQ := by
  obtain ⟨o, rfl, rfl, h⟩ := h
  unfold widthP at h
  refine And.intro rfl (And.intro (fun c => ?_) (fun c => ?_))
  · rw [if_pos (of_decide_eq_true c)] at h
    exact And.intro rfl h
  have c := of_decide_eq_false c
  rw [if_neg c] at h
  refine sand (fun c1 c2 => ?_) (fun c1 => ?_)
  · rw [if_pos ⟨of_decide_eq_true c1, of_decide_eq_true c2⟩] at h
    exact And.intro rfl h
  rw [if_neg (fun hh => of_decide_eq_false (c1 (decide_eq_true hh.1)) hh.2)] at h
  refine sand (fun c1 c2 => ?_) (fun c2 => ?_)
  · rw [if_pos ⟨of_decide_eq_true c1, of_decide_eq_true c2⟩] at h
    exact And.intro rfl h
  rw [if_neg (fun hh => of_decide_eq_false (c2 (decide_eq_true hh.1)) hh.2)] at h
  refine sand (fun c1 c2 => ?_) (fun c3 => ?_)
  · rw [if_pos ⟨of_decide_eq_true c1, of_decide_eq_true c2⟩] at h
    exact And.intro rfl h
  rw [if_neg (fun hh => of_decide_eq_false (c3 (decide_eq_true hh.1)) hh.2)] at h
  exact And.intro rfl h
end Mine
end

section
open PySem PySem.W PyProof.Rows PySem.Calls
set_option linter.unusedVariables false
namespace Mine
variable {vs : List V} {obs : List Ob} {q : V → List Ob → Prop} {XQ : Str → Prop}
noncomputable def NL (xs : List Int) (a e acc : Int) (k : Nat) (f : Bool) : List (Nat × V) := [(1, sL xs), (2, sI a), (3, sI e), (32, sI acc), (4, sI k), (33, .d (.bool f))]
theorem getD_some {xs : List Int} {i : Nat} {x : Int} (h : xs[i]? = some x) {P : Int → Prop} (hp : P (xs.getD i 0)) : P x := getD_eq h ▸ hp
theorem n_loop {xs : List Int} {a e : Int} {NN : St → Prop} (hw : WF xs a e) : ∀ (n k : Nat) (acc : Int) (f : Bool) (σ : St), keepOk 0 [1, 2, 3, 32, 4, 33] 0 σ = true → σ.keep [1, 2, 3, 32, 4, 33] 0 = ⟨NL xs a e acc k f, []⟩ → f = true → n + k = 5 → k < 5 →
    (∀ w, numP xs a e n k acc = .error w → w ≠ "" → q (.d (.tup [.int 0, .int a, sW w])) []) → (∀ m b, numP xs a e n k acc = .ok (m, b) → q (.d (.tup [.int m, .int b, sW ""])) []) →
    wl (Gam 23) 0 XQ (condOf (nthS w290 1)) [1, 2, 3, 32, 4, 33] 0 (fun σ1 N1 => vcSs (Gam 23) 0 XQ (bodyOf (nthS w290 1)) σ1 N1 (fun v σ => q v σ.obs)) (fun σ1 => vcSs (Gam 23) 0 XQ (dropS 2 w290) σ1 NN (fun v σ => q v σ.obs)) (n + 1) σ
  | 0, k, _, _, _, _, _, _, hk, hk5, _, _ => by omega
  | n + 1, k, acc, f, σ, hko, hσ, hf, hk, hk5, hX, hQ => by
    obtain ⟨⟨hg, hl⟩, ha, hae, hel⟩ := hw
    refine And.intro hko ?_
    rw [hσ]
    clear hσ hko
    subst hf
    unfold numP at hX hQ
    dsimp only at hX hQ
    refine And.intro (fun _ => ?_) (fun h => by cases h)
    refine And.intro (fun c => ?_) (fun c => ?_)
    · exact And.intro (by show 3 ≤ 1000; decide) (And.intro rfl (hX _ (if_pos (of_decide_eq_true c)) (by decide)))
    have c : ¬ e ≤ a + k := of_decide_eq_false c
    rw [if_neg c] at hX hQ
    refine And.intro ⟨by (clear hk hk5 hg hl hae hel hX hQ c; omega), by (clear hk hk5 hg hl ha hae hX hQ; omega), by exact Nat.le_add_left_of_le hl⟩ fun x hx => ?_
    have hxe := getD_eq hx
    rw [hxe] at hX hQ
    refine And.intro (by decide) (And.intro (by exact Int.natCast_nonneg _) (And.intro (by omega) (And.intro (by decide) (And.intro (mul_small (by (clear hk hk5 hg hl ha hae hel c hQ hX hx hxe; omega))) ?_))))
    refine And.intro ⟨by (clear hk hk5 hg hl hae hel c hQ hX hx hxe; omega), by (clear hk hk5 hg hl ha hae hQ hX hx hxe; omega), by exact Nat.le_add_left_of_le hl⟩ fun x' hx' => ?_
    obtain rfl : x' = x := by rw [← hxe]; exact (getD_eq hx').symm
    refine And.intro (by show 2 ≤ 1000; decide) (And.intro rfl (And.intro (by decide) (And.intro (by decide) (And.intro (by decide) (And.intro (fun c1 => ?_) (fun c1 => ?_))))))
    · exact And.intro (by show 3 ≤ 1000; decide) (And.intro rfl (hX _ (if_pos (of_decide_eq_true c1)) (by decide)))
    have c1 : ¬ 4294967296 ≤ acc + x' % 128 * 128 ^ k := of_decide_eq_false c1
    rw [if_neg c1] at hX hQ
    refine sand (fun c2 c3 => ?_) (fun c3 => ?_)
    · have c2 : 128 ≤ x' := of_decide_eq_true c2
      have c3 : (k : Int) + 1 = 5 := of_decide_eq_true c3
      rw [if_pos c2, if_pos (by exact Int.ofNat_inj.mp c3)] at hX
      exact And.intro (by show 3 ≤ 1000; decide) (And.intro rfl (hX _ rfl (by decide)))
    by_cases c2 : 128 ≤ x'
    · have c3 : ¬ (k : Int) + 1 = 5 := of_decide_eq_false (c3 (decide_eq_true c2))
      rw [if_pos c2, if_neg (by omega)] at hX hQ
      exact n_loop ⟨⟨hg, hl⟩, ha, hae, hel⟩ n (k + 1) (acc + x' % 128 * 128 ^ k) (decide (128 ≤ x')) _ rfl rfl (decide_eq_true c2) (by (clear hk5 hg hl ha hae hel c hx' hQ hX hx hxe c1 c2 c3; omega)) (by (clear hk hg hl ha hae hel c hx' hQ hX hx hxe c1 c2; omega)) hX hQ
    · rw [if_neg c2] at hQ
      refine And.intro rfl (And.intro (fun h => absurd (of_decide_eq_true h) c2) (fun _ => ?_))
      exact And.intro (by show 3 ≤ 1000; decide) (And.intro rfl (hQ _ _ (by rw [Int.add_assoc]; rfl)))
theorem v21 (h : f21 vs obs q XQ) : vcF (Gam 23) p290 w290 vs obs q XQ := by
  obtain ⟨xs, a, e, rfl, rfl, hw, h1, h2⟩ := h
  refine And.intro rfl (And.intro (by show 3 ≤ 1000; decide) (And.intro rfl ⟨6, ?_⟩))
  exact n_loop hw 5 0 0 true _ rfl rfl rfl rfl (by decide) h1 h2
end Mine
end

section
open PySem PySem.W PyProof.Rows PySem.Calls
set_option linter.unusedVariables false
namespace Mine
variable {vs : List V} {obs : List Ob} {q : V → List Ob → Prop} {XQ : Str → Prop}
theorem widthP_le (o : Int) : 0 ≤ widthP o ∧ widthP o ≤ 4 := by
  unfold widthP
  split
  · exact ⟨by decide, by decide⟩
  split
  · exact ⟨by decide, by decide⟩
  split
  · exact ⟨by decide, by decide⟩
  split <;> exact ⟨by decide, by decide⟩
/-- not for omega -/
noncomputable def Hide (p : Prop) : Prop := p
noncomputable def TL (xs : List Int) (s : Str) (a w : Int) (ms : List Int) (p : Int) : List (Nat × V) := [(1, sL xs), (34, .d (.str s)), (2, sI a), (35, sI w), (36, sL ms), (12, sI p)]
theorem x_for {xs ms0 : List Int} {s : Str} {a w : Int} {R : V → St → Prop} {N : St → Prop} : ∀ (ms : List Int) (p : Int) (σ : St), keepOk 0 [1, 34, 2, 35, 36, 12] 0 σ = true → σ.keep [1, 34, 2, 35, 36, 12] 0 = ⟨TL xs s a w ms0 p, []⟩ →
    N ⟨TL xs s a w ms0 (ptP p ms), []⟩ → fl 0 [9] [1, 34, 2, 35, 36, 12] 0 (fun σ1 N1 => vcSs (Gam 25) 0 XQ (bodyOf (nthS (bodyOf (nthS w302 1)) 4)) σ1 N1 R) N (ms.map D.int) σ
  | [], p, σ, hk, hσ, hN => by
    refine And.intro hk ?_
    rw [hσ]
    exact hN
  | o :: ms, p, σ, hk, hσ, hN => by
    refine And.intro hk ?_
    rw [hσ]
    exact And.intro (mul_small (by decide)) (And.intro (by decide) (x_for ms (64 * p + o % 64) _ rfl rfl hN))
theorem base_of {w y : Int} (hw : w = 1 ∨ w = 2 ∨ w = 3 ∨ w = 4) (hy : ([128, 32, 16, 8] : List Int)[(w - 1).toNat]? = some y) : y = baseP w := by
  rcases hw with rfl | rfl | rfl | rfl <;> (cases hy; rfl)
theorem least_of {w y : Int} (hw : w = 1 ∨ w = 2 ∨ w = 3 ∨ w = 4) (hy : ([0, 128, 2048, 65536] : List Int)[(w - 1).toNat]? = some y) : y = leastP w := by
  rcases hw with rfl | rfl | rfl | rfl <;> (cases hy; rfl)
theorem base_pos {w : Int} : 0 < baseP w := by unfold baseP; split <;> (try split) <;> (try split) <;> omega
theorem str_app (s : Str) (acc : List Nat) (n : Nat) (h : s = ⟨acc.toArray⟩) : s ++ (⟨#[n]⟩ : Str) = ⟨(acc ++ [n]).toArray⟩ := by
  subst h
  show Str.mk _ = Str.mk _
  congr 1
  simp
theorem x_loop {xs : List Int} {NN : St → Prop} (hg : Good xs) : ∀ (n : Nat) (a : Int) (acc : List Nat) (s : Str) (σ : St), keepOk 0 [1, 34, 2] 0 σ = true → σ.keep [1, 34, 2] 0 = ⟨[(1, sL xs), (34, .d (.str s)), (2, sI a)], []⟩ → s = ⟨acc.toArray⟩ →
    0 ≤ a → acc.length ≤ a → a ≤ xs.length → xs.length ≤ a + n → (txtP xs n a = none → q (.d .none) []) → (∀ l, txtP xs n a = some l → q (.d (.str ⟨(acc ++ l).toArray⟩)) []) →
    wl (Gam 25) 0 XQ (condOf (nthS w302 1)) [1, 34, 2] 0 (fun σ1 N1 => vcSs (Gam 25) 0 XQ (bodyOf (nthS w302 1)) σ1 N1 (fun v σ => q v σ.obs)) (fun σ1 => vcSs (Gam 25) 0 XQ (dropS 2 w302) σ1 NN (fun v σ => q v σ.obs)) (n + 1) σ := by
  intro n
  induction n with
  | zero =>
    intro a acc s σ hk hσ hs h0 hacc hax hn hX hQ
    have hl := hg.2
    refine And.intro hk ?_
    rw [hσ]
    refine And.intro (by exact Nat.le_add_left_of_le hl) (And.intro (fun c => ?_) (fun c => ?_))
    · have := of_decide_eq_true c; (clear hk hσ hs h0 hacc hax hX hQ hl c; omega)
    · have := hQ [] rfl
      rw [List.append_nil, ← hs] at this
      exact And.intro rfl this
  | succ n ih =>
    intro a acc s σ hk hσ hs h0 hacc hax hn hX hQ
    have hl := hg.2
    refine And.intro hk ?_
    rw [hσ]
    clear hk hσ
    unfold txtP at hX hQ
    refine And.intro (by exact Nat.le_add_left_of_le hl) (And.intro (fun c => ?_) (fun c => ?_))
    · have c : a < xs.length := of_decide_eq_true c
      rw [if_neg (by omega)] at hX hQ
      refine And.intro ⟨h0, c, by exact Nat.le_add_left_of_le hl⟩ fun x hx => ?_
      have hxe := getD_eq hx
      refine And.intro rfl ⟨x, rfl, rfl, And.intro (Nat.le_refl _) (And.intro (by exact Nat.le_add_left_of_le hl) ?_)⟩
      have hwl := widthP_le x
      have ho := hg.at a.toNat
      rw [hxe] at ho
      have hs0 : Hide (widthP x = 0 → stepP xs a = none) := fun h => stepP_no (by rw [hxe]; exact h)
      have hs1 : Hide (1 ≤ widthP x → stepP xs a = if (xs.length : Int) < a + widthP x ∨ (∃ o ∈ cut xs (a + 1) (a + widthP x), o / 64 ≠ 2) ∨ badP (ptP (x % baseP (widthP x)) (cut xs (a + 1) (a + widthP x))) (leastP (widthP x)) then none else some (ptP (x % baseP (widthP x)) (cut xs (a + 1) (a + widthP x)), widthP x)) := fun h1 => by
        have := stepP_of (by rw [hxe]) h1 h0 c
        rwa [hxe] at this
      generalize widthP x = w at hwl hs0 hs1 ⊢
      show vcSs (Gam 25) 0 XQ (dropS 2 (bodyOf (nthS w302 1))) ⟨[(1, sL xs), (34, .d (.str s)), (2, sI a), (35, sI w), (36, sL (cut xs (a + 1) (a + w)))], []⟩ _ (fun v σ => q v σ.obs)
      have hcl := cut_len xs (lo := a + 1) (hi := a + w) (by omega) (by (clear ih hs h0 hax hn hl hX hQ c hx hxe ho; omega))
      have hT : stepP xs a = none → (true = true) ∧ q (.d .none) [] := fun h => ⟨rfl, hX (by rw [h])⟩
      refine And.intro (fun c1 => And.intro (fun _ => hT (hs0 (of_decide_eq_true c1))) (fun k => by cases k)) (fun c1 => ?_)
      have c1 : ¬ w = 0 := of_decide_eq_false c1
      have hs1 := hs1 (by (clear ih hs h0 hacc hax hn hl hX hQ c hx hxe ho hcl hT; omega))
      refine And.intro (by omega) (And.intro (fun c2 => And.intro (fun _ => hT ?_) (fun k => by cases k)) (fun c2 => ?_))
      · have c2 : ¬ ((cut xs (a + 1) (a + w)).length : Int) = w - 1 := by simpa using c2
        rw [hs1, if_pos (.inl (by (clear ih hs h0 hax hn hl hX hQ c hx hxe ho hT hs1; omega)))]
      have c2 : ((cut xs (a + 1) (a + w)).length : Int) = w - 1 := by simpa using c2
      have c2' : ¬ (xs.length : Int) < a + w := by (clear ih hs h0 hacc hax hn hl hX hQ hx hxe ho hwl hT c1 hs1; omega)
      refine ⟨fun o => !decide (o / 64 = 2), And.intro (by (clear ih hs h0 hacc hax hn hl hX hQ c hx hxe ho hcl hT c1 hs1 c2'; omega)) (And.intro (fun i hi => ?_) (And.intro (fun d hd => ?_) (And.intro (fun c3 => hT ?_) (fun c3 => ?_))))⟩
      · exact And.intro (by decide) (And.intro (by decide) rfl)
      · obtain ⟨i, _, rfl⟩ := List.mem_map.mp hd
        exact ⟨_, rfl⟩
      · obtain ⟨d, hd, h⟩ := List.any_eq_true.mp c3
        obtain ⟨i, hi, rfl⟩ := List.mem_map.mp hd
        have h : ¬ i / 64 = 2 := by simpa [boolD] using h
        rw [hs1, if_pos (.inr (.inl ⟨i, hi, h⟩))]
      have c3 : ¬ ∃ o ∈ cut xs (a + 1) (a + w), o / 64 ≠ 2 := fun ⟨i, hi, h⟩ => by
        have := List.any_eq_false.mp c3 (.bool (!decide (i / 64 = 2))) (List.mem_map.mpr ⟨i, hi, rfl⟩)
        exact h (by simpa [boolD] using this)
      have hw14 : w = 1 ∨ w = 2 ∨ w = 3 ∨ w = 4 := by (clear ih hs h0 hacc hax hn hl hX hQ c hx hxe ho hcl hT c1 hs1 c2' c3; omega)
      refine And.intro ⟨h0, c, by exact Nat.le_add_left_of_le hl⟩ fun x' hx' => ?_
      obtain rfl : x' = x := by rw [← hxe]; exact (getD_eq hx').symm
      refine And.intro (by decide) (And.intro ⟨by (clear ih hs h0 hacc hax hn hl hX hQ c hwl hcl hT c1 c2 c2' c3 hx' hx hxe ho hs1; omega), by show w - 1 < 4; (clear ih hs h0 hacc hax hn hl hX hQ c hwl hcl hT c1 c2 c2' c3 hx' hx hxe ho hs1; omega), by decide⟩ fun y hy => ?_)
      obtain rfl := base_of hw14 hy
      refine And.intro base_pos ?_
      have hpn := ptP_ge (cut xs (a + 1) (a + w)) (x' % baseP w) (Int.emod_nonneg _ (by have := base_pos (w := w); exact Int.ne_of_gt this))
      have hpn : 0 ≤ ptP (x' % baseP w) (cut xs (a + 1) (a + w)) := Int.le_trans (Int.mul_nonneg (Int.emod_nonneg _ (by have := base_pos (w := w); exact Int.ne_of_gt this)) (Int.le_of_lt (Int.pow_pos (by decide)))) hpn
      refine x_for _ (x' % baseP w) _ rfl rfl ?_
      generalize ptP (x' % baseP w) (cut xs (a + 1) (a + w)) = z at hs1 hpn ⊢
      refine And.intro (by decide) (And.intro ⟨by (clear ih hs h0 hacc hax hn hl hX hQ c hwl hcl hT c1 c2 c2' c3 hx' hx hxe ho hy hs1 hpn; omega), by show w - 1 < 4; (clear ih hs h0 hacc hax hn hl hX hQ c hwl hcl hT c1 c2 c2' c3 hx' hx hxe ho hy hs1 hpn; omega), by decide⟩ fun y hy => ?_)
      obtain rfl := least_of hw14 hy
      refine sor3z (fun h => hT ?_) (fun d1 d2 d3 => ?_)
      · rw [hs1, if_pos]
        rcases h with h | h | ⟨h, h'⟩
        · exact .inr (.inr (.inl (of_decide_eq_true h)))
        · exact .inr (.inr (.inr (.inl (of_decide_eq_true h))))
        · exact .inr (.inr (.inr (.inr ⟨of_decide_eq_true h, of_decide_eq_true h'⟩)))
      have d1 : ¬ z < leastP w := of_decide_eq_false d1
      have d2 : ¬ 1114112 ≤ z := of_decide_eq_false d2
      have d3 : 55296 ≤ z → ¬ z < 57344 := fun h => of_decide_eq_false (d3 (decide_eq_true h))
      rw [if_neg (fun h => by
        rcases h with h | h | h | h | ⟨h, h'⟩
        · exact c2' h
        · exact c3 h
        · exact d1 h
        · exact d2 h
        · exact d3 h h')] at hs1
      rw [hs1] at hX hQ
      dsimp only at hX hQ
      refine And.intro ⟨hpn, by exact Int.not_lt.mp d2⟩ (And.intro (by subst hs; show acc.toArray.size + 1 ≤ _; simp; omega) (And.intro (by show 2 ≤ 1000; decide) (And.intro rfl ?_)))
      refine ih (a + w) (acc ++ [z.toNat]) _ _ rfl rfl (str_app s acc _ hs) (by (clear ih hs h0 hax hn hl c hwl hcl hT c1 c2 c2' c3 hx' hx hxe ho hQ hX hs1 hpn hy d1 d2 d3; omega)) (by rw [List.length_append]; simp; (clear ih hs h0 hax hn hl c hwl hcl hT c1 c2 c2' c3 hx' hx hxe ho hQ hX hs1 hpn hy d1 d2 d3; omega)) (by exact Int.not_lt.mp c2') (by (clear ih hs h0 hacc hax hl c hwl hcl hT c1 c2 c2' c3 hx' hx hxe ho hQ hX hs1 hpn hy d1 d2 d3; omega)) (fun h => hX (by rw [h]; rfl)) (fun l h => ?_)
      rw [List.append_assoc]; exact hQ _ (by rw [h]; rfl)
    · have c : ¬ a < xs.length := of_decide_eq_false c
      rw [if_pos (by exact Int.not_lt.mp c)] at hQ
      have := hQ [] rfl
      rw [List.append_nil, ← hs] at this
      exact And.intro rfl this
theorem v23 (h : f23 vs obs q XQ) : vcF (Gam 25) p302 w302 vs obs q XQ := by
  obtain ⟨xs, rfl, rfl, hg, h1, h2⟩ := h
  refine And.intro rfl (And.intro (by show 2 ≤ 1000; decide) (And.intro rfl ⟨xs.length + 1, ?_⟩))
  refine x_loop hg xs.length 0 [] _ _ rfl rfl rfl (by decide) (by decide) (by exact Int.natCast_nonneg _) (by omega) (fun h => h1 ?_) (fun l h => ?_)
  · unfold txt; rw [h]; rfl
  · exact h2 _ (by unfold txt; rw [h]; rfl)
end Mine
end

section
open PySem PySem.W PyProof.Rows PySem.Calls
set_option linter.unusedVariables false
namespace Mine
variable {vs : List V} {obs : List Ob} {q : V → List Ob → Prop} {XQ : Str → Prop}
theorem neE {w : String} (h : w ≠ "") : ¬ Str.ofString w = Str.ofString "" := fun e => by
  rw [Str.ofString_eq_toList, Str.ofString_eq_toList] at e
  have e := congrArg (fun s : Str => s.cps.toList) e
  simp at e
  exact h e
theorem v24 (h : f24 vs obs q XQ) : vcF (Gam 26) p309 w309 vs obs q XQ := by
  obtain ⟨xs, a, e, rfl, rfl, hw, h1, h2⟩ := h
  obtain ⟨⟨hg, hl⟩, ha, hae, hel⟩ := hw
  unfold custP at h1 h2
  refine And.intro rfl (And.intro rfl ⟨xs, a, e, rfl, rfl, ⟨⟨hg, hl⟩, ha, hae, hel⟩, fun w hn hne => And.intro (Nat.le_refl _) (And.intro rfl (And.intro (fun c => ?_) (fun c => ?_))), fun m b hn => And.intro (Nat.le_refl _) (And.intro rfl (And.intro (fun c => ?_) (fun c => ?_)))⟩)
  · rw [hn] at h1
    exact And.intro (by show 2 ≤ 1000; decide) (And.intro rfl (h1 w rfl hne))
  · have : Str.ofString w = Str.ofString "" := by simpa using c
    exact absurd this (neE hne)
  · have : ¬ Str.ofString "" = Str.ofString "" := by simpa using c
    exact absurd rfl this
  clear c
  have hk := num_ok ⟨hg, hl⟩ hn
  rw [hn] at h1 h2
  dsimp only at h1 h2
  refine And.intro (fun c => ?_) (fun c => ?_)
  · exact And.intro (by show 2 ≤ 1000; decide) (And.intro rfl (h1 _ (if_pos (of_decide_eq_true c)) (by decide)))
  have c : ¬ e - b < m := of_decide_eq_false c
  rw [if_neg c] at h1 h2
  refine And.intro (by exact Nat.le_add_left_of_le hl) (And.intro rfl ⟨_, rfl, rfl, Good.cut ⟨hg, hl⟩ _ _, fun ht => And.intro (Nat.le_refl _) (And.intro (fun _ => ?_) (fun h => by cases h)), fun s hs => And.intro (Nat.le_refl _) (And.intro (fun h => by cases h) (fun _ => ?_))⟩)
  · rw [ht] at h1
    exact And.intro (by show 2 ≤ 1000; decide) (And.intro rfl (h1 _ rfl (by decide)))
  · rw [hs] at h2
    have hc := Good.cut ⟨hg, hl⟩ (b + m) e
    refine And.intro (by exact Nat.le_add_left_of_le hl) (And.intro hc.1 (And.intro (by have := hc.2; exact Nat.le_add_left_of_le this) (And.intro (by show 3 ≤ 1000; decide) (And.intro (by show 2 ≤ 1000; decide) (And.intro rfl (h2 _ rfl))))))
theorem v25 (h : f25 vs obs q XQ) : vcF (Gam 27) p316 w316 vs obs q XQ := by
  obtain ⟨xs, rfl, rfl, hg, h1, h2⟩ := h
  have hl := hg.2
  unfold headP at h1 h2
  refine And.intro rfl (And.intro (by decide) (And.intro (by decide) (And.intro (by decide) (And.intro (by decide) (And.intro (by decide) (And.intro rfl (And.intro rfl (And.intro (by exact Nat.le_add_left_of_le hl) (And.intro (fun c => ?_) (fun c => ?_))))))))))
  · have c := of_decide_eq_true c
    exact And.intro rfl (h1 _ (if_pos (by exact Int.ofNat_lt.mp c)) (by decide))
  have c := of_decide_eq_false c
  rw [if_neg (by omega)] at h1 h2
  have e1 : cut xs 0 4 = xs.take 4 := by rw [cut_nn _ (by decide) (by decide)]; rfl
  refine And.intro (by exact Nat.le_add_left_of_le hl) (And.intro (fun c => ?_) (fun c => ?_))
  · have c : ¬ cut xs 0 4 = [0, 97, 115, 109] := by simpa using c
    rw [e1] at c
    exact And.intro rfl (h1 _ (if_pos c) (by decide))
  have c1 : cut xs 0 4 = [0, 97, 115, 109] := by simpa using c
  rw [e1] at c1
  rw [if_neg (fun h => h c1)] at h1 h2
  have e2 : cut xs 4 xs.length = xs.drop 4 := by
    rw [cut_nn _ (by decide) (by exact Int.natCast_nonneg _)]
    show (xs.take xs.length).drop 4 = _
    rw [List.take_of_length_le (Nat.le_refl _)]
  refine And.intro (by exact Nat.le_add_left_of_le hl) (And.intro rfl (And.intro rfl (And.intro ?_ (And.intro (fun c => ?_) (fun c => ?_)))))
  · show (cut xs 4 xs.length).length ≤ _
    rw [e2, List.length_drop]; omega
  · have c : ((cut xs 4 xs.length).length : Int) < 4 := of_decide_eq_true c
    rw [e2, List.length_drop] at c
    exact And.intro rfl (h1 _ (if_pos (by (clear h1 h2 hl e1 c1 e2; omega))) (by decide))
  have c : ¬ ((cut xs 4 xs.length).length : Int) < 4 := of_decide_eq_false c
  rw [e2, List.length_drop] at c
  rw [if_neg (by omega)] at h1 h2
  refine And.intro ?_ (And.intro (fun c => ?_) (fun c => ?_))
  · show (cut xs 4 xs.length).length ≤ _
    rw [e2, List.length_drop]; omega
  · have c : ¬ cut (cut xs 4 xs.length) 0 4 = [1, 0, 0, 0] := by simpa using c
    rw [e2, cut_nn _ (by decide) (by decide)] at c
    exact And.intro rfl (h1 _ (if_pos c) (by decide))
  have c : cut (cut xs 4 xs.length) 0 4 = [1, 0, 0, 0] := by simpa using c
  rw [e2, cut_nn _ (by decide) (by decide)] at c
  rw [if_neg (fun h => h c)] at h2
  refine And.intro ?_ (And.intro rfl (And.intro rfl (h2 rfl (by (clear h1 h2 hl e1 c1 e2 c; omega)))))
  show (cut xs 4 xs.length).length ≤ _
  rw [e2, List.length_drop]; omega
noncomputable def passP (o : Int) : List Int → List Int → List Int
  | [], fnd => fnd
  | x :: r, fnd => if cut fnd (-1) fnd.length = [o] then fnd else passP o r (fnd ++ [x])
theorem p_loop {o : Int} {NN : St → Prop} : ∀ (r fnd : List Int) (σ : St), keepOk 0 [19, 38, 5] 2 σ = true → σ.keep [19, 38, 5] 2 = ⟨[(19, sI o), (38, .ref 0), (5, .ref 1)], [.il r, .il fnd]⟩ → r.length + fnd.length ≤ 100 → q (sL (passP o r fnd)) [] →
    wl (Gam 28) 0 XQ (condOf (nthS w323 2)) [19, 38, 5] 2 (fun σ1 N1 => vcSs (Gam 28) 0 XQ (bodyOf (nthS w323 2)) σ1 N1 (fun v σ => q v σ.obs)) (fun σ1 => vcSs (Gam 28) 0 XQ (dropS 3 w323) σ1 NN (fun v σ => q v σ.obs)) (r.length + 1) σ
  | [], fnd, σ, hk, hσ, hn, hq => by
    refine And.intro hk ?_
    rw [hσ]
    exact And.intro (by decide) (And.intro (fun h => by cases h) (fun _ => And.intro (fun h => by cases h) (fun _ => And.intro rfl hq)))
  | x :: r, fnd, σ, hk, hσ, hn, hq => by
    refine And.intro hk ?_
    rw [hσ]
    rw [List.length_cons] at hn
    unfold passP at hq
    refine And.intro (by decide) (And.intro (fun _ => And.intro (by omega) (And.intro (by show 1 ≤ 1000; decide) (And.intro (fun c => ?_) (fun c => ?_)))) (fun h => by cases h))
    · have c : ¬ cut fnd (-1) fnd.length = [o] := by simpa using c
      rw [if_neg c] at hq
      refine And.intro rfl (And.intro (by omega) (And.intro (by omega) ?_))
      exact p_loop r (fnd ++ [x]) _ rfl rfl (by rw [List.length_append]; simp; omega) hq
    · have c : cut fnd (-1) fnd.length = [o] := by simpa using c
      rw [if_pos c] at hq
      exact And.intro rfl hq
theorem passN : ∀ n : Nat, n < 13 → 0 < n → passP (n : Int) ROW [] = ROW.take (ROW.idxOf (n : Int) + 1) := by decide +kernel
theorem v26 (h : f26 vs obs q XQ) : vcF (Gam 28) p323 w323 vs obs q XQ := by
  obtain ⟨o, rfl, rfl, h0, h1, h⟩ := h
  refine And.intro rfl (And.intro (by decide) (And.intro (by decide) ⟨13, p_loop ROW [] _ rfl rfl (by decide) ?_⟩))
  have e : passP o ROW [] = ROW.take (ROW.idxOf o + 1) := by
    obtain ⟨n, rfl⟩ := Int.eq_ofNat_of_zero_le (Int.le_of_lt h0)
    exact passN n (by (clear h0; omega)) (by exact Int.ofNat_lt.mp h0)
  rw [e]; exact h
end Mine
end

section
open PySem PySem.W PyProof.Rows PySem.Calls
set_option linter.unusedVariables false
namespace Mine
variable {vs : List V} {obs : List Ob} {q : V → List Ob → Prop} {XQ : Str → Prop}
theorem row_take : ∀ k : Nat, k < 13 → ∀ i ∈ ROW, (i ∈ ROW.take k ↔ ROW.idxOf i < k) := by decide +kernel
theorem row_idx : ∀ i ∈ ROW, ROW.idxOf i < 12 := by decide +kernel
theorem d_loop {xs : List Int} {NN : St → Prop} (hg : Good xs) : ∀ (n : Nat) (a p : Int) (L : List Int) (acc : List D) (σ : St), keepOk 0 [1, 2, 5, 39] 1 σ = true → σ.keep [1, 2, 5, 39] 1 = ⟨[(1, sL xs), (2, sI a), (5, .ref 0), (39, sL L)], [.lst acc]⟩ →
    L = ROW.take (p + 1).toNat → -1 ≤ p → p < 12 → 0 ≤ a → a ≤ xs.length → acc.length ≤ a → xs.length ≤ a + n → (∀ w, dueP xs n a p acc = .error w → q (.d (.tup [.none, sW w])) []) → (∀ ds, dueP xs n a p acc = .ok ds → q (.d (.tup [.lst ds, sW ""])) []) →
    wl (Gam 29) 0 XQ (condOf (nthS w330 3)) [1, 2, 5, 39] 1 (fun σ1 N1 => vcSs (Gam 29) 0 XQ (bodyOf (nthS w330 3)) σ1 N1 (fun v σ => q v σ.obs)) (fun σ1 => vcSs (Gam 29) 0 XQ (dropS 4 w330) σ1 NN (fun v σ => q v σ.obs)) (n + 1) σ := by
  intro n
  induction n with
  | zero =>
    intro a p L acc σ hk hσ hL hp0 hp1 h0 hax hacc hn hX hQ
    have hl := hg.2
    refine And.intro hk ?_
    rw [hσ]
    refine And.intro (by exact Nat.le_add_left_of_le hl) (And.intro (fun c => ?_) (fun c => ?_))
    · have := of_decide_eq_true c; (clear hk hσ hL hp0 hp1 h0 hax hacc hX hQ hl c; omega)
    · exact And.intro (by show 2 ≤ 1000; decide) (And.intro rfl (hQ acc rfl))
  | succ n ih =>
    intro a p L acc σ hk hσ hL hp0 hp1 h0 hax hacc hn hX hQ
    have hl := hg.2
    refine And.intro hk ?_
    rw [hσ]
    clear hk hσ
    unfold dueP at hX hQ
    dsimp only at hX hQ
    have two : 2 ≤ 1000 := by decide
    refine And.intro (by exact Nat.le_add_left_of_le hl) (And.intro (fun c => ?_) (fun c => ?_))
    · have c : a < xs.length := of_decide_eq_true c
      rw [if_neg (by omega)] at hX hQ
      refine And.intro ⟨h0, c, by exact Nat.le_add_left_of_le hl⟩ fun o ho => ?_
      have hgo := hg.at a.toNat
      rw [getD_eq ho] at hX hQ hgo
      refine And.intro (fun c1 => ?_) (fun c1 => ?_)
      · exact And.intro two (And.intro rfl (hX _ (if_pos (of_decide_eq_true c1))))
      have c1 : ¬ 12 < o := of_decide_eq_false c1
      rw [if_neg c1] at hX hQ
      refine And.intro (by exact Nat.le_add_left_of_le hl) (And.intro rfl ⟨xs, a + 1, xs.length, rfl, rfl, ⟨hg, by omega, by exact c, by exact Int.le_refl _⟩, fun w hm hne => And.intro (Nat.le_refl _) (And.intro rfl (And.intro (fun c => ?_) (fun c => ?_))), fun m b hm => And.intro (Nat.le_refl _) (And.intro rfl (And.intro (fun c => ?_) (fun c => ?_)))⟩)
      · rw [hm] at hX
        exact And.intro two (And.intro rfl (hX w rfl))
      · have : Str.ofString w = Str.ofString "" := by simpa using c
        exact absurd this (neE hne)
      · have : ¬ Str.ofString "" = Str.ofString "" := by simpa using c
        exact absurd rfl this
      clear c
      have hk := num_ok hg hm
      rw [hm] at hX hQ
      dsimp only at hX hQ
      show vcSs (Gam 29) 0 XQ (dropS 4 (bodyOf (nthS w330 3))) ⟨[(1, sL xs), (2, sI b), (5, .ref 0), (39, sL L), (19, sI o), (4, sI m), (37, .d (sW ""))], [.lst acc]⟩ _ (fun v σ => q v σ.obs)
      refine And.intro (by exact Nat.le_add_left_of_le hl) (And.intro (fun c => ?_) (fun c => ?_))
      · exact And.intro two (And.intro rfl (hX _ (if_pos (of_decide_eq_true c))))
      have c2 : ¬ (xs.length : Int) - b < m := of_decide_eq_false c
      rw [if_neg c2] at hX hQ
      refine And.intro (fun c => ?_) (fun c => ?_)
      · have c : o = 0 := of_decide_eq_true c
        rw [if_pos c] at hX hQ
        refine And.intro rfl ⟨xs, b, b + m, rfl, rfl, ⟨hg, by (clear ih hL hp0 hp1 h0 hax hn hl two ho hgo c1 hQ hX hm c2 c; omega), by (clear ih hL hp0 hp1 h0 hax hacc hn hl two ho hgo c1 hQ hX hm c2 c; omega), by (clear ih hL hp0 hp1 h0 hax hacc hn hl two ho hgo c1 hQ hX hm hk c; omega)⟩, fun w hw hne => And.intro (Nat.le_refl _) (And.intro rfl (And.intro (fun c => ?_) (fun c => ?_))), fun d hd => And.intro (Nat.le_refl _) (And.intro rfl (And.intro (fun c => ?_) (fun c => ?_)))⟩
        · rw [hw] at hX
          exact And.intro two (And.intro rfl (hX w rfl))
        · have : Str.ofString w = Str.ofString "" := by simpa using c
          exact absurd this (neE hne)
        · have : ¬ Str.ofString "" = Str.ofString "" := by simpa using c
          exact absurd rfl this
        rw [hd] at hX hQ
        refine And.intro rfl (And.intro (by (clear ih hL hp0 hp1 h0 hax hn two ho hgo c1 hm c2 hQ hX hd c; omega)) ?_)
        exact ih (b + m) p L (acc ++ [d]) _ rfl rfl hL hp0 hp1 (by (clear ih hL hp0 hp1 h0 hax hn hl two ho hgo c1 hm c2 hQ hX hd c; omega)) (by (clear ih hL hp0 hp1 h0 hax hacc hn hl two ho hgo c1 hm hk hQ hX hd c; omega)) (by rw [List.length_append]; simp; (clear ih hL hp0 hp1 h0 hax hn hl two ho hgo c1 hm c2 hQ hX hd c; omega)) (by (clear ih hL hp0 hp1 h0 hax hacc hl two ho hgo c1 hm c2 hQ hX hd c; omega)) hX hQ
      · have c : ¬ o = 0 := of_decide_eq_false c
        rw [if_neg c] at hX hQ
        have hr := row_mem (o := o) (by (clear ih hL hp0 hp1 h0 hax hacc hn hl two ho c1 hQ hX hm hk c2; omega)) (by exact Int.not_lt.mp c1)
        have hi := row_idx o hr
        have ht := row_take (p + 1).toNat (by (clear ih hL hp0 h0 hax hacc hn hl two ho hgo c1 hQ hX hm hk c2 c hi; omega)) o hr
        rw [← hL] at ht
        refine And.intro (fun c3 => ?_) (fun c3 => ?_)
        · have c3 := ht.mp (of_decide_eq_true c3)
          exact And.intro two (And.intro rfl (hX _ (if_pos (by (clear ih hL hp0 hp1 h0 hax hacc hn hl two ho hgo c1 hQ hX hm hk c2 c hi ht; omega)))))
        have c3 : ¬ ROW.idxOf o < (p + 1).toNat := fun h => of_decide_eq_false c3 (ht.mpr h)
        rw [if_neg (by omega)] at hX hQ
        have hc := Good.cut hg b (b + m)
        refine And.intro rfl ⟨o, rfl, rfl, by (clear ih hL hp0 hp1 h0 hax hacc hn hl two ho c1 hQ hX hm hk c2 hi ht c3; omega), by exact Int.not_lt.mp c1, And.intro (Nat.le_refl _) (And.intro rfl (And.intro (by exact Nat.le_add_left_of_le hl) (And.intro hc.1 (And.intro (by have := hc.2; exact Nat.le_add_left_of_le this) (And.intro (by show 3 ≤ 1000; decide) (And.intro (by (clear ih hL hp0 hp1 h0 hax hn two ho hgo c1 hQ hX hm c2 c hi ht c3; omega)) ?_))))))⟩
        exact ih (b + m) (ROW.idxOf o) (ROW.take (ROW.idxOf o + 1)) (acc ++ [.tup [.int o, .none, .bytes (cut xs b (b + m))]]) _ rfl rfl (by congr 1) (by exact Int.natCast_nonneg _) (by exact Int.ofNat_lt.mpr hi) (by (clear ih hL hp0 hp1 h0 hax hn hl two ho hgo c1 hQ hX hm c2 c hi ht c3; omega)) (by (clear ih hL hp0 hp1 h0 hax hacc hn hl two ho hgo c1 hQ hX hm hk c hi ht c3; omega)) (by rw [List.length_append]; simp; (clear ih hL hp0 hp1 h0 hax hn hl two ho hgo c1 hQ hX hm c2 c hi ht c3; omega)) (by (clear ih hL hp0 hp1 h0 hax hacc hl two ho hgo c1 hQ hX hm c2 c hi ht c3; omega)) hX hQ
    · have c : ¬ a < xs.length := of_decide_eq_false c
      rw [if_pos (by exact Int.not_lt.mp c)] at hQ
      exact And.intro two (And.intro rfl (hQ acc rfl))
theorem v27 (h : f27 vs obs q XQ) : vcF (Gam 29) p330 w330 vs obs q XQ := by
  obtain ⟨xs, rfl, rfl, hg, h1, h2⟩ := h
  unfold secP at h1 h2
  have hl := hg.2
  refine And.intro rfl (And.intro rfl ⟨xs, rfl, rfl, hg, fun w hw hne => And.intro (Nat.le_refl _) (And.intro (fun c => ?_) (fun c => ?_)), fun hh h8 => And.intro (Nat.le_refl _) (And.intro (fun c => ?_) (fun c => ?_))⟩)
  · rw [hw] at h1
    exact And.intro (by show 2 ≤ 1000; decide) (And.intro rfl (h1 w rfl))
  · have : Str.ofString w = Str.ofString "" := by simpa using c
    exact absurd this (neE hne)
  · have : ¬ Str.ofString "" = Str.ofString "" := by simpa using c
    exact absurd rfl this
  rw [hh] at h1 h2
  refine And.intro (by decide) (And.intro (by show 3 ≤ 1000; decide) (And.intro rfl ⟨xs.length + 1, ?_⟩))
  exact d_loop hg xs.length 8 (-1) [] [] _ rfl rfl rfl (by decide) (by decide) (by decide) (by exact Int.ofNat_le.mpr h8) (by decide) (by omega) h1 h2
end Mine
end

section
open PySem PySem.W PyProof.Rows PySem.Calls
namespace Mine

/-! the matchers: is this Python text that word (places are not looked at) -/
noncomputable def opOf : Op → Operator
  | .add => .Add | .sub => .Sub | .mul => .Mult | .fdiv => .FloorDiv | .mod => .Mod | .pow => .Pow | .shl => .LShift | .shr => .RShift | .band => .BitAnd | .bor => .BitOr
noncomputable def cpOf : Cp → CmpOp
  | .lt => .Lt | .le => .LtE | .gt => .Gt | .ge => .GtE | .eq => .Eq | .ne => .NotEq
noncomputable def isGlob (cs : Scope) (x : Str) : Bool := cs.names.lookup x == some .globalImplicit
/-! what an expression is, with what to ask of its parts; one reading lemma each -/
noncomputable def caseE (e : Expr) (k0 : Str → Bool) (k1 : Const → Bool) (k2 : Expr → Str → Pos → Bool) (k3 : Expr → Operator → Expr → Bool) (k4 : Expr → Expr → Expr → Bool) (k5 : UnaryOp → Expr → Bool) (k6 : BoolOp → List Expr → Bool) (k7 : Expr → List CmpOp → List Expr → Bool) (k8 : List Expr → Bool) (k9 : List Expr → Bool) (k10 : Expr → Expr → Bool) (k11 : Option Expr → Option Expr → Option Expr → Bool) (k12 : Expr → List Expr → List Keyword → Pos → Bool) (k13 : Expr → List Comprehension → Scope → Bool) : Bool := Expr.casesOn (motive_1 := fun _ => Bool) e (fun o es _ => k6 o es) (fun _ _ _ => false) (fun l o r _ => k3 l o r) (fun o x _ => k5 o x) (fun _ _ _ _ => false) (fun t x y _ => k4 t x y) (fun _ _ _ => false) (fun _ _ _ => false) (fun l g s _ => k13 l g s) (fun _ _ _ _ => false) (fun _ _ _ _ _ => false) (fun _ _ _ _ => false) (fun _ _ => false) (fun _ _ => false) (fun _ _ => false) (fun l o r _ => k7 l o r) (fun g es kw p => k12 g es kw p) (fun _ _ _ _ => false) (fun _ _ => false) (fun c _ _ => k1 c) (fun v x p => k2 v x p) (fun v s _ => k10 v s) (fun _ _ => false) (fun y _ => k0 y) (fun l _ => k9 l) (fun l _ _ => k8 l) (fun l u t _ => k11 l u t)
theorem caseE_iff {e : Expr} {k0 : Str → Bool} {k1 : Const → Bool} {k2 : Expr → Str → Pos → Bool} {k3 : Expr → Operator → Expr → Bool} {k4 : Expr → Expr → Expr → Bool} {k5 : UnaryOp → Expr → Bool} {k6 : BoolOp → List Expr → Bool} {k7 : Expr → List CmpOp → List Expr → Bool} {k8 : List Expr → Bool} {k9 : List Expr → Bool} {k10 : Expr → Expr → Bool} {k11 : Option Expr → Option Expr → Option Expr → Bool} {k12 : Expr → List Expr → List Keyword → Pos → Bool} {k13 : Expr → List Comprehension → Scope → Bool} {Q : Expr → Prop} (h : caseE e k0 k1 k2 k3 k4 k5 k6 k7 k8 k9 k10 k11 k12 k13 = true) (H0 : ∀ y p, k0 y = true → Q (.Name y p)) (H1 : ∀ c n p, k1 c = true → Q (.Constant c n p)) (H2 : ∀ v x p, k2 v x p = true → Q (.Attribute v x p)) (H3 : ∀ l o r p, k3 l o r = true → Q (.BinOp l o r p)) (H4 : ∀ t x y p, k4 t x y = true → Q (.IfExp t x y p)) (H5 : ∀ o x p, k5 o x = true → Q (.UnaryOp o x p)) (H6 : ∀ o es p, k6 o es = true → Q (.BoolOp o es p)) (H7 : ∀ l o r p, k7 l o r = true → Q (.Compare l o r p)) (H8 : ∀ l n p, k8 l = true → Q (.Tuple l n p)) (H9 : ∀ l p, k9 l = true → Q (.List l p)) (H10 : ∀ v s p, k10 v s = true → Q (.Subscript v s p)) (H11 : ∀ l u t p, k11 l u t = true → Q (.Slice l u t p)) (H12 : ∀ g es kw p, k12 g es kw p = true → Q (.Call g es kw p)) (H13 : ∀ l g s p, k13 l g s = true → Q (.ListComp l g s p)) : Q e := by
  cases e with
  | BoolOp o es p => exact H6 o es p h
  | BinOp l o r p => exact H3 l o r p h
  | UnaryOp o x p => exact H5 o x p h
  | IfExp t x y p => exact H4 t x y p h
  | ListComp l g s p => exact H13 l g s p h
  | Compare l o r p => exact H7 l o r p h
  | Call g es kw p => exact H12 g es kw p h
  | Constant c n p => exact H1 c n p h
  | Attribute v x p => exact H2 v x p h
  | Subscript v s p => exact H10 v s p h
  | Name y p => exact H0 y p h
  | List l p => exact H9 l p h
  | Tuple l n p => exact H8 l n p h
  | Slice l u t p => exact H11 l u t p h
  | _ => exact (Bool.false_ne_true h).elim
noncomputable def onName (e : Expr) (k : Str → Bool) : Bool := caseE e k (fun _ => false) (fun _ _ _ => false) (fun _ _ _ => false) (fun _ _ _ => false) (fun _ _ => false) (fun _ _ => false) (fun _ _ _ => false) (fun _ => false) (fun _ => false) (fun _ _ => false) (fun _ _ _ => false) (fun _ _ _ _ => false) (fun _ _ _ => false)
theorem onName_iff {e : Expr} {k : Str → Bool} (h : onName e k = true) : ∃ y p, e = .Name y p ∧ k y = true :=
  caseE_iff (Q := fun e => ∃ y p, e = .Name y p ∧ k y = true) h (fun y p h => ⟨y, p, rfl, h⟩) (fun _ _ _ h => (Bool.false_ne_true h).elim) (fun _ _ _ h => (Bool.false_ne_true h).elim) (fun _ _ _ _ h => (Bool.false_ne_true h).elim) (fun _ _ _ _ h => (Bool.false_ne_true h).elim) (fun _ _ _ h => (Bool.false_ne_true h).elim) (fun _ _ _ h => (Bool.false_ne_true h).elim) (fun _ _ _ _ h => (Bool.false_ne_true h).elim) (fun _ _ _ h => (Bool.false_ne_true h).elim) (fun _ _ h => (Bool.false_ne_true h).elim) (fun _ _ _ h => (Bool.false_ne_true h).elim) (fun _ _ _ _ h => (Bool.false_ne_true h).elim) (fun _ _ _ _ h => (Bool.false_ne_true h).elim) (fun _ _ _ _ h => (Bool.false_ne_true h).elim)
noncomputable def onConst (e : Expr) (k : Const → Bool) : Bool := caseE e (fun _ => false) k (fun _ _ _ => false) (fun _ _ _ => false) (fun _ _ _ => false) (fun _ _ => false) (fun _ _ => false) (fun _ _ _ => false) (fun _ => false) (fun _ => false) (fun _ _ => false) (fun _ _ _ => false) (fun _ _ _ _ => false) (fun _ _ _ => false)
theorem onConst_iff {e : Expr} {k : Const → Bool} (h : onConst e k = true) : ∃ c n p, e = .Constant c n p ∧ k c = true :=
  caseE_iff (Q := fun e => ∃ c n p, e = .Constant c n p ∧ k c = true) h (fun _ _ h => (Bool.false_ne_true h).elim) (fun c n p h => ⟨c, n, p, rfl, h⟩) (fun _ _ _ h => (Bool.false_ne_true h).elim) (fun _ _ _ _ h => (Bool.false_ne_true h).elim) (fun _ _ _ _ h => (Bool.false_ne_true h).elim) (fun _ _ _ h => (Bool.false_ne_true h).elim) (fun _ _ _ h => (Bool.false_ne_true h).elim) (fun _ _ _ _ h => (Bool.false_ne_true h).elim) (fun _ _ _ h => (Bool.false_ne_true h).elim) (fun _ _ h => (Bool.false_ne_true h).elim) (fun _ _ _ h => (Bool.false_ne_true h).elim) (fun _ _ _ _ h => (Bool.false_ne_true h).elim) (fun _ _ _ _ h => (Bool.false_ne_true h).elim) (fun _ _ _ _ h => (Bool.false_ne_true h).elim)
noncomputable def onAttr (e : Expr) (k : Expr → Str → Pos → Bool) : Bool := caseE e (fun _ => false) (fun _ => false) k (fun _ _ _ => false) (fun _ _ _ => false) (fun _ _ => false) (fun _ _ => false) (fun _ _ _ => false) (fun _ => false) (fun _ => false) (fun _ _ => false) (fun _ _ _ => false) (fun _ _ _ _ => false) (fun _ _ _ => false)
theorem onAttr_iff {e : Expr} {k : Expr → Str → Pos → Bool} (h : onAttr e k = true) : ∃ v x p, e = .Attribute v x p ∧ k v x p = true :=
  caseE_iff (Q := fun e => ∃ v x p, e = .Attribute v x p ∧ k v x p = true) h (fun _ _ h => (Bool.false_ne_true h).elim) (fun _ _ _ h => (Bool.false_ne_true h).elim) (fun v x p h => ⟨v, x, p, rfl, h⟩) (fun _ _ _ _ h => (Bool.false_ne_true h).elim) (fun _ _ _ _ h => (Bool.false_ne_true h).elim) (fun _ _ _ h => (Bool.false_ne_true h).elim) (fun _ _ _ h => (Bool.false_ne_true h).elim) (fun _ _ _ _ h => (Bool.false_ne_true h).elim) (fun _ _ _ h => (Bool.false_ne_true h).elim) (fun _ _ h => (Bool.false_ne_true h).elim) (fun _ _ _ h => (Bool.false_ne_true h).elim) (fun _ _ _ _ h => (Bool.false_ne_true h).elim) (fun _ _ _ _ h => (Bool.false_ne_true h).elim) (fun _ _ _ _ h => (Bool.false_ne_true h).elim)
noncomputable def onBin (e : Expr) (k : Expr → Operator → Expr → Bool) : Bool := caseE e (fun _ => false) (fun _ => false) (fun _ _ _ => false) k (fun _ _ _ => false) (fun _ _ => false) (fun _ _ => false) (fun _ _ _ => false) (fun _ => false) (fun _ => false) (fun _ _ => false) (fun _ _ _ => false) (fun _ _ _ _ => false) (fun _ _ _ => false)
theorem onBin_iff {e : Expr} {k : Expr → Operator → Expr → Bool} (h : onBin e k = true) : ∃ l o r p, e = .BinOp l o r p ∧ k l o r = true :=
  caseE_iff (Q := fun e => ∃ l o r p, e = .BinOp l o r p ∧ k l o r = true) h (fun _ _ h => (Bool.false_ne_true h).elim) (fun _ _ _ h => (Bool.false_ne_true h).elim) (fun _ _ _ h => (Bool.false_ne_true h).elim) (fun l o r p h => ⟨l, o, r, p, rfl, h⟩) (fun _ _ _ _ h => (Bool.false_ne_true h).elim) (fun _ _ _ h => (Bool.false_ne_true h).elim) (fun _ _ _ h => (Bool.false_ne_true h).elim) (fun _ _ _ _ h => (Bool.false_ne_true h).elim) (fun _ _ _ h => (Bool.false_ne_true h).elim) (fun _ _ h => (Bool.false_ne_true h).elim) (fun _ _ _ h => (Bool.false_ne_true h).elim) (fun _ _ _ _ h => (Bool.false_ne_true h).elim) (fun _ _ _ _ h => (Bool.false_ne_true h).elim) (fun _ _ _ _ h => (Bool.false_ne_true h).elim)
noncomputable def onIf (e : Expr) (k : Expr → Expr → Expr → Bool) : Bool := caseE e (fun _ => false) (fun _ => false) (fun _ _ _ => false) (fun _ _ _ => false) k (fun _ _ => false) (fun _ _ => false) (fun _ _ _ => false) (fun _ => false) (fun _ => false) (fun _ _ => false) (fun _ _ _ => false) (fun _ _ _ _ => false) (fun _ _ _ => false)
theorem onIf_iff {e : Expr} {k : Expr → Expr → Expr → Bool} (h : onIf e k = true) : ∃ t x y p, e = .IfExp t x y p ∧ k t x y = true :=
  caseE_iff (Q := fun e => ∃ t x y p, e = .IfExp t x y p ∧ k t x y = true) h (fun _ _ h => (Bool.false_ne_true h).elim) (fun _ _ _ h => (Bool.false_ne_true h).elim) (fun _ _ _ h => (Bool.false_ne_true h).elim) (fun _ _ _ _ h => (Bool.false_ne_true h).elim) (fun t x y p h => ⟨t, x, y, p, rfl, h⟩) (fun _ _ _ h => (Bool.false_ne_true h).elim) (fun _ _ _ h => (Bool.false_ne_true h).elim) (fun _ _ _ _ h => (Bool.false_ne_true h).elim) (fun _ _ _ h => (Bool.false_ne_true h).elim) (fun _ _ h => (Bool.false_ne_true h).elim) (fun _ _ _ h => (Bool.false_ne_true h).elim) (fun _ _ _ _ h => (Bool.false_ne_true h).elim) (fun _ _ _ _ h => (Bool.false_ne_true h).elim) (fun _ _ _ _ h => (Bool.false_ne_true h).elim)
noncomputable def onUn (e : Expr) (k : UnaryOp → Expr → Bool) : Bool := caseE e (fun _ => false) (fun _ => false) (fun _ _ _ => false) (fun _ _ _ => false) (fun _ _ _ => false) k (fun _ _ => false) (fun _ _ _ => false) (fun _ => false) (fun _ => false) (fun _ _ => false) (fun _ _ _ => false) (fun _ _ _ _ => false) (fun _ _ _ => false)
theorem onUn_iff {e : Expr} {k : UnaryOp → Expr → Bool} (h : onUn e k = true) : ∃ o x p, e = .UnaryOp o x p ∧ k o x = true :=
  caseE_iff (Q := fun e => ∃ o x p, e = .UnaryOp o x p ∧ k o x = true) h (fun _ _ h => (Bool.false_ne_true h).elim) (fun _ _ _ h => (Bool.false_ne_true h).elim) (fun _ _ _ h => (Bool.false_ne_true h).elim) (fun _ _ _ _ h => (Bool.false_ne_true h).elim) (fun _ _ _ _ h => (Bool.false_ne_true h).elim) (fun o x p h => ⟨o, x, p, rfl, h⟩) (fun _ _ _ h => (Bool.false_ne_true h).elim) (fun _ _ _ _ h => (Bool.false_ne_true h).elim) (fun _ _ _ h => (Bool.false_ne_true h).elim) (fun _ _ h => (Bool.false_ne_true h).elim) (fun _ _ _ h => (Bool.false_ne_true h).elim) (fun _ _ _ _ h => (Bool.false_ne_true h).elim) (fun _ _ _ _ h => (Bool.false_ne_true h).elim) (fun _ _ _ _ h => (Bool.false_ne_true h).elim)
noncomputable def onBoolOp (e : Expr) (k : BoolOp → List Expr → Bool) : Bool := caseE e (fun _ => false) (fun _ => false) (fun _ _ _ => false) (fun _ _ _ => false) (fun _ _ _ => false) (fun _ _ => false) k (fun _ _ _ => false) (fun _ => false) (fun _ => false) (fun _ _ => false) (fun _ _ _ => false) (fun _ _ _ _ => false) (fun _ _ _ => false)
theorem onBoolOp_iff {e : Expr} {k : BoolOp → List Expr → Bool} (h : onBoolOp e k = true) : ∃ o es p, e = .BoolOp o es p ∧ k o es = true :=
  caseE_iff (Q := fun e => ∃ o es p, e = .BoolOp o es p ∧ k o es = true) h (fun _ _ h => (Bool.false_ne_true h).elim) (fun _ _ _ h => (Bool.false_ne_true h).elim) (fun _ _ _ h => (Bool.false_ne_true h).elim) (fun _ _ _ _ h => (Bool.false_ne_true h).elim) (fun _ _ _ _ h => (Bool.false_ne_true h).elim) (fun _ _ _ h => (Bool.false_ne_true h).elim) (fun o es p h => ⟨o, es, p, rfl, h⟩) (fun _ _ _ _ h => (Bool.false_ne_true h).elim) (fun _ _ _ h => (Bool.false_ne_true h).elim) (fun _ _ h => (Bool.false_ne_true h).elim) (fun _ _ _ h => (Bool.false_ne_true h).elim) (fun _ _ _ _ h => (Bool.false_ne_true h).elim) (fun _ _ _ _ h => (Bool.false_ne_true h).elim) (fun _ _ _ _ h => (Bool.false_ne_true h).elim)
noncomputable def onCmp (e : Expr) (k : Expr → List CmpOp → List Expr → Bool) : Bool := caseE e (fun _ => false) (fun _ => false) (fun _ _ _ => false) (fun _ _ _ => false) (fun _ _ _ => false) (fun _ _ => false) (fun _ _ => false) k (fun _ => false) (fun _ => false) (fun _ _ => false) (fun _ _ _ => false) (fun _ _ _ _ => false) (fun _ _ _ => false)
theorem onCmp_iff {e : Expr} {k : Expr → List CmpOp → List Expr → Bool} (h : onCmp e k = true) : ∃ l o r p, e = .Compare l o r p ∧ k l o r = true :=
  caseE_iff (Q := fun e => ∃ l o r p, e = .Compare l o r p ∧ k l o r = true) h (fun _ _ h => (Bool.false_ne_true h).elim) (fun _ _ _ h => (Bool.false_ne_true h).elim) (fun _ _ _ h => (Bool.false_ne_true h).elim) (fun _ _ _ _ h => (Bool.false_ne_true h).elim) (fun _ _ _ _ h => (Bool.false_ne_true h).elim) (fun _ _ _ h => (Bool.false_ne_true h).elim) (fun _ _ _ h => (Bool.false_ne_true h).elim) (fun l o r p h => ⟨l, o, r, p, rfl, h⟩) (fun _ _ _ h => (Bool.false_ne_true h).elim) (fun _ _ h => (Bool.false_ne_true h).elim) (fun _ _ _ h => (Bool.false_ne_true h).elim) (fun _ _ _ _ h => (Bool.false_ne_true h).elim) (fun _ _ _ _ h => (Bool.false_ne_true h).elim) (fun _ _ _ _ h => (Bool.false_ne_true h).elim)
noncomputable def onTup (e : Expr) (k : List Expr → Bool) : Bool := caseE e (fun _ => false) (fun _ => false) (fun _ _ _ => false) (fun _ _ _ => false) (fun _ _ _ => false) (fun _ _ => false) (fun _ _ => false) (fun _ _ _ => false) k (fun _ => false) (fun _ _ => false) (fun _ _ _ => false) (fun _ _ _ _ => false) (fun _ _ _ => false)
theorem onTup_iff {e : Expr} {k : List Expr → Bool} (h : onTup e k = true) : ∃ l n p, e = .Tuple l n p ∧ k l = true :=
  caseE_iff (Q := fun e => ∃ l n p, e = .Tuple l n p ∧ k l = true) h (fun _ _ h => (Bool.false_ne_true h).elim) (fun _ _ _ h => (Bool.false_ne_true h).elim) (fun _ _ _ h => (Bool.false_ne_true h).elim) (fun _ _ _ _ h => (Bool.false_ne_true h).elim) (fun _ _ _ _ h => (Bool.false_ne_true h).elim) (fun _ _ _ h => (Bool.false_ne_true h).elim) (fun _ _ _ h => (Bool.false_ne_true h).elim) (fun _ _ _ _ h => (Bool.false_ne_true h).elim) (fun l n p h => ⟨l, n, p, rfl, h⟩) (fun _ _ h => (Bool.false_ne_true h).elim) (fun _ _ _ h => (Bool.false_ne_true h).elim) (fun _ _ _ _ h => (Bool.false_ne_true h).elim) (fun _ _ _ _ h => (Bool.false_ne_true h).elim) (fun _ _ _ _ h => (Bool.false_ne_true h).elim)
noncomputable def onList (e : Expr) (k : List Expr → Bool) : Bool := caseE e (fun _ => false) (fun _ => false) (fun _ _ _ => false) (fun _ _ _ => false) (fun _ _ _ => false) (fun _ _ => false) (fun _ _ => false) (fun _ _ _ => false) (fun _ => false) k (fun _ _ => false) (fun _ _ _ => false) (fun _ _ _ _ => false) (fun _ _ _ => false)
theorem onList_iff {e : Expr} {k : List Expr → Bool} (h : onList e k = true) : ∃ l p, e = .List l p ∧ k l = true :=
  caseE_iff (Q := fun e => ∃ l p, e = .List l p ∧ k l = true) h (fun _ _ h => (Bool.false_ne_true h).elim) (fun _ _ _ h => (Bool.false_ne_true h).elim) (fun _ _ _ h => (Bool.false_ne_true h).elim) (fun _ _ _ _ h => (Bool.false_ne_true h).elim) (fun _ _ _ _ h => (Bool.false_ne_true h).elim) (fun _ _ _ h => (Bool.false_ne_true h).elim) (fun _ _ _ h => (Bool.false_ne_true h).elim) (fun _ _ _ _ h => (Bool.false_ne_true h).elim) (fun _ _ _ h => (Bool.false_ne_true h).elim) (fun l p h => ⟨l, p, rfl, h⟩) (fun _ _ _ h => (Bool.false_ne_true h).elim) (fun _ _ _ _ h => (Bool.false_ne_true h).elim) (fun _ _ _ _ h => (Bool.false_ne_true h).elim) (fun _ _ _ _ h => (Bool.false_ne_true h).elim)
noncomputable def onSub (e : Expr) (k : Expr → Expr → Bool) : Bool := caseE e (fun _ => false) (fun _ => false) (fun _ _ _ => false) (fun _ _ _ => false) (fun _ _ _ => false) (fun _ _ => false) (fun _ _ => false) (fun _ _ _ => false) (fun _ => false) (fun _ => false) k (fun _ _ _ => false) (fun _ _ _ _ => false) (fun _ _ _ => false)
theorem onSub_iff {e : Expr} {k : Expr → Expr → Bool} (h : onSub e k = true) : ∃ v s p, e = .Subscript v s p ∧ k v s = true :=
  caseE_iff (Q := fun e => ∃ v s p, e = .Subscript v s p ∧ k v s = true) h (fun _ _ h => (Bool.false_ne_true h).elim) (fun _ _ _ h => (Bool.false_ne_true h).elim) (fun _ _ _ h => (Bool.false_ne_true h).elim) (fun _ _ _ _ h => (Bool.false_ne_true h).elim) (fun _ _ _ _ h => (Bool.false_ne_true h).elim) (fun _ _ _ h => (Bool.false_ne_true h).elim) (fun _ _ _ h => (Bool.false_ne_true h).elim) (fun _ _ _ _ h => (Bool.false_ne_true h).elim) (fun _ _ _ h => (Bool.false_ne_true h).elim) (fun _ _ h => (Bool.false_ne_true h).elim) (fun v s p h => ⟨v, s, p, rfl, h⟩) (fun _ _ _ _ h => (Bool.false_ne_true h).elim) (fun _ _ _ _ h => (Bool.false_ne_true h).elim) (fun _ _ _ _ h => (Bool.false_ne_true h).elim)
noncomputable def onSlice (e : Expr) (k : Option Expr → Option Expr → Option Expr → Bool) : Bool := caseE e (fun _ => false) (fun _ => false) (fun _ _ _ => false) (fun _ _ _ => false) (fun _ _ _ => false) (fun _ _ => false) (fun _ _ => false) (fun _ _ _ => false) (fun _ => false) (fun _ => false) (fun _ _ => false) k (fun _ _ _ _ => false) (fun _ _ _ => false)
theorem onSlice_iff {e : Expr} {k : Option Expr → Option Expr → Option Expr → Bool} (h : onSlice e k = true) : ∃ l u t p, e = .Slice l u t p ∧ k l u t = true :=
  caseE_iff (Q := fun e => ∃ l u t p, e = .Slice l u t p ∧ k l u t = true) h (fun _ _ h => (Bool.false_ne_true h).elim) (fun _ _ _ h => (Bool.false_ne_true h).elim) (fun _ _ _ h => (Bool.false_ne_true h).elim) (fun _ _ _ _ h => (Bool.false_ne_true h).elim) (fun _ _ _ _ h => (Bool.false_ne_true h).elim) (fun _ _ _ h => (Bool.false_ne_true h).elim) (fun _ _ _ h => (Bool.false_ne_true h).elim) (fun _ _ _ _ h => (Bool.false_ne_true h).elim) (fun _ _ _ h => (Bool.false_ne_true h).elim) (fun _ _ h => (Bool.false_ne_true h).elim) (fun _ _ _ h => (Bool.false_ne_true h).elim) (fun l u t p h => ⟨l, u, t, p, rfl, h⟩) (fun _ _ _ _ h => (Bool.false_ne_true h).elim) (fun _ _ _ _ h => (Bool.false_ne_true h).elim)
noncomputable def onCall (e : Expr) (k : Expr → List Expr → List Keyword → Pos → Bool) : Bool := caseE e (fun _ => false) (fun _ => false) (fun _ _ _ => false) (fun _ _ _ => false) (fun _ _ _ => false) (fun _ _ => false) (fun _ _ => false) (fun _ _ _ => false) (fun _ => false) (fun _ => false) (fun _ _ => false) (fun _ _ _ => false) k (fun _ _ _ => false)
theorem onCall_iff {e : Expr} {k : Expr → List Expr → List Keyword → Pos → Bool} (h : onCall e k = true) : ∃ g es kw p, e = .Call g es kw p ∧ k g es kw p = true :=
  caseE_iff (Q := fun e => ∃ g es kw p, e = .Call g es kw p ∧ k g es kw p = true) h (fun _ _ h => (Bool.false_ne_true h).elim) (fun _ _ _ h => (Bool.false_ne_true h).elim) (fun _ _ _ h => (Bool.false_ne_true h).elim) (fun _ _ _ _ h => (Bool.false_ne_true h).elim) (fun _ _ _ _ h => (Bool.false_ne_true h).elim) (fun _ _ _ h => (Bool.false_ne_true h).elim) (fun _ _ _ h => (Bool.false_ne_true h).elim) (fun _ _ _ _ h => (Bool.false_ne_true h).elim) (fun _ _ _ h => (Bool.false_ne_true h).elim) (fun _ _ h => (Bool.false_ne_true h).elim) (fun _ _ _ h => (Bool.false_ne_true h).elim) (fun _ _ _ _ h => (Bool.false_ne_true h).elim) (fun g es kw p h => ⟨g, es, kw, p, rfl, h⟩) (fun _ _ _ _ h => (Bool.false_ne_true h).elim)
noncomputable def onComp (e : Expr) (k : Expr → List Comprehension → Scope → Bool) : Bool := caseE e (fun _ => false) (fun _ => false) (fun _ _ _ => false) (fun _ _ _ => false) (fun _ _ _ => false) (fun _ _ => false) (fun _ _ => false) (fun _ _ _ => false) (fun _ => false) (fun _ => false) (fun _ _ => false) (fun _ _ _ => false) (fun _ _ _ _ => false) k
theorem onComp_iff {e : Expr} {k : Expr → List Comprehension → Scope → Bool} (h : onComp e k = true) : ∃ l g s p, e = .ListComp l g s p ∧ k l g s = true :=
  caseE_iff (Q := fun e => ∃ l g s p, e = .ListComp l g s p ∧ k l g s = true) h (fun _ _ h => (Bool.false_ne_true h).elim) (fun _ _ _ h => (Bool.false_ne_true h).elim) (fun _ _ _ h => (Bool.false_ne_true h).elim) (fun _ _ _ _ h => (Bool.false_ne_true h).elim) (fun _ _ _ _ h => (Bool.false_ne_true h).elim) (fun _ _ _ h => (Bool.false_ne_true h).elim) (fun _ _ _ h => (Bool.false_ne_true h).elim) (fun _ _ _ _ h => (Bool.false_ne_true h).elim) (fun _ _ _ h => (Bool.false_ne_true h).elim) (fun _ _ h => (Bool.false_ne_true h).elim) (fun _ _ _ h => (Bool.false_ne_true h).elim) (fun _ _ _ _ h => (Bool.false_ne_true h).elim) (fun _ _ _ _ h => (Bool.false_ne_true h).elim) (fun l g s p h => ⟨l, g, s, p, rfl, h⟩)
noncomputable def clsE (e : Expr) : Nat := Expr.casesOn (motive_1 := fun _ => Nat) e (fun _ _ _ => 7) (fun _ _ _ => 14) (fun _ _ _ _ => 3) (fun _ _ _ => 6) (fun _ _ _ _ => 14) (fun _ _ _ _ => 8) (fun _ _ _ => 14) (fun _ _ _ => 14) (fun _ _ _ _ => 10) (fun _ _ _ _ => 11) (fun _ _ _ _ _ => 12) (fun _ _ _ _ => 14) (fun _ _ => 14) (fun _ _ => 14) (fun _ _ => 14) (fun _ _ _ _ => 9) (fun _ _ _ _ => 14) (fun _ _ _ _ => 14) (fun _ _ => 14) (fun _ _ _ => 2) (fun _ _ _ => 1) (fun _ _ _ => 4) (fun _ _ => 13) (fun _ _ => 0) (fun _ _ => 5) (fun _ _ _ => 14) (fun _ _ _ _ => 14)
noncomputable def isCNone : Const → Bool
  | .none => true
  | _ => false
theorem isCNone_iff {c : Const} (h : isCNone c = true) : c = .none := by
  cases c <;> first | rfl | exact absurd h Bool.false_ne_true
noncomputable def onCInt (c : Const) (k : Int → Bool) : Bool := match c with
  | .int i => k i
  | _ => false
theorem onCInt_iff {c : Const} {k : Int → Bool} (h : onCInt c k = true) : ∃ i, c = .int i ∧ k i = true := by
  cases c <;> first | exact ⟨_, rfl, h⟩ | exact absurd h Bool.false_ne_true
noncomputable def onCBool (c : Const) (k : Bool → Bool) : Bool := match c with
  | .bool i => k i
  | _ => false
theorem onCBool_iff {c : Const} {k : Bool → Bool} (h : onCBool c k = true) : ∃ i, c = .bool i ∧ k i = true := by
  cases c <;> first | exact ⟨_, rfl, h⟩ | exact absurd h Bool.false_ne_true
noncomputable def onCStr (c : Const) (k : Str → Bool) : Bool := match c with
  | .str i => k i
  | _ => false
theorem onCStr_iff {c : Const} {k : Str → Bool} (h : onCStr c k = true) : ∃ i, c = .str i ∧ k i = true := by
  cases c <;> first | exact ⟨_, rfl, h⟩ | exact absurd h Bool.false_ne_true
noncomputable def onInt (e : Expr) (k : Int → Bool) : Bool := onConst e fun c => onCInt c k
theorem onInt_iff {e : Expr} {k : Int → Bool} (h : onInt e k = true) : ∃ i n p, e = .Constant (.int i) n p ∧ k i = true := by
  obtain ⟨c, n, p, rfl, h⟩ := onConst_iff h
  obtain ⟨i, rfl, h⟩ := onCInt_iff h
  exact ⟨i, n, p, rfl, h⟩
noncomputable def onStr (e : Expr) (k : Str → Bool) : Bool := onConst e fun c => onCStr c k
theorem onStr_iff {e : Expr} {k : Str → Bool} (h : onStr e k = true) : ∃ i n p, e = .Constant (.str i) n p ∧ k i = true := by
  obtain ⟨c, n, p, rfl, h⟩ := onConst_iff h
  obtain ⟨i, rfl, h⟩ := onCStr_iff h
  exact ⟨i, n, p, rfl, h⟩
noncomputable def onBool (e : Expr) (k : Bool → Bool) : Bool := onConst e fun c => onCBool c k
theorem onBool_iff {e : Expr} {k : Bool → Bool} (h : onBool e k = true) : ∃ i n p, e = .Constant (.bool i) n p ∧ k i = true := by
  obtain ⟨c, n, p, rfl, h⟩ := onConst_iff h
  obtain ⟨i, rfl, h⟩ := onCBool_iff h
  exact ⟨i, n, p, rfl, h⟩
noncomputable def isNoneC (e : Expr) : Bool := onConst e isCNone
theorem isNoneC_iff {e : Expr} (h : isNoneC e = true) : ∃ n p, e = .Constant .none n p := by
  obtain ⟨c, n, p, rfl, h⟩ := onConst_iff h
  exact ⟨n, p, by rw [isCNone_iff h]⟩
section
variable {α : Type}
noncomputable def on0 (l : List α) (b : Bool) : Bool := match l with
  | [] => b
  | _ => false
theorem on0_iff {l : List α} {b : Bool} (h : on0 l b = true) : l = [] ∧ b = true := by
  cases l <;> first | exact ⟨rfl, h⟩ | exact absurd h Bool.false_ne_true
noncomputable def onC (l : List α) (k : α → List α → Bool) : Bool := match l with
  | a :: r => k a r
  | [] => false
theorem onC_iff {l : List α} {k : α → List α → Bool} (h : onC l k = true) : ∃ a r, l = a :: r ∧ k a r = true := by
  cases l <;> first | exact ⟨_, _, rfl, h⟩ | exact absurd h Bool.false_ne_true
noncomputable def on1 (l : List α) (k : α → Bool) : Bool := onC l fun a r => on0 r (k a)
theorem on1_iff {l : List α} {k : α → Bool} (h : on1 l k = true) : ∃ a, l = [a] ∧ k a = true := by
  obtain ⟨a, r, rfl, h⟩ := onC_iff h
  obtain ⟨rfl, h⟩ := on0_iff h
  exact ⟨a, rfl, h⟩
noncomputable def on2 (l : List α) (k : α → α → Bool) : Bool := onC l fun a r => on1 r (k a)
theorem on2_iff {l : List α} {k : α → α → Bool} (h : on2 l k = true) : ∃ a b, l = [a, b] ∧ k a b = true := by
  obtain ⟨a, r, rfl, h⟩ := onC_iff h
  obtain ⟨b, rfl, h⟩ := on1_iff h
  exact ⟨a, b, rfl, h⟩
noncomputable def on3 (l : List α) (k : α → α → α → Bool) : Bool := onC l fun a r => on2 r (k a)
theorem on3_iff {l : List α} {k : α → α → α → Bool} (h : on3 l k = true) : ∃ a b c, l = [a, b, c] ∧ k a b c = true := by
  obtain ⟨a, r, rfl, h⟩ := onC_iff h
  obtain ⟨b, c, rfl, h⟩ := on2_iff h
  exact ⟨a, b, c, rfl, h⟩
noncomputable def onSome (l : Option α) (k : α → Bool) : Bool := match l with
  | some a => k a
  | none => false
theorem onSome_iff {l : Option α} {k : α → Bool} (h : onSome l k = true) : ∃ a, l = some a ∧ k a = true := by
  cases l <;> first | exact ⟨_, rfl, h⟩ | exact absurd h Bool.false_ne_true
noncomputable def onNo (l : Option α) (b : Bool) : Bool := match l with
  | some _ => false
  | none => b
theorem onNo_iff {l : Option α} {b : Bool} (h : onNo l b = true) : l = none ∧ b = true := by
  cases l <;> first | exact ⟨rfl, h⟩ | exact absurd h Bool.false_ne_true
end
/-- one comparison -/
noncomputable def onCmp1 (e : Expr) (k : Expr → CmpOp → Expr → Bool) : Bool := onCmp e fun l os rs => on1 os fun o => on1 rs fun r => k l o r
theorem onCmp1_iff {e : Expr} {k : Expr → CmpOp → Expr → Bool} (h : onCmp1 e k = true) : ∃ l o r p, e = .Compare l [o] [r] p ∧ k l o r = true := by
  obtain ⟨l, os, rs, p, rfl, h⟩ := onCmp_iff h
  obtain ⟨o, rfl, h⟩ := on1_iff h
  obtain ⟨r, rfl, h⟩ := on1_iff h
  exact ⟨l, o, r, p, rfl, h⟩
/-- a call without keywords -/
noncomputable def onCallP (e : Expr) (k : Expr → List Expr → Pos → Bool) : Bool := onCall e fun g es kw p => on0 kw (k g es p)
theorem onCallP_iff {e : Expr} {k : Expr → List Expr → Pos → Bool} (h : onCallP e k = true) : ∃ g es p, e = .Call g es [] p ∧ k g es p = true := by
  obtain ⟨g, es, kw, p, rfl, h⟩ := onCall_iff h
  obtain ⟨rfl, h⟩ := on0_iff h
  exact ⟨g, es, p, rfl, h⟩
noncomputable def onCall1 (e : Expr) (k : Expr → Expr → Bool) : Bool := onCallP e fun g es _ => on1 es (k g)
theorem onCall1_iff {e : Expr} {k : Expr → Expr → Bool} (h : onCall1 e k = true) : ∃ g x p, e = .Call g [x] [] p ∧ k g x = true := by
  obtain ⟨g, es, p, rfl, h⟩ := onCallP_iff h
  obtain ⟨x, rfl, h⟩ := on1_iff h
  exact ⟨g, x, p, rfl, h⟩
noncomputable def onCall2 (e : Expr) (k : Expr → Expr → Expr → Bool) : Bool := onCallP e fun g es _ => on2 es (k g)
theorem onCall2_iff {e : Expr} {k : Expr → Expr → Expr → Bool} (h : onCall2 e k = true) : ∃ g x y p, e = .Call g [x, y] [] p ∧ k g x y = true := by
  obtain ⟨g, es, p, rfl, h⟩ := onCallP_iff h
  obtain ⟨x, y, rfl, h⟩ := on2_iff h
  exact ⟨g, x, y, p, rfl, h⟩
/-- a call of a method, in one line -/
noncomputable def onMeth (e : Expr) (k : Expr → Str → List Expr → Bool) : Bool := onCallP e fun g es p => onAttr g fun v x ap => ap.endLine == p.line && k v x es
theorem onMeth_iff {e : Expr} {k : Expr → Str → List Expr → Bool} (h : onMeth e k = true) : ∃ v x ap es p, e = .Call (.Attribute v x ap) es [] p ∧ ap.endLine = p.line ∧ k v x es = true := by
  obtain ⟨g, es, p, rfl, h1⟩ := onCallP_iff h
  obtain ⟨v, x, ap, rfl, h2⟩ := onAttr_iff h1
  replace h2 := and2 h2
  exact ⟨v, x, ap, es, p, rfl, eq_of_beq h2.1, h2.2⟩
noncomputable def onMeth1 (e : Expr) (k : Expr → Str → Expr → Bool) : Bool := onMeth e fun v x es => on1 es (k v x)
theorem onMeth1_iff {e : Expr} {k : Expr → Str → Expr → Bool} (h : onMeth1 e k = true) : ∃ v x ap z p, e = .Call (.Attribute v x ap) [z] [] p ∧ ap.endLine = p.line ∧ k v x z = true := by
  obtain ⟨v, x, ap, es, p, rfl, h1, h⟩ := onMeth_iff h
  obtain ⟨z, rfl, h⟩ := on1_iff h
  exact ⟨v, x, ap, z, p, rfl, h1, h⟩
/-- a cut -/
noncomputable def onCut (e : Expr) (k : Expr → Option Expr → Option Expr → Bool) : Bool := onSub e fun v s => onSlice s fun l u t => onNo t (k v l u)
theorem onCut_iff {e : Expr} {k : Expr → Option Expr → Option Expr → Bool} (h : onCut e k = true) : ∃ v l u q p, e = .Subscript v (.Slice l u none q) p ∧ k v l u = true := by
  obtain ⟨v, s, p, rfl, h⟩ := onSub_iff h
  obtain ⟨l, u, t, q, rfl, h⟩ := onSlice_iff h
  obtain ⟨rfl, h⟩ := onNo_iff h
  exact ⟨v, l, u, q, p, rfl, h⟩
/-- a list's comprehension, one plain turn over a name -/
noncomputable def onComp1 (e : Expr) (k : Expr → Str → Expr → Scope → Bool) : Bool := onComp e fun elt gs scope => on1 gs fun g => onName g.target fun y => on0 g.ifs (g.is_async == 0 && k elt y g.iter scope)
theorem onComp1_iff {e : Expr} {k : Expr → Str → Expr → Scope → Bool} (h : onComp1 e k = true) : ∃ elt y q z scope p, e = .ListComp elt [⟨.Name y q, z, [], 0⟩] scope p ∧ k elt y z scope = true := by
  obtain ⟨elt, gs, scope, p, rfl, h⟩ := onComp_iff h
  obtain ⟨⟨t, z, ifs, as⟩, rfl, h⟩ := on1_iff h
  obtain ⟨y, q, e1, h⟩ := onName_iff h
  obtain ⟨e2, h⟩ := on0_iff h
  replace h := and2 h
  dsimp only at e1 e2 h
  obtain ⟨e3, h⟩ := h
  have e3 := eq_of_beq e3
  subst e1 e2 e3
  exact ⟨elt, y, q, z, scope, p, rfl, h⟩
noncomputable def isName (x : Str) (e : Expr) : Bool := onName e fun y => y == x
noncomputable def isBuiltinName (cs : Scope) (x : String) (e : Expr) : Bool := onName e fun y => y == Str.ofString x && isGlob cs (Str.ofString x)
noncomputable def plainTest (e : Expr) : Bool := Nat.ble (clsE e) 5 || Nat.ble 10 (clsE e)
/-- a comprehension's item: n its own name -/
noncomputable def mE (n : Nat) (lk : Str → Option NameKind) : X → Expr → Bool
  | .loc k, e => onName e fun y => y == nm k && Nat.blt k 41 && (Nat.beq k n || lk y == some .free)
  | .cint i, e => onInt e fun j => i == j
  | .bin op a b, e => onBin e fun l o r => o == opOf op && mE n lk a l && mE n lk b r
  | .cmp op a b, e => onCmp1 e fun l o r => o == cpOf op && mE n lk a l && mE n lk b r
  | .ife c a b, e => onIf e fun t x y => isCmp t && mE n lk c t && mE n lk a x && mE n lk b y
  | _, _ => false
where
  isCmp (e : Expr) : Bool := onCmp1 e fun _ _ _ => true
noncomputable def notStar (e : Expr) : Bool := Nat.ble (clsE e) 12 || Nat.ble 14 (clsE e)
noncomputable def plainBase (e : Expr) : Bool := Nat.ble (clsE e) 2
noncomputable def plainIdx (e : Expr) : Bool := Nat.ble (clsE e) 3
noncomputable def mC (cs : Scope) (n : Nat) (x : X) (scope : Scope) (elt : Expr) : Bool :=
    Nat.blt n 41 && scope.kind == .function && scope.names.all (fun y => y.2 != .cell) && (scope.names.all fun y => y.2 != .local || scope.names.lookup y.1 == some .local) && scope.names.lookup (nm n) == some .local &&
    (scope.names.all fun y => y.2 != .free || (cs.names.lookup y.1 == some .cell)) && mE n (fun y => scope.names.lookup y) x elt
/-- an attribute's name -/
noncomputable def isFld (f : Nat) : Bool := Nat.beq f 1 || (Nat.beq f 2 || (Nat.beq f 3 || (Nat.beq f 15 || Nat.beq f 18)))
theorem isFld_lt {f : Nat} (h : isFld f = true) : f < 41 := by
  unfold isFld at h
  simp only [Bool.or_eq_true] at h
  rcases h with h | h | h | h | h <;> (have := Nat.eq_of_beq_eq_true h; omega)
mutual
noncomputable def mX (cs : Scope) : X → Expr → Bool
  | .loc n, e => onName e fun y => y == nm n
  | .glob g, e => isBuiltinName cs (gName g) e && Nat.blt g 5
  | .cnone, e => isNoneC e
  | .cbool b, e => onBool e fun c => b == c
  | .cint i, e => onInt e fun j => i == j
  | .cstr x, e => onStr e fun y => y == Str.ofString x
  | .neg i, e => onUn e fun o x => o == .USub && onInt x fun j => i == j
  | .attr o f, e => onAttr e fun v x _ => x == nm f && isFld f && plainBase v && mX cs o v
  | .bin op a b, e => onBin e fun l o r => o == opOf op && mX cs a l && mX cs b r
  | .cmp op a b, e => onCmp1 e fun l o r => o == cpOf op && mX cs a l && mX cs b r
  | .ife c a b, e => onIf e fun t x y => mT cs c t && mX cs a x && mX cs b y
  | .tup xs, e => onTup e fun es => mXs cs xs es
  | .il xs, e => onList e fun es => mXs cs xs es
  | .dl xs, e => onList e fun es => mXs cs xs es
  | .mil xs, e => onList e fun es => mXs cs xs es
  | .mdl, e => onList e fun es => on0 es true
  | .idx a i, e => onSub e fun v s => plainIdx s && mX cs a v && mX cs i s
  | .slc a lo hi, e => onCut e fun v l u => onSome l fun l => onSome u fun u => mX cs a v && mX cs lo l && mX cs hi u
  | .slcTo a hi, e => onCut e fun v l u => onNo l (onSome u fun u => mX cs a v && mX cs hi u)
  | .slcFrom a lo, e => onCut e fun v l u => onSome l fun l => onNo u (mX cs a v && mX cs lo l)
  | .call f xs, e => onCallP e fun g es _ => isBuiltinName cs (fName f) g && Nat.blt 8 f && Nat.blt f 30 && f != 13 && f != 14 && mXs cs xs es
  | .meth f o xs, e => onMeth e fun v x es => x == Str.ofString (fName f) && plainBase v && Nat.blt es.length 30 && mX cs o v && mXs cs xs es
  | .len a, e => onCall1 e fun g x => isBuiltinName cs "len" g && notStar x && mX cs a x
  | .max a b, e => onCall2 e fun g x y => isBuiltinName cs "max" g && notStar x && notStar y && mX cs a x && mX cs b y
  | .min a b, e => onCall2 e fun g x y => isBuiltinName cs "min" g && notStar x && notStar y && mX cs a x && mX cs b y
  | .toB a, e => onCall1 e fun g x => isBuiltinName cs "bytes" g && notStar x && mX cs a x
  | .chr a, e => onCall1 e fun g x => isBuiltinName cs "chr" g && notStar x && mX cs a x
  | .any a, e => onCall1 e fun g x => isBuiltinName cs "any" g && notStar x && mX cs a x
  | .join a, e => onMeth1 e fun v x z => x == ("join" : Str) && notStar z && (onStr v fun y => y == ("" : Str)) && mX cs a z
  | .tindex a b, e => onMeth1 e fun v x z => x == ("index" : Str) && plainBase v && notStar z && mX cs a v && mX cs b z
  | .pop0 a, e => onMeth1 e fun v x z => x == ("pop" : Str) && plainBase v && (onInt z fun i => i == 0) && mX cs a v
  | .frz a, e => mX cs a e
  | .compR n x it, e => onComp1 e fun elt y z scope => onCall1 z fun g z => y == nm n && isBuiltinName cs "range" g && notStar z && mX cs it z && mC cs n x scope elt
  | .compL n x it, e => onComp1 e fun elt y z scope => y == nm n && mX cs it z && mC cs n x scope elt && plainIdx z
  | _, _ => false
noncomputable def mT (cs : Scope) : X → Expr → Bool
  | .cmp op a b, e => onCmp1 e fun l o r => o == cpOf op && mX cs a l && mX cs b r
  | .cmp2 o1 o2 a b c, e => onCmp e fun l os rs => on2 os fun p1 p2 => on2 rs fun r t => p1 == cpOf o1 && p2 == cpOf o2 && mX cs a l && mX cs b r && mX cs c t
  | .isNone a, e => onCmp1 e fun l o r => o == .Is && isNoneC r && mX cs a l
  | .inn a b, e => onCmp1 e fun l o r => o == .In && (onName r fun _ => true) && mX cs a l && mX cs b r
  | .and a b, e => onBoolOp e fun o es => o == .And && on2 es fun l r => mT cs a l && mT cs b r
  | .or a b, e => onBoolOp e fun o es => o == .Or && on2 es fun l r => mT cs a l && mT cs b r
  | .or3 a b c, e => onBoolOp e fun o es => o == .Or && on3 es fun l r t => mT cs a l && mT cs b r && mT cs c t
  | .not a, e => onUn e fun o x => o == .Not && mT cs a x
  | .loc n, e => plainTest e && (onName e fun y => y == nm n)
  | .cbool b, e => plainTest e && (onBool e fun c => b == c)
  | .call f xs, e => plainTest e && (onCallP e fun g es _ => isBuiltinName cs (fName f) g && Nat.blt 8 f && Nat.blt f 30 && f != 13 && f != 14 && mXs cs xs es)
  | .meth f o xs, e => plainTest e && (onMeth e fun v x es => x == Str.ofString (fName f) && plainBase v && Nat.blt es.length 30 && mX cs o v && mXs cs xs es)
  | .any a, e => plainTest e && (onCall1 e fun g x => isBuiltinName cs "any" g && notStar x && mX cs a x)
  | _, _ => false
noncomputable def mXs (cs : Scope) : Xs → List Expr → Bool
  | .nil, es => on0 es true
  | .cons x xs, es => onC es fun e r => notStar e && mX cs x e && mXs cs xs r
end
end Mine
end

section
open PySem PySem.W PyProof.Rows PySem.Calls
namespace Mine
/-- what no step of ours turns -/
noncomputable abbrev OG := OsState × Array GenState
noncomputable abbrev og (s : Shared) : OG := (s.os, s.gens)
variable {ζ : OG}

/-- where an activation stands -/
structure Cx where
  base : Heap
  L : Addr
  cn : Str
  cs : Scope
  cl : List (Str × Addr)
  a : Addr
  ccd : Value
  outer : List Env
  rest : List (Addr × Obj)
  L0 : Addr
  m0 : Str → Option Value
  xb : Heap
  og : OG
noncomputable def Cx.env (c : Cx) : Env := { scope := c.cs, locals := c.L, globals := mainGlobals, cells := c.cl, qual := c.cn ++ ".<locals>.", func := some c.a, code := c.ccd, frame := some c.L, builtins := builtinsNs }

/-- an exception under way -/
noncomputable def TB (base h : Heap) (l : List Env) (ea : Addr) (vs : Array Value) : Prop :=
  vs[1]? = some .none ∨ ∃ T oT ts, vs[1]? = some (.ref T) ∧ base.get? T = none ∧ T ≠ ea ∧ h.get? T = some oT ∧ oT.data = .fields ts ∧
    (ts[3]? = some .none ∨ ∃ env r L, l = env :: r ∧ env.frame = some L ∧ ts[3]? = some (rawInt L))
noncomputable def XP (base : Heap) (l : List Env) (L0 : Addr) (m0 : Str → Option Value) (why : Str) (e : Value) (h : Heap) : Prop :=
  ∃ ea oe vs d mA t, e = .ref ea ∧ base.StaysIn h ∧ base.get? ea = none ∧ h.FunFrames base l ∧ h.Ns L0 m0 ∧ h.get? ea = some oe ∧ oe.cls = .ref 58 ∧ oe.dict = some d ∧ oe.data = .fields vs ∧
    h.Ns d mA ∧ mA "why" = some (.str why t) ∧ TB base h l ea vs

/-- the facts of the kept part that the words need -/
structure KF (K : Frag) : Prop where
  glob : ∀ g, g < 5 → ∃ v, nsIn K mainGlobals (Str.ofString (gName g)) = some (some v) ∧ DR (fun a o => K.lookup a = some o) (gVal g) v
  fn : ∀ f, 8 < f → f < 30 → f ≠ 13 → f ≠ 14 → nsIn K mainGlobals (Str.ofString (fName f)) = some (some (.ref (fAddr f)))
  keep : ∀ f, f < 30 → keepIn K (.ref (fAddr f)) = true
  isFn : ∀ f, f < 28 → isFn K (.ref (fAddr f)) = true
  bi : ∀ x, x ∈ ["len", "max", "min", "bytes", "chr", "any", "range"] → nsIn K mainGlobals (Str.ofString x) = some none
  plain : ∀ c f, plainGet K (clsA c) f = true
  hasD : ∀ c, hasDictIn K (clsA c) = true
  noA : ∀ c f, isFld f = true → findIn K (.ref (clsA c)) (nm f) = some none
  meth : ∀ c f, methOk c f = true → findIn K (.ref (clsA c)) (Str.ofString (fName f)) = some (some (.ref (fAddr f)))
  setA : ∀ c, findIn K (.ref (clsA c)) "__setattr__" = some (some (.builtin "object.__setattr__")) ∧ plainOver K (clsA c) = true ∧ ∀ f, f < 41 → takerIn K (clsA c) (nm f) = some none

structure TopF (mg mb : Str → Option Value) (h : Heap) : Prop where
  g : h.Ns mainGlobals mg
  b : h.Ns builtinsNs mb
  nolimit : h.NoLimit
  builtins : ∀ x : Str, x ≠ "__name__" → mb x = bootBuiltins x

structure Cx.Ok (c : Cx) (K : Frag) (mg mb : Str → Option Value) : Prop where
  kind : c.cs.kind = .function
  cells : ∀ x, c.cs.names.lookup x = some .cell → ∃ a, c.cl.lookup x = some a
  X : K.In c.base
  T : TopF mg mb c.base
  outs : ∀ env ∈ c.outer, env.scope.kind ≠ .module ∧ ∃ L o, env.frame = some L ∧ (L, o) ∈ c.rest ∧ c.xb.get? L = none ∧ ∀ vs, o.data ≠ .fields vs
  xs : ∀ b o, c.xb.get? b = some o → c.base.get? b = some o ∨ (b, o) ∈ c.rest
  xL : c.xb.get? c.L = none
  low : (∃ o es ep, (c.L0, o) ∈ c.rest ∧ o.data = .dict es ep ∧ StrKeys es ∧ ∀ name, nsFind es name = c.m0 name) ∨ c.base.Ns c.L0 c.m0

structure OkA (c : Cx) (ℓ : Nat) (A : Around) : Prop where
  fr : A.frames = some (c.env :: c.outer)
  hd : A.handled = none
  dep : A.depth + 4 * ℓ + 8 < recursionLimit
  un : A.units + 200 * ℓ + 100 < cLine

noncomputable def LocR (env : Env) (P : Kn) (ρ : List Addr) (loc : List (Nat × V)) (m : Str → Option Value) : Prop :=
  ∀ n v, getN n loc = some v → n < 41 ∧ ∃ rv, VR P ρ v rv ∧ ((env.kindOf (nm n) = some .local ∧ m (nm n) = some rv) ∨
    (env.kindOf (nm n) = some .cell ∧ ∃ ca o, env.cells.lookup (nm n) = some ca ∧ P ca o ∧ o.data = .cell (some rv)))
theorem LocR.mono {env : Env} {P P' : Kn} {ρ ρ' : List Addr} {loc : List (Nat × V)} {m : Str → Option Value} (h : LocR env P ρ loc m) (hp : ∀ a o, P a o → P' a o) (hr : ρ <+: ρ') : LocR env P' ρ' loc m := fun n v e => by
  obtain ⟨h1, rv, h2, h3⟩ := h n v e
  exact ⟨h1, rv, h2.mono hp hr, h3.imp id fun ⟨a, ca, o, b, d, f⟩ => ⟨a, ca, o, b, hp _ _ d, f⟩⟩

structure RS (c : Cx) (σ : St) (fro : List (Addr × Obj)) (ρ : List Addr) (m : Str → Option Value) (h : Heap) (ζ : OG) : Prop where
  cs : CS c.base c.L m fro c.rest ρ σ.obs h
  loc : LocR c.env (kn c.base fro) ρ σ.loc m
  oge : ζ = c.og

noncomputable def Suc (c : Cx) (fro : List (Addr × Obj)) (ρ : List Addr) (m : Str → Option Value) (q : V → St → Prop) (Qr : Value → Shared → Prop) : Prop :=
  ∀ fro' ρ' v σ' rv s', (∀ p ∈ fro, p ∈ fro') → ρ <+: ρ' → RS c σ' fro' ρ' m s'.heap (og s') → VR (kn c.base fro') ρ' v rv → q v σ' → Qr rv s'
noncomputable def SucB (c : Cx) (fro : List (Addr × Obj)) (ρ : List Addr) (m : Str → Option Value) (q : Bool → St → Prop) (Qr : Bool → Shared → Prop) : Prop :=
  ∀ fro' ρ' v σ' s', (∀ p ∈ fro, p ∈ fro') → ρ <+: ρ' → RS c σ' fro' ρ' m s'.heap (og s') → q v σ' → Qr v s'
noncomputable def SucL (c : Cx) (fro : List (Addr × Obj)) (ρ : List Addr) (m : Str → Option Value) (q : List V → St → Prop) (Qr : List Value → Shared → Prop) : Prop :=
  ∀ fro' ρ' v σ' rv s', (∀ p ∈ fro, p ∈ fro') → ρ <+: ρ' → RS c σ' fro' ρ' m s'.heap (og s') → VRs (kn c.base fro') ρ' v rv → q v σ' → Qr rv s'
noncomputable def Rai (c : Cx) (XQ : Str → Prop) (Er : Value → Shared → Prop) : Prop :=
  ∀ why e s', XQ why → XP c.xb (c.env :: c.outer) c.L0 c.m0 why e s'.heap → og s' = c.og → Er e s'
theorem Suc.on {c : Cx} {fro fro' : List (Addr × Obj)} {ρ ρ' : List Addr} {m : Str → Option Value} {q : V → St → Prop} {Qr : Value → Shared → Prop} (h : Suc c fro ρ m q Qr) (hf : ∀ p ∈ fro, p ∈ fro') (hr : ρ <+: ρ') : Suc c fro' ρ' m q Qr :=
  fun f r v σ rv s h1 h2 => h f r v σ rv s (fun p hp => h1 p (hf p hp)) (hr.trans h2)
theorem SucB.on {c : Cx} {fro fro' : List (Addr × Obj)} {ρ ρ' : List Addr} {m : Str → Option Value} {q : Bool → St → Prop} {Qr : Bool → Shared → Prop} (h : SucB c fro ρ m q Qr) (hf : ∀ p ∈ fro, p ∈ fro') (hr : ρ <+: ρ') : SucB c fro' ρ' m q Qr :=
  fun f r v σ s h1 h2 => h f r v σ s (fun p hp => h1 p (hf p hp)) (hr.trans h2)
theorem SucL.on {c : Cx} {fro fro' : List (Addr × Obj)} {ρ ρ' : List Addr} {m : Str → Option Value} {q : List V → St → Prop} {Qr : List Value → Shared → Prop} (h : SucL c fro ρ m q Qr) (hf : ∀ p ∈ fro, p ∈ fro') (hr : ρ <+: ρ') : SucL c fro' ρ' m q Qr :=
  fun f r v σ rv s h1 h2 => h f r v σ rv s (fun p hp => h1 p (hf p hp)) (hr.trans h2)

section
variable {prog : Program} {w : World} {c : Cx} {σ : St} {fro : List (Addr × Obj)} {ρ : List Addr} {m : Str → Option Value} {h h' : Heap} {s : Shared} {A : Around} {q : V → St → Prop} {Qr Er : Value → Shared → Prop} {K : Frag} {mg mb : Str → Option Value}
theorem RS.ext (R : RS c σ fro ρ m h ζ) (k : ∀ b o, h.get? b = some o → h'.get? b = some o) : RS c σ fro ρ m h' ζ := ⟨R.cs.ext k, R.loc, R.oge⟩
theorem RS.at (R : RS c σ fro ρ m h ζ) {a : Addr} {o : Obj} (k : kn c.base fro a o) : h.get? a = some o := R.cs.at k
theorem RS.dr (R : RS c σ fro ρ m h ζ) {d : D} {v : Value} (k : DR (kn c.base fro) d v) : DR (fun a o => h.get? a = some o) d v := k.mono fun _ _ => R.at
theorem RS.push (R : RS c σ fro ρ m h ζ) (o : Obj) (hf : o.isFreed = false := by rfl) : RS c σ ((h.objs.size, o) :: fro) ρ m (h.push o) ζ :=
  ⟨R.cs.push o hf, R.loc.mono (kn_mono fun _ hp => .tail _ hp) (List.prefix_refl _), R.oge⟩
/-- where an own list lies -/
theorem RS.il_at (R : RS c σ fro ρ m h ζ) {k : Nat} {xs : List Int} (e : σ.obs[k]? = some (.il xs)) {a : Addr} (ha : ρ[k]? = some a) : ∃ vs n, h.get? a = some (listOf (List.toArray vs) n) ∧ IntsAre vs xs := by
  obtain ⟨a', pc, h1, ⟨vs, n, rfl, hi⟩, h3, _⟩ := R.cs.upd e
  obtain rfl := Option.some.inj (ha.symm.trans h1)
  exact ⟨vs, n, (h3 _ (.head _)).1, hi⟩
theorem RS.lst_at (R : RS c σ fro ρ m h ζ) {k : Nat} {xs : List D} (e : σ.obs[k]? = some (.lst xs)) {a : Addr} (ha : ρ[k]? = some a) : ∃ vs n, h.get? a = some (listOf (List.toArray vs) n) ∧ DRs (kn c.base fro) xs vs := by
  obtain ⟨a', pc, h1, ⟨vs, n, rfl, hi⟩, h3, _⟩ := R.cs.upd e
  obtain rfl := Option.some.inj (ha.symm.trans h1)
  exact ⟨vs, n, (h3 _ (.head _)).1, hi⟩
theorem view_ref {σ : St} {k : Nat} {x : D} (e : view σ (.ref k) = some x) : (∃ xs, σ.obs[k]? = some (.il xs) ∧ x = .il xs) ∨ (∃ ds, σ.obs[k]? = some (.lst ds) ∧ x = .lst ds) := by
  have e : (match σ.obs[k]? with
    | some (.il xs) => some (.il xs)
    | some (.lst ds) => some (.lst ds)
    | _ => none) = some x := e
  cases hq : σ.obs[k]? with
  | none => rw [hq] at e; exact nomatch (show Option.none = some x from e)
  | some o =>
    rw [hq] at e
    cases o with
    | il xs => exact .inl ⟨xs, rfl, (Option.some.inj e).symm⟩
    | lst ds => exact .inr ⟨ds, rfl, (Option.some.inj e).symm⟩
    | _ => exact nomatch (show Option.none = some x from e)
theorem RS.view (R : RS c σ fro ρ m h ζ) {v : V} {rv : Value} {x : D} (k : VR (kn c.base fro) ρ v rv) (e : view σ v = some x) : DR (fun a o => h.get? a = some o) x rv := by
  cases v with
  | d y => exact R.dr ((Option.some.inj e : y = x) ▸ k.dd)
  | ref j =>
    obtain ⟨a, rfl, ha⟩ := k.inv
    rcases view_ref e with ⟨xs, ho, rfl⟩ | ⟨ds, ho, rfl⟩
    · obtain ⟨vs, n, hg, hi⟩ := R.il_at ho ha
      exact .il hg hi
    · obtain ⟨vs, n, hg, hi⟩ := R.lst_at ho ha
      exact .lst hg (hi.mono fun _ _ => R.at)
  | tup _ => exact nomatch (show Option.none = some x from e)
/-- what is given back stands where it stood -/
theorem Suc.pure (H : Suc c fro ρ m q Qr) (R : RS c σ fro ρ m s.heap (og s)) {v : V} {rv : Value} (hv : VR (kn c.base fro) ρ v rv) (hq : q v σ) (t : Nat) : Qr rv { s with toks := t } :=
  H fro ρ v σ rv { s with toks := t } (fun _ hp => hp) (List.prefix_refl _) R hv hq
theorem Suc.pure' (H : Suc c fro ρ m q Qr) (R : RS c σ fro ρ m s.heap (og s)) {v : V} {rv : Value} (hv : VR (kn c.base fro) ρ v rv) (hq : q v σ) : Qr rv s :=
  H fro ρ v σ rv s (fun _ hp => hp) (List.prefix_refl _) R hv hq

theorem nm_not_debug : ∀ n < 41, (nm n == ("__debug__" : Str)) = false := by decide +kernel

theorem name_sound (O : c.Ok K mg mb) {y : Str} {pos : Pos} {n : Nat} (hy : (y == nm n) = true) (R : RS c σ fro ρ m s.heap (og s)) {v : V} (e : getN n σ.loc = some v)
    (H : ∀ rv, VR (kn c.base fro) ρ v rv → Qr rv s) : wpAny (model prog w) A (eval (.Name y pos) c.env) Qr Er s := by
  obtain rfl := eq_of_beq hy
  obtain ⟨hn, rv, hv, hk⟩ := R.loc n v e
  refine wpAny_Name ?_ (nm_not_debug n hn)
  rcases hk with ⟨h1, h2⟩ | ⟨h1, ca, o, h2, h3, h4⟩
  · exact wpAny_loadName_local O.kind h1 R.cs.fr.ns h2 (H rv hv)
  · exact wpAny_loadName_cell O.kind h1 h2 ⟨o, R.at h3, h4⟩ (H rv hv)
theorem glob_name (O : c.Ok K mg mb) {x : String} {e : PySem.Expr} (he : isBuiltinName c.cs x e = true) (F : Fr c.base c.L s.heap m) {v : Value} (hv : nsIn K mainGlobals (Str.ofString x) = some (some v)) (hd : (Str.ofString x == ("__debug__" : Str)) = false)
    (H : Qr v s) : wpAny (model prog w) A (eval e c.env) Qr Er s := by
  unfold isBuiltinName at he
  replace he := onName_iff he; obtain ⟨y, p, rfl, he⟩ := he
  replace he := and2 he
  obtain ⟨h1, h2⟩ := he
  obtain rfl := eq_of_beq h1
  exact Name_function_global (env := c.env) O.kind (eq_of_beq h2) (loadGlobal_global (env := c.env) (O.T.g.keeps F.keep) (mg_of O.X O.T.g hv) H) hd
theorem builtin_name (O : c.Ok K mg mb) {x : String} {e : PySem.Expr} (he : isBuiltinName c.cs x e = true) (F : Fr c.base c.L s.heap m) {v : Value} (hn : nsIn K mainGlobals (Str.ofString x) = some none) (hv : bootBuiltins (Str.ofString x) = some v) (hx : Str.ofString x ≠ "__name__")
    (hd : (Str.ofString x == ("__debug__" : Str)) = false) (H : Qr v s) : wpAny (model prog w) A (eval e c.env) Qr Er s := by
  unfold isBuiltinName at he
  replace he := onName_iff he; obtain ⟨y, p, rfl, he⟩ := he
  replace he := and2 he
  obtain ⟨h1, h2⟩ := he
  obtain rfl := eq_of_beq h1
  exact Name_function_global (env := c.env) O.kind (eq_of_beq h2) (loadGlobal_builtin (env := c.env) (O.T.g.keeps F.keep) (mg_none_of O.X O.T.g hn) (O.T.b.keeps F.keep) ((O.T.builtins _ hx).trans hv) H) hd
end
end Mine
end

section
open PySem PySem.W PyProof.Rows PySem.Calls
namespace Mine
variable {ζ : OG}

section
variable {prog : Program} {w : World} {c : Cx} {σ : St} {fro : List (Addr × Obj)} {ρ : List Addr} {m : Str → Option Value} {h h' : Heap} {s : Shared} {A : Around} {Qr Er : Value → Shared → Prop} {K : Frag} {mg mb : Str → Option Value}

/-- what a piece of data comes to -/
noncomputable def SucD (c : Cx) (fro : List (Addr × Obj)) (ρ : List Addr) (m : Str → Option Value) (σ : St) (q : D → Prop) (Qr : Value → Shared → Prop) : Prop :=
  ∀ fro' d rv s', (∀ p ∈ fro, p ∈ fro') → RS c σ fro' ρ m s'.heap (og s') → DR (kn c.base fro') d rv → q d → Qr rv s'
theorem Suc.toD {q : V → St → Prop} (H : Suc c fro ρ m q Qr) : SucD c fro ρ m σ (fun z => q (.d z) σ) Qr :=
  fun fro' _ rv s' h1 h2 h3 h4 => H fro' ρ _ σ rv s' h1 (List.prefix_refl _) h2 (.d h3) h4
theorem SucD.here {q : D → Prop} (H : SucD c fro ρ m σ q Qr) (R : RS c σ fro ρ m s.heap (og s)) {d : D} {rv : Value} (hd : DR (kn c.base fro) d rv) (hq : q d) (t : Nat) : Qr rv { s with toks := t } :=
  H fro d rv { s with toks := t } (fun _ hp => hp) R hd hq
theorem SucD.here' {q : D → Prop} (H : SucD c fro ρ m σ q Qr) (R : RS c σ fro ρ m s.heap (og s)) {d : D} {rv : Value} (hd : DR (kn c.base fro) d rv) (hq : q d) : Qr rv s :=
  H fro d rv s (fun _ hp => hp) R hd hq
/-- an int with a token, at a state of other tokens -/
theorem SucD.num {q : D → Prop} (H : SucD c fro ρ m σ q Qr) (R : RS c σ fro ρ m s.heap (og s)) {i : Int} (hq : q (.int i)) (t : Tok) (k : Nat) : Qr (.int i t) { s with toks := k } := H.here R (.int i t) hq k
theorem SucD.str {q : D → Prop} (H : SucD c fro ρ m σ q Qr) (R : RS c σ fro ρ m s.heap (og s)) {i : Str} (hq : q (.str i)) (t : Tok) (k : Nat) : Qr (.str i t) { s with toks := k } := H.here R (.str i t) hq k

theorem isList_of {a : Addr} {vs : List Value} {n : Nat} (k : h.get? a = some (listOf vs.toArray n)) : h.IsList a vs.toArray := ⟨_, k, rfl, n, rfl⟩
theorem IntsAre.app {vs ws : List Value} {ns ms : List Int} (h1 : IntsAre vs ns) (h2 : IntsAre ws ms) : IntsAre (vs ++ ws) (ns ++ ms) := by
  induction h1 with
  | nil => exact h2
  | cons n t _ ih => exact .cons n t ih
theorem IntsAre.len {vs : List Value} {ns : List Int} (h1 : IntsAre vs ns) : vs.length = ns.length := by
  induction h1 with
  | nil => rfl
  | cons n t _ ih => simp [ih]
theorem IntsAre.rep {vs : List Value} {ns : List Int} (h1 : IntsAre vs ns) (k : Nat) : IntsAre (List.replicate k vs).flatten (List.replicate k ns).flatten := by
  induction k with
  | zero => exact .nil
  | succ k ih => rw [List.replicate_succ, List.replicate_succ, List.flatten_cons, List.flatten_cons]; exact IntsAre.app h1 ih
/-- a new list that is known -/
theorem RS.newL (R : RS c σ fro ρ m s.heap (og s)) {own : List (Addr × Obj)} {o : Obj} (hk : ∀ b x, s.heap.get? b = some x → h'.get? b = some x) (ho : h'.get? s.heap.objs.size = some o) : RS c σ ((s.heap.objs.size, o) :: fro) ρ m h' (og s) :=
  ⟨R.cs.grow hk ho (Nat.le_refl _), R.loc.mono (kn_mono fun _ hp => .tail _ hp) (List.prefix_refl _), R.oge⟩
/-- a rule that hides how the heap grew: frame and ledger alone -/
theorem RS.led {a : Addr} {o : Obj} (R : RS c σ fro ρ m h ζ) {own : List (Addr × Obj)} (hn : ((own ++ (fro ++ c.rest)).map (·.1)).Nodup) (r : ObsR (kn c.base fro) ρ ρ σ.obs own) (N : News c.base c.L h (own ++ (fro ++ c.rest)))
    (F' : Fr c.base c.L h' m) (N' : News c.base c.L h' ((a, o) :: (own ++ (fro ++ c.rest)))) (ha : h.objs.size ≤ a) : RS c σ ((a, o) :: fro) ρ m h' ζ := by
  refine ⟨⟨F', own, fun p hp => N' p ?_, ?_, r.mono (kn_mono fun _ hp => .tail _ hp) (List.prefix_refl _)⟩, R.loc.mono (kn_mono fun _ hp => .tail _ hp) (List.prefix_refl _), R.oge⟩
  · rcases List.mem_append.mp hp with hp | hp
    · exact .tail _ (List.mem_append_left _ hp)
    · rcases List.mem_cons.mp hp with rfl | hp
      · exact .head _
      · exact .tail _ (List.mem_append_right _ hp)
  · rw [List.map_append, List.cons_append, List.map_cons]
    refine List.Perm.nodup_iff (List.perm_middle) |>.mpr ?_
    rw [← List.map_append]
    exact List.nodup_cons.mpr ⟨fun hm => by
      obtain ⟨p, hp, e⟩ := List.mem_map.mp hm
      exact absurd (Heap.lt_size (N p hp).1) (Nat.not_lt.mpr (e ▸ ha)), hn⟩
theorem RS.led0 (R : RS c σ fro ρ m h ζ) {own : List (Addr × Obj)} (hn : ((own ++ (fro ++ c.rest)).map (·.1)).Nodup) (r : ObsR (kn c.base fro) ρ ρ σ.obs own)
    (F' : Fr c.base c.L h' m) (N' : News c.base c.L h' (own ++ (fro ++ c.rest))) : RS c σ fro ρ m h' ζ := ⟨⟨F', own, N', hn, r⟩, R.loc, R.oge⟩

theorem opInt {prog : Program} {w : World} {A : Around} {s : Shared} {op : Op} {i j : Int} {t u : Tok} {q : D → Prop} {Q Er : Value → Shared → Prop} (e : opD op (.int i) (.int j) q) (H : ∀ z t k, q (.int z) → Q (.int z t) { s with toks := k }) :
    wpAny (model prog w) A (binaryOp (opOf op) (.int i t) (.int j u)) Q Er s := by
  cases op
  · exact add_int (H _ _ _ e)
  · exact sub_int (H _ _ _ e)
  · obtain ⟨e1, e2⟩ : IntMulOk i j ∧ q (.int (i * j)) := e
    exact mul_int (H _ _ _ e2) e1
  · obtain ⟨e1, e2, e3⟩ : 0 < j ∧ j < 2 ^ 64 ∧ q (.int (i / j)) := e
    refine floordiv_int (by omega) ?_ (.inl (PyProof.noPylong_of_log2 ?_))
    · rw [Int.fdiv_eq_ediv_of_nonneg _ (by omega)]; exact H _ _ _ e3
    · have : j.natAbs < 2 ^ 64 := by omega
      rcases Nat.eq_zero_or_pos j.natAbs with z | z
      · rw [z]; decide
      · have := (Nat.log2_lt (by omega)).mpr this
        omega
  · obtain ⟨e1, e2⟩ : 0 < j ∧ q (.int (i % j)) := e
    refine mod_int (by omega) ?_
    rw [Int.fmod_eq_emod_of_nonneg _ (by omega)]; exact H _ _ _ e2
  · obtain ⟨e1, e2, e3, e4⟩ : 0 ≤ j ∧ j ≤ 1000 ∧ i.natAbs < 2 ^ 64 ∧ q (.int (i ^ j.toNat)) := e
    exact pow_int_small e1 (by omega) e3 (H _ _ _ e4)
  · obtain ⟨e1, e2, e3, e4⟩ : 0 ≤ j ∧ j ≤ 1000 ∧ i.natAbs < 2 ^ 64 ∧ q (.int (i * 2 ^ j.toNat)) := e
    exact lshift_int_small e1 (by omega) e3 (H _ _ _ e4)
  · obtain ⟨e1, e2⟩ : 0 ≤ j ∧ q (.int (i / 2 ^ j.toNat)) := e
    refine rshift_int e1 ?_
    rw [Int.fdiv_eq_ediv_of_nonneg _ (Int.pow_nonneg (by decide))]; exact H _ _ _ e2
  · exact and_int (H _ _ _ e)
  · exact or_int (H _ _ _ e)
theorem op_sound {op : Op} {x y : D} {q : D → Prop} {rv rw : Value} (R : RS c σ fro ρ m s.heap (og s)) (hx : DR (fun a o => s.heap.get? a = some o) x rv) (hy : DR (fun a o => s.heap.get? a = some o) y rw) (e : opD op x y q) (H : SucD c fro ρ m σ q Qr) :
    wpAny (model prog w) A (binaryOp (opOf op) rv rw) Qr Er s := by
  cases x with
  | int i =>
    obtain ⟨t, rfl⟩ := hx.inv
    cases y with
    | int j =>
      obtain ⟨u, rfl⟩ := hy.inv
      exact opInt (op := op) e (fun z t' k hz => H.num R hz t' k)
    | _ => exact (show False from e).elim
  | str x =>
    obtain ⟨t, rfl⟩ := hx.inv
    cases y with
    | str y =>
      obtain ⟨u, rfl⟩ := hy.inv
      obtain ⟨rfl, e1, e2⟩ := opAdd_iff e
      exact SBL.add (fun t' k _ => H.str R e2 t' k) (Nat.le_trans e1 (by decide))
    | _ => exact (show False from e).elim
  | il xs =>
    obtain ⟨a, vs, n, rfl, ha, ia⟩ := hx.inv
    have l1 := IntsAre.len ia
    obtain ⟨own, N, hn, r⟩ := R.cs.own
    cases y with
    | int k =>
      obtain ⟨t, rfl⟩ := hy.inv
      obtain ⟨rfl, e1, e2, e3, e4⟩ := opMul_iff e
      refine mul_list R.cs.fr N ha (by omega) (by omega) (by rw [List.size_toArray, l1]; omega) fun h' F' N' => ?_
      rw [listMul_foldl_if] at N'
      exact H _ _ _ _ (fun _ hp => .tail _ hp) (R.led hn r N F' N' (Nat.le_refl _)) (.il (.inr (.head _)) (IntsAre.rep ia _)) e4
    | il ys =>
      obtain ⟨b, ws, m, rfl, hb, ib⟩ := hy.inv
      obtain ⟨rfl, e1, e2⟩ := opAdd_iff e
      refine add_lists_ints R.cs.fr N (isList_of ha) (isList_of hb) ia ib (fun h' F' N' I' => ?_) (Nat.le_trans e1 (by decide))
      exact H _ _ _ _ (fun _ hp => .tail _ hp) (R.led hn r N F' N' (Nat.le_refl _)) (.il (.inr (.head _)) I') e2
    | _ => exact (show False from e).elim
  | _ => exact (show False from e).elim
end
end Mine
end

section
open PySem PySem.W PyProof.Rows PySem.Calls
namespace Mine

section
variable {prog : Program} {w : World} {c : Cx} {σ : St} {fro : List (Addr × Obj)} {ρ : List Addr} {m : Str → Option Value} {h h' : Heap} {s : Shared} {A : Around} {Qr Er : Value → Shared → Prop} {K : Frag} {mg mb : Str → Option Value}

theorem u8_inj : ∀ {a b : List UInt8}, a.map (fun c => (c.toNat : Int)) = b.map (fun c => (c.toNat : Int)) → a = b
  | [], [], _ => rfl
  | x :: a, y :: b, e => by
    simp only [List.map_cons, List.cons.injEq] at e
    have h1 : x = y := UInt8.toNat_inj.mp (by have := e.1; omega)
    rw [h1, u8_inj e.2]
  | [], _ :: _, e => by simp at e
  | _ :: _, [], e => by simp at e
theorem bInts_inj {a b : Array UInt8} (e : KBw.bInts a = KBw.bInts b) : a.toList = b.toList := u8_inj e
theorem bytes_beq (a b : Array UInt8) : (a.toList == b.toList) = decide (KBw.bInts a = KBw.bInts b) := by
  by_cases e : KBw.bInts a = KBw.bInts b
  · rw [bInts_inj e]; simp [e]
  · have : a.toList ≠ b.toList := fun z => e (by unfold KBw.bInts; rw [z])
    simp [e]; exact fun z => e (by rw [z])
theorem cmp_sound {op : Cp} {x y : D} {q : Bool → Prop} {rv rw : Value} (hu : A.units + 64 < cLine) (hx : DR (fun a o => s.heap.get? a = some o) x rv) (hy : DR (fun a o => s.heap.get? a = some o) y rw) (e : cmpD op x y q)
    (H : ∀ b, q b → Qr (.bool b) s) : wpAny (model prog w) A (compareOp (cpOf op) rv rw) Qr Er s := by
  cases x with
  | int i =>
    obtain ⟨t, rfl⟩ := hx.inv
    cases y with
    | int j =>
      obtain ⟨u, rfl⟩ := hy.inv
      cases op
      · exact lt_int (H _ e)
      · exact le_int (H _ e)
      · exact gt_int (H _ e)
      · exact ge_int (H _ e)
      · exact eq_int (H _ e)
      · exact ne_int (H _ e)
    | _ => exact (show False from e).elim
  | str x =>
    obtain ⟨t, rfl⟩ := hx.inv
    cases y with
    | str y =>
      obtain ⟨u, rfl⟩ := hy.inv
      rcases cmpE_iff e with ⟨rfl, e⟩ | ⟨rfl, e⟩
      · refine eq_str (H _ ?_); rw [Bool.beq_eq_decide_eq]; exact e
      · refine ne_str (H _ ?_); rw [bne, Bool.beq_eq_decide_eq]; exact e
    | _ => exact (show False from e).elim
  | bytes xs =>
    obtain ⟨bx, t, rfl, rfl⟩ := hx.inv
    cases y with
    | bytes ys =>
      obtain ⟨bs, u, rfl, rfl⟩ := hy.inv
      rcases cmpE_iff e with ⟨rfl, e⟩ | ⟨rfl, e⟩
      · refine PySem.W.eq_bytes (H _ ?_); rw [bytes_beq]; exact e
      · refine PySem.W.ne_bytes (H _ ?_); rw [bne, bytes_beq]; exact e
    | _ => exact (show False from e).elim
  | il xs =>
    obtain ⟨a, vs, n, rfl, ha, ia⟩ := hx.inv
    cases y with
    | il ys =>
      obtain ⟨b, ws, k, rfl, hb, ib⟩ := hy.inv
      obtain ⟨rfl, e⟩ := cmpN_iff e
      exact ne_intsK (isList_of ha) ia (isList_of hb) ib hu (H _ e)
    | _ => exact (show False from e).elim
  | _ => exact (show False from e).elim

theorem plainIdx_sub {sl : PySem.Expr} (hp : plainIdx sl = true) (o i : Value) : subscripted sl false o i = operate [o, i] (getItem o i) := by
  cases sl <;> first | rfl | cases hp
theorem DRs.at {P : Kn} {ds : List D} {vs : List Value} (r : DRs P ds vs) {k : Nat} (hk : k < ds.length) : ∃ d v, ds[k]? = some d ∧ vs[k]? = some v ∧ DR P d v := by
  obtain ⟨v, h1, h2⟩ := r.get (k := k) (d := ds[k]) (by simp [hk])
  exact ⟨_, v, by simp [hk], h1, h2⟩
theorem idx_sound {value sl : PySem.Expr} {x y : D} {q : D → Prop} {rv rw : Value} (hp : plainIdx sl = true) (R : RS c σ fro ρ m s.heap (og s)) (hx : DR (kn c.base fro) x rv) (hy : DR (kn c.base fro) y rw)
    (e : idxD x y q) (H : SucD c fro ρ m σ q Qr) : wpAny (model prog w) A (subscriptTail value sl rv rw) Qr Er s := by
  cases y with
  | int i =>
    obtain ⟨t, rfl⟩ := hy.inv
    cases x with
    | il xs =>
      obtain ⟨a, vs, n, rfl, ha, ia⟩ := hx.inv
      obtain ⟨⟨e1, e2, e4⟩, e3⟩ := e
      have hk : i.toNat < xs.length := by omega
      refine item_anyK (isList_of (R.at ha)) ia e1 e2 (by omega) (fun t => ?_) (plainIdx_sub hp _ _)
      refine H.here' R (.int _ t) (e3 _ ?_)
      rw [List.getD_eq_getElem?_getD, List.getElem?_eq_getElem hk]; rfl
    | bytes xs =>
      obtain ⟨b, t, rfl, ex⟩ := hx.inv
      obtain ⟨⟨e1, e2, e4⟩, e3⟩ := e
      have hk : i.toNat < xs.length := by omega
      refine KBw.item_K ex (Nat.le_trans e4 (by decide)) e1 e2 (fun t' k _ _ => ?_) (plainIdx_sub hp _ _) (fun r => by cases value <;> rfl)
      refine H.here R (.int _ t') (e3 _ ?_) k
      rw [List.getD_eq_getElem?_getD, List.getElem?_eq_getElem hk]; rfl
    | lst ds =>
      obtain ⟨a, vs, n, rfl, ha, ia⟩ := hx.inv
      obtain ⟨⟨e1, e2, e4⟩, e3⟩ := e
      obtain ⟨d, v, h1, h2, h3⟩ := ia.at (k := i.toNat) (by omega)
      exact item_litK (isList_of (R.at ha)) e1 (by omega) h2 (H.here' R h3 (e3 _ h1)) (plainIdx_sub hp _ _)
    | _ => exact (show False from e).elim
  | _ => cases x <;> exact (show False from e).elim

theorem clip_eq (n : Nat) (i : Int) : clipAt n i = clampI i n := by
  unfold clipAt clampI
  split
  · rename_i h
    rw [Int.min_eq_left (Int.add_le_of_le_sub_right (by rw [Int.sub_self]; exact Int.le_of_lt h))]
    rcases Int.le_total 0 (i + n) with k | k
    · rw [Int.max_eq_right k]
    · rw [Int.max_eq_left k, Int.toNat_of_nonpos k]; rfl
  · rename_i h
    obtain ⟨k, rfl⟩ := Int.eq_ofNat_of_zero_le (Int.not_lt.mp h)
    rcases Nat.le_total k n with z | z
    · rw [Int.min_eq_left (Int.ofNat_le.mpr z), Int.max_eq_right (Int.natCast_nonneg _)]; exact (Nat.min_eq_left z).symm
    · rw [Int.min_eq_right (Int.ofNat_le.mpr z), Int.max_eq_right (Int.natCast_nonneg _)]; exact (Nat.min_eq_right z).symm
theorem cut_eq {α : Type} (xs : List α) (lo hi : Int) : (xs.drop (clipAt xs.length lo)).take (clipAt xs.length hi - clipAt xs.length lo) = cut xs lo hi := by
  unfold cut
  rw [clip_eq, clip_eq, List.drop_take]
theorem clip_self (n : Nat) : clipAt n (n : Int) = n := by rw [clip_eq]; unfold clampI; rw [if_neg (Int.not_lt.mpr (Int.natCast_nonneg _))]; exact Nat.min_self n
theorem clip_zero (n : Nat) : clipAt n 0 = 0 := by rw [clip_eq]; unfold clampI; rw [if_neg (by decide)]; exact Nat.zero_min n
theorem slc_sound {value : PySem.Expr} {l u : Option PySem.Expr} {p : Pos} {x : D} {lo hi : Option Int} {q : D → Prop} {rv vl vu : Value} {n : Nat} (R : RS c σ fro ρ m s.heap (og s)) (hx : DR (fun a o => s.heap.get? a = some o) x rv) (pl : IsPart vl lo) (pu : IsPart vu hi)
    (hn : lenD x = some n) (e : slcD x (lo.getD 0) (hi.getD n) q) (H : SucD c fro ρ m σ q Qr) :
    wpAny (model prog w) A (subscriptTail value (.Slice l u none p) rv (.ref s.heap.objs.size)) Qr Er { s with heap := s.heap.push { cls := .type "slice", data := .fields #[vl, vu, .none] } } := by
  have elo : ∀ k : Nat, lo.elim 0 (clipAt k) = clipAt k (lo.getD 0) := fun k => by cases lo with | none => exact (clip_zero k).symm | some i => rfl
  have ehi : hi.elim n (clipAt n) = clipAt n (hi.getD n) := by cases hi with | none => exact (clip_self n).symm | some i => rfl
  cases x with
  | il xs =>
    obtain ⟨a, vs, k, rfl, ha, ia⟩ := hx.inv
    obtain rfl : xs.length = n := Option.some.inj hn
    have hle : vs.toArray.size = xs.length := by rw [List.size_toArray, IntsAre.len ia]
    have R1 := R.push { cls := .type "slice", data := .fields #[vl, vu, .none] }
    refine tail_any (Heap.IsList.typeIs (s := { s with heap := s.heap.push { cls := .type "slice", data := .fields #[vl, vu, .none] } }) ((isList_of ha).push _)) list_getitem_lookup
      (wpAny_getItem_list_slice ((isList_of ha).push _) (Heap.IsSliceOf.new ..) pl pu .none (by simp) ?_ (by rw [hle]; exact Nat.le_trans e.1 (by decide))) rfl
    have R2 := R1.push { cls := .type "list", data := .seq (slicePick vs.toArray lo hi none) }
    refine H _ _ _ { s with heap := (s.heap.push { cls := .type "slice", data := .fields #[vl, vu, .none] }).push { cls := .type "list", data := .seq (slicePick vs.toArray lo hi none) } } (fun p hp => .tail _ (.tail _ hp)) R2 ?_ e.2
    refine .il (vs := (slicePick vs.toArray lo hi none).toList) (n := 0) (.inr ?_) ?_
    · rw [Array.toArray_toList]; exact .head _
    · rw [slicePick_plain, hle, elo, ehi, ← cut_eq]
      simpa using (ia.drop _).take _
  | bytes xs =>
    obtain ⟨b, t, rfl, ex⟩ := hx.inv
    obtain rfl : xs.length = n := Option.some.inj hn
    obtain ⟨own, N, hnd, r⟩ := R.cs.own
    refine KBc.slice_K R.cs.fr N ex pl pu (Nat.le_trans e.1 (by decide)) (fun h' t' k F' N' ek => ?_) rfl (fun r => by cases value <;> rfl)
    refine H fro _ _ _ (fun _ hp => hp) (R.led0 hnd r F' N') (.bytes t' ?_) e.2
    rw [ek, elo, ehi, cut_eq]
  | _ => exact (show False from e).elim
end
end Mine
end

section
open PySem PySem.W PyProof.Rows PySem.Calls
namespace Mine

structure Pm where
  prog : Program
  w : World
  c : Cx
  ℓ : Nat
  Γ : Nat → FSpec
  XQ : Str → Prop
noncomputable def SX (P : Pm) (x : X) : Prop := ∀ e, mX P.c.cs x e = true → ∀ A σ fro ρ m s q Qr Er, OkA P.c P.ℓ A → RS P.c σ fro ρ m s.heap (og s) → vcX P.Γ P.XQ x σ q → Suc P.c fro ρ m q Qr → Rai P.c P.XQ Er → wpAny (model P.prog P.w) A (eval e P.c.env) Qr Er s
noncomputable def ST (P : Pm) (x : X) : Prop := ∀ e, mT P.c.cs x e = true → ∀ A σ fro ρ m s q Qr Er, OkA P.c P.ℓ A → RS P.c σ fro ρ m s.heap (og s) → vcX P.Γ P.XQ x σ (fun v σ' => isB v fun b => q b σ') → SucB P.c fro ρ m q Qr → Rai P.c P.XQ Er → wpAny (model P.prog P.w) A (isTrue e P.c.env (eval e P.c.env)) Qr Er s
noncomputable def SL (P : Pm) (xs : Xs) : Prop := ∀ es, mXs P.c.cs xs es = true → ∀ A σ fro ρ m s q Qr Er pos, OkA P.c P.ℓ A → RS P.c σ fro ρ m s.heap (og s) → vcXs P.Γ P.XQ xs σ q → SucL P.c fro ρ m q Qr → Rai P.c P.XQ Er → wpAny (model P.prog P.w) A (spliced (backTo pos (starEach es P.c.env))) Qr Er s
noncomputable def HCall (P : Pm) : Prop := ∀ A σ fro ρ m s f vs rvs q Qr Er, f < 30 → OkA P.c P.ℓ A → RS P.c σ fro ρ m s.heap (og s) → VRs (kn P.c.base fro) ρ vs rvs → callS P.Γ P.XQ f vs σ q → Suc P.c fro ρ m q Qr → Rai P.c P.XQ Er → wpAny (model P.prog P.w) A (call (.ref (fAddr f)) rvs) Qr Er s

theorem rfP {α : Type} (l : List α) : l <+: l := List.prefix_refl _
theorem kmono {base : Heap} {fro fro' : List (Addr × Obj)} (h : ∀ p ∈ fro, p ∈ fro') : ∀ a o, kn base fro a o → kn base fro' a o := kn_mono h

/-! the shapes that a word asks its values for -/
theorem dd_vc {v w : V} {p : D → D → Prop} (h : match v, w with
    | .d x, .d y => p x y
    | _, _ => False) : ∃ x y, v = .d x ∧ w = .d y ∧ p x y := by
  cases v with
  | d x => cases w with
    | d y => exact ⟨x, y, rfl, rfl, h⟩
    | _ => exact False.elim h
  | _ => exact False.elim h
theorem ss_vc {v w : Option D} {p : D → D → Prop} (h : match v, w with
    | some x, some y => p x y
    | _, _ => False) : ∃ x y, v = some x ∧ w = some y ∧ p x y := by
  cases v with
  | some x => cases w with
    | some y => exact ⟨x, y, rfl, rfl, h⟩
    | none => exact False.elim h
  | none => exact False.elim h
theorem d_vc {v : V} {p : D → Prop} (h : match v with
    | .d x => p x
    | _ => False) : ∃ x, v = .d x ∧ p x := by
  cases v with
  | d x => exact ⟨x, rfl, h⟩
  | _ => exact False.elim h
theorem int_vc {v : V} {p : Int → Prop} (h : match v with
    | .d (.int i) => p i
    | _ => False) : ∃ x, v = .d (.int x) ∧ p x := by
  cases v with
  | d x => cases x with
    | int i => exact ⟨i, rfl, h⟩
    | _ => exact False.elim h
  | _ => exact False.elim h
theorem ii_vc {v w : V} {p : Int → Int → Prop} (h : match v, w with
    | .d (.int i), .d (.int j) => p i j
    | _, _ => False) : ∃ i j, v = .d (.int i) ∧ w = .d (.int j) ∧ p i j := by
  cases v with
  | d x => cases x with
    | int i => cases w with
      | d y => cases y with
        | int j => exact ⟨i, j, rfl, rfl, h⟩
        | _ => exact False.elim h
      | _ => exact False.elim h
    | _ => exact False.elim h
  | _ => exact False.elim h
theorem si_vc {o : Option D} {v : V} {p : D → Int → Prop} (h : match o, v with
    | some x, .d (.int j) => p x j
    | _, _ => False) : ∃ x j, o = some x ∧ v = .d (.int j) ∧ p x j := by
  cases o with
  | some x => cases v with
    | d y => cases y with
      | int j => exact ⟨x, j, rfl, rfl, h⟩
      | _ => exact False.elim h
    | _ => exact False.elim h
  | none => exact False.elim h
theorem sii_vc {o : Option D} {v w : V} {p : D → Int → Int → Prop} (h : match o, v, w with
    | some x, .d (.int i), .d (.int j) => p x i j
    | _, _, _ => False) : ∃ x i j, o = some x ∧ v = .d (.int i) ∧ w = .d (.int j) ∧ p x i j := by
  cases o with
  | some x => cases v with
    | d y => cases y with
      | int j => cases w with
        | d z => cases z with
          | int j => exact ⟨_, _, _, rfl, rfl, rfl, h⟩
          | _ => exact False.elim h
        | _ => exact False.elim h
      | _ => exact False.elim h
    | _ => exact False.elim h
  | none => exact False.elim h
theorem lst_vc {v : V} {p : List D → Prop} (h : match v with
    | .d (.lst ds) => p ds
    | _ => False) : ∃ x, v = .d (.lst x) ∧ p x := by
  cases v with
  | d x => cases x with
    | lst i => exact ⟨i, rfl, h⟩
    | _ => exact False.elim h
  | _ => exact False.elim h
theorem slst_vc {v : Option D} {p : List D → Prop} (h : match v with
    | some (.lst ds) => p ds
    | _ => False) : ∃ x, v = some (.lst x) ∧ p x := by
  cases v with
  | some x => cases x with
    | lst i => exact ⟨i, rfl, h⟩
    | _ => exact False.elim h
  | _ => exact False.elim h
theorem tup_vc {v : V} {p : List D → Prop} (h : match v with
    | .d (.tup ds) => p ds
    | _ => False) : ∃ x, v = .d (.tup x) ∧ p x := by
  cases v with
  | d x => cases x with
    | tup i => exact ⟨i, rfl, h⟩
    | _ => exact False.elim h
  | _ => exact False.elim h
theorem il_vc {v : V} {p : List Int → Prop} (h : match v with
    | .d (.il xs) => p xs
    | _ => False) : ∃ x, v = .d (.il x) ∧ p x := by
  cases v with
  | d x => cases x with
    | il i => exact ⟨i, rfl, h⟩
    | _ => exact False.elim h
  | _ => exact False.elim h
theorem iil_vc {v w : V} {p : Int → List Int → Prop} (h : match v, w with
    | .d (.int i), .d (.il j) => p i j
    | _, _ => False) : ∃ i j, v = .d (.int i) ∧ w = .d (.il j) ∧ p i j := by
  cases v with
  | d x => cases x with
    | int i => cases w with
      | d y => cases y with
        | il j => exact ⟨i, j, rfl, rfl, h⟩
        | _ => exact False.elim h
      | _ => exact False.elim h
    | _ => exact False.elim h
  | _ => exact False.elim h
theorem none_vc {v : V} {p q : Prop} (h : match v with
    | .d .none => p
    | .d _ => q
    | _ => False) : (v = .d .none ∧ p) ∨ ∃ x, v = .d x ∧ x ≠ .none ∧ q := by
  cases v with
  | d x => cases x with
    | none => exact .inl ⟨rfl, h⟩
    | _ => exact .inr ⟨_, rfl, D.noConfusion, h⟩
  | _ => exact False.elim h
theorem ilb_vc {v : V} {p q : List Int → Prop} (h : match v with
    | .d (.il xs) => p xs
    | .d (.bytes xs) => q xs
    | _ => False) : ∃ xs, (v = .d (.il xs) ∧ p xs) ∨ (v = .d (.bytes xs) ∧ q xs) := by
  cases v with
  | d x => cases x with
    | il xs => exact ⟨xs, .inl ⟨rfl, h⟩⟩
    | bytes xs => exact ⟨xs, .inr ⟨rfl, h⟩⟩
    | _ => exact False.elim h
  | _ => exact False.elim h
theorem ilc_vc {o : Option Ob} {p : Int → List Int → Prop} (h : match o with
    | some (.il (x :: xs)) => p x xs
    | _ => False) : ∃ x xs, o = some (.il (x :: xs)) ∧ p x xs := by
  cases o with
  | some x => cases x with
    | il l => cases l with
      | cons x xs => exact ⟨x, xs, rfl, h⟩
      | nil => exact False.elim h
    | _ => exact False.elim h
  | none => exact False.elim h
theorem ref_vc {v : V} {p : Nat → Prop} (h : match v with
    | .ref k => p k
    | _ => False) : ∃ k, v = .ref k ∧ p k := by
  cases v with
  | ref k => exact ⟨k, rfl, h⟩
  | _ => exact False.elim h
theorem inst_vc {o : Option Ob} {p : Nat → List (Nat × V) → Prop} (h : match o with
    | some (.inst c fs) => p c fs
    | _ => False) : ∃ c fs, o = some (.inst c fs) ∧ p c fs := by
  cases o with
  | some x => cases x with
    | inst c fs => exact ⟨c, fs, rfl, h⟩
    | _ => exact False.elim h
  | none => exact False.elim h
theorem oil_vc {o : Option (List Int)} {p : (List Int) → Prop} (h : match o with
    | some x => p x
    | none => False) : ∃ x, o = some x ∧ p x := by
  cases o with
  | some x => exact ⟨x, rfl, h⟩
  | none => exact False.elim h
theorem odl_vc {o : Option (List D)} {p : (List D) → Prop} (h : match o with
    | some x => p x
    | none => False) : ∃ x, o = some x ∧ p x := by
  cases o with
  | some x => exact ⟨x, rfl, h⟩
  | none => exact False.elim h
theorem od_vc {o : Option D} {p : D → Prop} (h : match o with
    | some x => p x
    | none => False) : ∃ x, o = some x ∧ p x := by
  cases o with
  | some x => exact ⟨x, rfl, h⟩
  | none => exact False.elim h
theorem on_vc {o : Option Nat} {p : Nat → Prop} (h : match o with
    | some x => p x
    | none => False) : ∃ x, o = some x ∧ p x := by
  cases o with
  | some x => exact ⟨x, rfl, h⟩
  | none => exact False.elim h
theorem osl_vc {o : Option (List Str)} {p : (List Str) → Prop} (h : match o with
    | some x => p x
    | none => False) : ∃ x, o = some x ∧ p x := by
  cases o with
  | some x => exact ⟨x, rfl, h⟩
  | none => exact False.elim h

section
variable {P : Pm} {K : Frag} {mg mb : Str → Option Value}
theorem two {a b : X} (ha : SX P a) (hb : SX P b) {l r : PySem.Expr} (ml : mX P.c.cs a l = true) (mr : mX P.c.cs b r = true) {A : Around} {σ : St} {fro : List (Addr × Obj)} {ρ : List Addr} {m : Str → Option Value} {s : Shared} {Er : Value → Shared → Prop}
    {q : V → V → St → Prop} {R : Value → Value → Shared → Prop} (oa : OkA P.c P.ℓ A) (rs : RS P.c σ fro ρ m s.heap (og s)) (vc : vcX P.Γ P.XQ a σ fun v σ1 => vcX P.Γ P.XQ b σ1 fun w σ2 => q v w σ2)
    (H : ∀ fro' ρ' v w σ' rv rw s', (∀ p ∈ fro, p ∈ fro') → ρ <+: ρ' → RS P.c σ' fro' ρ' m s'.heap (og s') → VR (kn P.c.base fro') ρ' v rv → VR (kn P.c.base fro') ρ' w rw → q v w σ' → R rv rw s') (hr : Rai P.c P.XQ Er) :
    wpAny (model P.prog P.w) A (eval l P.c.env) (fun x s₁ => wpAny (model P.prog P.w) A (eval r P.c.env) (fun y s₂ => R x y s₂) Er s₁) Er s := by
  refine ha l ml A σ fro ρ m s _ _ _ oa rs vc (fun f1 r1 v σ1 rv s1 h1 h2 h3 h4 h5 => ?_) hr
  refine hb r mr A σ1 f1 r1 m s1 _ _ _ oa h3 h5 (fun f2 r2 w σ2 rw s2 k1 k2 k3 k4 k5 => ?_) hr
  exact H f2 r2 v w σ2 rv rw s2 (fun p hp => k1 p (h1 p hp)) (h2.trans k2) k3 (h4.mono (kmono k1) k2) k4 k5

theorem loc_vc {o : Option V} {p : V → Prop} (h : match o with
    | some v => p v
    | none => False) : ∃ v, o = some v ∧ p v := by
  cases o with
  | none => exact h.elim
  | some v => exact ⟨v, rfl, h⟩
theorem sx_loc (O : P.c.Ok K mg mb) (n : Nat) : SX P (.loc n) := fun e me A σ fro ρ m s q Qr Er oa rs vc hs hr => by
  replace me := onName_iff me; obtain ⟨y, p, rfl, me⟩ := me
  obtain ⟨v, hv, vc⟩ := loc_vc vc
  exact name_sound O me rs hv fun rv hrv => hs.pure' rs hrv vc
theorem kn_of_K (O : P.c.Ok K mg mb) {fro : List (Addr × Obj)} {d : D} {v : Value} (h : DR (fun a o => K.lookup a = some o) d v) : DR (kn P.c.base fro) d v := h.mono fun a o e => .inl (O.X a o e)
theorem gName_debug : ∀ g < 5, (Str.ofString (gName g) == ("__debug__" : Str)) = false := by decide +kernel
theorem sx_glob (O : P.c.Ok K mg mb) (k : KF K) (g : Nat) : SX P (.glob g) := fun e me A σ fro ρ m s q Qr Er oa rs vc hs hr => by
  replace me : (isBuiltinName P.c.cs (gName g) e && Nat.blt g 5) = true := me
  replace me := and2 me
  have hg : g < 5 := Nat.blt_eq.mp me.2
  obtain ⟨v, h1, h2⟩ := k.glob g hg
  refine glob_name O me.1 rs.cs.fr h1 ?_ (hs.pure' rs (.d (kn_of_K O h2)) vc)
  exact gName_debug g hg
theorem sx_cnone : SX P .cnone := fun e me A σ fro ρ m s q Qr Er oa rs vc hs hr => by
  replace me := isNoneC_iff me; obtain ⟨n, p, rfl⟩ := me
  exact wpAny_Constant_none (hs.pure' rs (.d .none) vc)
theorem sx_cbool (b : Bool) : SX P (.cbool b) := fun e me A σ fro ρ m s q Qr Er oa rs vc hs hr => by
  replace me := onBool_iff me; obtain ⟨c, n, p, rfl, me⟩ := me
  obtain rfl := eq_of_beq me
  exact wpAny_Constant_bool (hs.pure' rs (.d (.bool _)) vc)
theorem sx_cint (i : Int) : SX P (.cint i) := fun e me A σ fro ρ m s q Qr Er oa rs vc hs hr => by
  replace me := onInt_iff me; obtain ⟨j, n, p, rfl, me⟩ := me
  obtain rfl := eq_of_beq me
  exact wpAny_Constant_int (hs.pure rs (.d (.int _ _)) vc _)
theorem sx_cstr (x : String) : SX P (.cstr x) := fun e me A σ fro ρ m s q Qr Er oa rs vc hs hr => by
  replace me := onStr_iff me; obtain ⟨y, n, p, rfl, me⟩ := me
  obtain rfl := eq_of_beq me
  exact wpAny_Constant_str (hs.pure rs (.d (.str _ _)) vc _)
theorem sx_neg (i : Int) : SX P (.neg i) := fun e me A σ fro ρ m s q Qr Er oa rs vc hs hr => by
  replace me := onUn_iff me; obtain ⟨o, x, p, rfl, me⟩ := me
  replace me := and2 me; obtain ⟨m0, me⟩ := me; obtain rfl := eq_of_beq m0
  replace me := onInt_iff me; obtain ⟨j, n, p', rfl, me⟩ := me
  obtain rfl := eq_of_beq me
  exact wpAny_UnaryOp (wpAny_Constant_int (neg_int (hs.pure rs (.d (.int _ _)) vc _)))
theorem sx_bin (op : Op) {a b : X} (ha : SX P a) (hb : SX P b) : SX P (.bin op a b) := fun e me A σ fro ρ m s q Qr Er oa rs vc hs hr => by
  replace me := onBin_iff me; obtain ⟨l, o, r, p, rfl, me⟩ := me
  obtain ⟨⟨mo, ml⟩, mr⟩ := and3 me
  obtain rfl := eq_of_beq mo
  refine wpAny_BinOp (two ha hb ml mr oa rs vc (fun f' r' v w σ' rv rw s' h1 h2 h3 h4 h5 h6 => ?_) hr)
  obtain ⟨x, y, e1, e2, h6⟩ := ss_vc h6
  exact op_sound h3 (h3.view h4 e1) (h3.view h5 e2) h6 (hs.on h1 h2).toD
theorem oa_un {u n k : Nat} (h : u + 200 * n + 100 < k) : u + 64 < k :=
  Nat.lt_of_le_of_lt (Nat.add_le_add (Nat.le_add_right u _) (by decide)) h
theorem cp_no (op : Cp) : (cpOf op == .In || cpOf op == .NotIn) = false := by cases op <;> rfl
theorem cp_marks (op : Cp) (r : PySem.Expr) : behindInMarks (cpOf op) r = false := by
  cases r with
  | Set es k p =>
    show (k == 0 && (cpOf op == .In || cpOf op == .NotIn) && es.all _) = false
    rw [cp_no, Bool.and_false]; rfl
  | _ => rfl
theorem sx_cmp (op : Cp) {a b : X} (ha : SX P a) (hb : SX P b) : SX P (.cmp op a b) := fun e me A σ fro ρ m s q Qr Er oa rs vc hs hr => by
  replace me := onCmp1_iff me; obtain ⟨l, o, r, p, rfl, me⟩ := me
  obtain ⟨⟨mo, ml⟩, mr⟩ := and3 me
  obtain rfl := eq_of_beq mo
  refine wpAny_Compare1 (two ha hb ml mr oa rs vc (fun f' r' v w σ' rv rw s' h1 h2 h3 h4 h5 h6 => ?_) hr) (cp_marks _ _)
  obtain ⟨x, y, e1, e2, h6⟩ := ss_vc h6
  exact cmp_sound (oa_un oa.un) (h3.view h4 e1) (h3.view h5 e2) h6 fun b hb => (hs.on h1 h2).pure' h3 (.d (.bool b)) hb
theorem st_cmp (op : Cp) {a b : X} (ha : SX P a) (hb : SX P b) : ST P (.cmp op a b) := fun e me A σ fro ρ m s q Qr Er oa rs vc hs hr => by
  replace me := onCmp1_iff me; obtain ⟨l, o, r, p, rfl, me⟩ := me
  obtain ⟨⟨mo, ml⟩, mr⟩ := and3 me
  obtain rfl := eq_of_beq mo
  refine wpAny_isTrue_Compare1 (two ha hb ml mr oa rs vc (fun f' r' v w σ' rv rw s' h1 h2 h3 h4 h5 h6 => ?_) hr) (cp_marks _ _)
  obtain ⟨x, y, e1, e2, h6⟩ := ss_vc h6
  exact cmp_sound (oa_un oa.un) (h3.view h4 e1) (h3.view h5 e2) h6 fun b hb => wpAny_truthy_bool (hs f' r' b σ' s' h1 h2 h3 hb)
theorem st_not {a : X} (ha : ST P a) : ST P (.not a) := fun e me A σ fro ρ m s q Qr Er oa rs vc hs hr => by
  replace me := onUn_iff me; obtain ⟨o, x, p, rfl, me⟩ := me
  replace me := and2 me; obtain ⟨m0, me⟩ := me; obtain rfl := eq_of_beq m0
  exact wpAny_isTrue_Not (ha _ me A σ fro ρ m s (fun b σ' => q (!b) σ') _ _ oa rs vc (fun f' r' b σ' s' h1 h2 h3 h4 => hs f' r' _ σ' s' h1 h2 h3 h4) hr)
theorem isB_bool {v : V} {q : Bool → Prop} (h : isB v q) : ∃ b, v = .d (.bool b) ∧ q b := by
  cases v with
  | d x => cases x with
    | bool b => exact ⟨b, rfl, h⟩
    | _ => exact False.elim h
  | _ => exact False.elim h
/-- what is no comparison, no word: its value's truth -/
theorem st_val {x : X} (hm : ∀ cs e, mT cs x e = true → plainTest e = true ∧ mX cs x e = true) (hx : SX P x) : ST P x := fun e me A σ fro ρ m s q Qr Er oa rs vc hs hr => by
  obtain ⟨hp, me⟩ := hm _ _ me
  refine wpAny_isTrue_value (hx e me A σ fro ρ m s _ _ _ oa rs vc (fun f' r' v σ' rv s' h1 h2 h3 h4 h5 => ?_) hr) ?_
  · obtain ⟨b, rfl, hb⟩ := isB_bool h5
    obtain rfl := h4.inv.inv
    exact wpAny_truthy_bool (hs f' r' b σ' s' h1 h2 h3 hb)
  · revert hp; cases e <;> first | exact fun _ => rfl | exact fun h => absurd h Bool.false_ne_true
theorem sx_ife {t a b : X} (ht : ST P t) (ha : SX P a) (hb : SX P b) : SX P (.ife t a b) := fun e me A σ fro ρ m s q Qr Er oa rs vc hs hr => by
  replace me := onIf_iff me; obtain ⟨t, x, y, p, rfl, me⟩ := me
  obtain ⟨⟨mt, mx⟩, my⟩ := and3 me
  refine wpAny_IfExp (ht _ mt A σ fro ρ m s _ _ _ oa rs vc (fun f' r' b σ' s' h1 h2 h3 h4 => ?_) hr)
  cases b with
  | true => exact ha _ mx A σ' f' r' m s' _ _ _ oa h3 (h4.1 rfl) (hs.on h1 h2) hr
  | false => exact hb _ my A σ' f' r' m s' _ _ _ oa h3 (h4.2 rfl) (hs.on h1 h2) hr
end
end Mine
end

section
open PySem PySem.W PyProof.Rows PySem.Calls
namespace Mine
variable {ζ : OG}

theorem isStr_nm {f g : Nat} {t : Tok} (hf : f < 41) (hg : g < 41) : (Value.str (nm f) t).isStr (nm g) = Nat.beq g f := by
  show (nm f == nm g) = _
  cases h : Nat.beq g f with
  | true => rw [Nat.eq_of_beq_eq_true h]; simp
  | false =>
    have : f ≠ g := fun e => by rw [e, Nat.beq_refl] at h; cases h
    exact beq_eq_false_iff_ne.mpr fun e => this (nm_inj f hf g hg e)
theorem refKey_str {e : DictEntry} {x : Str} {t : Tok} (h : e.key = .str x t) : e.refKey = false := by unfold DictEntry.refKey; rw [h]
theorem getL_cons {x : Str} {e : DictEntry} {es : List DictEntry} {y : Str} {t : Tok} (h : e.key = .str y t) : getL x (e :: es) = if (y == x) = true then some (some e.val) else getL x es := by
  unfold getL
  rw [List.find?_cons, List.any_cons, refKey_str h, Bool.false_or, h]
  show (match (match y == x with | true => some e | false => _) with | some e => some (some e.val) | none => _) = _
  cases y == x <;> rfl
theorem fld_get {P : Kn} {ρ : List Addr} {f : Nat} (hf : f < 41) {fs : List (Nat × V)} {es : List DictEntry} (h : FldR P ρ fs es) : ∀ {v : V}, getN f fs = some v → ∃ rv, getL (nm f) es = some (some rv) ∧ VR P ρ v rv := by
  induction h with
  | nil => exact fun e => nomatch (show Option.none = some _ from e)
  | @cons g v0 fs en es t hg hk hv r ih =>
    intro v e
    rw [getL_cons hk]
    have hb : (nm g == nm f) = _ := isStr_nm (t := 0) hg hf
    rw [hb]
    have e : (match Nat.beq f g with | true => some v0 | false => getN f fs) = some v := e
    cases hq : Nat.beq f g with
    | true => rw [hq] at e; exact ⟨_, rfl, Option.some.inj e ▸ hv⟩
    | false => rw [hq] at e; exact ih e
theorem fld_none {P : Kn} {ρ : List Addr} {x : Str} {fs : List (Nat × V)} {es : List DictEntry} (h : FldR P ρ fs es) : (fs.all fun p => nm p.1 != x) = true → getL x es = some none := by
  induction h with
  | nil => exact fun _ => rfl
  | @cons g v0 fs en es t hg hk hv r ih =>
    intro e
    have e : ((nm g != x) && (fs.all fun p => nm p.1 != x)) = true := e
    have e := and2 e
    rw [getL_cons hk, if_neg (fun z => by rw [bne, z] at e; exact absurd e.1 (by decide))]
    exact ih e.2
theorem DR.handed {P : Kn} {d : D} {rv : Value} (h : DR P d rv) : handedIn rv = true :=
  DR.casesOn (motive_1 := fun _ v _ => handedIn v = true) h rfl (fun _ => rfl) (fun _ _ => rfl) (fun _ _ => rfl) (fun _ _ => rfl) (fun _ _ => rfl) (fun _ _ => rfl) (fun _ _ => rfl)
theorem VR.handed {P : Kn} {ρ : List Addr} {v : V} {rv : Value} (h : VR P ρ v rv) : handedIn rv = true :=
  VR.casesOn (motive_1 := fun _ v _ => handedIn v = true) h (fun h => h.handed) (fun _ => rfl) (fun _ _ => rfl)

/-- where an own object of a class lies -/
theorem RS.inst {c : Cx} {σ : St} {fro : List (Addr × Obj)} {ρ : List Addr} {m : Str → Option Value} {h : Heap} (R : RS c σ fro ρ m h ζ) {k : Nat} {C : Nat} {fs : List (Nat × V)} (e : σ.obs[k]? = some (.inst C fs)) {a : Addr} (ha : ρ[k]? = some a) :
    ∃ d es n, InstAt h a (instObj (clsA C) d) (clsA C) (some (dictOf es n)) ∧ FldR (kn c.base fro) ρ fs es := by
  obtain ⟨a', pc, h1, ⟨d, es, n, rfl, r⟩, h3, _⟩ := R.cs.upd e
  rw [ha] at h1; cases h1
  exact ⟨d, es, n, ⟨(h3 _ (.head _)).1, rfl, rfl, (h3 _ (.tail _ (.head _))).1⟩, r⟩

theorem attr_he {value : PySem.Expr} (hp : plainBase value = true) (attr : Str) (pos : Pos) (env : Env) : eval (.Attribute value attr pos) env = (do
      let o ← eval value env
      standAt pos.atName
      let r ← holding [o] (getAttr o attr true)
      letTemporaryGo value o r
      pure r) := by
  revert hp; cases value <;> first | exact fun _ => rfl | exact fun h => absurd h Bool.false_ne_true
theorem notStar_one {e : PySem.Expr} (h : notStar e = true) (r : List PySem.Expr) (env : Env) : starEach (e :: r) env = (false, eval e env) :: starEach r env := by
  revert h; cases e <;> first | exact fun _ => rfl | exact fun h => absurd h Bool.false_ne_true
theorem mXs_all {cs : Scope} : ∀ {xs : Xs} {es : List PySem.Expr}, mXs cs xs es = true → es.all notStar = true
  | .nil, es, h => by
    rw [(on0_iff h).1]; rfl
  | .cons x xs, es, h => by
    replace h := onC_iff h; obtain ⟨e, r, rfl, h⟩ := h
    simp only [Bool.and_eq_true] at h
    rw [List.all_cons, h.1.1, mXs_all h.2]; rfl
theorem backTo_plain {pos : Pos} {env : Env} : ∀ {es : List PySem.Expr}, es.all notStar = true → (backTo pos (starEach es env)).any (·.1) = false
  | [], _ => rfl
  | e :: r, h => by
    rw [List.all_cons, Bool.and_eq_true] at h
    rw [notStar_one h.1]
    show (false || (backTo pos (starEach r env)).any (·.1)) = false
    rw [backTo_plain h.2]; rfl
theorem backTo_len {pos : Pos} {env : Env} : ∀ {es : List PySem.Expr}, es.all notStar = true → (backTo pos (starEach es env)).all (!·.1) = true := fun h => by
  have := backTo_plain (pos := pos) (env := env) h
  rw [List.all_eq_not_any_not]
  simpa using this
theorem meth_he {o : PySem.Expr} (hp : plainBase o = true) (name : Str) {apos pos : Pos} {args : List PySem.Expr} {env : Env} (ha : args.all notStar = true) (hl : args.length < 30) (hpos : apos.endLine = pos.line) :
    eval (.Call (.Attribute o name apos) args [] pos) env = (do
      let ov ← eval o env
      standAt apos.atName
      let (f, first) ← holding [ov] (getMethod ov name (do return (← importBound o env).getD true))
      callWith pos f first (backTo pos (starEach args env)) []) := by
  have hf : methodCallForm (args.length + ([] : List Keyword).length) (backTo pos (starEach args env)) (backToKw pos (keywordEach [] env)) = true := by
    unfold methodCallForm
    rw [backTo_len ha]
    show (true && true && decide (args.length + 0 + 0 < 30)) = true
    simpa using hl
  have hb : attributeBase o name env (eval o env) = eval o env := by revert hp; cases o <;> first | exact fun _ => rfl | exact fun h => absurd h Bool.false_ne_true
  have hq : methodCallPos true o env apos pos = pure pos := by unfold methodCallPos; rw [hpos, beq_self_eq_true]; rfl
  show (attributeBase o name env (eval o env)) >>= (fun ov => standAt apos.atName >>= fun _ => methodCall o name apos pos env ov (args.length + ([] : List Keyword).length) (backTo pos (starEach args env)) (backToKw pos (keywordEach [] env))) = _
  rw [hb]
  refine congrArg (eval o env >>= ·) (funext fun ov => congrArg (standAt apos.atName >>= ·) (funext fun _ => ?_))
  unfold methodCall
  rw [hf]
  exact congrArg (holding [ov] (calleeOf true o env ov name) >>= ·) (funext fun p => by rw [hq]; exact pure_bind pos fun c => callWith c p.1 p.2 (backTo pos (starEach args env)) [])

section
variable {P : Pm} {K : Frag} {mg mb : Str → Option Value}
theorem sx_attr (O : P.c.Ok K mg mb) (k : KF K) {o : X} (ho : SX P o) (f : Nat) : SX P (.attr o f) := fun e me A σ fro ρ m s q Qr Er oa rs vc hs hr => by
  replace me := onAttr_iff me; obtain ⟨v, x, p, rfl, me⟩ := me
  obtain ⟨⟨⟨mx, mf⟩, mp⟩, mo⟩ := and4 me
  obtain rfl := eq_of_beq mx
  have hf : f < 41 := isFld_lt mf
  refine Attribute_any_ (ho _ mo A σ fro ρ m s _ _ _ oa rs vc (fun f' r' v σ' rv s' h1 h2 h3 h4 h5 => ?_) hr) (attr_he mp _ _ _)
  obtain ⟨k', e0, h5⟩ := ref_vc h5
  obtain ⟨C, fs, e1, h5⟩ := inst_vc h5
  obtain ⟨w, e2, h5⟩ := loc_vc h5
  obtain ⟨ra, rfl, ha⟩ := h4.ofRef e0
  obtain ⟨d, es, n, I, r⟩ := h3.inst e1 ha
  obtain ⟨rw, g1, g2⟩ := fld_get hf r e2
  exact get_own h3.cs.fr O.X I (k.plain C _) (k.hasD C) (k.noA C f mf) rfl g1 g2.handed ((hs.on h1 h2).pure h3 g2 h5 _)
theorem sl_nil : SL P .nil := fun es me A σ fro ρ m s q Qr Er pos oa rs vc hs hr => by
  replace me := on0_iff me; obtain ⟨rfl, _⟩ := me
  exact args_nil (hs fro ρ _ σ _ s (fun _ hp => hp) (rfP _) rs .nil vc)
theorem sl_cons {x : X} {xs : Xs} (hx : SX P x) (hxs : SL P xs) : SL P (.cons x xs) := fun es me A σ fro ρ m s q Qr Er pos oa rs vc hs hr => by
  replace me := onC_iff me; obtain ⟨e, r, rfl, me⟩ := me
  obtain ⟨⟨m1, m2⟩, m3⟩ := and3 me
  refine args_cons (hx _ m2 A σ fro ρ m s _ _ _ oa rs vc (fun f' r' v σ' rv s' h1 h2 h3 h4 h5 => ?_) hr) (notStar_one m1 _ _)
  refine hxs _ m3 A σ' f' r' m s' _ _ _ pos oa h3 h5 (fun f2 r2 vs σ2 rvs s2 k1 k2 k3 k4 k5 => ?_) hr
  exact hs f2 r2 (v :: vs) σ2 (rv :: rvs) s2 (fun p hp => k1 p (h1 p hp)) (h2.trans k2) k3 (.cons (h4.mono (kmono k1) k2) k4) k5
theorem sx_tup {xs : Xs} (hx : SL P xs) : SX P (.tup xs) := fun e me A σ fro ρ m s q Qr Er oa rs vc hs hr => by
  replace me := onTup_iff me; obtain ⟨es, n, p, rfl, me⟩ := me
  refine wpAny_Tuple (hx _ me A σ fro ρ m s _ _ _ _ oa rs vc (fun f' r' vs σ' rvs s' h1 h2 h3 h4 h5 => ?_) hr)
  refine ⟨by rw [h4.length]; exact Nat.le_trans h5.1 (by decide), ?_⟩
  refine hs _ r' _ σ' _ { s' with heap := _ } (fun p hp => .tail _ (h1 p hp)) h2 (h3.push _) (mkTup_R (n := 0) (.inr (.head _)) (h4.mono (kmono fun _ hp => .tail _ hp) (rfP _))) h5.2
theorem intsD_cons {d : D} {ds : List D} {ns : List Int} (h : intsD (d :: ds) = some ns) : ∃ i is, d = .int i ∧ intsD ds = some is ∧ ns = i :: is := by
  cases d with
  | int i => obtain ⟨is, h1, h2⟩ := Option.map_eq_some_iff.mp (show (intsD ds).map (i :: ·) = some ns from h); exact ⟨i, is, rfl, h1, h2.symm⟩
  | _ => exact nomatch (show Option.none = some ns from h)
theorem ints_D {Pk : Kn} {ds : List D} {vs : List Value} (h : DRs Pk ds vs) : ∀ ns : List Int, intsD ds = some ns → IntsAre vs ns :=
  h.ind (m := fun ds vs => ∀ ns : List Int, intsD ds = some ns → IntsAre vs ns) (fun ns e => (Option.some.inj e : [] = ns) ▸ .nil) fun h _ i ns e => by
    obtain ⟨a, is, rfl, h1, rfl⟩ := intsD_cons e
    obtain ⟨t, rfl⟩ := h.inv
    exact .cons _ _ (i _ h1)
theorem ints_V {Pk : Kn} {ρ : List Addr} {vs : List V} {rvs : List Value} {ns : List Int} (h : VRs Pk ρ vs rvs) (e : intsV vs = some ns) : IntsAre rvs ns := by
  obtain ⟨ds, h1, h2⟩ := Option.bind_eq_some_iff.mp (show (allD vs).bind intsD = some ns from e)
  exact ints_D (allD_R h _ h1) _ h2
theorem sx_il {xs : Xs} (hx : SL P xs) : SX P (.il xs) := fun e me A σ fro ρ m s q Qr Er oa rs vc hs hr => by
  replace me := onList_iff me; obtain ⟨es, p, rfl, me⟩ := me
  refine wpAny_List (hx _ me A σ fro ρ m s _ _ _ _ oa rs vc (fun f' r' vs σ' rvs s' h1 h2 h3 h4 h5 => ?_) hr)
  obtain ⟨ns, e1, h5⟩ := oil_vc h5
  have hi := ints_V h4 e1
  refine ⟨by rw [IntsAre.len hi]; exact Nat.le_trans h5.1 (by decide), ?_⟩
  exact hs _ r' _ σ' _ { s' with heap := _ } (fun p hp => .tail _ (h1 p hp)) h2 (h3.push _) (.d (.il (n := 0) (.inr (.head _)) hi)) h5.2
theorem sx_dl {xs : Xs} (hx : SL P xs) : SX P (.dl xs) := fun e me A σ fro ρ m s q Qr Er oa rs vc hs hr => by
  replace me := onList_iff me; obtain ⟨es, p, rfl, me⟩ := me
  refine wpAny_List (hx _ me A σ fro ρ m s _ _ _ _ oa rs vc (fun f' r' vs σ' rvs s' h1 h2 h3 h4 h5 => ?_) hr)
  obtain ⟨ns, e1, h5⟩ := odl_vc h5
  have hi := allD_R h4 _ e1
  refine ⟨by rw [hi.length]; exact Nat.le_trans h5.1 (by decide), ?_⟩
  exact hs _ r' _ σ' _ { s' with heap := _ } (fun p hp => .tail _ (h1 p hp)) h2 (h3.push _) (.d (.lst (n := 0) (.inr (.head _)) (hi.mono (kmono fun _ hp => .tail _ hp)))) h5.2
theorem RS.make {c : Cx} {σ : St} {fro : List (Addr × Obj)} {ρ : List Addr} {m : Str → Option Value} {h : Heap} (R : RS c σ fro ρ m h ζ) (o : Obj) (ob : Ob) (hf : o.isFreed = false) (hp : PieceR (kn c.base fro) (ρ ++ [h.objs.size]) h.objs.size ob [(h.objs.size, o)]) :
    RS c ⟨σ.loc, σ.obs ++ [ob]⟩ fro (ρ ++ [h.objs.size]) m (h.push o) ζ :=
  ⟨R.cs.make (fun _ _ e => Heap.get?_push_of_some _ e) hp (fun p hp => by
    rcases List.mem_cons.mp hp with rfl | hp
    · exact ⟨Heap.get?_push_size _ hf, Nat.le_refl _⟩
    · cases hp) (by simp), R.loc.mono (fun _ _ h => h) (List.prefix_append _ _), R.oge⟩
theorem RS.rholen {c : Cx} {σ : St} {fro : List (Addr × Obj)} {ρ : List Addr} {m : Str → Option Value} {h : Heap} (R : RS c σ fro ρ m h ζ) : ρ.length = σ.obs.length := by
  obtain ⟨own, _, _, r⟩ := R.cs.own
  exact r.length
theorem sx_mil {xs : Xs} (hx : SL P xs) : SX P (.mil xs) := fun e me A σ fro ρ m s q Qr Er oa rs vc hs hr => by
  replace me := onList_iff me; obtain ⟨es, p, rfl, me⟩ := me
  refine wpAny_List (hx _ me A σ fro ρ m s _ _ _ _ oa rs vc (fun f' r' vs σ' rvs s' h1 h2 h3 h4 h5 => ?_) hr)
  obtain ⟨ns, e1, h5⟩ := oil_vc h5
  have hi := ints_V h4 e1
  refine ⟨by rw [IntsAre.len hi]; exact Nat.le_trans h5.1 (by decide), ?_⟩
  refine hs f' _ _ _ _ { s' with heap := _ } h1 (h2.trans (List.prefix_append _ _)) (h3.make _ (.il ns) rfl ⟨rvs, 0, rfl, hi⟩) (.ref ?_) h5.2
  rw [← h3.rholen]; simp
theorem sx_mdl : SX P .mdl := fun e me A σ fro ρ m s q Qr Er oa rs vc hs hr => by
  replace me := onList_iff me; obtain ⟨es, p, rfl, me⟩ := me
  replace me := on0_iff me; obtain ⟨rfl, _⟩ := me
  refine wpAny_List (args_nil ⟨Nat.zero_le _, ?_⟩)
  refine hs fro _ _ _ _ { s with heap := _ } (fun _ hp => hp) (List.prefix_append _ _) (rs.make _ (.lst []) rfl ⟨[], 0, rfl, .nil⟩) (.ref ?_) vc
  rw [← rs.rholen]; simp
end
end Mine
end

section
open PySem PySem.W PyProof.Rows PySem.Calls
namespace Mine

section
variable {P : Pm} {K : Frag} {mg mb : Str → Option Value}
theorem sx_idx {a i : X} (ha : SX P a) (hi : SX P i) : SX P (.idx a i) := fun e me A σ fro ρ m s q Qr Er oa rs vc hs hr => by
  replace me := onSub_iff me; obtain ⟨v, x, p, rfl, me⟩ := me
  obtain ⟨⟨mp, ml⟩, mr⟩ := and3 me
  refine Subscript_ (two ha hi ml mr oa rs vc (fun f' r' v w σ' rv rw s' h1 h2 h3 h4 h5 h6 => ?_) hr)
  obtain ⟨x, y, e1, e2, h7⟩ := dd_vc h6
  exact idx_sound mp h3 (h4.of e1) (h5.of e2) h7 (hs.on h1 h2).toD
theorem slcD_len {x : D} {lo hi : Int} {q : D → Prop} (h : slcD x lo hi q) : ∃ n, lenD x = some n := by
  cases x with
  | il _ => exact ⟨_, rfl⟩
  | bytes _ => exact ⟨_, rfl⟩
  | _ => exact False.elim h
theorem sx_slc {a lo hi : X} (ha : SX P a) (hl : SX P lo) (hu : SX P hi) : SX P (.slc a lo hi) := fun e me A σ fro ρ m s q Qr Er oa rs vc hs hr => by
  replace me := onCut_iff me; obtain ⟨v, l, u, q', p, rfl, me⟩ := me
  replace me := onSome_iff me; obtain ⟨l, rfl, me⟩ := me
  replace me := onSome_iff me; obtain ⟨u, rfl, me⟩ := me
  obtain ⟨⟨m1, m2⟩, m3⟩ := and3 me
  refine Subscript_ (ha _ m1 A σ fro ρ m s _ _ _ oa rs vc (fun f1 r1 v σ1 rv s1 h1 h2 h3 h4 h5 => ?_) hr)
  refine wpAny_Slice (two hl hu m2 m3 oa h3 h5 (fun f2 r2 w u σ2 rw ru s2 k1 k2 k3 k4 k5 k6 => ?_) hr)
  refine wpAny_pure ?_
  obtain ⟨x, i, j, e1, e2, e3, k6⟩ := sii_vc k6
  obtain ⟨_, rfl⟩ := (k4.of e2).inv
  obtain ⟨_, rfl⟩ := (k5.of e3).inv
  obtain ⟨n, hn⟩ := slcD_len k6
  exact slc_sound k3 (k3.view (h4.mono (kmono k1) k2) e1) (.int _ _) (.int _ _) hn k6 ((hs.on h1 h2).on k1 k2).toD
theorem sx_slcTo {a hi : X} (ha : SX P a) (hu : SX P hi) : SX P (.slcTo a hi) := fun e me A σ fro ρ m s q Qr Er oa rs vc hs hr => by
  replace me := onCut_iff me; obtain ⟨v, l, u, q', p, rfl, me⟩ := me
  replace me := onNo_iff me; obtain ⟨rfl, me⟩ := me
  replace me := onSome_iff me; obtain ⟨u, rfl, me⟩ := me
  obtain ⟨m1, m2⟩ := and2 me
  refine Subscript_ (ha _ m1 A σ fro ρ m s _ _ _ oa rs vc (fun f1 r1 v σ1 rv s1 h1 h2 h3 h4 h5 => ?_) hr)
  refine wpAny_Slice (wpAny_pure (hu _ m2 A σ1 f1 r1 m s1 _ _ _ oa h3 h5 (fun f2 r2 u σ2 ru s2 k1 k2 k3 k5 k6 => ?_) hr))
  refine wpAny_pure ?_
  obtain ⟨x, j, e1, e2, k6⟩ := si_vc k6
  obtain ⟨_, rfl⟩ := (k5.of e2).inv
  obtain ⟨n, hn⟩ := slcD_len k6
  exact slc_sound k3 (k3.view (h4.mono (kmono k1) k2) e1) .none (.int _ _) hn k6 ((hs.on h1 h2).on k1 k2).toD
theorem sx_slcFrom {a lo : X} (ha : SX P a) (hl : SX P lo) : SX P (.slcFrom a lo) := fun e me A σ fro ρ m s q Qr Er oa rs vc hs hr => by
  replace me := onCut_iff me; obtain ⟨v, l, u, q', p, rfl, me⟩ := me
  replace me := onSome_iff me; obtain ⟨l, rfl, me⟩ := me
  replace me := onNo_iff me; obtain ⟨rfl, me⟩ := me
  obtain ⟨m1, m2⟩ := and2 me
  refine Subscript_ (ha _ m1 A σ fro ρ m s _ _ _ oa rs vc (fun f1 r1 v σ1 rv s1 h1 h2 h3 h4 h5 => ?_) hr)
  refine wpAny_Slice (hl _ m2 A σ1 f1 r1 m s1 _ _ _ oa h3 h5 (fun f2 r2 u σ2 ru s2 k1 k2 k3 k5 k6 => ?_) hr)
  refine wpAny_pure (wpAny_pure ?_)
  obtain ⟨x, j, e1, e2, k6⟩ := si_vc k6
  obtain ⟨_, rfl⟩ := (k5.of e2).inv
  obtain ⟨n, hn, k6⟩ := on_vc k6
  exact slc_sound k3 (k3.view (h4.mono (kmono k1) k2) e1) (.int _ _) .none hn k6 ((hs.on h1 h2).on k1 k2).toD

theorem fName_debug : ∀ f < 30, (Str.ofString (fName f) == ("__debug__" : Str)) = false := by decide +kernel
/-- a call with any plain arguments -/
theorem callWith_any {prog : Program} {w : World} {A : Around} {Er : Value → Shared → Prop} {s : Shared} {env : Env} {pos : Pos} {f : Value} {first : List Value} {Q : Value → Shared → Prop} {es : List PySem.Expr} (he : es.all notStar = true) (hk : keepIn K f = true)
    (h : wpAny (model prog w) A (spliced (backTo pos (starEach es env))) (fun vs s₁ => K.In s₁.heap ∧ wpAny (model prog w) A (call f (first ++ vs)) Q Er s₁) Er s) : wpAny (model prog w) A (callWith pos f first (backTo pos (starEach es env)) []) Q Er s := by
  have hp := backTo_plain (pos := pos) (env := env) he
  refine callWith_of (P := K.In) (by rw [hp]; rfl) (keeps_K hk) ?_
  cases es with
  | nil =>
    unfold evalArgs
    refine wpAny_bind (wpAny_mono h (fun vs s' h' => ?_) fun _ _ x => x)
    refine wpAny_bind (wpAny_pure ?_)
    refine wpAny_holding ?_
    exact wpAny_bind (wpAny_pure (wpAny_bind (wpAny_pure (wpAny_pure h'))))
  | cons e r =>
    rw [List.all_cons, Bool.and_eq_true] at he
    rw [notStar_one he.1] at h ⊢
    exact evalArgs_plain h
theorem sx_call (O : P.c.Ok K mg mb) (k : KF K) (hc : HCall P) (f : Nat) {xs : Xs} (hx : SL P xs) : SX P (.call f xs) := fun e me A σ fro ρ m s q Qr Er oa rs vc hs hr => by
  replace me := onCallP_iff me; obtain ⟨g, es, p, rfl, me⟩ := me
  obtain ⟨⟨⟨⟨⟨m1, m2⟩, m3⟩, m4⟩, m5⟩, m6⟩ := and6 me
  have hf8 : 8 < f := Nat.blt_eq.mp m2
  have hf : f < 30 := Nat.blt_eq.mp m3
  rw [bne_iff_ne] at m4 m5
  have hall := mXs_all m6
  refine Call_ (glob_name O m1 rs.cs.fr (k.fn f hf8 hf m4 m5) (fName_debug f hf) (callWith_any hall (k.keep f hf) ?_)) ?_
  · refine hx _ m6 A σ fro ρ m s _ _ _ _ oa rs vc (fun f' r' vs σ' rvs s' h1 h2 h3 h4 h5 => ?_) hr
    exact ⟨O.X.keeps h3.cs.fr.keep, hc A σ' f' r' m s' f vs rvs q Qr Er hf oa h3 h4 h5 (hs.on h1 h2) hr⟩
  · replace m1 := onName_iff m1; obtain ⟨y, q', rfl, _⟩ := m1
    rfl
theorem methOk_lt {C f : Nat} (h : methOk C f = true) : f < 28 := by
  cases C with
  | zero => exact Nat.lt_of_le_of_lt (Nat.le_of_ble_eq_true (show Nat.ble f 8 = true from h)) (by decide)
  | succ n =>
    rcases (Bool.or_eq_true _ _).mp h with h | h <;> (rw [eq_of_beq h]; decide)
theorem sx_meth (O : P.c.Ok K mg mb) (k : KF K) (hc : HCall P) (f : Nat) {o : X} {xs : Xs} (ho : SX P o) (hx : SL P xs) : SX P (.meth f o xs) := fun e me A σ fro ρ m s q Qr Er oa rs vc hs hr => by
  replace me := onMeth_iff me; obtain ⟨v, x, ap, es, p, rfl, mp, me⟩ := me
  obtain ⟨⟨⟨⟨m1, m2⟩, m4⟩, m5⟩, m6⟩ := and5 me
  obtain rfl := eq_of_beq m1
  have hall := mXs_all m6
  refine MethodCall_ (ho _ m5 A σ fro ρ m s _ _ _ oa rs vc (fun f1 r1 v σ1 rv s1 h1 h2 h3 h4 h5 => ?_) hr) (meth_he m2 _ hall (Nat.blt_eq.mp m4) mp)
  obtain ⟨k', e0, h5⟩ := ref_vc h5
  obtain ⟨C, fs, e1, hm, hfs, h5⟩ := inst_vc h5
  have hf2 : f < 28 := methOk_lt hm
  have hf : f < 30 := Nat.lt_trans hf2 (by decide)
  obtain ⟨ra, rfl, ha⟩ := h4.ofRef e0
  obtain ⟨d, es, n, I, r⟩ := h3.inst e1 ha
  refine method_inst h3.cs.fr O.X I (k.plain C _) (k.meth C f hm) (k.isFn f hf2) (fld_none r hfs) (callWith_any hall (k.keep f hf) ?_)
  refine hx _ m6 A σ1 f1 r1 m s1 _ _ _ _ oa h3 h5 (fun f2 r2 vs σ2 rvs s2 k1 k2 k3 k4 k5 => ?_) hr
  exact ⟨O.X.keeps k3.cs.fr.keep, hc A σ2 f2 r2 m s2 f (.ref k' :: vs) (.ref ra :: rvs) q Qr Er hf oa k3 (.cons (.ref (prefix_get k2 ha)) k4) k5 ((hs.on h1 h2).on k1 k2) hr⟩
end
end Mine
end

section
open PySem PySem.W PyProof.Rows PySem.Calls
namespace Mine

theorem app_cps (x y : Str) : (x ++ y).cps = x.cps ++ y.cps := rfl
theorem str_ext {x y : Str} (h : x.cps.toList = y.cps.toList) : x = y := by
  cases x; cases y; simp only [Array.toList_inj] at h; rw [h]
theorem joinS_eq : ∀ xs : List Str, Txt.join ("" : Str) xs = joinS xs := fun xs => by
  show PySem.Builtin.Str.glued _ _ = _
  rw [StrLaws.glued_eq_join]
  induction xs with
  | nil => rfl
  | cons x r ih =>
    cases r with
    | nil => refine str_ext ?_; simp [Str.join, joinS]
    | cons y r =>
      show (x ++ ("" : Str) ++ Str.join ("" : Str) (y :: r)) = _
      rw [ih]
      refine str_ext ?_
      have e : (("" : Str).cps) = #[] := rfl
      simp only [app_cps, joinS, e, Array.append_empty, Array.toList_append, List.toList_toArray, List.flatMap_cons]
theorem strsD_cons {d : D} {ds : List D} {ns : List Str} (h : strsD (d :: ds) = some ns) : ∃ i is, d = .str i ∧ strsD ds = some is ∧ ns = i :: is := by
  cases d with
  | str i => obtain ⟨is, h1, h2⟩ := Option.map_eq_some_iff.mp (show (strsD ds).map (i :: ·) = some ns from h); exact ⟨i, is, rfl, h1, h2.symm⟩
  | _ => exact nomatch (show Option.none = some ns from h)
theorem strs_D {Pk : Kn} {ds : List D} {vs : List Value} (h : DRs Pk ds vs) : ∀ ns : List Str, strsD ds = some ns → StrsAre vs ns :=
  h.ind (m := fun ds vs => ∀ ns : List Str, strsD ds = some ns → StrsAre vs ns) (fun ns e => (Option.some.inj e : [] = ns) ▸ .nil) fun h _ i ns e => by
    obtain ⟨a, is, rfl, h1, rfl⟩ := strsD_cons e
    obtain ⟨t, rfl⟩ := h.inv
    exact .cons _ _ (i _ h1)
theorem joinS_length : ∀ xs : List Str, (joinS xs).length = (xs.map (·.length)).sum
  | [] => rfl
  | x :: r => by
    have := joinS_length r
    simp [joinS, Str.length] at this ⊢
    try omega

theorem bi_names : ∀ x ∈ ["len", "max", "min", "bytes", "chr", "any", "range"], Str.ofString x ≠ ("__name__" : Str) ∧ (Str.ofString x == ("__debug__" : Str)) = false := by decide +kernel
section
variable {P : Pm} {K : Frag} {mg mb : Str → Option Value}
theorem bname_call (O : P.c.Ok K mg mb) (k : KF K) {x : String} (hx : x ∈ ["len", "max", "min", "bytes", "chr", "any", "range"]) {g : PySem.Expr} (mg' : isBuiltinName P.c.cs x g = true) {es : List PySem.Expr} {pos : Pos} {A : Around} {s : Shared} {m : Str → Option Value} {Qr Er : Value → Shared → Prop} {v : Value}
    (F : Fr P.c.base P.c.L s.heap m) (hv : bootBuiltins (Str.ofString x) = some v) (h : wpAny (model P.prog P.w) A (callWith pos v [] (backTo pos (starEach es P.c.env)) []) Qr Er s) : wpAny (model P.prog P.w) A (eval (.Call g es [] pos) P.c.env) Qr Er s := by
  refine Call_ (builtin_name O mg' F (k.bi x hx) hv (bi_names x hx).1 (bi_names x hx).2 h) ?_
  replace mg' := onName_iff mg'; obtain ⟨y, q', rfl, _⟩ := mg'
  rfl
theorem bI_len (b : Array UInt8) (xs : List Int) (h : KBw.bInts b = xs) : b.size = xs.length := by rw [← KBw.ints_length, h]
theorem sx_len (O : P.c.Ok K mg mb) (k : KF K) {a : X} (ha : SX P a) : SX P (.len a) := fun e me A σ fro ρ m s q Qr Er oa rs vc hs hr => by
  replace me := onCall1_iff me; obtain ⟨g, x, p, rfl, me⟩ := me
  obtain ⟨⟨m1, m2⟩, m3⟩ := and3 me
  refine bname_call O k (x := "len") (by decide) m1 rs.cs.fr (v := .builtin "len") rfl (callWith_builtin1 (args_cons (ha _ m3 A σ fro ρ m s _ _ _ oa rs vc (fun f' r' v σ' rv s' h1 h2 h3 h4 h5 => ?_) hr) (notStar_one m2 _ _)) (notStar_one m2 _ _))
  refine args_nil ?_
  obtain ⟨x, e1, h6⟩ := od_vc h5
  obtain ⟨n, hn, hb, h7⟩ := on_vc h6
  have hd := h3.view h4 e1
  have H : ∀ t k, Qr (.int n t) { s' with toks := k } := fun t k => (hs.on h1 h2).pure h3 (.d (.int _ t)) h7 k
  have hb := Nat.le_trans hb (by decide : 1000000000 ≤ 2 ^ 31)
  cases x with
  | il xs =>
    obtain ⟨a, vs, k, rfl, hx, hi⟩ := hd.inv
    have hl : vs.toArray.size = n := (List.size_toArray ..).trans ((IntsAre.len hi).trans (Option.some.inj hn))
    exact len_list (isList_of hx) (by rw [hl]; omega) (by rw [hl]; exact H _ _)
  | bytes xs =>
    obtain ⟨b, t, rfl, ex⟩ := hd.inv
    obtain rfl : xs.length = n := Option.some.inj hn
    exact KBw.len_K ex (by omega) (H _ _)
  | lst ds =>
    obtain ⟨a, vs, k, rfl, hx, hi⟩ := hd.inv
    have hl : vs.toArray.size = n := (List.size_toArray ..).trans (hi.length.trans (Option.some.inj hn))
    exact len_list (isList_of hx) (by rw [hl]; omega) (by rw [hl]; exact H _ _)
  | _ => exact nomatch (show Option.none = some n from hn)
theorem sx_max (O : P.c.Ok K mg mb) (k : KF K) {a b : X} (ha : SX P a) (hb : SX P b) : SX P (.max a b) := fun e me A σ fro ρ m s q Qr Er oa rs vc hs hr => by
  replace me := onCall2_iff me; obtain ⟨g, x, y, p, rfl, me⟩ := me
  obtain ⟨⟨⟨⟨m1, m2⟩, m3⟩, m4⟩, m5⟩ := and5 me
  refine bname_call O k (x := "max") (by decide) m1 rs.cs.fr (v := .builtin "max") rfl (callWith_builtin1 (args_cons ?_ (notStar_one m2 _ _)) (notStar_one m2 _ _) (backTo_plain (by rw [List.all_cons, m3]; rfl)))
  refine ha _ m4 A σ fro ρ m s _ _ _ oa rs vc (fun f1 r1 v σ1 rv s1 h1 h2 h3 h4 h5 => ?_) hr
  refine args_cons (hb _ m5 A σ1 f1 r1 m s1 _ _ _ oa h3 h5 (fun f2 r2 w σ2 rw s2 k1 k2 k3 k4 k5 => args_nil ?_) hr) (notStar_one m3 _ _)
  obtain ⟨i, j, e1, e2, k6⟩ := ii_vc k5
  obtain ⟨_, rfl⟩ := (h4.of e1).inv
  obtain ⟨_, rfl⟩ := (k4.of e2).inv
  obtain ⟨own, N, hn, r⟩ := k3.cs.own
  refine max_two_N oa.hd k3.cs.fr N fun h' tk F' N' => ?_
  exact hs f2 r2 _ σ2 _ { s2 with heap := h', toks := tk } (fun p hp => k1 p (h1 p hp)) (h2.trans k2) (k3.led0 hn r F' N') (.d (.int _ _)) k6
theorem sx_min (O : P.c.Ok K mg mb) (k : KF K) {a b : X} (ha : SX P a) (hb : SX P b) : SX P (.min a b) := fun e me A σ fro ρ m s q Qr Er oa rs vc hs hr => by
  replace me := onCall2_iff me; obtain ⟨g, x, y, p, rfl, me⟩ := me
  obtain ⟨⟨⟨⟨m1, m2⟩, m3⟩, m4⟩, m5⟩ := and5 me
  refine bname_call O k (x := "min") (by decide) m1 rs.cs.fr (v := .builtin "min") rfl (callWith_builtin1 (args_cons ?_ (notStar_one m2 _ _)) (notStar_one m2 _ _) (backTo_plain (by rw [List.all_cons, m3]; rfl)))
  refine ha _ m4 A σ fro ρ m s _ _ _ oa rs vc (fun f1 r1 v σ1 rv s1 h1 h2 h3 h4 h5 => ?_) hr
  refine args_cons (hb _ m5 A σ1 f1 r1 m s1 _ _ _ oa h3 h5 (fun f2 r2 w σ2 rw s2 k1 k2 k3 k4 k5 => args_nil ?_) hr) (notStar_one m3 _ _)
  obtain ⟨i, j, e1, e2, k6⟩ := ii_vc k5
  obtain ⟨_, rfl⟩ := (h4.of e1).inv
  obtain ⟨_, rfl⟩ := (k4.of e2).inv
  obtain ⟨own, N, hn, r⟩ := k3.cs.own
  refine min_two_N oa.hd k3.cs.fr N fun h' tk F' N' => ?_
  exact hs f2 r2 _ σ2 _ { s2 with heap := h', toks := tk } (fun p hp => k1 p (h1 p hp)) (h2.trans k2) (k3.led0 hn r F' N') (.d (.int _ _)) k6
theorem sx_chr (O : P.c.Ok K mg mb) (k : KF K) {a : X} (ha : SX P a) : SX P (.chr a) := fun e me A σ fro ρ m s q Qr Er oa rs vc hs hr => by
  replace me := onCall1_iff me; obtain ⟨g, x, p, rfl, me⟩ := me
  obtain ⟨⟨m1, m2⟩, m3⟩ := and3 me
  refine bname_call O k (x := "chr") (by decide) m1 rs.cs.fr (v := .builtin "chr") rfl (callWith_builtin1 (args_cons (ha _ m3 A σ fro ρ m s _ _ _ oa rs vc (fun f' r' v σ' rv s' h1 h2 h3 h4 h5 => ?_) hr) (notStar_one m2 _ _)) (notStar_one m2 _ _))
  refine args_nil ?_
  obtain ⟨i, e1, h6⟩ := int_vc h5
  obtain ⟨_, rfl⟩ := (h4.of e1).inv
  exact chr_of_range h6.1.1 h6.1.2 ((hs.on h1 h2).pure h3 (.d (.str _ _)) h6.2 _)
theorem bools_at {Pk : Kn} {ds : List D} {vs : List Value} (h : DRs Pk ds vs) : (∀ d ∈ ds, ∃ b, d = D.bool b) → ∃ bs : List Bool, ds = bs.map D.bool ∧ vs = bs.map Value.bool :=
  h.ind (m := fun ds vs => (∀ d ∈ ds, ∃ b, d = D.bool b) → ∃ bs : List Bool, ds = bs.map D.bool ∧ vs = bs.map Value.bool) (fun _ => ⟨[], rfl, rfl⟩) fun h _ i hb => by
    obtain ⟨b, rfl⟩ := hb _ (.head _)
    obtain ⟨bs, rfl, rfl⟩ := i fun d hd => hb d (.tail _ hd)
    obtain rfl := h.inv
    exact ⟨b :: bs, rfl, rfl⟩
theorem range_any (bs : List Bool) : (List.range bs.length).any (fun i => bs.getD i false) = bs.any id := by
  have : bs = (List.range bs.length).map (fun i => bs.getD i false) := by
    apply List.ext_getElem (by simp)
    intro i h1 h2
    simp [h1]
  conv => rhs; rw [this]
  rw [List.any_map]; rfl
theorem sx_any (O : P.c.Ok K mg mb) (k : KF K) {a : X} (ha : SX P a) : SX P (.any a) := fun e me A σ fro ρ m s q Qr Er oa rs vc hs hr => by
  replace me := onCall1_iff me; obtain ⟨g, x, p, rfl, me⟩ := me
  obtain ⟨⟨m1, m2⟩, m3⟩ := and3 me
  refine bname_call O k (x := "any") (by decide) m1 rs.cs.fr (v := .builtin "any") rfl (callWith_builtin1 (args_cons (ha _ m3 A σ fro ρ m s _ _ _ oa rs vc (fun f' r' v σ' rv s' h1 h2 h3 h4 h5 => ?_) hr) (notStar_one m2 _ _)) (notStar_one m2 _ _))
  refine args_nil ?_
  obtain ⟨ds, e0, hb, hq⟩ := lst_vc h5
  obtain ⟨a', vs, n', rfl, hx, hi⟩ := (h4.of e0).inv
  obtain ⟨bs, rfl, rfl⟩ := bools_at hi hb
  have hl := isList_of (h3.at hx)
  have hlt := Heap.lt_size (h3.at hx)
  refine call_any_walk (wpAny_pyIter_list hl ⟨s'.heap.objs.size, _, _, _, _, _, fun i => bs.getD i false, rfl, Walks.list (A := A.in1) oa.hd _ _ (Nat.ne_of_lt hlt) _, ⟨⟨_, Heap.get?_push_size _ rfl, rfl, rfl⟩, hl.push _⟩, ?_, fun h' tk hk => ?_⟩)
  · intro i v s Q E hP hQ
    rw [List.getElem?_toArray, List.getElem?_map] at hP
    obtain ⟨b, hb, rfl⟩ := Option.map_eq_some_iff.mp hP
    refine wpAny_truthy_bool ?_
    have : bs.getD i false = b := by rw [List.getD_eq_getElem?_getD, hb]; rfl
    exact this ▸ hQ
  · have e1 : (bs.map Value.bool).toArray.size = bs.length := (List.size_toArray ..).trans (List.length_map ..)
    rw [e1, range_any]
    rw [show (bs.map D.bool).any boolD = bs.any id from List.any_map ..] at hq
    refine hs f' r' _ σ' _ { s' with heap := h', toks := tk } h1 h2 (h3.ext fun b o e => hk b o ?_ (Heap.get?_push_of_some _ e)) (.d (.bool _)) hq
    intro hm
    rw [List.mem_singleton] at hm
    exact absurd (Heap.lt_size e) (by rw [hm]; exact Nat.lt_irrefl _)
set_option maxRecDepth 100000 in
theorem sx_join {a : X} (ha : SX P a) : SX P (.join a) := fun e me A σ fro ρ m s q Qr Er oa rs vc hs hr => by
  replace me := onMeth1_iff me; obtain ⟨v, x, ap, z, p, rfl, mp, me⟩ := me
  obtain ⟨⟨⟨m1, m4⟩, mv⟩, m5⟩ := and4 me
  obtain rfl := eq_of_beq m1
  replace mv := onStr_iff mv; obtain ⟨y, n', p', rfl, m2⟩ := mv
  obtain rfl := eq_of_beq m2
  refine MethodCall_ (wpAny_Constant_str (GM.join (callWith_method1 (args_cons (ha _ m5 A σ fro ρ m { s with toks := s.toks + 1 } _ _ _ oa rs vc (fun f' r' v σ' rv s' h1 h2 h3 h4 h5 => args_nil ?_) hr) (notStar_one m4 _ _)) (notStar_one m4 _ _)))) (meth_he rfl _ (by rw [List.all_cons, m4]; rfl) (by show 1 < 30; decide) mp)
  obtain ⟨ds, e1, h6⟩ := slst_vc h5
  obtain ⟨xs, e2, hn, h7⟩ := osl_vc h6
  obtain ⟨a', vs, n', rfl, hx, hi⟩ := (h3.view h4 e1).inv
  refine join_list (isList_of hx) (strs_D hi _ e2) ?_ fun t' k => ?_
  · have := joinS_length xs
    have e : (("" : Str).length) = 0 := rfl
    rw [e]; omega
  · rw [joinS_eq]; exact (hs.on h1 h2).pure h3 (.d (.str _ _)) h7 _
end
end Mine
end

section
open PySem PySem.W PyProof.Rows PySem.Calls
namespace Mine

section
variable {P : Pm} {K : Frag} {mg mb : Str → Option Value}
theorem chain_isTrue {l r1 r2 : PySem.Expr} {o1 o2 : CmpOp} {pos : Pos} {env : Env} {whole : Sem Value} {prog : Program} {w : World} {A : Around} {s : Shared} {Q : Bool → Shared → Prop} {E : Value → Shared → Prop} (hm : behindInMarks o2 r2 = false)
    (h : wpAny (model prog w) A (eval l env) (fun a s₁ => wpAny (model prog w) A (testChain pos a [o1, o2] [eval r1 env, eval r2 env]) Q E s₁) E s) : wpAny (model prog w) A (isTrue (.Compare l [o1, o2] [r1, r2] pos) env whole) Q E s := by
  have e : markedEach [o1, o2] [r1, r2] (evalEach [r1, r2] env) = [eval r1 env, eval r2 env] := by
    simp [markedEach, markedBehindIn, hm, evalEach]
  show wpAny _ A (do testChain pos (← eval l env) [o1, o2] (markedEach [o1, o2] [r1, r2] (evalEach [r1, r2] env))) Q E s
  rw [e]
  exact wpAny_bind h
theorem st_cmp2 (o1 o2 : Cp) {a b d : X} (ha : SX P a) (hb : SX P b) (hd : SX P d) : ST P (.cmp2 o1 o2 a b d) := fun e me A σ fro ρ m s q Qr Er oa rs vc hs hr => by
  replace me := onCmp_iff me; obtain ⟨l, os, rs', p, rfl, me⟩ := me
  replace me := on2_iff me; obtain ⟨p1, p2, rfl, me⟩ := me
  replace me := on2_iff me; obtain ⟨r, t, rfl, me⟩ := me
  obtain ⟨⟨⟨⟨m1, m2⟩, m3⟩, m4⟩, m5⟩ := and5 me
  obtain rfl := eq_of_beq m1
  obtain rfl := eq_of_beq m2
  refine chain_isTrue (cp_marks _ _) (ha _ m3 A σ fro ρ m s _ _ _ oa rs vc (fun f1 r1 v σ1 rv s1 h1 h2 h3 h4 h5 => ?_) hr)
  refine test_link (hb _ m4 A σ1 f1 r1 m s1 _ _ _ oa h3 h5 (fun f2 r2 w σ2 rw s2 k1 k2 k3 k4 k5 => ?_) hr)
  obtain ⟨x, y, e1, e2, k6⟩ := dd_vc k5
  have hy := k4.of e2
  refine cmp_sound (oa_un oa.un) (k3.dr ((h4.of e1).mono (kmono k1))) (k3.dr hy) k6 fun z hz => wpAny_truthy_bool ?_
  cases z with
  | false => exact hs f2 r2 _ σ2 s2 (fun p hp => k1 p (h1 p hp)) (h2.trans k2) k3 (hz.2 rfl)
  | true =>
    refine test_last (hd _ m5 A σ2 f2 r2 m s2 _ _ _ oa k3 (hz.1 rfl) (fun f3 r3 u σ3 ru s3 j1 j2 j3 j4 j5 => ?_) hr)
    obtain ⟨x', e3, j6⟩ := d_vc j5
    exact cmp_sound (oa_un oa.un) (j3.dr (hy.mono (kmono j1))) (j3.dr (j4.of e3)) j6 fun z hz => wpAny_truthy_bool (hs f3 r3 _ σ3 s3 (fun p hp => j1 p (k1 p (h1 p hp))) ((h2.trans k2).trans j2) j3 hz)
theorem DR.isNone {Pk : Kn} {x : D} {rv : Value} (h : DR Pk x rv) : x ≠ .none → (rv == Value.none) = false :=
  DR.casesOn (motive_1 := fun d v _ => d ≠ .none → (v == Value.none) = false) h (fun z => absurd rfl z) (fun _ _ => rfl) (fun _ _ _ => rfl) (fun _ _ _ => rfl) (fun _ _ _ => rfl) (fun _ _ _ => rfl) (fun _ _ _ => rfl) (fun _ _ _ => rfl)
theorem st_isNone {a : X} (ha : SX P a) : ST P (.isNone a) := fun e me A σ fro ρ m s q Qr Er oa rs vc hs hr => by
  replace me := onCmp1_iff me; obtain ⟨l, o, r, p, rfl, me⟩ := me
  obtain ⟨⟨m1, m2⟩, me⟩ := and3 me
  obtain rfl := eq_of_beq m1
  replace m2 := isNoneC_iff m2; obtain ⟨n', p', rfl⟩ := m2
  refine wpAny_isTrue_Compare1 (ha _ me A σ fro ρ m s _ _ _ oa rs vc (fun f1 r1 v σ1 rv s1 h1 h2 h3 h4 h5 => ?_) hr) rfl
  refine wpAny_Constant_none (is_none (wpAny_truthy_bool ?_))
  rcases none_vc h5 with ⟨e, h6⟩ | ⟨x, e, hne, h6⟩
  · rw [(h4.of e).inv]; exact hs f1 r1 _ σ1 s1 h1 h2 h3 h6
  · rw [(h4.of e).isNone hne]; exact hs f1 r1 _ σ1 s1 h1 h2 h3 h6
theorem any_beq (xs : List Int) (i : Int) : (xs.any fun x => x == i) = decide (i ∈ xs) := by
  induction xs with
  | nil => rfl
  | cons x r ih =>
    rw [List.any_cons, ih]
    by_cases h : x = i
    · simp [h]
    · have : ¬ i = x := fun e => h e.symm
      simp [h, this]
theorem st_inn {a b : X} (ha : SX P a) (hb : SX P b) : ST P (.inn a b) := fun e me A σ fro ρ m s q Qr Er oa rs vc hs hr => by
  replace me := onCmp1_iff me; obtain ⟨l, o, r, p, rfl, me⟩ := me
  obtain ⟨⟨⟨m1, m2⟩, m3⟩, m4⟩ := and4 me
  obtain rfl := eq_of_beq m1
  replace m2 := onName_iff m2; obtain ⟨y, p', rfl, _⟩ := m2
  refine wpAny_isTrue_Compare1 (two ha hb m3 m4 oa rs vc (fun f' r' v w σ' rv rw s' h1 h2 h3 h4 h5 h6 => ?_) hr) rfl
  obtain ⟨i, xs, e1, e2, h7⟩ := iil_vc h6
  obtain ⟨_, rfl⟩ := (h4.of e1).inv
  obtain ⟨a', vs, n, rfl, hy, hi⟩ := (h5.of e2).inv
  refine in_list_ints (isList_of (h3.at hy)) hi (wpAny_truthy_bool ?_)
  rw [any_beq]
  exact hs f' r' _ σ' s' h1 h2 h3 h7
theorem st_and {a b : X} (ha : ST P a) (hb : ST P b) : ST P (.and a b) := fun e me A σ fro ρ m s q Qr Er oa rs vc hs hr => by
  replace me := onBoolOp_iff me; obtain ⟨o, es, p, rfl, me⟩ := me
  replace me := and2 me; obtain ⟨m0, me⟩ := me; obtain rfl := eq_of_beq m0
  replace me := on2_iff me; obtain ⟨l, r, rfl, me⟩ := me
  replace me := and2 me
  refine wpAny_isTrue_BoolOp (wpAny_allTrue_And_cons (ha _ me.1 A σ fro ρ m s _ _ _ oa rs vc (fun f1 r1 z σ1 s1 h1 h2 h3 h5 => ?_) hr))
  cases z with
  | false => exact hs f1 r1 _ σ1 s1 h1 h2 h3 (h5.2 rfl)
  | true =>
    refine wpAny_allTrue_And_cons (hb _ me.2 A σ1 f1 r1 m s1 (fun b σ' => q b σ') _ _ oa h3 (h5.1 rfl) (fun f2 r2 z σ2 s2 k1 k2 k3 k5 => ?_) hr)
    have := hs f2 r2 z σ2 s2 (fun p hp => k1 p (h1 p hp)) (h2.trans k2) k3 k5
    cases z with
    | false => exact this
    | true => exact wpAny_allTrue_And_nil this
theorem st_or {a b : X} (ha : ST P a) (hb : ST P b) : ST P (.or a b) := fun e me A σ fro ρ m s q Qr Er oa rs vc hs hr => by
  replace me := onBoolOp_iff me; obtain ⟨o, es, p, rfl, me⟩ := me
  replace me := and2 me; obtain ⟨m0, me⟩ := me; obtain rfl := eq_of_beq m0
  replace me := on2_iff me; obtain ⟨l, r, rfl, me⟩ := me
  replace me := and2 me
  refine wpAny_isTrue_BoolOp (wpAny_allTrue_Or_cons (ha _ me.1 A σ fro ρ m s _ _ _ oa rs vc (fun f1 r1 z σ1 s1 h1 h2 h3 h5 => ?_) hr))
  cases z with
  | true => exact hs f1 r1 _ σ1 s1 h1 h2 h3 (h5.1 rfl)
  | false =>
    refine wpAny_allTrue_Or_cons (hb _ me.2 A σ1 f1 r1 m s1 (fun b σ' => q b σ') _ _ oa h3 (h5.2 rfl) (fun f2 r2 z σ2 s2 k1 k2 k3 k5 => ?_) hr)
    have := hs f2 r2 z σ2 s2 (fun p hp => k1 p (h1 p hp)) (h2.trans k2) k3 k5
    cases z with
    | true => exact this
    | false => exact wpAny_allTrue_Or_nil this
theorem st_or3 {a b d : X} (ha : ST P a) (hb : ST P b) (hd : ST P d) : ST P (.or3 a b d) := fun e me A σ fro ρ m s q Qr Er oa rs vc hs hr => by
  replace me := onBoolOp_iff me; obtain ⟨o, es, p, rfl, me⟩ := me
  replace me := and2 me; obtain ⟨m0, me⟩ := me; obtain rfl := eq_of_beq m0
  replace me := on3_iff me; obtain ⟨l, r, t, rfl, me⟩ := me
  replace me := and3 me
  refine wpAny_isTrue_BoolOp (wpAny_allTrue_Or_cons (ha _ me.1.1 A σ fro ρ m s _ _ _ oa rs vc (fun f1 r1 z σ1 s1 h1 h2 h3 h5 => ?_) hr))
  cases z with
  | true => exact hs f1 r1 _ σ1 s1 h1 h2 h3 (h5.1 rfl)
  | false =>
    refine wpAny_allTrue_Or_cons (hb _ me.1.2 A σ1 f1 r1 m s1 _ _ _ oa h3 (h5.2 rfl) (fun f2 r2 z σ2 s2 k1 k2 k3 k5 => ?_) hr)
    cases z with
    | true => exact hs f2 r2 _ σ2 s2 (fun p hp => k1 p (h1 p hp)) (h2.trans k2) k3 (k5.1 rfl)
    | false =>
      refine wpAny_allTrue_Or_cons (hd _ me.2 A σ2 f2 r2 m s2 (fun b σ' => q b σ') _ _ oa k3 (k5.2 rfl) (fun f3 r3 z σ3 s3 j1 j2 j3 j5 => ?_) hr)
      have := hs f3 r3 z σ3 s3 (fun p hp => j1 p (k1 p (h1 p hp))) ((h2.trans k2).trans j2) j3 j5
      cases z with
      | true => exact this
      | false => exact wpAny_allTrue_Or_nil this
end
end Mine
end

section
open PySem PySem.W PyProof.Rows PySem.Calls
namespace Mine
variable {ζ : OG}

theorem tupIndex_go {M : Model} {A : Around} {E : Value → Shared → Prop} {α : Type} {vs : List Value} {k : Int} {t : Tok} {ns : List Int} (hi : IntsAre vs ns) (hk : k ∈ ns) (prog : Program) (w : World) (hM : M = model prog w)
    (f : Nat → Sem α) (Q : Option α × Unit → Shared → Prop) (s : Shared) (hf : wpAny M A (f (ns.idxOf k)) (fun a s' => Q (some a, ()) s') E s) :
    wpAny M A (forIn (List.range' 0 ns.length) (none, ()) fun i __s =>
            match vs.toArray[i]? with
            | some y => do
              let __do_lift ← eqBool y (Value.int k t)
              if __do_lift = true then do
                  let __do_lift ← f i
                  pure (ForInStep.done (some __do_lift, ()))
                else pure (ForInStep.yield (none, ()))
            | x => pure (ForInStep.yield (none, ()))) Q E s := by
  subst hM
  have hl := IntsAre.len hi
  have hlt : ns.idxOf k < ns.length := List.idxOf_lt_length_iff.mpr hk
  refine wpAny_forIn_list _ (fun l b s' => s' = s ∧ b = (none, ()) ∧ ∃ i, l = List.range' i (ns.length - i) ∧ i ≤ ns.idxOf k) Q ?_ ?_ _ _ ⟨rfl, rfl, 0, rfl, Nat.zero_le _⟩
  · rintro x rest b s' ⟨rfl, rfl, i, hr, hle⟩
    have hil : i < ns.length := by omega
    have e : ns.length - i = (ns.length - (i + 1)) + 1 := by omega
    rw [e, List.range'_succ] at hr
    rw [List.cons.injEq] at hr
    obtain ⟨hx0, hr0⟩ := hr
    subst hx0 hr0
    have hv := isInt_at k hi x (by omega) hil
    obtain ⟨t', hx⟩ := hi.get x ns[x] (by simp [hil])
    have e2 : vs.toArray[x]? = some (.int ns[x] t') := by simpa using hx
    simp only [e2]
    refine wpAny_bind (wpAny_eqBool_int ?_)
    by_cases hc : ns[x] = k
    · have : ns.idxOf k = x := by
        have h2 : ¬ x < ns.idxOf k := fun h => by have := ne_of_lt_idxOf h hil; simp [hc] at this
        omega
      rw [if_pos (by simpa using hc)]
      rw [this] at hf
      exact wpAny_bind (wpAny_mono hf (fun a s2 h2 => wpAny_pure h2) fun _ _ h => h)
    · rw [if_neg (by simpa using hc)]
      refine wpAny_pure ⟨rfl, rfl, x + 1, rfl, ?_⟩
      have : ns.idxOf k ≠ x := fun e => hc (by have := List.getElem_idxOf hlt; simp only [e] at this; exact this)
      omega
  · rintro b s' ⟨rfl, rfl, i, hr, hle⟩
    have := congrArg List.length hr
    simp at this
    omega
theorem tuple_index {l : Addr} {vs : List Value} {n : Nat} {k : Int} {t : Tok} {ns : List Int} (hi : IntsAre vs ns) (hk : k ∈ ns) :
    Meets (Builtin.«tuple.index» ⟨[.ref l, .int k t], []⟩) (fun _ R s => s.heap.get? l = some (tupOf vs n) ∧ R (.ok (.ret (.int (ns.idxOf k : Nat) s.toks))) { s with toks := s.toks + 1 }) := by
  intro prog w A R s h
  obtain ⟨hl, h⟩ := h
  unfold Builtin.«tuple.index»
  refine wpAny_bind (wpAny_of_eq (a := (Value.ref l, [Value.int k t])) rfl ?_)
  refine wpAny_bind (tupleItemsOf_ ⟨_, hl, rfl, n, rfl⟩ ?_)
  simp only [Std.Legacy.Range.forIn_eq_forIn_range']
  refine wpAny_bind (wpAny_pure (wpAny_bind (wpAny_pure (wpAny_bind ?_))))
  have e : (Std.Legacy.Range.size [0:min vs.toArray.size vs.toArray.size]) = ns.length := by
    simp [Std.Legacy.Range.size, IntsAre.len hi]
  rw [e]
  refine tupIndex_go hi hk prog w rfl (fun i => PySem.retInt (i : Int)) _ s ?_
  refine wpAny_bind (wpAny_mkInt (wpAny_pure (wpAny_pure h)))

theorem bb_lookup : typeLookup (.type "bytes") "__bytes__" = pure (some (.builtin "bytes.__bytes__")) := by rw [typeLookup_type, builtinLookup_eq_fast]; kernel_rfl
theorem bb_new {prog : Program} {w : World} {A : Around} {s : Shared} {E : Value → Shared → Prop} {b : Array UInt8} {t : Tok} {Q : Value → Shared → Prop} (hQ : Q (.bytes b t) s) :
    codeAny (model prog w) A (.call (.builtin "bytes.__new__") ⟨[.type "bytes", .bytes b t], []⟩) (wants Q E) s := by
  refine codeAny_of_tree ?_
  show wpAny _ A.in1 (do checkBuiltinCall "bytes.__new__" ⟨[.type "bytes", .bytes b t], []⟩; again (.builtin "bytes.__new__" ⟨[.type "bytes", .bytes b t], []⟩)) _ _ s
  refine wpAny_bind (wpAny_of_eq (F.bm_newCall _) (wpAny_pure ⟨plainId_quiet F.bm_plain _, codeAny_builtin F.bm_entry ?_⟩))
  rw [Around.under_plainId F.bm_plain _]
  have hT : s.TypeIs (.bytes b t) "bytes" := PySem.W.typeIs_bytes _ _ _
  unfold Builtin.«bytes.__new__»
  refine wpAny_bind (wpAny_of_eq (a := true) rfl ?_)
  refine bm_if_false rfl ?_
  refine wpAny_bind (wpAny_of_eq F.bm_sub ?_)
  refine bm_if_false rfl ?_
  refine wpAny_bind (wpAny_of_eq (F.bm_bind _) ?_)
  refine wpAny_bind (wpAny_of_eq (a := ()) rfl ?_)
  refine wpAny_bind (wpAny_of_eq (a := ()) rfl ?_)
  refine bm_if_false rfl ?_
  refine wpAny_bind (wpAny_specialOf hT bb_lookup ?_)
  refine wpAny_bind (wpAny_rule ?_)
  refine wpAny_bind (wpAny_typeOf hT ?_)
  refine bm_if_true rfl ?_
  refine wpAny_bind (m := ret _) (wpAny_pure ?_)
  exact wpAny_pure hQ
theorem call_bytes_bytes {prog : Program} {w : World} {A : Around} {s : Shared} {E : Value → Shared → Prop} {b : Array UInt8} {t : Tok} {Q : Value → Shared → Prop} (hQ : Q (.bytes b t) s) : wpAny (model prog w) A (call (.type "bytes") [.bytes b t]) Q E s := by
  refine callType_codes (Q₁ := fun obj s₁ => s₁.TypeIs obj "bytes" ∧ Q obj s₁) F.bm_called (F.bm_typeCall _) F.entry_object_init
    (bb_new ⟨PySem.W.typeIs_bytes _ _ _, hQ⟩) fun obj s₁ h₁ => ?_
  exact ⟨h₁.1, F.args_object_init_2 obj _, object_init_meets F.bm_called.init.lookup F.bm_called.made (by decide) prog w A.in1 _ s₁ ⟨h₁.1, rfl, h₁.2⟩⟩

/-- an own object of one piece is turned -/
theorem RS.turn {c : Cx} {σ : St} {fro : List (Addr × Obj)} {ρ : List Addr} {m : Str → Option Value} {h h' : Heap} (R : RS c σ fro ρ m h ζ) {k : Nat} {ob : Ob} (e : σ.obs[k]? = some ob) {a : Addr} {o : Obj} {ob' : Ob} (ha : ρ[k]? = some a)
    (hp : PieceR (kn c.base fro) ρ a ob' [(a, o)]) (hs : ∀ pc, PieceR (kn c.base fro) ρ a ob pc → ∃ x, pc = [(a, x)]) (hg : h'.get? a = some o) (hk : ∀ b x, b ≠ a → h.get? b = some x → h'.get? b = some x) :
    RS c ⟨σ.loc, σ.obs.set k ob'⟩ fro ρ m h' ζ := by
  obtain ⟨a', pc, h1, h2, h3, h4, h5⟩ := R.cs.upd e
  obtain rfl := Option.some.inj (ha.symm.trans h1)
  obtain ⟨x, rfl⟩ := hs pc h2
  refine ⟨h5 h' ob' [(a, o)] hp rfl (fun p hp => ?_) (fun b x hb e => hk b x (fun z => hb (by simp [z])) e), R.loc, R.oge⟩
  rcases List.mem_cons.mp hp with rfl | hp
  · exact hg
  · cases hp
theorem piece_il {P : Kn} {ρ : List Addr} {a : Addr} {xs : List Int} : ∀ pc, PieceR P ρ a (.il xs) pc → ∃ x, pc = [(a, x)] := fun _ ⟨_, _, e, _⟩ => ⟨_, e⟩
theorem piece_lst {P : Kn} {ρ : List Addr} {a : Addr} {xs : List D} : ∀ pc, PieceR P ρ a (.lst xs) pc → ∃ x, pc = [(a, x)] := fun _ ⟨_, _, e, _⟩ => ⟨_, e⟩
/-- an own object that turns no more -/
theorem CS.freeze {base h : Heap} {L : Addr} {m : Str → Option Value} {fro rest : List (Addr × Obj)} {ρ : List Addr} {obs : List Ob} (C : CS base L m fro rest ρ obs h) {k : Nat} {o : Ob} (e : obs[k]? = some o) :
    ∃ a pc, ρ[k]? = some a ∧ PieceR (kn base fro) ρ a o pc ∧ CS base L m (pc ++ fro) rest ρ (obs.set k .dead) h := by
  obtain ⟨own, N, hn, r⟩ := C.own
  obtain ⟨a, pc, l, rr, h1, rfl, h3, h4⟩ := r.get e
  refine ⟨a, pc, h1, h3, C.fr, l ++ ([] ++ rr), ?_, ?_, (h4 .dead [] rfl).mono (kmono fun p hp => List.mem_append_right _ hp) (rfP _)⟩
  · intro p hp
    refine N p ?_
    simp only [List.nil_append, List.mem_append] at hp ⊢
    rcases hp with (hp | hp) | (hp | hp) | hp <;> simp [hp]
  · refine List.Perm.nodup_iff (List.Perm.map _ ?_) |>.mp hn
    simp only [List.nil_append, List.append_assoc]
    refine List.Perm.append_left l ?_
    have hp : (pc ++ rr).Perm (rr ++ pc) := List.perm_append_comm
    have := hp.append_right (fro ++ rest)
    simpa only [List.append_assoc] using this

section
variable {P : Pm} {K : Frag} {mg mb : Str → Option Value}
theorem sx_toB (O : P.c.Ok K mg mb) (k : KF K) {a : X} (ha : SX P a) : SX P (.toB a) := fun e me A σ fro ρ m s q Qr Er oa rs vc hs hr => by
  replace me := onCall1_iff me; obtain ⟨g, x, p, rfl, me⟩ := me
  obtain ⟨⟨m1, m2⟩, m3⟩ := and3 me
  refine bname_call O k (x := "bytes") (by decide) m1 rs.cs.fr (v := .type "bytes") rfl (callWith_type1 (args_cons (ha _ m3 A σ fro ρ m s _ _ _ oa rs vc (fun f' r' v σ' rv s' h1 h2 h3 h4 h5 => ?_) hr) (notStar_one m2 _ _)) (notStar_one m2 _ _))
  refine args_nil ?_
  obtain ⟨xs, ⟨e, hb, hz, hq⟩ | ⟨e, hq⟩⟩ := ilb_vc h5
  · obtain ⟨a', vs, n, rfl, hx, hi⟩ := (h4.of e).inv
    obtain ⟨own, N, hn, r⟩ := h3.cs.own
    refine KBa.make_K h3.cs.fr N oa.hd (isList_of (h3.at hx)) hi hb (by omega) fun h' t' k F' N' I' => ?_
    exact hs f' r' _ σ' _ { s' with heap := h', toks := k } h1 h2 (h3.led0 hn r F' N') (.d (.bytes t' (KBa.ints_make I'))) hq
  · obtain ⟨b, t, rfl, hb⟩ := (h4.of e).inv
    exact call_bytes_bytes ((hs.on h1 h2).pure' h3 (.d (.bytes t hb)) hq)
set_option maxRecDepth 100000 in
theorem sx_tindex {a b : X} (ha : SX P a) (hb : SX P b) : SX P (.tindex a b) := fun e me A σ fro ρ m s q Qr Er oa rs vc hs hr => by
  replace me := onMeth1_iff me; obtain ⟨v, x, ap, z, p, rfl, mp, me⟩ := me
  obtain ⟨⟨⟨⟨m1, m2⟩, m4⟩, m5⟩, m6⟩ := and5 me
  obtain rfl := eq_of_beq m1
  refine MethodCall_ (ha _ m5 A σ fro ρ m s _ _ _ oa rs vc (fun f1 r1 v σ1 rv s1 h1 h2 h3 h4 h5 => ?_) hr) (meth_he m2 _ (by rw [List.all_cons, m4]; rfl) (by show 1 < 30; decide) mp)
  obtain ⟨ds, e1, h6⟩ := tup_vc h5
  obtain ⟨ns, hns, h7⟩ := oil_vc h6
  obtain ⟨a', vs, n, rfl, hx, hi⟩ := (h4.of e1).inv
  refine getMethod_builtin (T := "tuple") ⟨_, h3.at hx, rfl⟩ PySem.F.plainAttrs_tuple PySem.F.slot_tuple_index PySem.F.type_tuple_index (fun a e => by cases e; exact ⟨_, h3.at hx, rfl⟩) ?_
  refine callWith_method1 (args_cons (hb _ m6 A σ1 f1 r1 m s1 _ _ _ oa h3 h7 (fun f2 r2 w σ2 rw s2 k1 k2 k3 k4 k5 => args_nil ?_) hr) (notStar_one m4 _ _)) (notStar_one m4 _ _)
  obtain ⟨i, e2, hin, hz, hq⟩ := int_vc k5
  obtain ⟨_, rfl⟩ := (k4.of e2).inv
  have hx2 := k3.at (kmono k1 _ _ hx)
  exact call_meets PySem.F.slot_tuple_index ⟨_, hx2, rfl⟩ PySem.F.entry_tuple_index (PySem.F.args_tuple_index_2 _ _) (tuple_index (ints_D hi _ hns) hin) ⟨hx2, ((hs.on h1 h2).on k1 k2).pure k3 (.d (.int _ _)) hq _⟩
theorem ints_cons {vs : List Value} {x : Int} {xs : List Int} (h : IntsAre vs (x :: xs)) : ∃ t r, vs = .int x t :: r ∧ IntsAre r xs := by
  cases h with
  | cons _ t h => exact ⟨t, _, rfl, h⟩
set_option maxRecDepth 100000 in
theorem sx_pop0 {a : X} (ha : SX P a) : SX P (.pop0 a) := fun e me A σ fro ρ m s q Qr Er oa rs vc hs hr => by
  replace me := onMeth1_iff me; obtain ⟨v, x, ap, z, p, rfl, mp, me⟩ := me
  obtain ⟨⟨⟨m1, m2⟩, m4⟩, m5⟩ := and4 me
  obtain rfl := eq_of_beq m1
  replace m4 := onInt_iff m4; obtain ⟨i0, n', p', rfl, m4⟩ := m4
  obtain rfl := eq_of_beq m4
  refine MethodCall_ (ha _ m5 A σ fro ρ m s _ _ _ oa rs vc (fun f1 r1 v σ1 rv s1 h1 h2 h3 h4 h5 => ?_) hr) (meth_he m2 _ rfl (by show 1 < 30; decide) mp)
  obtain ⟨k, e0, h6⟩ := ref_vc h5
  obtain ⟨x, xs, e1, hz, hq⟩ := ilc_vc h6
  obtain ⟨ra, rfl, hra⟩ := h4.ofRef e0
  obtain ⟨vs, n, hg, hi⟩ := h3.il_at e1 hra
  refine getMethod_builtin (T := "list") ⟨_, hg, rfl⟩ PySem.F.plainAttrs_list PySem.F.slot_list_pop PySem.F.type_list_pop (fun a e => by cases e; exact ⟨_, hg, rfl⟩) ?_
  refine callWith_method1 (args_cons (wpAny_Constant_int (args_nil ?_)))
  obtain ⟨t, vs, rfl, hj⟩ := ints_cons hi
  refine call_meets (s := { s1 with toks := s1.toks + 1 }) PySem.F.slot_list_pop ⟨_, hg, rfl⟩ PySem.F.entry_list_pop (PySem.F.args_list_pop_2 _ _) (PySem.MeetsSeq.list_pop_at _ _ n 0 _ 0 (.int x t) rfl (by simp [seqIndex?]) rfl (by rw [List.size_toArray]; show vs.length + 1 ≤ 2 ^ 24; rw [IntsAre.len hj]; omega)) ⟨hg, ?_⟩
  have hu := PySem.IsL.update hg (fun xs => xs.eraseIdxIfInBounds 0)
  rw [show (Array.eraseIdxIfInBounds (Value.int x t :: vs).toArray 0) = vs.toArray from (kl_erase [] vs (.int x t)).trans rfl, if_neg (by simp)] at hu
  exact hs f1 r1 _ ⟨σ1.loc, σ1.obs.set k (.il xs)⟩ _ { s1 with heap := _, toks := _ } h1 h2 (h3.turn e1 hra (o := listOf vs.toArray (n + 1)) ⟨vs, n + 1, rfl, hj⟩ piece_il hu fun b y hb e => by rw [Heap.get?_update_other _ _ (Ne.symm hb)]; exact e) (.d (.int _ _)) hq
theorem sx_frz {a : X} (ha : SX P a) : SX P (.frz a) := fun e me A σ fro ρ m s q Qr Er oa rs vc hs hr => by
  refine ha _ me A σ fro ρ m s _ _ _ oa rs vc (fun f1 r1 v σ1 rv s1 h1 h2 h3 h4 h5 => ?_) hr
  obtain ⟨k, e0, h6⟩ := ref_vc h5
  obtain ⟨x, hx, hq⟩ := od_vc h6
  rw [e0] at hx
  obtain ⟨ra, rfl, hra⟩ := h4.ofRef e0
  have G : ∀ {o pc d}, CS P.c.base P.c.L m (pc ++ f1) P.c.rest r1 (σ1.obs.set k .dead) s1.heap → o ∈ pc → DR (kn P.c.base (pc ++ f1)) x (.ref d) → Qr (.ref d) s1 := fun {o pc d} g3 _ hd =>
    hs _ r1 _ ⟨σ1.loc, σ1.obs.set k .dead⟩ _ s1 (fun p hp => List.mem_append_right _ (h1 p hp)) h2 ⟨g3, h3.loc.mono (kmono fun _ hp => List.mem_append_right _ hp) (rfP _), h3.oge⟩ (.d hd) hq
  rcases view_ref hx with ⟨xs, e1, rfl⟩ | ⟨xs, e1, rfl⟩
  · obtain ⟨a', pc, g1, ⟨vs, n, rfl, hi⟩, g3⟩ := h3.cs.freeze e1
    obtain rfl := Option.some.inj (hra.symm.trans g1)
    exact G g3 (.head _) (.il (.inr (.head _)) hi)
  · obtain ⟨a', pc, g1, ⟨vs, n, rfl, hi⟩, g3⟩ := h3.cs.freeze e1
    obtain rfl := Option.some.inj (hra.symm.trans g1)
    exact G g3 (.head _) (.lst (.inr (.head _)) (hi.mono (kmono fun _ hp => .tail _ hp)))
end
end Mine
end

section
open PySem PySem.W PyProof.Rows PySem.Calls
namespace Mine

theorem Keeps.rfl' (s : Shared) : Keeps s s := ⟨s.heap, s.toks, rfl, fun _ _ e => e⟩
theorem keepsTok {s s' : Shared} (h : Keeps s s') (k : Nat) : Keeps s { s' with toks := k } := by
  obtain ⟨h', tk, rfl, hk⟩ := h
  exact ⟨h', k, rfl, hk⟩
/-- the item of a comprehension comes to what evE says -/
noncomputable def NoK : Kn := fun _ _ => False
noncomputable def EvS (prog : Program) (w : World) (A : Around) (env' : Env) (n : Nat) (lk : Str → Option NameKind) (ev : Nat → Option Int) (s₀ : Shared) (x : X) : Prop :=
  ∀ e, mE n lk x e = true → ∀ (s : Shared) (q : D → Prop) (Q Er : Value → Shared → Prop), Keeps s₀ s → evE ev x q → (∀ d rv s', Keeps s₀ s' → DR NoK d rv → q d → Q rv s') → wpAny (model prog w) A (eval e env') Q Er s
noncomputable def EvT (prog : Program) (w : World) (A : Around) (env' : Env) (n : Nat) (lk : Str → Option NameKind) (ev : Nat → Option Int) (s₀ : Shared) (x : X) : Prop :=
  ∀ e, mE n lk x e = true → mE.isCmp e = true → ∀ (s : Shared) (q : Bool → Prop) (Q : Bool → Shared → Prop) (Er : Value → Shared → Prop), Keeps s₀ s → evE ev x (fun d => isBD d q) → (∀ b s', Keeps s₀ s' → q b → Q b s') → wpAny (model prog w) A (isTrue e env' (eval e env')) Q Er s
section
variable {prog : Program} {w : World} {A : Around} {env' : Env} {n : Nat} {lk : Str → Option NameKind} {ev : Nat → Option Int} {s₀ : Shared}
theorem ev_two {a b : X} (ha : EvS prog w A env' n lk ev s₀ a) (hb : EvS prog w A env' n lk ev s₀ b) {l r : PySem.Expr} (ml : mE n lk a l = true) (mr : mE n lk b r = true) {s : Shared} {Er : Value → Shared → Prop} {q : D → D → Prop} {R : Value → Value → Shared → Prop} (ks : Keeps s₀ s)
    (vc : evE ev a fun x => evE ev b fun y => q x y) (H : ∀ x y rx ry s', Keeps s₀ s' → DR NoK x rx → DR NoK y ry → q x y → R rx ry s') :
    wpAny (model prog w) A (eval l env') (fun x s₁ => wpAny (model prog w) A (eval r env') (fun y s₂ => R x y s₂) Er s₁) Er s :=
  ha l ml s _ _ _ ks vc fun x rx s1 k1 h1 q1 => hb r mr s1 _ _ _ k1 q1 fun y ry s2 k2 h2 q2 => H x y rx ry s2 k2 h1 h2 q2
theorem cmpInt_sound {op : Cp} {i j : Int} {q : Bool → Prop} {t u : Tok} {s : Shared} {Qr Er : Value → Shared → Prop} (e : cmpD op (.int i) (.int j) q) (H : ∀ b, q b → Qr (.bool b) s) : wpAny (model prog w) A (compareOp (cpOf op) (.int i t) (.int j u)) Qr Er s := by
  cases op
  · exact lt_int (H _ e)
  · exact le_int (H _ e)
  · exact gt_int (H _ e)
  · exact ge_int (H _ e)
  · exact eq_int (H _ e)
  · exact ne_int (H _ e)
theorem oi_vc {o : Option Int} {p : Int → Prop} (h : match o with
    | some i => p i
    | none => False) : ∃ i, o = some i ∧ p i := by
  cases o with
  | some x => exact ⟨x, rfl, h⟩
  | none => exact False.elim h
theorem ii_ev {x y : D} {rx ry : Value} {Pk : Kn} {p : Int → Int → Prop} (h : match x, y with
    | .int i, .int j => p i j
    | _, _ => False) (hx : DR Pk x rx) (hy : DR Pk y ry) : ∃ i j t u, rx = .int i t ∧ ry = .int j u ∧ p i j := by
  cases x with
  | int i => cases y with
    | int j =>
      obtain ⟨t, e⟩ := hx.inv
      obtain ⟨u, e'⟩ := hy.inv
      exact ⟨i, j, t, u, e, e', h⟩
    | _ => exact False.elim h
  | _ => exact False.elim h
theorem ev_loc (hn : ∀ k (y : Str) pos (s : Shared) i (Q Er : Value → Shared → Prop), (y == nm k) = true → k < 41 → (Nat.beq k n || lk y == some .free) = true → Keeps s₀ s → ev k = some i → (∀ t, Q (.int i t) s) → wpAny (model prog w) A (eval (.Name y pos) env') Q Er s) (k : Nat) : EvS prog w A env' n lk ev s₀ (.loc k) := fun e me s q Q Er ks vc H => by
  replace me := onName_iff me; obtain ⟨y, p, rfl, me⟩ := me
  obtain ⟨⟨m1, m2⟩, m3⟩ := and3 me
  obtain ⟨i, hi, vc⟩ := oi_vc vc
  exact hn k _ _ s i Q Er m1 (Nat.blt_eq.mp m2) m3 ks hi fun t => H _ _ s ks (.int i t) vc
theorem ev_cint (i : Int) : EvS prog w A env' n lk ev s₀ (.cint i) := fun e me s q Q Er ks vc H => by
  replace me := onInt_iff me; obtain ⟨j, n, p, rfl, me⟩ := me
  obtain rfl := eq_of_beq me
  exact wpAny_Constant_int (H _ _ _ (keepsTok ks _) (.int _ _) vc)
theorem ev_bin (op : Op) {a b : X} (ha : EvS prog w A env' n lk ev s₀ a) (hb : EvS prog w A env' n lk ev s₀ b) : EvS prog w A env' n lk ev s₀ (.bin op a b) := fun e me s q Q Er ks vc H => by
  replace me := onBin_iff me; obtain ⟨l, o, r, p, rfl, me⟩ := me
  obtain ⟨⟨m1, m2⟩, m3⟩ := and3 me
  obtain rfl := eq_of_beq m1
  refine wpAny_BinOp (ev_two ha hb m2 m3 ks vc fun x y rx ry s' k' hx hy hq => ?_)
  obtain ⟨i, j, t, u, rfl, rfl, hq⟩ := ii_ev hq hx hy
  exact opInt hq fun z t k hz => H _ _ _ (keepsTok k' _) (.int _ _) hz
theorem ev_cmp (op : Cp) {a b : X} (ha : EvS prog w A env' n lk ev s₀ a) (hb : EvS prog w A env' n lk ev s₀ b) : EvS prog w A env' n lk ev s₀ (.cmp op a b) := fun e me s q Q Er ks vc H => by
  replace me := onCmp1_iff me; obtain ⟨l, o, r, p, rfl, me⟩ := me
  obtain ⟨⟨m1, m2⟩, m3⟩ := and3 me
  obtain rfl := eq_of_beq m1
  refine wpAny_Compare1 (ev_two ha hb m2 m3 ks vc fun x y rx ry s' k' hx hy hq => ?_) (cp_marks _ _)
  obtain ⟨i, j, t, u, rfl, rfl, hq⟩ := ii_ev hq hx hy
  exact cmpInt_sound hq fun b hb => H _ _ _ k' (.bool b) hb
theorem et_cmp (op : Cp) {a b : X} (ha : EvS prog w A env' n lk ev s₀ a) (hb : EvS prog w A env' n lk ev s₀ b) : EvT prog w A env' n lk ev s₀ (.cmp op a b) := fun e me _ s q Q Er ks vc H => by
  replace me := onCmp1_iff me; obtain ⟨l, o, r, p, rfl, me⟩ := me
  obtain ⟨⟨m1, m2⟩, m3⟩ := and3 me
  obtain rfl := eq_of_beq m1
  refine wpAny_isTrue_Compare1 (ev_two ha hb m2 m3 ks vc fun x y rx ry s' k' hx hy hq => ?_) (cp_marks _ _)
  obtain ⟨i, j, t, u, rfl, rfl, hq⟩ := ii_ev hq hx hy
  exact cmpInt_sound hq fun b hb => wpAny_truthy_bool (H _ _ k' hb)
theorem ev_ife {c a b : X} (hc : EvT prog w A env' n lk ev s₀ c) (ha : EvS prog w A env' n lk ev s₀ a) (hb : EvS prog w A env' n lk ev s₀ b) : EvS prog w A env' n lk ev s₀ (.ife c a b) := fun e me s q Q Er ks vc H => by
  replace me := onIf_iff me; obtain ⟨t, x, y, p, rfl, me⟩ := me
  obtain ⟨⟨⟨m1, m2⟩, m3⟩, m4⟩ := and4 me
  refine wpAny_IfExp (hc _ m2 m1 s _ _ _ ks vc fun z s' k' hz => ?_)
  cases z with
  | true => exact ha _ m3 s' _ _ _ k' (hz.1 rfl) H
  | false => exact hb _ m4 s' _ _ _ k' (hz.2 rfl) H
theorem ev_no {x : X} (h : ∀ e, mE n lk x e = false) : EvS prog w A env' n lk ev s₀ x ∧ EvT prog w A env' n lk ev s₀ x :=
  ⟨fun e me => absurd ((h e).symm.trans me) Bool.false_ne_true, fun e me => absurd ((h e).symm.trans me) Bool.false_ne_true⟩
theorem ev_sound (hn : ∀ k (y : Str) pos (s : Shared) i (Q Er : Value → Shared → Prop), (y == nm k) = true → k < 41 → (Nat.beq k n || lk y == some .free) = true → Keeps s₀ s → ev k = some i → (∀ t, Q (.int i t) s) → wpAny (model prog w) A (eval (.Name y pos) env') Q Er s) :
    ∀ x : X, EvS prog w A env' n lk ev s₀ x ∧ EvT prog w A env' n lk ev s₀ x
  | .loc k => ⟨ev_loc hn k, fun e me hc => by replace me := onName_iff me; obtain ⟨_, _, rfl, _⟩ := me; exact absurd hc Bool.false_ne_true⟩
  | .cint i => ⟨ev_cint i, fun e me hc => by replace me := onInt_iff me; obtain ⟨_, _, _, rfl, _⟩ := me; exact absurd hc Bool.false_ne_true⟩
  | .bin op a b => ⟨ev_bin op (ev_sound hn a).1 (ev_sound hn b).1, fun e me hc => by replace me := onBin_iff me; obtain ⟨_, _, _, _, rfl, _⟩ := me; exact absurd hc Bool.false_ne_true⟩
  | .cmp op a b => ⟨ev_cmp op (ev_sound hn a).1 (ev_sound hn b).1, et_cmp op (ev_sound hn a).1 (ev_sound hn b).1⟩
  | .ife c a b => ⟨ev_ife (ev_sound hn c).2 (ev_sound hn a).1 (ev_sound hn b).1, fun e me hc => by replace me := onIf_iff me; obtain ⟨_, _, _, _, rfl, _⟩ := me; exact absurd hc Bool.false_ne_true⟩
  | .glob _ | .cnone | .cbool _ | .cstr _ | .neg _ | .attr _ _ | .cmp2 _ _ _ _ _ | .isNone _ | .inn _ _ | .and _ _ | .or _ _ | .or3 _ _ _ | .not _ | .tup _ | .il _ | .dl _ | .mil _ | .mdl | .idx _ _ | .slc _ _ _ | .slcTo _ _ | .slcFrom _ _ | .call _ _ | .meth _ _ _ | .len _ | .max _ _ | .min _ _ | .toB _ | .chr _ | .any _ | .join _ | .tindex _ _ | .pop0 _ | .frz _ | .compR _ _ _ | .compL _ _ _ => ev_no fun _ => rfl
end

/-- the cells that a comprehension takes along -/
noncomputable def clFor (cl : List (Str × Addr)) : List (Str × NameKind) → List (Str × Addr) → List (Str × Addr)
  | [], acc => acc
  | (y, k) :: r, acc => clFor cl r (if k == .free then (match cl.lookup y with | some a => (y, a) :: acc | none => acc) else acc)
theorem clFor_lookup {cl : List (Str × Addr)} {y : Str} {a : Addr} (ha : cl.lookup y = some a) : ∀ (names : List (Str × NameKind)) (acc : List (Str × Addr)), (acc.lookup y = some a ∨ (acc.lookup y = none ∧ names.lookup y = some .free)) → (clFor cl names acc).lookup y = some a
  | [], acc, h => by
    rcases h with h | ⟨_, h⟩
    · exact h
    · cases h
  | (z, k) :: r, acc, h => by
    unfold clFor
    refine clFor_lookup ha r _ ?_
    by_cases hk : (k == NameKind.free) = true
    · rw [if_pos hk]
      by_cases hz : (y == z) = true
      · obtain rfl := eq_of_beq hz
        rw [ha]
        exact .inl (by simp)
      · have hz' : (y == z) = false := by simpa using hz
        have e : ((match cl.lookup z with | some a => (z, a) :: acc | none => acc)).lookup y = acc.lookup y := by
          cases cl.lookup z with
          | none => rfl
          | some b => dsimp only; rw [List.lookup_cons, hz']
        rw [e]
        refine h.imp id fun ⟨h1, h2⟩ => ⟨h1, ?_⟩
        rw [List.lookup_cons, hz'] at h2; exact h2
    · rw [if_neg hk]
      refine h.imp id fun ⟨h1, h2⟩ => ⟨h1, ?_⟩
      rw [List.lookup_cons] at h2
      cases hz : y == z with
      | true => rw [hz] at h2; cases h2; exact absurd rfl hk
      | false => rw [hz] at h2; exact h2
theorem closureFor_cl {scope : Scope} {env : Env} (h : ∀ y ∈ scope.names, y.2 = .free → ∃ a, env.cells.lookup y.1 = some a) : closureFor scope env = pure (clFor env.cells scope.names []) := by
  unfold closureFor
  have go : ∀ (names : List (Str × NameKind)) (acc : List (Str × Addr)), (∀ y ∈ names, y.2 = .free → ∃ a, env.cells.lookup y.1 = some a) →
      (forIn names acc fun (x : Str × NameKind) (cs : List (Str × Addr)) => (do
        if x.2 == .free then do
          let a ← cellOf env x.1
          pure (ForInStep.yield ((x.1, a) :: cs))
        else pure (ForInStep.yield cs) : Sem (ForInStep (List (Str × Addr))))) = pure (clFor env.cells names acc) := fun names => by
    induction names with
    | nil => intro acc _; rfl
    | cons x r ih =>
      intro acc hh
      obtain ⟨y, k⟩ := x
      rw [List.forIn_cons]
      unfold clFor
      by_cases hk : (k == NameKind.free) = true
      · obtain ⟨a, ha⟩ := hh (y, k) (.head _) (eq_of_beq hk)
        have e : cellOf env y = pure a := by unfold cellOf; rw [ha]
        simp only [hk, if_true, e, pure_bind, ha]
        exact ih _ fun z hz => hh z (.tail _ hz)
      · simp only [hk, if_false, pure_bind, Bool.false_eq_true]
        exact ih _ fun z hz => hh z (.tail _ hz)
  have := go scope.names [] h
  simp only at this ⊢
  rw [this]
  rfl
end Mine
end

section
open PySem PySem.W PyProof.Rows PySem.Calls
namespace Mine
variable {ζ : OG}

theorem lookup_relabel_free {env : Env} (hk : env.scope.kind = .function) {x : Str} (hc : env.kindOf x = some .cell) {names : List (Str × NameKind)} (h : names.lookup x = some .free) :
    (names.map fun (n, k) => if (k == NameKind.free && env.scope.kind == .function && env.kindOf n == some .cell) then (n, NameKind.cell) else (n, k)).lookup x = some .cell := by
  induction names with
  | nil => exact nomatch (show Option.none = some NameKind.free from h)
  | cons p r ih =>
    have h : (match x == p.1 with | true => some p.2 | false => r.lookup x) = some NameKind.free := h
    rw [List.map_cons]
    cases hx : x == p.1 with
    | true =>
      rw [hx] at h
      have h2 : p.2 = .free := Option.some.inj h
      have h1 : x = p.1 := eq_of_beq hx
      have hq : (p.2 == NameKind.free && env.scope.kind == .function && env.kindOf p.1 == some .cell) = true := by rw [h2, hk, ← h1, hc]; rfl
      show List.lookup x ((if (p.2 == NameKind.free && env.scope.kind == .function && env.kindOf p.1 == some .cell) then (p.1, NameKind.cell) else (p.1, p.2)) :: _) = _
      rw [if_pos hq, List.lookup_cons, hx]
    | false =>
      rw [hx] at h
      show List.lookup x ((if (p.2 == NameKind.free && env.scope.kind == .function && env.kindOf p.1 == some .cell) then (p.1, NameKind.cell) else (p.1, p.2)) :: _) = _
      split <;> (rw [List.lookup_cons, hx]; exact ih h)

theorem range_iter {prog : Program} {w : World} {A : Around} {s : Shared} {E Q : Value → Shared → Prop} {m : Int} {t : Tok} (hm : -1000 ≤ m ∧ m ≤ 1000)
    (H : ∀ I h2 k, IsRangeIter h2 I (0 + ((0 : Nat) : Int) * 1) ((m.toNat : Int) - ((0 : Nat) : Int)) 1 → (∀ b o, s.heap.get? b = some o → h2.get? b = some o) → s.heap.objs.size ≤ I → I < h2.objs.size → Q (.ref I) { s with heap := h2, toks := k }) :
    wpAny (model prog w) A (call (.type "range") [.int m t]) (fun xv s1 => wpAny (model prog w) A (pyIter xv) Q E s1) E s := by
  refine call_range_1 ?_
  refine wpAny_pyIter_range (IsRange.new ..) (small_one (by decide) (by decide) (by omega) (by omega)) ?_
  have hsz : Builtin.Range.rangeSize 0 m 1 = (m.toNat : Int) := by rw [rangeSize_one]; split <;> omega
  refine H _ _ _ ?_ (fun _ _ e => Heap.get?_push_of_some _ (Heap.get?_push_of_some _ e)) (by simp [Heap.size_push]) (by simp [Heap.size_push])
  have e1 : (0 + ((0 : Nat) : Int) * 1) = 0 := by simp
  have e2 : ((m.toNat : Int) - ((0 : Nat) : Int)) = Builtin.Range.rangeSize 0 m 1 := by rw [hsz]; simp
  rw [e1, e2]
  exact Heap.get?_push_size _ rfl

theorem walksLt {prog : Program} {w : World} {A : Around} {I : Addr} {fp wr : List Addr} {n : Nat} {P : Nat → Value → Prop} {St : Nat → Heap → Prop} (W : Walks prog w A I fp wr n P St) : Walks prog w A I fp wr n (fun i v => i < n ∧ P i v) St where
  sub := W.sub
  frame := W.frame
  item := fun i s Q E hi st hQ => W.item i s Q E hi st fun v h' tk hp => hQ v h' tk ⟨hi, hp⟩
  done := W.done
  self := W.self
/-- a new object of an unknown place -/
theorem RS.growN {c : Cx} {σ : St} {fro : List (Addr × Obj)} {ρ : List Addr} {m : Str → Option Value} {h : Heap} (R : RS c σ fro ρ m h ζ) {h' : Heap} (k : ∀ b o, h.get? b = some o → h'.get? b = some o) {a : Addr} {o : Obj} (ho : h'.get? a = some o) (ha : h.get? a = none) : RS c σ ((a, o) :: fro) ρ m h' ζ := by
  obtain ⟨own, N, hn, r⟩ := R.cs.own
  have hne : ∀ p ∈ own ++ (fro ++ c.rest), p.1 ≠ a := fun p hp e => nomatch (show Option.none = some p.2 from (e ▸ ha).symm.trans (N p hp).1)
  refine ⟨⟨R.cs.fr.keeps k, own, fun p hp => ?_, ?_, r.mono (kn_mono fun _ hp => .tail _ hp) (List.prefix_refl _)⟩, R.loc.mono (kn_mono fun _ hp => .tail _ hp) (List.prefix_refl _), R.oge⟩
  · rcases List.mem_append.mp hp with hp | hp
    · exact ⟨k _ _ (N p (List.mem_append_left _ hp)).1, (N p (List.mem_append_left _ hp)).2⟩
    · rcases List.mem_cons.mp hp with rfl | hp
      · refine ⟨ho, fun e => ?_, ?_⟩
        · obtain ⟨oL, _, _, hL, _⟩ := R.cs.fr.ns
          exact nomatch (show Option.none = some oL from ((show a = c.L from e) ▸ ha).symm.trans hL)
        · cases q : c.base.get? a with
          | none => rfl
          | some x => exact nomatch ha.symm.trans (R.cs.fr.keep _ _ q)
      · exact ⟨k _ _ (N p (List.mem_append_right _ hp)).1, (N p (List.mem_append_right _ hp)).2⟩
  · rw [List.map_append, List.cons_append, List.map_cons]
    refine List.Perm.nodup_iff (List.perm_middle) |>.mpr ?_
    rw [← List.map_append]
    exact List.nodup_cons.mpr ⟨fun hm => by obtain ⟨p, hp, e⟩ := List.mem_map.mp hm; exact hne p hp e, hn⟩

section
variable {P : Pm} {K : Frag} {mg mb : Str → Option Value}
theorem locI_get {loc : List (Nat × V)} {n k : Nat} {i j : Int} (hb : Nat.beq k n = false) (h : locI loc n i k = some j) : getN k loc = some (.d (.int j)) := by
  have h : (match Nat.beq k n with
    | true => some i
    | false => match getN k loc with
      | some (.d (.int j)) => some j
      | _ => none) = some j := h
  rw [hb] at h
  cases hg : getN k loc with
  | none => rw [hg] at h; exact nomatch (show Option.none = some j from h)
  | some v =>
    rw [hg] at h
    cases v with
    | d x => cases x with
      | int z => rw [Option.some.inj (show some z = some j from h)]
      | _ => exact nomatch (show Option.none = some j from h)
    | _ => exact nomatch (show Option.none = some j from h)
/-- the names inside a comprehension -/
theorem comp_names {c : Cx} (O : c.Ok K mg mb) {prog : Program} {w : World} {A : Around} {n : Nat} {x : X} {scope : Scope} {elt : PySem.Expr} (hm : mC c.cs n x scope elt = true) {σ : St} {fro : List (Addr × Obj)} {ρ : List Addr} {m m₃ : Str → Option Value} {h : Heap} (R : RS c σ fro ρ m h ζ)
    {s₃ : Shared} {C : Addr} {i : Int} {t : Tok} (hn : s₃.heap.Ns C m₃) (hv : m₃ (nm n) = some (.int i t)) (hk : ∀ b o, h.get? b = some o → s₃.heap.get? b = some o) :
    ∀ k (y : Str) pos (s : Shared) j (Q Er : Value → Shared → Prop), (y == nm k) = true → k < 41 → (Nat.beq k n || scope.names.lookup y == some .free) = true → Keeps s₃ s → locI σ.loc n i k = some j → (∀ t, Q (.int j t) s) → wpAny (model prog w) A (eval (.Name y pos) (compEnvC scope (clFor c.cl scope.names []) C c.env)) Q Er s := by
  intro k y pos s j Q Er hy hk41 hkn ks hl H
  obtain rfl := eq_of_beq hy
  unfold mC at hm
  obtain ⟨⟨⟨⟨⟨⟨m1, m2⟩, m3⟩, m4⟩, m5⟩, m6⟩, m7⟩ := and7 hm
  obtain ⟨h', tk, rfl, hkk⟩ := ks
  refine wpAny_Name ?_ (nm_not_debug k hk41)
  have hfun : (compEnvC scope (clFor c.cl scope.names []) C c.env).scope.kind = .function := by
    show (relabel scope c.env).kind = _
    exact eq_of_beq m2
  cases hb : Nat.beq k n with
  | true =>
    obtain rfl := Nat.eq_of_beq_eq_true hb
    have hl : (match Nat.beq k k with | true => some i | false => _) = some j := hl
    rw [hb] at hl
    obtain rfl := Option.some.inj hl
    exact wpAny_loadName_local hfun (lookup_relabel_local (eq_of_beq m5)) (hn.keeps hkk) hv (H t)
  | false =>
    rw [hb, Bool.false_or] at hkn
    have hfree := eq_of_beq hkn
    obtain ⟨_, rv, hrv, hkind⟩ := R.loc _ _ (locI_get hb hl)
    have hcell : c.cs.names.lookup (nm k) = some .cell := by
      have := List.all_eq_true.mp m6 _ (mem_of_lookup hfree)
      simpa using this
    rcases hkind with ⟨h1, _⟩ | ⟨h1, ca, o, h2, h3, h4⟩
    · exact nomatch (show some NameKind.cell = some NameKind.local from hcell.symm.trans h1)
    · obtain ⟨_, rfl⟩ := hrv.dd.inv
      exact wpAny_loadName_cell (c := ca) hfun (lookup_relabel_free (env := c.env) O.kind hcell hfree) (clFor_lookup h2 _ _ (.inr ⟨rfl, hfree⟩)) ⟨o, hkk _ _ (hk _ _ (R.at h3)), h4⟩ (H _)
theorem comp_clos {c : Cx} (O : c.Ok K mg mb) {n : Nat} {x : X} {scope : Scope} {elt : PySem.Expr} (hm : mC c.cs n x scope elt = true) : closureFor scope c.env = pure (clFor c.cl scope.names []) := by
  unfold mC at hm
  obtain ⟨⟨⟨⟨⟨⟨m1, m2⟩, m3⟩, m4⟩, m5⟩, m6⟩, m7⟩ := and7 hm
  refine closureFor_cl (env := c.env) fun y hy hf => ?_
  have := List.all_eq_true.mp m6 _ hy
  rw [hf] at this
  exact O.cells _ (by simpa using this)
theorem paired_ints {f : Int → Int} {vs ys : List Value} (p : Paired (fun v y => ∃ i t u, v = Value.int i t ∧ y = Value.int (f i) u) vs ys) : ∀ g : Nat → Int, (∀ j v, vs[j]? = some v → ∃ t, v = Value.int (g j) t) → IntsAre ys ((List.range vs.length).map fun j => f (g j)) := by
  induction p with
  | nil => exact fun _ _ => .nil
  | cons h r ih =>
    intro g hg
    obtain ⟨i, t, u, rfl, rfl⟩ := h
    obtain ⟨t', e⟩ := hg 0 _ rfl
    obtain rfl : i = g 0 := (Value.int.inj e).1
    rw [List.length_cons, List.range_succ_eq_map, List.map_cons, List.map_map]
    exact .cons _ _ (ih (fun j => g (j + 1)) fun j v hj => hg (j + 1) v hj)
theorem mC_parts {cs : Scope} {n : Nat} {x : X} {scope : Scope} {elt : PySem.Expr} (hm : mC cs n x scope elt = true) : n < 41 ∧ scope.kind = .function ∧ (∀ y ∈ scope.names, y.2 ≠ .cell) ∧ (∀ y ∈ scope.names, y.2 = .local → scope.names.lookup y.1 = some .local) ∧ scope.names.lookup (nm n) = some .local ∧ mE n (fun y => scope.names.lookup y) x elt = true := by
  unfold mC at hm
  obtain ⟨⟨⟨⟨⟨⟨m1, m2⟩, m3⟩, m4⟩, m5⟩, m6⟩, m7⟩ := and7 hm
  refine ⟨Nat.blt_eq.mp m1, eq_of_beq m2, fun y hy => ?_, fun y hy hl => ?_, eq_of_beq m5, m7⟩
  · have := List.all_eq_true.mp m3 y hy
    simpa using this
  · have := List.all_eq_true.mp m4 y hy
    rw [hl] at this
    simpa using this
theorem sx_compR (O : P.c.Ok K mg mb) (k : KF K) (n : Nat) (x : X) {it : X} (hi : SX P it) : SX P (.compR n x it) := fun e me A σ fro ρ m s q Qr Er oa rs vc hs hr => by
  replace me := onComp1_iff me; obtain ⟨elt, y, q', z, scope, p, rfl, me⟩ := me
  replace me := onCall1_iff me; obtain ⟨g, z, p', rfl, me⟩ := me
  obtain ⟨⟨⟨⟨m1, m2⟩, m3⟩, m4⟩, m5⟩ := and5 me
  obtain rfl := eq_of_beq m1
  obtain ⟨p1, p2, p3, p4, p5, p6⟩ := mC_parts m5
  have hfold : ∀ v, foldedSetIterable (.Call g [z] [] p') P.c.env v = pure v := fun _ => rfl
  obtain ⟨f, vc⟩ := vc
  refine wpAny_ListComp_free (fun _ => true) (fun v y => ∃ i t u, v = Value.int i t ∧ y = Value.int (f i) u) (comp_clos O m5) p3 p2 p4 p5 ?_ hfold
  refine bname_call O k (x := "range") (by decide) m2 rs.cs.fr (v := .type "range") rfl (callWith_type1 (args_cons (hi _ m4 A σ fro ρ m s _ _ _ oa rs vc (fun f1 r1 v σ1 rv s1 h1 h2 h3 h4 h5 => ?_) hr) (notStar_one m3 _ _)) (notStar_one m3 _ _))
  refine args_nil ?_
  obtain ⟨mm, e0, hb, hf, hq⟩ := int_vc h5
  obtain ⟨_, rfl⟩ := (h4.of e0).inv
  refine range_iter hb fun I h2' kk hI hkeep hsz hlt => ⟨I, _, _, _, _, _, rfl, walksLt (Walks.range oa.hd I 0 1 mm.toNat), by show _ ≤ 2 ^ 24; omega, hI, fun b hb => by rw [List.mem_singleton] at hb; rw [hb]; exact hlt, ⟨?_, ?_⟩, ?_⟩
  · intro C i v s3 m3 E' _ hv hn hm3 hk3 _
    rw [List.forIn_nil]
    exact wpAny_pure ⟨rfl, Keeps.rfl' _⟩
  · intro C i v s3 m3 E' _ hv _ hn hm3 hk3 _
    obtain ⟨hin, t, rfl⟩ := hv
    have hk4 : ∀ b o, s1.heap.get? b = some o → s3.heap.get? b = some o := fun b o e => hk3 b o (fun hb => by rw [List.mem_singleton] at hb; exact absurd (Heap.lt_size e) (by rw [hb]; exact Nat.not_lt.mpr hsz)) (hkeep b o e)
    refine (ev_sound (comp_names O m5 h3 hn hm3 hk4) x).1 elt p6 s3 _ _ _ (Keeps.rfl' _) (hf (0 + (i : Int) * 1) (by omega) (by omega)) fun d rv s' ks hd he => ?_
    obtain ⟨_, rfl⟩ := (he ▸ hd).inv
    exact ⟨⟨_, _, _, rfl, rfl⟩, ks⟩
  · intro D h3' tk ys vs hD hl hpl hlen hP hF hk3
    obtain ⟨nn, hpl⟩ := hpl
    have hk4 : ∀ b o, s1.heap.get? b = some o → h3'.get? b = some o := fun b o e => hk3 b o (fun hb => by rw [List.mem_singleton] at hb; exact absurd (Heap.lt_size e) (by rw [hb]; exact Nat.not_lt.mpr hsz)) (hkeep b o e)
    have hD1 : s1.heap.get? D = none := by
      cases e : s1.heap.get? D with
      | none => rfl
      | some o => exact nomatch hD.symm.trans (hkeep _ _ e)
    rw [(List.filter_eq_self.mpr fun _ _ => rfl : vs.filter (fun _ => true) = vs)] at hF
    have hI2 := paired_ints hF (fun j => 0 + (j : Int) * 1) fun j v hj => (hP j v hj).2
    rw [hlen] at hI2
    have e0 : (fun j : Nat => f (0 + (j : Int) * 1)) = fun j : Nat => f (j : Int) := by funext j; rw [Int.zero_add, Int.mul_one]
    rw [e0] at hI2
    refine hs _ r1 _ σ1 _ { s1 with heap := h3', toks := tk } (fun p hp => .tail _ (h1 p hp)) h2 (h3.growN hk4 (o := listOf ys.toList.toArray nn) ((Array.toArray_toList (xs := ys)).symm ▸ hpl) hD1) (.d (.il (.inr (.head _)) hI2)) hq
theorem ints_uncons {v : Value} {vs : List Value} {xs : List Int} (h : IntsAre (v :: vs) xs) : ∃ n t r, v = .int n t ∧ xs = n :: r ∧ IntsAre vs r := by
  cases h with
  | cons n t h => exact ⟨n, t, _, rfl, rfl, h⟩
theorem paired_bools {f : Int → Bool} {Pk : Kn} {vs ys : List Value} (p : Paired (fun v y => ∃ i t, v = Value.int i t ∧ y = Value.bool (f i)) vs ys) : ∀ xs : List Int, IntsAre vs xs → DRs Pk (xs.map fun i => D.bool (f i)) ys := by
  induction p with
  | nil => exact fun xs h => by cases h; exact .nil
  | cons h r ih =>
    intro xs hI
    obtain ⟨i, t, rfl, rfl⟩ := h
    obtain ⟨n, t, r, e, rfl, hJ⟩ := ints_uncons hI
    obtain rfl := (Value.int.inj e).1
    exact .cons (.bool _) (ih _ hJ)
theorem idxInts {vs : List Value} {xs : List Int} (h : IntsAre vs xs) {i : Nat} {v : Value} (e : vs.toArray[i]? = some v) : ∃ j t, v = .int j t ∧ j ∈ xs := by
  induction h generalizing i with
  | nil => simp at e
  | cons n t r ih =>
    cases i with
    | zero => simp at e; exact ⟨n, t, e.symm, .head _⟩
    | succ i =>
      obtain ⟨j, u, h1, h2⟩ := ih (i := i) (by simpa using e)
      exact ⟨j, u, h1, .tail _ h2⟩
theorem eq_of_lookup {α : Type} {vs ws : List α} (hl : vs.length = ws.length) (h : ∀ (j : Nat) (v : α), vs[j]? = some v → ws[j]? = some v) : vs = ws := by
  refine List.ext_getElem hl fun j h1 h2 => ?_
  have := h j vs[j] (by simp [h1])
  simpa [h2] using this.symm
theorem sx_compL (O : P.c.Ok K mg mb) (n : Nat) (x : X) {it : X} (hi : SX P it) : SX P (.compL n x it) := fun e me A σ fro ρ m s q Qr Er oa rs vc hs hr => by
  replace me := onComp1_iff me; obtain ⟨elt, y, q', z, scope, p, rfl, me⟩ := me
  obtain ⟨⟨⟨m1, m4⟩, m5⟩, m6⟩ := and4 me
  obtain rfl := eq_of_beq m1
  obtain ⟨p1, p2, p3, p4, p5, p6⟩ := mC_parts m5
  have hfold : ∀ v, foldedSetIterable z P.c.env v = pure v := fun _ => by revert m6; cases z <;> first | exact fun _ => rfl | exact fun h => absurd h Bool.false_ne_true
  obtain ⟨f, vc⟩ := vc
  refine wpAny_ListComp_free (fun _ => true) (fun v y => ∃ i t, v = Value.int i t ∧ y = Value.bool (f i)) (comp_clos O m5) p3 p2 p4 p5 ?_ hfold
  refine hi _ m4 A σ fro ρ m s _ _ _ oa rs vc (fun f1 r1 v σ1 rv s1 h1 h2 h3 h4 h5 => ?_) hr
  obtain ⟨xs, e0, hz, hf, hq⟩ := il_vc h5
  obtain ⟨ax, vs0, n0, rfl, hx, hI⟩ := (h4.of e0).inv
  have hl := isList_of (h3.at hx)
  have hlt := Heap.lt_size (h3.at hx)
  have hlen0 := IntsAre.len hI
  refine wpAny_pyIter_list hl ⟨s1.heap.objs.size, _, _, _, _, _, rfl, Walks.list oa.hd _ ax (Nat.ne_of_lt hlt) vs0.toArray, by rw [List.size_toArray, hlen0]; show _ ≤ 2 ^ 24; omega, ⟨⟨_, Heap.get?_push_size _ rfl, rfl, rfl⟩, hl.push _⟩, fun b hb => ?_, ⟨?_, ?_⟩, ?_⟩
  · simp only [Heap.size_push]
    rcases List.mem_cons.mp hb with rfl | hb
    · exact Nat.lt_succ_self _
    · rw [List.mem_singleton] at hb; rw [hb]; exact Nat.lt_succ_of_lt hlt
  · intro C i v s3 m3 E' _ hv hn hm3 hk3 _
    rw [List.forIn_nil]
    exact wpAny_pure ⟨rfl, Keeps.rfl' _⟩
  · intro C i v s3 m3 E' _ hv _ hn hm3 hk3 _
    obtain ⟨j, t, rfl, hj⟩ := idxInts hI hv
    have hk4 : ∀ b o, s1.heap.get? b = some o → s3.heap.get? b = some o := fun b o e => hk3 b o (fun hb => by rw [List.mem_singleton] at hb; exact absurd (Heap.lt_size e) (by rw [hb]; exact Nat.lt_irrefl _)) (Heap.get?_push_of_some _ e)
    refine (ev_sound (comp_names O m5 h3 hn hm3 hk4) x).1 elt p6 s3 _ _ _ (Keeps.rfl' _) (hf j hj) fun d rv s' ks hd he => ?_
    obtain rfl := (he ▸ hd).inv
    exact ⟨⟨_, _, rfl, rfl⟩, ks⟩
  · intro D h3' tk ys vs hD hl hpl hlen hP hF hk3
    obtain ⟨nn, hpl⟩ := hpl
    have hk4 : ∀ b o, s1.heap.get? b = some o → h3'.get? b = some o := fun b o e => hk3 b o (fun hb => by rw [List.mem_singleton] at hb; exact absurd (Heap.lt_size e) (by rw [hb]; exact Nat.lt_irrefl _)) (Heap.get?_push_of_some _ e)
    have hD1 : s1.heap.get? D = none := by
      cases e : s1.heap.get? D with
      | none => rfl
      | some o => exact nomatch hD.symm.trans (Heap.get?_push_of_some { cls := .type "list_iterator", data := .fields #[.ref ax, .int 0 0] } e)
    rw [(List.filter_eq_self.mpr fun _ _ => rfl : vs.filter (fun _ => true) = vs)] at hF
    have evs : vs = vs0 := eq_of_lookup (by rw [hlen]; simp) fun j v hj => by have := hP j v hj; simpa using this
    rw [evs] at hF
    refine hs _ r1 _ σ1 _ { s1 with heap := h3', toks := tk } (fun p hp => .tail _ (h1 p hp)) h2 (h3.growN hk4 (o := listOf ys.toList.toArray nn) ((Array.toArray_toList (xs := ys)).symm ▸ hpl) hD1) (.d (.lst (.inr (.head _)) (paired_bools hF _ hI))) hq
end
end Mine
end

section
open PySem PySem.W PyProof.Rows PySem.Calls
namespace Mine

section
variable {P : Pm} {K : Frag} {mg mb : Str → Option Value}
theorem st_no {x : X} (h : ∀ cs e, mT cs x e = false) : ST P x := fun e me => by rw [h] at me; cases me
theorem sx_no {x : X} (h : ∀ cs e, mX cs x e = false) : SX P x := fun e me => by rw [h] at me; cases me
theorem and_eq {a b : Bool} (h : (a && b) = true) : a = true ∧ b = true := Bool.and_eq_true_iff.mp h
mutual
theorem xOk (O : P.c.Ok K mg mb) (k : KF K) (hc : HCall P) : ∀ x : X, SX P x ∧ ST P x
  | .loc n => ⟨sx_loc O n, st_val (fun cs e h => and_eq h) (sx_loc O n)⟩
  | .glob g => ⟨sx_glob O k g, st_no fun _ _ => rfl⟩
  | .cnone => ⟨sx_cnone, st_no fun _ _ => rfl⟩
  | .cbool b => ⟨sx_cbool b, st_val (fun cs e h => and_eq h) (sx_cbool b)⟩
  | .cint i => ⟨sx_cint i, st_no fun _ _ => rfl⟩
  | .cstr x => ⟨sx_cstr x, st_no fun _ _ => rfl⟩
  | .neg i => ⟨sx_neg i, st_no fun _ _ => rfl⟩
  | .attr o f => ⟨sx_attr O k (xOk O k hc o).1 f, st_no fun _ _ => rfl⟩
  | .bin op a b => ⟨sx_bin op (xOk O k hc a).1 (xOk O k hc b).1, st_no fun _ _ => rfl⟩
  | .cmp op a b => ⟨sx_cmp op (xOk O k hc a).1 (xOk O k hc b).1, st_cmp op (xOk O k hc a).1 (xOk O k hc b).1⟩
  | .cmp2 o1 o2 a b c => ⟨sx_no fun _ _ => rfl, st_cmp2 o1 o2 (xOk O k hc a).1 (xOk O k hc b).1 (xOk O k hc c).1⟩
  | .isNone a => ⟨sx_no fun _ _ => rfl, st_isNone (xOk O k hc a).1⟩
  | .inn a b => ⟨sx_no fun _ _ => rfl, st_inn (xOk O k hc a).1 (xOk O k hc b).1⟩
  | .and a b => ⟨sx_no fun _ _ => rfl, st_and (xOk O k hc a).2 (xOk O k hc b).2⟩
  | .or a b => ⟨sx_no fun _ _ => rfl, st_or (xOk O k hc a).2 (xOk O k hc b).2⟩
  | .or3 a b c => ⟨sx_no fun _ _ => rfl, st_or3 (xOk O k hc a).2 (xOk O k hc b).2 (xOk O k hc c).2⟩
  | .not a => ⟨sx_no fun _ _ => rfl, st_not (xOk O k hc a).2⟩
  | .ife c a b => ⟨sx_ife (xOk O k hc c).2 (xOk O k hc a).1 (xOk O k hc b).1, st_no fun _ _ => rfl⟩
  | .tup xs => ⟨sx_tup (xsOk O k hc xs), st_no fun _ _ => rfl⟩
  | .il xs => ⟨sx_il (xsOk O k hc xs), st_no fun _ _ => rfl⟩
  | .dl xs => ⟨sx_dl (xsOk O k hc xs), st_no fun _ _ => rfl⟩
  | .mil xs => ⟨sx_mil (xsOk O k hc xs), st_no fun _ _ => rfl⟩
  | .mdl => ⟨sx_mdl, st_no fun _ _ => rfl⟩
  | .idx a i => ⟨sx_idx (xOk O k hc a).1 (xOk O k hc i).1, st_no fun _ _ => rfl⟩
  | .slc a lo hi => ⟨sx_slc (xOk O k hc a).1 (xOk O k hc lo).1 (xOk O k hc hi).1, st_no fun _ _ => rfl⟩
  | .slcTo a hi => ⟨sx_slcTo (xOk O k hc a).1 (xOk O k hc hi).1, st_no fun _ _ => rfl⟩
  | .slcFrom a lo => ⟨sx_slcFrom (xOk O k hc a).1 (xOk O k hc lo).1, st_no fun _ _ => rfl⟩
  | .call f xs => ⟨sx_call O k hc f (xsOk O k hc xs), st_val (fun cs e h => and_eq h) (sx_call O k hc f (xsOk O k hc xs))⟩
  | .meth f o xs => ⟨sx_meth O k hc f (xOk O k hc o).1 (xsOk O k hc xs), st_val (fun cs e h => and_eq h) (sx_meth O k hc f (xOk O k hc o).1 (xsOk O k hc xs))⟩
  | .len a => ⟨sx_len O k (xOk O k hc a).1, st_no fun _ _ => rfl⟩
  | .max a b => ⟨sx_max O k (xOk O k hc a).1 (xOk O k hc b).1, st_no fun _ _ => rfl⟩
  | .min a b => ⟨sx_min O k (xOk O k hc a).1 (xOk O k hc b).1, st_no fun _ _ => rfl⟩
  | .toB a => ⟨sx_toB O k (xOk O k hc a).1, st_no fun _ _ => rfl⟩
  | .chr a => ⟨sx_chr O k (xOk O k hc a).1, st_no fun _ _ => rfl⟩
  | .any a => ⟨sx_any O k (xOk O k hc a).1, st_val (fun cs e h => and_eq h) (sx_any O k (xOk O k hc a).1)⟩
  | .join a => ⟨sx_join (xOk O k hc a).1, st_no fun _ _ => rfl⟩
  | .tindex a b => ⟨sx_tindex (xOk O k hc a).1 (xOk O k hc b).1, st_no fun _ _ => rfl⟩
  | .pop0 a => ⟨sx_pop0 (xOk O k hc a).1, st_no fun _ _ => rfl⟩
  | .frz a => ⟨sx_frz (xOk O k hc a).1, st_no fun _ _ => rfl⟩
  | .compR n e it => ⟨sx_compR O k n e (xOk O k hc it).1, st_no fun _ _ => rfl⟩
  | .compL n e it => ⟨sx_compL O n e (xOk O k hc it).1, st_no fun _ _ => rfl⟩
theorem xsOk (O : P.c.Ok K mg mb) (k : KF K) (hc : HCall P) : ∀ xs : Xs, SL P xs
  | .nil => sl_nil
  | .cons x xs => sl_cons (xOk O k hc x).1 (xsOk O k hc xs)
end
end
end Mine
end

section
open PySem PySem.W PyProof.Rows PySem.Calls
namespace Mine

/-- what is kept while an exception passes -/
noncomputable def UpT (h h' : Heap) : Prop := ∀ b o, h.get? b = some o → (∀ vs, o.data ≠ .fields vs) → ∃ sl, h'.get? b = some { o with slots := sl }
theorem UpT.rfl' (h : Heap) : UpT h h := fun _ o e _ => ⟨o.slots, e⟩
theorem UpT.tr {h₁ h₂ h₃ : Heap} (x : UpT h₁ h₂) (y : UpT h₂ h₃) : UpT h₁ h₃ := fun b o e hn => let ⟨_, e₁⟩ := x b o e hn; let ⟨sl, e₂⟩ := y b _ e₁ hn; ⟨sl, e₂⟩
theorem UpT.of (h h' : Heap) (k : ∀ b o, h.get? b = some o → (∀ vs, o.data ≠ .fields vs) → h'.get? b = some o) : UpT h h' := fun b o e hn => ⟨o.slots, k b o e hn⟩

/-- an exception with what stands below it -/
structure XC (base : Heap) (l : List Env) (L0 : Addr) (m0 : Str → Option Value) (why : Str) (ea : Addr) (vs : Array Value) (h : Heap) : Prop where
  st : base.StaysIn h
  fresh : base.get? ea = none
  ff : h.FunFrames base l
  low : h.Ns L0 m0
  ob : ∃ oe d mA t, h.get? ea = some oe ∧ oe.cls = .ref 58 ∧ oe.dict = some d ∧ oe.data = .fields vs ∧ h.Ns d mA ∧ mA "why" = some (.str why t)
theorem XP_iff {base : Heap} {l : List Env} {L0 : Addr} {m0 : Str → Option Value} {why : Str} {e : Value} {h : Heap} : XP base l L0 m0 why e h ↔ ∃ ea vs, e = .ref ea ∧ XC base l L0 m0 why ea vs h ∧ TB base h l ea vs := by
  constructor
  · rintro ⟨ea, oe, vs, d, mA, t, h1, h2, h3, h4, h5, h6, h7, h8, h9, h10, h11, h14⟩
    exact ⟨ea, vs, h1, ⟨h2, h3, h4, h5, oe, d, mA, t, h6, h7, h8, h9, h10, h11⟩, h14⟩
  · rintro ⟨ea, vs, h1, ⟨h2, h3, h4, h5, oe, d, mA, t, h6, h7, h8, h9, h10, h11⟩, h14⟩
    exact ⟨ea, oe, vs, d, mA, t, h1, h2, h3, h4, h5, h6, h7, h8, h9, h10, h11, h14⟩
theorem XC.step {base : Heap} {l l' : List Env} {L0 : Addr} {m0 : Str → Option Value} {why : Str} {ea : Addr} {vs vs' : Array Value} {h h' : Heap} (X : XC base l L0 m0 why ea vs h) (hl : h.FunFrames base l') (u : UpT h h') (k : base.StaysIn h')
    (he : ∀ oe, h.get? ea = some oe → oe.data = .fields vs → ∃ oe', h'.get? ea = some oe' ∧ oe'.cls = oe.cls ∧ oe'.dict = oe.dict ∧ oe'.data = .fields vs') : XC base l' L0 m0 why ea vs' h' := by
  obtain ⟨oe, d, mA, t, h6, h7, h8, h9, h10, h11⟩ := X.ob
  obtain ⟨oe', g1, g2, g3, g4⟩ := he oe h6 h9
  exact ⟨k, X.fresh, hl.of_keeps fun b o hb hn => let ⟨sl, e⟩ := u b o hb hn; ⟨_, e, rfl⟩, Heap.UpToSlots.ns u X.low, oe', d, mA, t, g1, g2.trans h7, g3.trans h8, g4, Heap.UpToSlots.ns u h10, h11⟩

section
variable {M : Model} {A : Around} {E : Value → Shared → Prop} {s : Shared}
theorem dict_mapFields (o : Obj) (f) : (o.mapFields f).dict = o.dict := by
  obtain ⟨c, d, dt, sl⟩ := o; cases dt <;> rfl
theorem note_entry {base : Heap} {env : Env} {outer : List Env} {L e : Addr} {oe : Obj} {vs : Array Value} {head : Value} {hadNext : Bool} {Q : Unit → Shared → Prop}
    (hfr : A.frames = some (env :: outer)) (hl : s.heap.FunFrames base (env :: outer)) (hf : env.frame = some L)
    (he : s.heap.get? e = some oe) (hkb : base.StaysIn s.heap) (hen : base.get? e = none) (hd : oe.data = .fields vs) (hsz : 1 < vs.size)
    (h : ∀ h' T oT ts, UpT s.heap h' → base.StaysIn h' → (∃ oe', h'.get? e = some oe' ∧ oe'.cls = oe.cls ∧ oe'.dict = oe.dict ∧ oe'.data = .fields (vs.setIfInBounds 1 (.ref T))) → base.get? T = none → T ≠ e → h'.get? T = some oT → oT.data = .fields ts → ts[3]? = some (rawInt L) →
      Q () { s with heap := h' }) :
    wpAny M A (do let a ← frameOf env; let pl ← entryPlaceOf L hadNext; let b ← EntryCells.newEntry head a .none (rawInt L) .none pl; setField (.ref e) 1 b) Q E s := by
  have hene : e ∉ (env :: outer).filterMap (·.frame) := fun hm => by
    obtain ⟨_, o, ho, hnf⟩ := hl.mem hm
    rw [he] at ho; injection ho with ho; subst ho; exact hnf vs hd
  refine wpAny_bind (wpAny_frameOf_fun hfr hl hf fun h₁ hs₁ => ?_)
  refine wpAny_bind (wpAny_entryPlaceOf fun pl hpl => ?_)
  unfold EntryCells.newEntry newFields
  refine wpAny_bind (wpAny_newObj_type ?_ (hpl.sizeOk5 _ _ _ _ _))
  have he₁ : h₁.get? e = some oe := (hs₁.2.1 e hene).trans he
  have kb₁ : base.StaysIn h₁ := fun b o hbo => (hs₁.2.1 b fun hm => by rw [(hl.mem hm).1] at hbo; cases hbo).trans (hkb b o hbo)
  have he₂ := Heap.get?_push_of_some (h := h₁) { cls := .type "traceback", dict := none, data := .fields ([head, .ref L, .none, rawInt L, .none] ++ (if pl.isEmpty then List.replicate 6 Value.none else pl)).toArray } he₁
  have hTe : h₁.objs.size ≠ e := Nat.ne_of_gt (Heap.lt_size he₁)
  have hd₃ := Obj.data_mapFields hd (·.setIfInBounds 1 (Value.ref h₁.objs.size))
  have he₃ := Heap.get?_update_self (Obj.mapFields (·.setIfInBounds 1 (Value.ref h₁.objs.size))) he₂ (Obj.isFreed_of_fields hd₃)
  have hT₃ := (Heap.get?_update_other (h₁.push { cls := .type "traceback", dict := none, data := .fields ([head, .ref L, .none, rawInt L, .none] ++ (if pl.isEmpty then List.replicate 6 Value.none else pl)).toArray })
    (Obj.mapFields (·.setIfInBounds 1 (Value.ref h₁.objs.size))) (Ne.symm hTe)).trans (Heap.get?_push_size h₁ rfl)
  have keep : ∀ b o, b ≠ e → h₁.get? b = some o →
      ((h₁.push { cls := .type "traceback", dict := none, data := .fields ([head, .ref L, .none, rawInt L, .none] ++ (if pl.isEmpty then List.replicate 6 Value.none else pl)).toArray }).update e (Obj.mapFields (·.setIfInBounds 1 (Value.ref h₁.objs.size)))).get? b = some o :=
    fun b o hbe hb => by
      rw [Heap.get?_update_other _ _ (Ne.symm hbe)]
      exact Heap.get?_push_of_some _ hb
  have noRecord : ∀ b o, s.heap.get? b = some o → (∀ vs, o.data ≠ .fields vs) → b ≠ e := fun b o hb hnf q => by
    rw [q, he] at hb; injection hb with hb; subst hb; exact hnf vs hd
  refine wpAny_setField he₂ hd hsz (h _ h₁.objs.size _ _ (fun b o hb hnf => ?_) (fun b o hbo => keep b o (fun q => by rw [q, hen] at hbo; cases hbo) (kb₁ b o hbo))
    ⟨_, he₃, Obj.cls_mapFields _ _, dict_mapFields _ _, hd₃⟩ kb₁.fresh hTe hT₃ rfl ?_)
  · obtain ⟨sl, hs⟩ := hs₁.2.2 b o hb
    exact ⟨sl, keep b _ (noRecord b o hb hnf) hs⟩
  · rcases hpl with rfl | ⟨_, _, _, _, _, _, _, rfl⟩ <;> simp

/-- what an exception is once its frame is noted -/
noncomputable def XN (base : Heap) (l : List Env) (L0 : Addr) (m0 : Str → Option Value) (why : Str) (e : Value) (L : Addr) (h : Heap) : Prop :=
  ∃ ea vs T oT ts, e = .ref ea ∧ XC base l L0 m0 why ea vs h ∧ vs[1]? = some (.ref T) ∧ base.get? T = none ∧ T ≠ ea ∧ h.get? T = some oT ∧ oT.data = .fields ts ∧ ts[3]? = some (rawInt L)
theorem XN.xp {base : Heap} {env : Env} {outer : List Env} {L0 : Addr} {m0 : Str → Option Value} {why : Str} {e : Value} {L : Addr} {h : Heap} (x : XN base (env :: outer) L0 m0 why e L h) (hf : env.frame = some L) : XP base (env :: outer) L0 m0 why e h := by
  obtain ⟨ea, vs, T, oT, ts, h1, h2, h3, h4, h5, h6, h7, h8⟩ := x
  exact XP_iff.mpr ⟨ea, vs, h1, h2, .inr ⟨T, oT, ts, h3, h4, h5, h6, h7, .inr ⟨env, outer, L, rfl, hf, h8⟩⟩⟩

theorem note_sound {base : Heap} {env : Env} {outer : List Env} {L0 : Addr} {m0 : Str → Option Value} {why : Str} {e : Value} {L : Addr} {Q : Unit → Shared → Prop} (hfr : A.frames = some (env :: outer)) (hf : env.frame = some L) (x : XP base (env :: outer) L0 m0 why e s.heap)
    (h : ∀ h', XN base (env :: outer) L0 m0 why e L h' → UpT s.heap h' → Q () { s with heap := h' }) : wpAny M A (noteFrame e env) Q E s := by
  obtain ⟨ea, vs, rfl, X, tb⟩ := XP_iff.mp x
  obtain ⟨oe, d, mA, t, h6, h7, h8, h9, h10, h11⟩ := id X.ob
  have entry : ∀ (h₀ : Heap) head hadNext, XC base (env :: outer) L0 m0 why ea vs h₀ → UpT s.heap h₀ → 1 < vs.size → wpAny M A (do let a ← frameOf env; let pl ← entryPlaceOf L hadNext; let b ← EntryCells.newEntry head a .none (rawInt L) .none pl; setField (.ref ea) 1 b) Q E { s with heap := h₀ } := fun h₀ head hadNext X₀ u hsz => by
    obtain ⟨oe, d, mA, t, h6, h7, h8, h9, h10, h11⟩ := id X₀.ob
    refine note_entry (s := { s with heap := h₀ }) hfr X₀.ff hf h6 X₀.st X₀.fresh h9 hsz fun h' T oT ts u' st' he' hT hTe hgT hdT h3 => ?_
    refine h h' ⟨ea, vs.setIfInBounds 1 (.ref T), T, oT, ts, rfl, X₀.step X₀.ff u' st' (fun oe2 g1 _ => ?_), by simp [hsz], hT, hTe, hgT, hdT, h3⟩ (u.tr u')
    rw [h6] at g1; cases g1; exact he'
  unfold noteFrame
  simp only [hf]
  rcases tb with tb | ⟨T, oT, ts, h1, hnT, hTe, hT, hdT, tb⟩
  · refine wpAny_bind (wpAny_field h6 h9 tb ?_)
    rw [if_neg (by decide)]
    exact entry s.heap _ _ X (UpT.rfl' _) (Array.getElem?_eq_some_iff.mp tb).1
  · refine wpAny_bind (wpAny_field h6 h9 h1 ?_)
    rw [if_pos (show (Value.ref T != Value.none) = true from by simp)]
    rcases tb with h3 | ⟨env', r, L', hl, hf', h3⟩
    · refine wpAny_bind (wpAny_field hT hdT h3 ?_)
      rw [if_neg (show ¬ ((Value.none == rawInt L) = true) from by simp [rawInt])]
      refine wpAny_bind (wpAny_setField hT hdT (Array.getElem?_eq_some_iff.mp h3).1 ?_)
      have other : ∀ b, b ≠ T → (s.heap.update T (Obj.mapFields (·.setIfInBounds 3 Value.none))).get? b = s.heap.get? b := fun b hb => Heap.get?_update_other _ _ (Ne.symm hb)
      have noRecord : ∀ b o, s.heap.get? b = some o → (∀ vs, o.data ≠ .fields vs) → b ≠ T := fun b o hb hnf q => by
        rw [q, hT] at hb; injection hb with hb; subst hb; exact hnf ts hdT
      have u : UpT s.heap (s.heap.update T (Obj.mapFields (·.setIfInBounds 3 Value.none))) := UpT.of _ _ fun b o hb hn => (other b (noRecord b o hb hn)).trans hb
      refine entry _ _ _ (X.step X.ff u (fun b o hbo => (other b fun q => by rw [q, hnT] at hbo; cases hbo).trans (X.st b o hbo)) fun oe2 g1 g2 => ⟨oe2, (other ea (Ne.symm hTe)).trans g1, rfl, rfl, g2⟩) u (Array.getElem?_eq_some_iff.mp h1).1
    · cases hl
      rw [hf] at hf'
      cases hf'
      refine wpAny_bind (wpAny_field hT hdT h3 ?_)
      rw [if_pos (show (rawInt L == rawInt L) = true from by simp)]
      exact wpAny_pure (h s.heap ⟨ea, vs, T, oT, ts, rfl, X, h1, hnT, hTe, hT, hdT, h3⟩ (UpT.rfl' _))

theorem flight_sound {base : Heap} {l l' : List Env} {L0 : Addr} {m0 : Str → Option Value} {why : Str} {e : Value} {L : Addr} {Q : Unit → Shared → Prop} (fr : Option Addr) (x : XN base l L0 m0 why e L s.heap) (hl : s.heap.FunFrames base l')
    (h : ∀ h', UpT s.heap h' → (∃ ea vs T oT ts, e = .ref ea ∧ XC base l' L0 m0 why ea vs h' ∧ vs[1]? = some (.ref T) ∧ base.get? T = none ∧ T ≠ ea ∧ h'.get? T = some oT ∧ oT.data = .fields ts ∧ ts[3]? = some (fr.elim .none fun f => rawInt f)) → Q () { s with heap := h' }) :
    wpAny M A (setFlight e fr) Q E s := by
  obtain ⟨ea, vs, T, oT, ts, rfl, X, h1, hnT, hTe, hT, hdT, h3⟩ := x
  obtain ⟨oe, d, mA, t, h6, h7, h8, h9, h10, h11⟩ := id X.ob
  have hsz3 : 3 < ts.size := (Array.getElem?_eq_some_iff.mp h3).1
  have other : ∀ b, b ≠ T → (s.heap.update T (Obj.mapFields (·.setIfInBounds 3 (fr.elim Value.none fun f => rawInt f)))).get? b = s.heap.get? b := fun b hb => Heap.get?_update_other _ _ (Ne.symm hb)
  have noRecord : ∀ b o, s.heap.get? b = some o → (∀ vs, o.data ≠ .fields vs) → b ≠ T := fun b o hb hnf q => by
    rw [q, hT] at hb; injection hb with hb; subst hb; exact hnf ts hdT
  have u : UpT s.heap (s.heap.update T (Obj.mapFields (·.setIfInBounds 3 (fr.elim Value.none fun f => rawInt f)))) := UpT.of _ _ fun b o hb hn => (other b (noRecord b o hb hn)).trans hb
  unfold setFlight
  refine wpAny_bind (wpAny_field h6 h9 h1 ?_)
  rw [if_pos (show (Value.ref T != Value.none) = true from by simp)]
  refine wpAny_setField hT hdT hsz3 (h _ u ⟨ea, vs, T, _, _, rfl, X.step hl u (fun b o hbo => (other b fun q => by rw [q, hnT] at hbo; cases hbo).trans (X.st b o hbo)) fun oe2 g1 g2 => ⟨oe2, (other ea (Ne.symm hTe)).trans g1, rfl, rfl, g2⟩,
    h1, hnT, hTe, Heap.get?_update_self _ hT (Obj.isFreed_of_fields (Obj.data_mapFields hdT _)), Obj.data_mapFields hdT _, by simp [hsz3]⟩)

/-- out of a frame -/
theorem leave_sound {base : Heap} {env : Env} {outer : List Env} {L0 : Addr} {m0 : Str → Option Value} {why : Str} {e : Value} {L : Addr} {Q : Unit → Shared → Prop} (hfr : A.frames = some (env :: outer)) (hf : env.frame = some L) (x : XP base (env :: outer) L0 m0 why e s.heap)
    (h : ∀ h', XP base outer L0 m0 why e h' → Q () { s with heap := h' }) : wpAny M A (leaving env e) Q E s := by
  unfold leaving
  refine wpAny_bind (note_sound hfr hf x fun h₁ x₁ u₁ => ?_)
  obtain ⟨ea, vs, _, _, _, rfl, X, _⟩ := id x₁
  refine flight_sound (s := { s with heap := h₁ }) none x₁ X.ff.2.2 fun h₂ u₂ ⟨ea, vs, T, oT, ts, h1, h2, h3, h4, h5, h6, h7, h8⟩ => ?_
  exact h h₂ (XP_iff.mpr ⟨ea, vs, h1, h2, .inr ⟨T, oT, ts, h3, h4, h5, h6, h7, .inl h8⟩⟩)
/-- through a loop -/
theorem loop_sound {base : Heap} {env : Env} {outer : List Env} {L0 : Addr} {m0 : Str → Option Value} {why : Str} {e : Value} {L : Addr} {Er : Value → Shared → Prop} (hfr : A.frames = some (env :: outer)) (hf : env.frame = some L) (x : XP base (env :: outer) L0 m0 why e s.heap)
    (h : ∀ h', XP base (env :: outer) L0 m0 why e h' → Er e { s with heap := h' }) : notedBy M A env (fun e s' => cameBackBy M A env Er e s') e s := by
  unfold notedBy
  refine note_sound hfr hf x fun h₁ x₁ u₁ => ?_
  unfold cameBackBy
  obtain ⟨ea, vs, T, oT, ts, rfl, X, h1, hnT, hTe, hT, hdT, h3⟩ := id x₁
  obtain ⟨oe, d, mA, t, h6, h7, h8, h9, h10, h11⟩ := id X.ob
  refine wpAny_bind (wpAny_field (s := { s with heap := h₁ }) h6 h9 h1 ?_)
  rw [if_neg (show ¬ ((Value.ref T == Value.none) = true) from by simp)]
  refine flight_sound (s := { s with heap := h₁ }) env.frame x₁ X.ff fun h₂ u₂ ⟨ea', vs', T', oT', ts', g1, g2, g3, g4, g5, g6, g7, g8⟩ => ?_
  rw [hf] at g8
  exact h h₂ (XN.xp ⟨ea', vs', T', oT', ts', g1, g2, g3, g4, g5, g6, g7, g8⟩ hf)
end
theorem Rai.loop {c : Cx} {XQ : Str → Prop} {Er : Value → Shared → Prop} {prog : Program} {w : World} {A : Around} (hr : Rai c XQ Er) (hfr : A.frames = some (c.env :: c.outer)) : Rai c XQ (notedBy (model prog w) A c.env fun e s' => cameBackBy (model prog w) A c.env Er e s') :=
  fun why e s' hw x hg => loop_sound hfr rfl x fun h' x' => hr why e { s' with heap := h' } hw x' hg
end Mine
end

section
open PySem PySem.W PyProof.Rows PySem.Calls
namespace Mine
variable {ζ : OG}

mutual
theorem VR.cutR {P : Kn} {ρ : List Addr} {k : Nat} : ∀ {v : V} {rv : Value}, (refsV v).all (Nat.blt · k) = true → VR P ρ v rv → VR P (ρ.take k) v rv
  | _, _, _, .d h => .d h
  | _, _, hb, .ref h => .ref (by
      unfold refsV at hb
      rw [List.all_cons, Bool.and_eq_true] at hb
      rw [List.getElem?_take, if_pos (Nat.blt_eq.mp hb.1)]; exact h)
  | _, _, hb, .tup h r => .tup h (VRs.cutR (by unfold refsV at hb; exact hb) r)
theorem VRs.cutR {P : Kn} {ρ : List Addr} {k : Nat} : ∀ {vs : List V} {rvs : List Value}, (refsV.refsVs vs).all (Nat.blt · k) = true → VRs P ρ vs rvs → VRs P (ρ.take k) vs rvs
  | _, _, _, .nil => .nil
  | _, _, hb, .cons h r => by
    unfold refsV.refsVs at hb
    rw [List.all_append, Bool.and_eq_true] at hb
    exact .cons (VR.cutR hb.1 h) (VRs.cutR hb.2 r)
end
theorem FldR.cutR {P : Kn} {ρ : List Addr} {k : Nat} : ∀ {fs : List (Nat × V)} {es : List DictEntry}, (fs.flatMap fun p => refsV p.2).all (Nat.blt · k) = true → FldR P ρ fs es → FldR P (ρ.take k) fs es
  | _, _, _, .nil => .nil
  | _, _, hb, .cons f e h r => by
    rw [List.flatMap_cons, List.all_append, Bool.and_eq_true] at hb
    exact .cons f e (h.cutR hb.1) (FldR.cutR hb.2 r)
theorem PieceR.cutR {P : Kn} {ρ : List Addr} {k : Nat} {a : Addr} {o : Ob} {pc : List (Addr × Obj)} (hb : (refsO o).all (Nat.blt · k) = true) (h : PieceR P ρ a o pc) : PieceR P (ρ.take k) a o pc := by
  cases o with
  | dead => exact h
  | il xs => exact h
  | lst ds => exact h
  | inst c fs => obtain ⟨d, es, n, e, r⟩ := h; exact ⟨d, es, n, e, r.cutR hb⟩
theorem ObsR.cutR {P : Kn} {ρ : List Addr} {k : Nat} : ∀ {as : List Addr} {os : List Ob} {own : List (Addr × Obj)}, (os.all fun o => (refsO o).all (Nat.blt · k)) = true → ObsR P ρ as os own → ObsR P (ρ.take k) as os own
  | _, _, _, _, .nil => .nil
  | _, _, _, hb, .cons h r => by
    rw [List.all_cons, Bool.and_eq_true] at hb
    exact .cons (h.cutR hb.1) (ObsR.cutR hb.2 r)
theorem CS.take {base h : Heap} {L : Addr} {m : Str → Option Value} {fro rest : List (Addr × Obj)} {ρ : List Addr} {obs : List Ob} (C : CS base L m fro rest ρ obs h) {k : Nat} (hb : ((obs.take k).all fun o => (refsO o).all (Nat.blt · k)) = true) : CS base L m fro rest (ρ.take k) (obs.take k) h := by
  obtain ⟨own, N, hn, r⟩ := C.own
  obtain ⟨o1, o2, rfl, r1, r2⟩ := r.split k
  have sub : (o1 ++ (fro ++ rest)).Sublist (o1 ++ o2 ++ (fro ++ rest)) := by
    rw [List.append_assoc]
    exact List.Sublist.append_left (List.sublist_append_right _ _) _
  exact ⟨C.fr, o1, fun p hp => N p (sub.subset hp), List.Sublist.nodup (sub.map _) hn, r1.cutR hb⟩
theorem getN_keepL {n : Nat} {v : V} : ∀ {ns : List Nat} {loc : List (Nat × V)}, getN n (keepL ns loc) = some v → getN n loc = some v
  | [], _, e => by cases e
  | x :: ns, loc, e => by
    unfold keepL at e
    rw [List.filterMap_cons] at e
    cases h : getN x loc with
    | none => rw [h] at e; exact getN_keepL (ns := ns) e
    | some w =>
      rw [h] at e
      dsimp only [Option.map] at e
      unfold getN at e
      dsimp only at e
      split at e
      · rename_i hb; rw [Nat.eq_of_beq_eq_true hb, h]; exact e
      · exact getN_keepL (ns := ns) e
theorem mem_of_getN {n : Nat} {v : V} : ∀ {loc : List (Nat × V)}, getN n loc = some v → (n, v) ∈ loc
  | [], e => by cases e
  | p :: r, e => by
    unfold getN at e
    split at e
    · rename_i hb; cases e; rw [Nat.eq_of_beq_eq_true hb]; exact .head _
    · exact .tail _ (mem_of_getN e)
section
variable {c : Cx} {σ : St} {fro : List (Addr × Obj)} {ρ : List Addr} {m : Str → Option Value} {h : Heap}
theorem RS.keep (R : RS c σ fro ρ m h ζ) {n0 k : Nat} {ns : List Nat} (hb : keepOk n0 ns k σ = true) : RS c (σ.keep ns k) fro (ρ.take k) m h ζ ∧ n0 ≤ k ∧ k ≤ ρ.length := by
  unfold keepOk belowOk at hb
  obtain ⟨⟨⟨h1, h2⟩, h3⟩, h4⟩ := and4 hb
  have l1 := Nat.le_of_ble_eq_true h1
  have l2 := Nat.le_of_ble_eq_true h2
  refine ⟨⟨R.cs.take h4, fun n v e => ?_, R.oge⟩, l1, by rw [R.rholen]; exact l2⟩
  obtain ⟨g1, rv, g2, g3⟩ := R.loc n v (getN_keepL e)
  have := List.all_eq_true.mp h3 _ (mem_of_getN e)
  exact ⟨g1, rv, g2.cutR this, g3⟩
theorem take_prefix {α : Type} {l l' : List α} (h : l <+: l') {k : Nat} (hk : l.length ≤ k) : l <+: l'.take k := by
  obtain ⟨t, rfl⟩ := h
  rw [List.take_append]
  exact ⟨t.take (k - l.length), by rw [List.take_of_length_le hk]⟩

/-! stores -/
theorem getN_setN {n k : Nat} {v : V} : ∀ {loc : List (Nat × V)}, getN k (setN n v loc) = if k = n then some v else getN k loc
  | [] => by
    unfold setN getN
    dsimp only
    cases hb : Nat.beq k n with
    | true => rw [if_pos (Nat.eq_of_beq_eq_true hb)]
    | false => rw [if_neg (fun e => by rw [e, Nat.beq_refl] at hb; cases hb)]; rfl
  | p :: r => by
    have ih := @getN_setN n k v r
    unfold setN
    cases hp : Nat.beq n p.1 with
    | true =>
      dsimp only
      have e := Nat.eq_of_beq_eq_true hp
      unfold getN
      dsimp only
      cases hb : Nat.beq k n with
      | true => rw [if_pos (Nat.eq_of_beq_eq_true hb)]
      | false => rw [if_neg (fun e => by rw [e, Nat.beq_refl] at hb; cases hb), ← e, hb]
    | false =>
      dsimp only
      unfold getN
      cases hb : Nat.beq k p.1 with
      | true =>
        dsimp only
        have e := Nat.eq_of_beq_eq_true hb
        rw [if_neg (fun z => by rw [← z, e, Nat.beq_refl] at hp; cases hp)]
      | false => exact ih
theorem nmI {i j : Nat} (hi : i < 41) (hj : j < 41) (e : nm i = nm j) : i = j := nm_inj i hi j hj e
theorem RS.put (R : RS c σ fro ρ m h ζ) {n : Nat} {v : V} {rv : Value} {h' : Heap} (hn : n < 41) (hk : c.env.kindOf (nm n) = some .local) (hv : VR (kn c.base fro) ρ v rv) (ns' : h'.Ns c.L (fun x => if x = nm n then some rv else m x)) (sb : Heap.SameBut c.L h h') :
    RS c (σ.put n v) fro ρ (fun x => if x = nm n then some rv else m x) h' ζ := by
  refine ⟨R.cs.set ns' sb, fun k w e => ?_, R.oge⟩
  rw [St.put, getN_setN] at e
  split at e
  · rename_i hkn; cases e; subst hkn
    exact ⟨hn, rv, hv, .inl ⟨hk, by simp⟩⟩
  · rename_i hkn
    obtain ⟨g1, rw, g2, g3⟩ := R.loc k w e
    refine ⟨g1, rw, g2, g3.imp (fun ⟨a, b⟩ => ⟨a, ?_⟩) id⟩
    rw [if_neg (fun z => hkn (nmI g1 hn z))]; exact b
end
end Mine
end

section
open PySem PySem.W PyProof.Rows PySem.Calls
namespace Mine

/-! the matcher of statements -/
noncomputable def isLoc (cs : Scope) (n : Nat) : Bool := Nat.blt n 41 && cs.names.lookup (nm n) == some .local
noncomputable def notComp (e : Expr) : Bool := Nat.ble (clsE e) 9 || Nat.ble 13 (clsE e)
noncomputable def namesOk (cs : Scope) : List Nat → List Expr → Bool
  | [], l => on0 l true
  | n :: ns, l => onC l fun t r => onName t fun y => y == nm n && isLoc cs n && namesOk cs ns r
/-- in which order a row of names is bound: none for from the left -/
noncomputable def swapR (cs : Scope) (ts : List Expr) (value : Expr) : Option (Option (List Str)) :=
  match value with
  | .Tuple vs _ _ =>
    if !(ts.length == 2 || ts.length == 3) || vs.length != ts.length || cs.kind != .function then some none
    else if vs.any (fun | .Starred .. => true | _ => false) then some none
    else
      let line := (ts.head?.map (·.pos.line)).getD 0
      let names := ts.filterMap fun
        | .Name id pos => if cs.names.lookup id == some .local && pos.line == line then some id else none
        | _ => none
      if names.length != ts.length || names.eraseDups.length != names.length then some none
      else if vs.all (foldedForSure 8) then some none
      else if vs.all (constantsAlone 8) then none
      else some (some names)
  | _ => some none
noncomputable def nodupS : List Nat → Bool
  | [] => true
  | k :: r => !r.contains k && nodupS r
/-! what a statement is -/
noncomputable def caseS (s : Stmt) (k0 : List Expr → Expr → Bool) (k1 : Expr → List Stmt → List Stmt → Bool) (k2 : Expr → List Stmt → List Stmt → Bool) (k3 : Expr → Expr → List Stmt → List Stmt → Bool) (k4 : Option Expr → Bool) (k5 : Option Expr → Option Expr → Bool) (k6 : Expr → Bool) : Bool := Stmt.casesOn (motive_2 := fun _ => Bool) s (fun _ _ _ _ _ _ _ _ _ _ => false) (fun _ _ _ _ _ _ _ _ _ _ => false) (fun _ _ _ _ _ _ _ _ _ _ _ => false) (fun a _ => k4 a) (fun _ _ => false) (fun a b _ => k0 a b) (fun _ _ _ _ _ _ _ => false) (fun _ _ _ _ => false) (fun _ _ _ _ _ => false) (fun a b c d _ => k3 a b c d) (fun _ _ _ _ _ => false) (fun a b c _ => k2 a b c) (fun a b c _ => k1 a b c) (fun _ _ _ => false) (fun _ _ _ => false) (fun _ _ _ => false) (fun a b _ => k5 a b) (fun _ _ _ _ _ => false) (fun _ _ _ _ _ => false) (fun _ _ _ => false) (fun _ _ => false) (fun _ _ _ _ => false) (fun _ _ => false) (fun _ _ => false) (fun a _ => k6 a) (fun _ => false) (fun _ => false) (fun _ => false)
theorem caseS_iff {s : Stmt} {k0 : List Expr → Expr → Bool} {k1 : Expr → List Stmt → List Stmt → Bool} {k2 : Expr → List Stmt → List Stmt → Bool} {k3 : Expr → Expr → List Stmt → List Stmt → Bool} {k4 : Option Expr → Bool} {k5 : Option Expr → Option Expr → Bool} {k6 : Expr → Bool} {Q : Stmt → Prop} (h : caseS s k0 k1 k2 k3 k4 k5 k6 = true) (H0 : ∀ a b p, k0 a b = true → Q (.Assign a b p)) (H1 : ∀ a b c p, k1 a b c = true → Q (.If a b c p)) (H2 : ∀ a b c p, k2 a b c = true → Q (.While a b c p)) (H3 : ∀ a b c d p, k3 a b c d = true → Q (.For a b c d p)) (H4 : ∀ a p, k4 a = true → Q (.Return a p)) (H5 : ∀ a b p, k5 a b = true → Q (.Raise a b p)) (H6 : ∀ a p, k6 a = true → Q (.Expr a p)) : Q s := by
  cases s with
  | Return a p => exact H4 a p h
  | Assign a b p => exact H0 a b p h
  | For a b c d p => exact H3 a b c d p h
  | While a b c p => exact H2 a b c p h
  | If a b c p => exact H1 a b c p h
  | Raise a b p => exact H5 a b p h
  | Expr a p => exact H6 a p h
  | _ => exact (Bool.false_ne_true h).elim
noncomputable def onAsg0 (s : Stmt) (k : List Expr → Expr → Bool) : Bool := caseS s k (fun _ _ _ => false) (fun _ _ _ => false) (fun _ _ _ _ => false) (fun _ => false) (fun _ _ => false) (fun _ => false)
theorem onAsg0_iff {s : Stmt} {k : List Expr → Expr → Bool} (h : onAsg0 s k = true) : ∃ a b p, s = .Assign a b p ∧ k a b = true :=
  caseS_iff (Q := fun s => ∃ a b p, s = .Assign a b p ∧ k a b = true) h (fun a b p h => ⟨a, b, p, rfl, h⟩) (fun _ _ _ _ h => (Bool.false_ne_true h).elim) (fun _ _ _ _ h => (Bool.false_ne_true h).elim) (fun _ _ _ _ _ h => (Bool.false_ne_true h).elim) (fun _ _ h => (Bool.false_ne_true h).elim) (fun _ _ _ h => (Bool.false_ne_true h).elim) (fun _ _ h => (Bool.false_ne_true h).elim)
noncomputable def onSIf (s : Stmt) (k : Expr → List Stmt → List Stmt → Bool) : Bool := caseS s (fun _ _ => false) k (fun _ _ _ => false) (fun _ _ _ _ => false) (fun _ => false) (fun _ _ => false) (fun _ => false)
theorem onSIf_iff {s : Stmt} {k : Expr → List Stmt → List Stmt → Bool} (h : onSIf s k = true) : ∃ a b c p, s = .If a b c p ∧ k a b c = true :=
  caseS_iff (Q := fun s => ∃ a b c p, s = .If a b c p ∧ k a b c = true) h (fun _ _ _ h => (Bool.false_ne_true h).elim) (fun a b c p h => ⟨a, b, c, p, rfl, h⟩) (fun _ _ _ _ h => (Bool.false_ne_true h).elim) (fun _ _ _ _ _ h => (Bool.false_ne_true h).elim) (fun _ _ h => (Bool.false_ne_true h).elim) (fun _ _ _ h => (Bool.false_ne_true h).elim) (fun _ _ h => (Bool.false_ne_true h).elim)
noncomputable def onWhile0 (s : Stmt) (k : Expr → List Stmt → List Stmt → Bool) : Bool := caseS s (fun _ _ => false) (fun _ _ _ => false) k (fun _ _ _ _ => false) (fun _ => false) (fun _ _ => false) (fun _ => false)
theorem onWhile0_iff {s : Stmt} {k : Expr → List Stmt → List Stmt → Bool} (h : onWhile0 s k = true) : ∃ a b c p, s = .While a b c p ∧ k a b c = true :=
  caseS_iff (Q := fun s => ∃ a b c p, s = .While a b c p ∧ k a b c = true) h (fun _ _ _ h => (Bool.false_ne_true h).elim) (fun _ _ _ _ h => (Bool.false_ne_true h).elim) (fun a b c p h => ⟨a, b, c, p, rfl, h⟩) (fun _ _ _ _ _ h => (Bool.false_ne_true h).elim) (fun _ _ h => (Bool.false_ne_true h).elim) (fun _ _ _ h => (Bool.false_ne_true h).elim) (fun _ _ h => (Bool.false_ne_true h).elim)
noncomputable def onFor0 (s : Stmt) (k : Expr → Expr → List Stmt → List Stmt → Bool) : Bool := caseS s (fun _ _ => false) (fun _ _ _ => false) (fun _ _ _ => false) k (fun _ => false) (fun _ _ => false) (fun _ => false)
theorem onFor0_iff {s : Stmt} {k : Expr → Expr → List Stmt → List Stmt → Bool} (h : onFor0 s k = true) : ∃ a b c d p, s = .For a b c d p ∧ k a b c d = true :=
  caseS_iff (Q := fun s => ∃ a b c d p, s = .For a b c d p ∧ k a b c d = true) h (fun _ _ _ h => (Bool.false_ne_true h).elim) (fun _ _ _ _ h => (Bool.false_ne_true h).elim) (fun _ _ _ _ h => (Bool.false_ne_true h).elim) (fun a b c d p h => ⟨a, b, c, d, p, rfl, h⟩) (fun _ _ h => (Bool.false_ne_true h).elim) (fun _ _ _ h => (Bool.false_ne_true h).elim) (fun _ _ h => (Bool.false_ne_true h).elim)
noncomputable def onRet0 (s : Stmt) (k : Option Expr → Bool) : Bool := caseS s (fun _ _ => false) (fun _ _ _ => false) (fun _ _ _ => false) (fun _ _ _ _ => false) k (fun _ _ => false) (fun _ => false)
theorem onRet0_iff {s : Stmt} {k : Option Expr → Bool} (h : onRet0 s k = true) : ∃ a p, s = .Return a p ∧ k a = true :=
  caseS_iff (Q := fun s => ∃ a p, s = .Return a p ∧ k a = true) h (fun _ _ _ h => (Bool.false_ne_true h).elim) (fun _ _ _ _ h => (Bool.false_ne_true h).elim) (fun _ _ _ _ h => (Bool.false_ne_true h).elim) (fun _ _ _ _ _ h => (Bool.false_ne_true h).elim) (fun a p h => ⟨a, p, rfl, h⟩) (fun _ _ _ h => (Bool.false_ne_true h).elim) (fun _ _ h => (Bool.false_ne_true h).elim)
noncomputable def onRaise0 (s : Stmt) (k : Option Expr → Option Expr → Bool) : Bool := caseS s (fun _ _ => false) (fun _ _ _ => false) (fun _ _ _ => false) (fun _ _ _ _ => false) (fun _ => false) k (fun _ => false)
theorem onRaise0_iff {s : Stmt} {k : Option Expr → Option Expr → Bool} (h : onRaise0 s k = true) : ∃ a b p, s = .Raise a b p ∧ k a b = true :=
  caseS_iff (Q := fun s => ∃ a b p, s = .Raise a b p ∧ k a b = true) h (fun _ _ _ h => (Bool.false_ne_true h).elim) (fun _ _ _ _ h => (Bool.false_ne_true h).elim) (fun _ _ _ _ h => (Bool.false_ne_true h).elim) (fun _ _ _ _ _ h => (Bool.false_ne_true h).elim) (fun _ _ h => (Bool.false_ne_true h).elim) (fun a b p h => ⟨a, b, p, rfl, h⟩) (fun _ _ h => (Bool.false_ne_true h).elim)
noncomputable def onSExpr (s : Stmt) (k : Expr → Bool) : Bool := caseS s (fun _ _ => false) (fun _ _ _ => false) (fun _ _ _ => false) (fun _ _ _ _ => false) (fun _ => false) (fun _ _ => false) k
theorem onSExpr_iff {s : Stmt} {k : Expr → Bool} (h : onSExpr s k = true) : ∃ a p, s = .Expr a p ∧ k a = true :=
  caseS_iff (Q := fun s => ∃ a p, s = .Expr a p ∧ k a = true) h (fun _ _ _ h => (Bool.false_ne_true h).elim) (fun _ _ _ _ h => (Bool.false_ne_true h).elim) (fun _ _ _ _ h => (Bool.false_ne_true h).elim) (fun _ _ _ _ _ h => (Bool.false_ne_true h).elim) (fun _ _ h => (Bool.false_ne_true h).elim) (fun _ _ _ h => (Bool.false_ne_true h).elim) (fun a p h => ⟨a, p, rfl, h⟩)
noncomputable def onAsg (s : Stmt) (k : Expr → Expr → Bool) : Bool := onAsg0 s fun ts v => on1 ts fun t => k t v
theorem onAsg_iff {s : Stmt} {k : Expr → Expr → Bool} (h : onAsg s k = true) : ∃ t v p, s = .Assign [t] v p ∧ k t v = true := by
  obtain ⟨ts, v, p, e, h⟩ := onAsg0_iff h
  obtain ⟨t, e1, h2⟩ := on1_iff h
  exact ⟨t, v, p, e1 ▸ e, h2⟩
noncomputable def onWhile (s : Stmt) (k : Expr → List Stmt → Bool) : Bool := onWhile0 s fun x a b => on0 b (k x a)
theorem onWhile_iff {s : Stmt} {k : Expr → List Stmt → Bool} (h : onWhile s k = true) : ∃ x a p, s = .While x a [] p ∧ k x a = true := by
  obtain ⟨x, a, b, p, e, h⟩ := onWhile0_iff h
  obtain ⟨e1, h2⟩ := on0_iff h
  exact ⟨x, a, p, e1 ▸ e, h2⟩
noncomputable def onFor (s : Stmt) (k : Expr → Expr → List Stmt → Bool) : Bool := onFor0 s fun t z a b => on0 b (k t z a)
theorem onFor_iff {s : Stmt} {k : Expr → Expr → List Stmt → Bool} (h : onFor s k = true) : ∃ t z a p, s = .For t z a [] p ∧ k t z a = true := by
  obtain ⟨t, z, a, b, p, e, h⟩ := onFor0_iff h
  obtain ⟨e1, h2⟩ := on0_iff h
  exact ⟨t, z, a, p, e1 ▸ e, h2⟩
noncomputable def onRet (s : Stmt) (k : Expr → Bool) : Bool := onRet0 s fun v => onSome v k
theorem onRet_iff {s : Stmt} {k : Expr → Bool} (h : onRet s k = true) : ∃ v p, s = .Return (some v) p ∧ k v = true := by
  obtain ⟨o, p, e, h⟩ := onRet0_iff h
  obtain ⟨v, e1, h2⟩ := onSome_iff h
  exact ⟨v, p, e1 ▸ e, h2⟩
noncomputable def onRaise (s : Stmt) (k : Expr → Bool) : Bool := onRaise0 s fun v c => onNo c (onSome v k)
theorem onRaise_iff {s : Stmt} {k : Expr → Bool} (h : onRaise s k = true) : ∃ v p, s = .Raise (some v) none p ∧ k v = true := by
  obtain ⟨o, c, p, e, h⟩ := onRaise0_iff h
  obtain ⟨e1, h2⟩ := onNo_iff h
  obtain ⟨v, e2, h3⟩ := onSome_iff h2
  exact ⟨v, p, e2 ▸ e1 ▸ e, h3⟩
/-- what a for may take as it stands: no set in braces -/
noncomputable def plainSub (e : Expr) : Bool := Nat.ble 4 (clsE e) && Nat.ble (clsE e) 5
noncomputable def isTarget (cs : Scope) (xs : List Nat) (t : Expr) : Bool := (on1 xs fun x => onName t fun y => y == nm x && isLoc cs x) || (onTup t fun ts => namesOk cs xs ts && nodupS xs && Nat.blt 1 xs.length)
mutual
noncomputable def mS (cs : Scope) : S → Stmt → Bool
  | .asg n e, st => onAsg st fun t v => onName t fun y => y == nm n && isLoc cs n && notComp v && mX cs e v
  | .asgT ns e, st => onAsg st fun t v => onTup t fun ts => namesOk cs ns ts && nodupS ns && notComp v && (swapR cs ts v == some none || swapR cs ts v == some (some (ns.map nm))) && mX cs e v
  | .asgA o f e, st => onAsg st fun t v => onAttr t fun ov x _ => x == nm f && Nat.blt f 41 && notComp v && mX cs o ov && mX cs e v
  | .asgI o i e, st => onAsg st fun t v => onSub t fun ov iv => notComp v && mX cs o ov && mX cs i iv && mX cs e v
  | .sif c t e, st => onSIf st fun x a b => mT cs c x && mSs cs t a && mSs cs e b
  | .whl _ _ c b, st => onWhile st fun x a => mT cs c x && mSs cs b a
  | .forD _ _ xs it b, st => onFor st fun t z a => (plainIdx z || plainSub z) && isTarget cs xs t && mX cs it z && mSs cs b a
  | .forR _ _ x it b, st => onFor st fun t z a => onCall1 z fun g z => isTarget cs [x] t && isBuiltinName cs "range" g && notStar z && mX cs it z && mSs cs b a
  | .ret _ e, st => onRet st fun v => mX cs e v
  | .raise x a, st => onRaise st fun v => onCall2 v fun g y z => (onStr y fun y => y == Str.ofString x) && isBuiltinName cs "Malformed" g && notStar z && mX cs a z
  | .app o e, st => onSExpr st fun v => onMeth1 v fun v x z => x == ("append" : Str) && plainBase v && notStar z && mX cs o v && mX cs e z
  | .expr e, st => onSExpr st fun v => notComp v && mX cs e v
noncomputable def mSs (cs : Scope) : Ss → List Stmt → Bool
  | .nil, l => on0 l true
  | .cons s ss, l => onC l fun st r => mS cs s st && mSs cs ss r
end

theorem notComp_swaps {v : PySem.Expr} (h : notComp v = true) (t : Option PySem.Expr) (line : Nat) (env : Env) : swapsWith v t line env = pure false := by
  revert h; cases v <;> first | exact fun _ => rfl | exact fun h => absurd h Bool.false_ne_true
theorem ite_lift {α : Type} {c : Prop} [Decidable c] {a r : α} {X : Option α} {Y : Sem α} (h : (if c then some a else X) = some r) (H : X = some r → Y = pure r) : (if c then pure a else Y) = pure r := by
  by_cases hc : c
  · rw [if_pos hc] at h ⊢; rw [Option.some.inj h]
  · rw [if_neg hc] at h ⊢; exact H h
theorem ite_last {α : Type} {c : Prop} [Decidable c] {a r : α} {Y : Sem α} (h : (if c then none else some a) = some r) : (if c then Y else pure a) = pure r := by
  by_cases hc : c
  · rw [if_pos hc] at h; exact nomatch h
  · rw [if_neg hc] at h ⊢; rw [Option.some.inj h]
theorem swap_sound {c : Cx} (hk : c.cs.kind = .function) {ts : List PySem.Expr} {k : Nat} {tp : Pos} {value : PySem.Expr} {r : Option (List Str)} (h : swapR c.cs ts value = some r) : swappedStores [.Tuple ts k tp] value c.env = pure r := by
  have hbk : c.env.blockKind = c.cs.kind := by
    have : c.env.scope.kind = .function := hk
    unfold Env.blockKind
    rw [this, hk]; rfl
  cases value with
  | Tuple vs n p =>
    unfold swappedStores
    dsimp only
    rw [hbk]
    exact ite_lift h fun h => ite_lift h fun h => ite_lift h fun h => ite_lift h fun h => ite_last h
  | _ => exact congrArg pure (Option.some.inj h)
end Mine
end

section
open PySem PySem.W PyProof.Rows PySem.Calls
namespace Mine

structure Ps extends Pm where
  n0 : Nat
  ρ0 : List Addr
noncomputable def Nx (P : Ps) (fro : List (Addr × Obj)) (N : St → Prop) (Qr : Flow → Shared → Prop) : Prop :=
  ∀ fro' ρ' m' σ' s', (∀ p ∈ fro, p ∈ fro') → P.ρ0 <+: ρ' → RS P.c σ' fro' ρ' m' s'.heap (og s') → N σ' → Qr .next s'
noncomputable def Rt (P : Ps) (fro : List (Addr × Obj)) (R : V → St → Prop) (Qr : Flow → Shared → Prop) : Prop :=
  ∀ fro' ρ' m' σ' v rv s', (∀ p ∈ fro, p ∈ fro') → P.ρ0 <+: ρ' → RS P.c σ' fro' ρ' m' s'.heap (og s') → VR (kn P.c.base fro') ρ' v rv → R v σ' → Qr (.ret rv) s'
theorem Nx.on {P : Ps} {fro fro' : List (Addr × Obj)} {N : St → Prop} {Qr : Flow → Shared → Prop} (h : Nx P fro N Qr) (hf : ∀ p ∈ fro, p ∈ fro') : Nx P fro' N Qr := fun f r m σ s h1 => h f r m σ s fun p hp => h1 p (hf p hp)
theorem Rt.on {P : Ps} {fro fro' : List (Addr × Obj)} {N : V → St → Prop} {Qr : Flow → Shared → Prop} (h : Rt P fro N Qr) (hf : ∀ p ∈ fro, p ∈ fro') : Rt P fro' N Qr := fun f r m σ v rv s h1 => h f r m σ v rv s fun p hp => h1 p (hf p hp)
noncomputable def SS (P : Ps) (x : S) : Prop := ∀ st, mS P.c.cs x st = true → ∀ A σ fro ρ m s N R Qr Er, OkA P.c P.ℓ A → P.ρ0 <+: ρ → RS P.c σ fro ρ m s.heap (og s) → vcS P.Γ P.n0 P.XQ x σ N R → Nx P fro N Qr → Rt P fro R Qr → Rai P.c P.XQ Er → wpAny (model P.prog P.w) A (exec st P.c.env) Qr Er s
noncomputable def SSs (P : Ps) (x : Ss) : Prop := ∀ st, mSs P.c.cs x st = true → ∀ A σ fro ρ m s N R Qr Er, OkA P.c P.ℓ A → P.ρ0 <+: ρ → RS P.c σ fro ρ m s.heap (og s) → vcSs P.Γ P.n0 P.XQ x σ N R → Nx P fro N Qr → Rt P fro R Qr → Rai P.c P.XQ Er → wpAny (model P.prog P.w) A (execs st P.c.env) Qr Er s

section
variable {P : Ps} {K : Frag} {mg mb : Str → Option Value}
theorem isLoc_parts {cs : Scope} {n : Nat} (h : isLoc cs n = true) : n < 41 ∧ cs.names.lookup (nm n) = some .local := by
  unfold isLoc at h
  replace h := and2 h
  exact ⟨Nat.blt_eq.mp h.1, eq_of_beq h.2⟩
theorem kind_hp {c : Cx} (hk : c.cs.kind = .function) : (c.env.scope.kind == .class || (c.env.scope.kind == .module && c.env.locals != c.env.globals)) = false := by
  have : c.env.scope.kind = .function := hk
  rw [this]; rfl
theorem store_sound {c : Cx} (O : c.Ok K mg mb) {prog : Program} {w : World} {A : Around} {E : Value → Shared → Prop} {Q : Unit → Shared → Prop} {s : Shared} {σ : St} {fro : List (Addr × Obj)} {ρ : List Addr} {m : Str → Option Value} (R : RS c σ fro ρ m s.heap (og s)) {n : Nat} (hl : isLoc c.cs n = true) {v : V} {rv : Value}
    (hv : VR (kn c.base fro) ρ v rv) (H : ∀ m' s', RS c (σ.put n v) fro ρ m' s'.heap (og s') → Q () s') : wpAny (model prog w) A (storeName c.env (nm n) rv) Q E s := by
  obtain ⟨h1, h2⟩ := isLoc_parts hl
  exact wpAny_storeName_local (env := c.env) h2 R.cs.fr.ns (fun h' hn hs => H _ { s with heap := h', toks := s.toks + 1 } (R.put h1 h2 hv hn hs)) (kind_hp O.kind)
theorem ss_asg (O : P.c.Ok K mg mb) (n : Nat) {e : X} (he : SX P.toPm e) : SS P (.asg n e) := fun st me A σ fro ρ m s N R Qr Er oa pr rs vc hn hrt hr => by
  replace me := onAsg_iff me; obtain ⟨t, v, p, rfl, me⟩ := me
  replace me := onName_iff me; obtain ⟨y, p', rfl, me⟩ := me
  obtain ⟨⟨⟨m1, m2⟩, m3⟩, m4⟩ := and4 me
  obtain rfl := eq_of_beq m1
  refine wpAny_Assign_Name (he _ m4 A σ fro ρ m s _ _ _ oa rs vc (fun f' r' v σ' rv s' h1 h2 h3 h4 h5 => ?_) hr) (notComp_swaps m3 _ _ _)
  exact store_sound O h3 m2 h4 fun m' s2 R2 => hn f' r' m' _ s2 h1 (pr.trans h2) R2 h5
/-! rows of names -/
noncomputable def ActOk (env : Env) (act : Value → Sem Unit) (n : Nat) : Prop := ∀ (M : Model) (A : Around) (v : Value) (Q : Unit → Shared → Prop) (E : Value → Shared → Prop) (s : Shared), wpAny M A (storeName env (nm n) v) Q E s → wpAny M A (act v) Q E s
inductive Acts (env : Env) : List (Value → Sem Unit) → List Nat → Prop
  | nil : Acts env [] []
  | cons {a n as ns} : ActOk env a n → Acts env as ns → Acts env (a :: as) (n :: ns)
theorem inOrder {c : Cx} (O : c.Ok K mg mb) {prog : Program} {w : World} {A : Around} {E : Value → Shared → Prop} {Q : Unit → Shared → Prop} {fro : List (Addr × Obj)} {ρ : List Addr} {acts : List (Value → Sem Unit)} {ns : List Nat} (a : Acts c.env acts ns) :
    ∀ {vs : List V} {rvs : List Value} {s : Shared} {σ : St} {m : Str → Option Value}, (∀ n ∈ ns, isLoc c.cs n = true) → VRs (kn c.base fro) ρ vs rvs → vs.length = ns.length → RS c σ fro ρ m s.heap (og s) →
      (∀ m' s', RS c (putsV ns vs σ) fro ρ m' s'.heap (og s') → Q () s') → wpAny (model prog w) A (assignInOrder acts rvs) Q E s := by
  induction a with
  | nil =>
    intro vs rvs s σ m _ hv he R H
    obtain rfl := List.length_eq_zero_iff.mp he
    obtain rfl := hv.inv
    exact wpAny_pure (H m s R)
  | cons ha r ih =>
    intro vs rvs s σ m hl hv he R H
    cases vs with
    | nil => exact nomatch he
    | cons v vs =>
      obtain ⟨rv, rvs, rfl, hv, rw⟩ := hv.inv
      exact wpAny_bind (wpAny_holding (ha _ _ _ _ _ _ (store_sound O R (hl _ (.head _)) hv fun m' s2 R2 => ih (fun n hn => hl n (.tail _ hn)) rw (Nat.succ.inj he) R2 H)))
theorem putsN_V : ∀ (ns : List Nat) (ds : List D) (σ : St), putsN ns ds σ = putsV ns (ds.map V.d) σ
  | [], [], _ => rfl
  | [], _ :: _, _ => rfl
  | _ :: _, [], _ => rfl
  | n :: ns, d :: ds, σ => putsN_V ns ds (σ.put n (.d d))
theorem namesOk_parts {cs : Scope} {env : Env} {ns : List Nat} : ∀ {ts : List PySem.Expr}, namesOk cs ns ts = true → (∀ n ∈ ns, isLoc cs n = true) ∧ Acts env ((assignEach ts env).map (·.2)) ns ∧ (assignEach ts env).length = ns.length ∧ (assignEach ts env).findIdx? (·.1) = none ∧ ts.length = ns.length := by
  induction ns with
  | nil =>
    intro ts h
    obtain ⟨rfl, _⟩ := on0_iff h
    exact ⟨fun _ h => (by cases h), Acts.nil, rfl, rfl, rfl⟩
  | cons n ns ih =>
    intro ts h
    obtain ⟨t, ts, rfl, h⟩ := onC_iff h
    obtain ⟨y, p, rfl, h⟩ := onName_iff h
    obtain ⟨⟨h1, h2⟩, h3⟩ := and3 h
    obtain rfl := eq_of_beq h1
    obtain ⟨g1, g2, g3, g4, g5⟩ := ih h3
    refine ⟨fun k hk => ?_, .cons (fun M A v Q E s hw => PyProof.Rows.assign_Name hw) g2, congrArg (· + 1) g3, ?_, congrArg (· + 1) g5⟩
    · rcases List.mem_cons.mp hk with rfl | hk
      · exact h2
      · exact g1 k hk
    · show List.findIdx? (·.1) ((false, _) :: assignEach ts env) = none
      rw [List.findIdx?_cons, g4]; rfl
end
end Mine
end

section
open PySem PySem.W PyProof.Rows PySem.Calls
namespace Mine
variable {ζ : OG}

section
variable {P : Ps} {K : Frag} {mg mb : Str → Option Value}
theorem RS.congr {c : Cx} {loc loc' : List (Nat × V)} {obs : List Ob} {fro : List (Addr × Obj)} {ρ : List Addr} {m : Str → Option Value} {h : Heap} (R : RS c ⟨loc, obs⟩ fro ρ m h ζ) (e : ∀ k, getN k loc' = getN k loc) : RS c ⟨loc', obs⟩ fro ρ m h ζ :=
  ⟨R.cs, fun n v g => R.loc n v ((e n).symm.trans g), R.oge⟩
theorem putsV_obs : ∀ (ns : List Nat) (vs : List V) (σ : St), (putsV ns vs σ).obs = σ.obs
  | [], [], _ => rfl
  | [], _ :: _, _ => rfl
  | _ :: _, [], _ => rfl
  | n :: ns, d :: ds, σ => (putsV_obs ns ds (σ.put n d)).trans rfl
theorem put_get {σ : St} {n k : Nat} {v : V} : getN k (σ.put n v).loc = if k = n then some v else getN k σ.loc := getN_setN
theorem swap_get {ns : List Nat} {vs : List V} (hl : vs.length = ns.length) (h23 : ns.length = 2 ∨ ns.length = 3) (hd : nodupS ns = true) (σ : St) (k : Nat) : getN k (putsV ns vs σ).loc = getN k (putsV ns.reverse vs.reverse σ).loc := by
  match ns, vs, hl, h23 with
  | [a, b], [x, y], _, _ =>
    have hab : a ≠ b := by simpa [nodupS] using hd
    simp only [List.reverse_cons, List.reverse_nil, List.nil_append, List.cons_append, putsV, put_get]
    by_cases h1 : k = a
    · subst h1; simp [hab]
    · simp [h1]
  | [a, b, d], [x, y, z], _, _ =>
    have hab : (a ≠ b ∧ a ≠ d) ∧ b ≠ d := by simpa [nodupS] using hd
    obtain ⟨⟨h1, h2⟩, h3⟩ := hab
    simp only [List.reverse_cons, List.reverse_nil, List.nil_append, List.cons_append, putsV, put_get]
    by_cases e1 : k = a
    · subst e1; simp [h1, h2]
    · by_cases e2 : k = b
      · subst e2; simp [h3, e1]
      · by_cases e3 : k = d
        · subst e3
          simp [Ne.symm h2, Ne.symm h3]
        · simp [e1, e2, e3]
  | [], _, _, h => simp at h
  | [_], _, _, h => simp at h
  | _ :: _ :: _ :: _ :: _, _, _, h => simp at h
  | [_, _], [], h, _ => simp at h
  | [_, _], [_], h, _ => simp at h
  | [_, _], _ :: _ :: _ :: _, h, _ => simp at h
  | [_, _, _], [], h, _ => simp at h
  | [_, _, _], [_], h, _ => simp at h
  | [_, _, _], [_, _], h, _ => simp at h
  | [_, _, _], _ :: _ :: _ :: _ :: _, h, _ => simp at h
theorem VRs.rev {Pk : Kn} {ρ : List Addr} : ∀ {vs : List V} {rvs : List Value}, VRs Pk ρ vs rvs → VRs Pk ρ vs.reverse rvs.reverse
  | _, _, .nil => .nil
  | _, _, .cons h r => by rw [List.reverse_cons, List.reverse_cons]; exact (VRs.rev r).append (.cons h .nil)
theorem acts_bind (env : Env) : ∀ ns : List Nat, Acts env ((ns.map nm).map fun n => bindName env n) ns
  | [] => .nil
  | _ :: ns => .cons (fun _ _ _ _ _ _ h => PyProof.Rows.bindName_ h) (acts_bind env ns)
theorem swapR_len {cs : Scope} {ts : List PySem.Expr} {v : PySem.Expr} {names : List Str} (h : swapR cs ts v = some (some names)) : ts.length = 2 ∨ ts.length = 3 := by
  unfold swapR at h
  split at h
  · split at h
    · cases h
    · rename_i h1
      simp only [Bool.or_eq_true, Bool.not_eq_true', not_or, Bool.not_eq_false, beq_iff_eq] at h1
      simpa using h1.1.1
  · cases h
theorem swapsSole {v : PySem.Expr} (h : notComp v = true) (t : PySem.Expr) (line : Nat) (env : Env) : swapsWithSole [t] v line env = pure false := by
  show swapsWith v (some t) line env = pure false
  exact notComp_swaps h _ _ _
theorem ss_asgT (O : P.c.Ok K mg mb) (ns : List Nat) {e : X} (he : SX P.toPm e) : SS P (.asgT ns e) := fun st me A σ fro ρ m s N R Qr Er oa pr rs vc hn hrt hr => by
  replace me := onAsg_iff me; obtain ⟨t, v, p, rfl, me⟩ := me
  replace me := onTup_iff me; obtain ⟨ts, k, tp, rfl, me⟩ := me
  simp only [Bool.and_eq_true, Bool.or_eq_true] at me
  obtain ⟨⟨⟨⟨m1, m2⟩, m3⟩, m4⟩, m5⟩ := me
  obtain ⟨g1, g2, g3, g4, g5⟩ := namesOk_parts (env := P.c.env) m1
  -- what comes of the row
  have fin : ∀ f' r' (σ' : St) (s' : Shared) (vs : List V) (rvs : List Value) (ta : Addr) (n : Nat), (∀ p ∈ fro, p ∈ f') → ρ <+: r' → RS P.c σ' f' r' m s'.heap (og s') → s'.heap.get? ta = some (tupOf rvs n) → VRs (kn P.c.base f') r' vs rvs → vs.length = ns.length → N (putsV ns vs σ') →
      (swapR P.c.cs ts v = some none → wpAny (model P.prog P.w) A (assign (.Tuple ts k tp) P.c.env (.ref ta)) (fun _ => Qr .next) Er s') ∧
      (swapR P.c.cs ts v = some (some (ns.map nm)) → wpAny (model P.prog P.w) A (unpackItems (.ref ta) (ns.map nm).length none) (fun items s₂ => wpAny (model P.prog P.w) A (assignInOrder ((ns.map nm).reverse.map fun n => bindName P.c.env n) items.reverse) (fun _ => Qr .next) Er s₂) Er s') := by
    intro f' r' σ' s' vs rvs ta n h1 h2 h3 ht hv hl hN
    have hsz : rvs.length = ns.length := by rw [hv.length, hl]
    constructor
    · intro _
      refine wpAny_assign_Tuple (items := rvs.toArray) oa.hd ⟨_, ht, rfl, n, rfl⟩ (by rw [g3, List.size_toArray, hsz]) g4 fun h' hx => ?_
      have h4 : RS P.c σ' f' r' m h' (og s') := h3.ext fun b o e => hx b o (Nat.ne_of_lt (Heap.lt_size e)) e
      exact inOrder (s := { s' with heap := h' }) O g2 g1 hv hl h4 fun m' s2 R2 => hn f' r' m' _ s2 h1 (pr.trans h2) R2 hN
    · intro hsw
      have e : (ns.map nm).length = rvs.toArray.size := by rw [List.length_map, List.size_toArray, hsz]
      rw [e]
      refine unpackItems_tuple (items := rvs.toArray) oa.hd ⟨_, ht, rfl, n, rfl⟩ fun h' hx => ?_
      have h4 : RS P.c σ' f' r' m h' (og s') := h3.ext fun b o e => hx b o (Nat.ne_of_lt (Heap.lt_size e)) e
      have hac := acts_bind P.c.env ns.reverse
      rw [List.map_reverse] at hac
      refine inOrder (s := { s' with heap := h' }) O hac (fun k hk => g1 k (List.mem_reverse.mp hk)) hv.rev (by simpa using hl) h4 fun m' s2 R2 => ?_
      refine hn f' r' m' (putsV ns vs σ') s2 h1 (pr.trans h2) ?_ hN
      have e1 := putsV_obs ns.reverse vs.reverse σ'
      have e2 := putsV_obs ns vs σ'
      have hg := swap_get hl (by have := swapR_len hsw; rw [g5] at this; exact this) m2 σ'
      generalize putsV ns.reverse vs.reverse σ' = q1 at R2 e1 hg
      generalize putsV ns vs σ' = q2 at e2 hg ⊢
      obtain ⟨l1, o1⟩ := q1
      obtain ⟨l2, o2⟩ := q2
      dsimp only at e1 e2 hg
      subst e1 e2
      exact R2.congr hg
  have tupC : ∀ f' r' (σ' : St) w rv (s' : Shared), RS P.c σ' f' r' m s'.heap (og s') → VR (kn P.c.base f') r' w rv → (match w with
      | .d (.tup ds) => ds.length = ns.length ∧ N (putsN ns ds σ')
      | .tup vs => vs.length = ns.length ∧ N (putsV ns vs σ')
      | _ => False) → ∃ ta n vs rvs, rv = .ref ta ∧ s'.heap.get? ta = some (tupOf rvs n) ∧ VRs (kn P.c.base f') r' vs rvs ∧ vs.length = ns.length ∧ N (putsV ns vs σ') := by
    intro f' r' σ' w rv s' h3 h4 h5
    cases h4 with
    | d hd =>
      cases hd with
      | tup ht hi => obtain ⟨h5, h6⟩ := h5; exact ⟨_, _, _, _, rfl, h3.at ht, DRs_V hi, by rw [List.length_map]; exact h5, by rw [← putsN_V]; exact h6⟩
      | _ => exact h5.elim
    | ref _ => exact h5.elim
    | tup ht hi => exact ⟨_, _, _, _, rfl, h3.at ht, hi, h5.1, h5.2⟩
  by_cases hsw : swapR P.c.cs ts v = some none
  · refine Assign_Tuple (he _ m5 A σ fro ρ m s _ _ _ oa rs vc (fun f' r' w σ' rv s' h1 h2 h3 h4 h5 => ?_) hr) (swapsSole m3 _ _ _) (swap_sound O.kind hsw)
    obtain ⟨ta, n, vs, rvs, rfl, g, hv, hl, hN⟩ := tupC f' r' σ' w rv s' h3 h4 h5
    exact (fin f' r' σ' s' vs rvs ta n h1 h2 h3 g hv hl hN).1 hsw
  · have hsw2 : swapR P.c.cs ts v = some (some (ns.map nm)) := by
      rcases m4 with h | h
      · exact absurd (eq_of_beq h) hsw
      · exact eq_of_beq h
    refine Assign_Tuple_swapped (he _ m5 A σ fro ρ m s _ _ _ oa rs vc (fun f' r' w σ' rv s' h1 h2 h3 h4 h5 => ?_) hr) (swapsSole m3 _ _ _) (swap_sound O.kind hsw2)
    obtain ⟨ta, n, vs, rvs, rfl, g, hv, hl, hN⟩ := tupC f' r' σ' w rv s' h3 h4 h5
    exact (fin f' r' σ' s' vs rvs ta n h1 h2 h3 g hv hl hN).2 hsw2
/-- an attribute is stored -/
theorem getL_some {Pk : Kn} {ρ : List Addr} {x : Str} : ∀ {fs : List (Nat × V)} {es : List DictEntry}, FldR Pk ρ fs es → (getL x es).isSome = true
  | _, _, .nil => rfl
  | _, _, .cons hg hk hv r => by
    rw [getL_cons hk]
    split
    · rfl
    · exact getL_some r
theorem fld_put {Pk : Kn} {ρ : List Addr} {f : Nat} (hf : f < 41) {v : V} {rv : Value} (hv : VR Pk ρ v rv) (hsh : Int) (t : Tok) : ∀ {fs : List (Nat × V)} {es : List DictEntry}, FldR Pk ρ fs es → FldR Pk ρ (setN f v fs) (putL (nm f) hsh (.str (nm f) t) rv es)
  | _, _, .nil => .cons hf rfl hv .nil
  | _, _, .cons (f := g) (e := en) hg hk h r => by
    unfold setN putL
    rw [hk]
    dsimp only
    rw [isStr_nm hg hf]
    cases hq : Nat.beq f g with
    | true =>
      have e := Nat.eq_of_beq_eq_true hq
      subst e
      exact .cons hf rfl hv r
    | false => exact .cons hg hk h (fld_put hf hv hsh t r)
theorem fld_len {Pk : Kn} {ρ : List Addr} : ∀ {fs : List (Nat × V)} {es : List DictEntry}, FldR Pk ρ fs es → es.length = fs.length
  | _, _, .nil => rfl
  | _, _, .cons _ _ _ r => by rw [List.length_cons, List.length_cons, fld_len r]
theorem setN_len {n : Nat} {v : V} : ∀ {l : List (Nat × V)}, (setN n v l).length ≤ l.length + 1
  | [] => Nat.le_refl _
  | p :: r => by
    unfold setN
    cases Nat.beq n p.1 with
    | true => exact Nat.le_succ _
    | false => simpa using setN_len (l := r)
theorem set_sound {c : Cx} (O : c.Ok K mg mb) (k : KF K) {prog : Program} {w : World} {A : Around} {E : Value → Shared → Prop} {Q : Unit → Shared → Prop} {s : Shared} {σ : St} {fro : List (Addr × Obj)} {ρ : List Addr} {m : Str → Option Value} (R : RS c σ fro ρ m s.heap (og s)) {i : Nat} {C : Nat} {fs : List (Nat × V)}
    (e1 : σ.obs[i]? = some (.inst C fs)) {a : Addr} (ha : ρ[i]? = some a) {f : Nat} (hf : f < 41) (hlen : fs.length < 900) {v : V} {rv : Value} (hv : VR (kn c.base fro) ρ v rv) (H : ∀ s', RS c ⟨σ.loc, σ.obs.set i (.inst C (setN f v fs))⟩ fro ρ m s'.heap (og s') → Q () s') :
    wpAny (model prog w) A (setAttr (.ref a) (nm f) rv) Q E s := by
  obtain ⟨own, N, hn, rO⟩ := R.cs.own
  obtain ⟨a', pc, l, rr, g1, rfl, ⟨d, es, n, rfl, r⟩, g4⟩ := rO.get e1
  rw [ha] at g1; cases g1
  obtain ⟨s1, s2, s3⟩ := k.setA C
  have el : ∀ o, l ++ ([(a, instObj (clsA C) d), (d, o)] ++ rr) ++ (fro ++ c.rest) = (l ++ [(a, instObj (clsA C) d)]) ++ (d, o) :: (rr ++ (fro ++ c.rest)) := fun o => by simp
  rw [el] at N hn
  have gx := (N (a, instObj (clsA C) d) (by simp)).1
  have gd := (N (d, dictOf es n) (by simp)).1
  have I : InstAt s.heap a (instObj (clsA C) d) (clsA C) (some (dictOf es n)) := ⟨gx, rfl, rfl, gd⟩
  refine set_plain (O.X.keeps R.cs.fr.keep) I s1 ?_
  rw [List.map_append, List.map_cons] at hn
  have hd1 : d ∉ (l ++ [(a, instObj (clsA C) d)]).map (·.1) := fun hm => (List.nodup_append.mp hn).2.2 d hm d (.head _) rfl
  have hd2 : d ∉ (rr ++ (fro ++ c.rest)).map (·.1) := (List.nodup_cons.mp (List.nodup_append.mp hn).2.1).1
  have r2 := fld_put (Pk := kn c.base fro) (ρ := ρ) hf hv (PyData.keyHash w.params (nm f)) (s.toks + 1) r
  refine osa_dict (s := { s with toks := s.toks + 1 }) R.cs.fr N (O.X.keeps R.cs.fr.keep) I rfl s2 (s3 f hf) (k.hasD C) (by rw [lookIn_dict]; exact getL_some r) (fun p hp e => hd1 (List.mem_map.mpr ⟨p, hp, e⟩)) (fun p hp e => hd2 (List.mem_map.mpr ⟨p, hp, e⟩)) (putName_dict _ _ _ _ _ _) rfl ?_ fun h' F' N' => ?_
  · refine Nat.le_trans (Nat.le_of_eq (fld_len r2)) ?_
    have := @setN_len f v fs
    omega
  · rw [← el] at N'
    refine H { s with heap := h', toks := s.toks + 2 } ⟨⟨F', _, N', ?_, g4 _ _ ⟨d, _, _, rfl, r2⟩⟩, R.loc, R.oge⟩
    have e2 : ∀ o o', (l ++ ([(a, instObj (clsA C) d), (d, o)] ++ rr) ++ (fro ++ c.rest)).map (·.1) = (l ++ ([(a, instObj (clsA C) d), (d, o')] ++ rr) ++ (fro ++ c.rest)).map (·.1) := fun o o' => by simp
    rw [e2 _ (dictOf es n), el, List.map_append, List.map_cons]
    exact hn
end
end Mine
end

section
open PySem PySem.W PyProof.Rows PySem.Calls
namespace Mine

theorem irj_vc {v w u : V} {p : Int → Nat → Int → Prop} (h : match v, w, u with
    | .d (.int x), .ref k, .d (.int j) => p x k j
    | _, _, _ => False) : ∃ x k j, v = .d (.int x) ∧ w = .ref k ∧ u = .d (.int j) ∧ p x k j := by
  cases v with
  | d y => cases y with
    | int x => cases w with
      | ref k => cases u with
        | d z => cases z with
          | int j => exact ⟨x, k, j, rfl, rfl, rfl, h⟩
          | _ => exact False.elim h
        | _ => exact False.elim h
      | _ => exact False.elim h
    | _ => exact False.elim h
  | _ => exact False.elim h
theorem ilo_vc {o : Option Ob} {p : List Int → Prop} (h : match o with
    | some (.il xs) => p xs
    | _ => False) : ∃ xs, o = some (.il xs) ∧ p xs := by
  cases o with
  | some x => cases x with
    | il l => exact ⟨l, rfl, h⟩
    | _ => exact False.elim h
  | none => exact False.elim h
theorem lstil_vc {o : Option Ob} {p : List D → Prop} {q : List Int → Prop} (h : match o with
    | some (.lst ds) => p ds
    | some (.il xs) => q xs
    | _ => False) : (∃ ds, o = some (.lst ds) ∧ p ds) ∨ ∃ xs, o = some (.il xs) ∧ q xs := by
  cases o with
  | some x => cases x with
    | il l => exact .inr ⟨l, rfl, h⟩
    | lst l => exact .inl ⟨l, rfl, h⟩
    | _ => exact False.elim h
  | none => exact False.elim h
theorem dint_vc {x : D} {p : Int → Prop} (h : match x with
    | .int i => p i
    | _ => False) : ∃ i, x = .int i ∧ p i := by
  cases x with
  | int i => exact ⟨i, rfl, h⟩
  | _ => exact False.elim h
theorem nn_vc {v : V} {p : Prop} (h : match v with
    | .d .none => p
    | _ => False) : p := by
  cases v with
  | d x => cases x with
    | none => exact h
    | _ => exact False.elim h
  | _ => exact False.elim h
theorem isLst_at {o : Option Ob} (h : (match o with
    | some (.lst _) => true
    | some (.il _) => true
    | _ => false) = true) : (∃ ds, o = some (.lst ds)) ∨ ∃ xs, o = some (.il xs) := by
  cases o with
  | some x => cases x with
    | il l => exact .inr ⟨l, rfl⟩
    | lst l => exact .inl ⟨l, rfl⟩
    | _ => exact absurd h Bool.false_ne_true
  | none => exact absurd h Bool.false_ne_true
section
variable {P : Ps} {K : Frag} {mg mb : Str → Option Value}
theorem ss_asgA (O : P.c.Ok K mg mb) (k : KF K) {o : X} (f : Nat) {e : X} (ho : SX P.toPm o) (he : SX P.toPm e) : SS P (.asgA o f e) := fun st me A σ fro ρ m s N R Qr Er oa pr rs vc hn hrt hr => by
  replace me := onAsg_iff me; obtain ⟨t, v, p, rfl, me⟩ := me
  replace me := onAttr_iff me; obtain ⟨ov, x, p', rfl, me⟩ := me
  obtain ⟨⟨⟨⟨m1, m2⟩, m3⟩, m4⟩, m5⟩ := and5 me
  obtain rfl := eq_of_beq m1
  refine plainObj_wpAny_Assign_Attribute (two he ho m5 m4 oa rs vc (fun f' r' v w σ' rv rw s' h1 h2 h3 h4 h5 h6 => ?_) hr) (notComp_swaps m3 _ _ _)
  obtain ⟨i, e0, h7⟩ := ref_vc h6
  obtain ⟨C, fs, e1, hb, hN⟩ := inst_vc h7
  obtain ⟨ra, rfl, ha⟩ := h5.ofRef e0
  exact set_sound O k h3 e1 ha (Nat.blt_eq.mp m2) (Nat.blt_eq.mp hb) h4 fun s2 R2 => hn f' r' m _ s2 h1 (pr.trans h2) R2 hN
theorem ss_asgI {o i e : X} (ho : SX P.toPm o) (hi : SX P.toPm i) (he : SX P.toPm e) : SS P (.asgI o i e) := fun st me A σ fro ρ m s N R Qr Er oa pr rs vc hn hrt hr => by
  replace me := onAsg_iff me; obtain ⟨t, v, p, rfl, me⟩ := me
  replace me := onSub_iff me; obtain ⟨ov, iv, p', rfl, me⟩ := me
  obtain ⟨⟨⟨m1, m2⟩, m3⟩, m4⟩ := and4 me
  refine wpAny_Assign_Subscript (he _ m4 A σ fro ρ m s _ _ _ oa rs vc (fun f1 r1 v σ1 rv s1 h1 h2 h3 h4 h5 => ?_) hr) (notComp_swaps m1 _ _ _)
  refine two ho hi m2 m3 oa h3 h5 (fun f2 r2 w u σ2 rw ru s2 k1 k2 k3 k4 k5 k6 => ?_) hr
  obtain ⟨x, kk, j, a1, a2, a3, k7⟩ := irj_vc k6
  obtain ⟨xs, e1, ⟨g1, g2, g3⟩, hN⟩ := ilo_vc k7
  obtain ⟨tx, rfl⟩ := (h4.of a1).inv
  obtain ⟨ra, rfl, ha⟩ := k4.ofRef a2
  obtain ⟨_, rfl⟩ := (k5.of a3).inv
  obtain ⟨vs, n, hg, hI⟩ := k3.il_at e1 ha
  have hl : vs.toArray.size = xs.length := (List.size_toArray ..).trans (IntsAre.len hI)
  refine ki_setAt hg g1 (by omega) (by rw [hl]; exact g2) ?_
  have hu := PySem.IsL.update hg (fun ys => ys.setIfInBounds j.toNat (.int x tx))
  rw [List.setIfInBounds_toArray, if_pos (by simp)] at hu
  exact hn f2 r2 m ⟨σ2.loc, σ2.obs.set kk (.il (xs.set j.toNat x))⟩ { s2 with heap := _ } (fun p hp => k1 p (h1 p hp)) ((pr.trans h2).trans k2) (k3.turn e1 ha (o := listOf (vs.set j.toNat (.int x tx)).toArray n) ⟨_, n, rfl, ints_set hI _⟩ piece_il hu fun b y hb e => by rw [Heap.get?_update_other _ _ (Ne.symm hb)]; exact e) hN
theorem ss_sif {c : X} {t e : Ss} (hc : ST P.toPm c) (ht : SSs P t) (he : SSs P e) : SS P (.sif c t e) := fun st me A σ fro ρ m s N R Qr Er oa pr rs vc hn hrt hr => by
  replace me := onSIf_iff me; obtain ⟨x, a, b, p, rfl, me⟩ := me
  obtain ⟨⟨m1, m2⟩, m3⟩ := and3 me
  refine wpAny_If (hc _ m1 A σ fro ρ m s _ _ _ oa rs vc (fun f' r' b σ' s' h1 h2 h3 h4 => ?_) hr)
  cases b with
  | true => exact ht _ m2 A σ' f' r' m s' N R Qr Er oa (pr.trans h2) h3 (h4.1 rfl) (hn.on h1) (hrt.on h1) hr
  | false => exact he _ m3 A σ' f' r' m s' N R Qr Er oa (pr.trans h2) h3 (h4.2 rfl) (hn.on h1) (hrt.on h1) hr
theorem ss_ret (H0 : P.ρ0.length = P.n0) (j : Nat) {e : X} (he : SX P.toPm e) : SS P (.ret j e) := fun st me A σ fro ρ m s N R Qr Er oa pr rs vc hn hrt hr => by
  replace me := onRet_iff me; obtain ⟨v, p, rfl, me⟩ := me
  refine wpAny_Return_some (he _ me A σ fro ρ m s _ _ _ oa rs vc (fun f' r' v σ' rv s' h1 h2 h3 h4 h5 => ?_) hr)
  obtain ⟨hb, hR⟩ := h5
  replace hb := and2 hb
  have hk : keepOk P.n0 [] (P.n0 + j) σ' = true := hb.1
  obtain ⟨R1, l1, l2⟩ := h3.keep hk
  exact hrt f' (r'.take (P.n0 + j)) m _ v rv s' h1 (take_prefix (pr.trans h2) (by rw [H0]; exact l1)) R1 (h4.cutR hb.2) hR
theorem ss_expr {e : X} (he : SX P.toPm e) (hf : P.c.cs.kind = .function) : SS P (.expr e) := fun st me A σ fro ρ m s N R Qr Er oa pr rs vc hn hrt hr => by
  replace me := onSExpr_iff me; obtain ⟨v, p, rfl, me⟩ := me
  replace me := and2 me
  refine wpAny_Expr_any (he _ me.2 A σ fro ρ m s _ _ _ oa rs vc (fun f' r' v σ' rv s' h1 h2 h3 h4 h5 => ?_) hr) ?_ (notComp_swaps me.1 _ _ _)
  · exact hn f' r' m σ' s' h1 (pr.trans h2) h3 (nn_vc h5)
  · unfold interactive
    have : P.c.env.scope.kind = .function := hf
    rw [this]; rfl
theorem DRs.snoc {Pk : Kn} {ds : List D} {vs : List Value} {d : D} {v : Value} (h : DRs Pk ds vs) (hd : DR Pk d v) : DRs Pk (ds ++ [d]) (vs ++ [v]) := h.append (.cons hd .nil)
set_option maxRecDepth 100000 in
theorem ss_app {o e : X} (ho : SX P.toPm o) (he : SX P.toPm e) (hf : P.c.cs.kind = .function) : SS P (.app o e) := fun st me A σ fro ρ m s N R Qr Er oa pr rs vc hn hrt hr => by
  replace me := onSExpr_iff me; obtain ⟨v, p, rfl, me⟩ := me
  replace me := onMeth1_iff me; obtain ⟨v, x, ap, z, p, rfl, mp, me⟩ := me
  obtain ⟨⟨⟨⟨m1, m2⟩, m4⟩, m5⟩, m6⟩ := and5 me
  obtain rfl := eq_of_beq m1
  refine wpAny_Expr_any (MethodCall_ (ho _ m5 A σ fro ρ m s _ _ _ oa rs vc (fun f1 r1 w σ1 rw s1 h1 h2 h3 h4 h5 => ?_) hr) (meth_he m2 _ (by rw [List.all_cons, m4]; rfl) (by show 1 < 30; decide) mp)) ?_ rfl
  · obtain ⟨kk, e0, hi, h6⟩ := ref_vc h5
    obtain ⟨a, rfl, ha⟩ := h4.ofRef e0
    have hg : ∃ vs n, s1.heap.get? a = some (listOf (List.toArray vs) n) := by
      rcases isLst_at hi with ⟨ds, e1⟩ | ⟨ds, e1⟩
      · obtain ⟨vs, n, hg, _⟩ := h3.lst_at e1 ha
        exact ⟨vs, n, hg⟩
      · obtain ⟨vs, n, hg, _⟩ := h3.il_at e1 ha
        exact ⟨vs, n, hg⟩
    obtain ⟨vs0, n0, hg0⟩ := hg
    refine getMethod_list_append hg0 rfl rfl (callWith_method1 (args_cons (he _ m6 A σ1 f1 r1 m s1 _ _ _ oa h3 h6 (fun f2 r2 v σ2 rv s2 k1 k2 k3 k4 k5 => args_nil ?_) hr) (notStar_one m4 _ _)) (notStar_one m4 _ _))
    have ha2 := prefix_get k2 ha
    have G : ∀ {vs n} ob ob', s2.heap.get? a = some (listOf (List.toArray vs) n) → σ2.obs[kk]? = some ob → vs.length ≤ 1000000 → PieceR (kn P.c.base f2) r2 a ob' [(a, listOf (vs ++ [rv]).toArray (n + 1))] → (∀ pc, PieceR (kn P.c.base f2) r2 a ob pc → ∃ x, pc = [(a, x)]) → N ⟨σ2.loc, σ2.obs.set kk ob'⟩ →
        wpAny (model P.prog P.w) A (call (.builtin "list.append") [.ref a, rv]) (fun _ s' => Qr .next s') Er s2 := fun {vs n} ob ob' hg e1 hl hp hs hN => by
      refine append_at hg (fun h' hsb hg' => ?_) (by rw [List.size_toArray]; exact Nat.le_trans hl (by decide))
      rw [List.push_toArray] at hg'
      exact hn f2 r2 m ⟨σ2.loc, σ2.obs.set kk ob'⟩ { s2 with heap := h' } (fun p hp => k1 p (h1 p hp)) ((pr.trans h2).trans k2) (k3.turn e1 ha2 hp hs hg' fun b y hb e => (hsb.2 b hb).trans e) hN
    obtain ⟨x, e2, k6⟩ := d_vc k5
    rcases lstil_vc k6 with ⟨ds, e1, hz, hN⟩ | ⟨xs, e1, k7⟩
    · obtain ⟨vs, n, hg, hI⟩ := k3.lst_at e1 ha2
      exact G _ (.lst (ds ++ [x])) hg e1 (hI.length.symm ▸ hz) ⟨_, _, rfl, hI.snoc (k4.of e2)⟩ piece_lst hN
    · obtain ⟨i, rfl, hz, hN⟩ := dint_vc k7
      obtain ⟨t, rfl⟩ := (k4.of e2).inv
      obtain ⟨vs, n, hg, hI⟩ := k3.il_at e1 ha2
      exact G _ (.il (xs ++ [i])) hg e1 ((IntsAre.len hI).symm ▸ hz) ⟨_, _, rfl, IntsAre.app hI (.cons i t .nil)⟩ piece_il hN
  · unfold interactive
    have : P.c.env.scope.kind = .function := hf
    rw [this]; rfl
theorem ss_nil : SSs P .nil := fun st me A σ fro ρ m s N R Qr Er oa pr rs vc hn hrt hr => by
  replace me := on0_iff me; obtain ⟨rfl, _⟩ := me
  exact wpAny_execs_nil (hn fro ρ m σ s (fun _ hp => hp) pr rs vc)
theorem ss_cons {x : S} {xs : Ss} (hx : SS P x) (hxs : SSs P xs) : SSs P (.cons x xs) := fun st me A σ fro ρ m s N R Qr Er oa pr rs vc hn hrt hr => by
  replace me := onC_iff me; obtain ⟨s1, r1, rfl, me⟩ := me
  replace me := and2 me
  refine wpAny_execs_cons (hx _ me.1 A σ fro ρ m s _ _ _ _ oa pr rs vc (fun f' r' m' σ' s' h1 h2 h3 h4 => ?_) (fun f' r' m' σ' v rv s' h1 h2 h3 h4 h5 => ?_) hr)
  · exact hxs _ me.2 A σ' f' r' m' s' N R Qr Er oa h2 h3 h4 (hn.on h1) (hrt.on h1) hr
  · exact hrt f' r' m' σ' v rv s' h1 h2 h3 h4 h5
end
end Mine
end

section
open PySem PySem.W PyProof.Rows PySem.Calls
namespace Mine
variable {ζ : OG}

noncomputable def Cx.wr (c : Cx) (r : List (Addr × Obj)) : Cx := { c with rest := r }
noncomputable def Ps.wr (P : Ps) (r : List (Addr × Obj)) : Ps := { P with toPm := { P.toPm with c := P.c.wr r } }
section
variable {c : Cx} {σ : St} {fro : List (Addr × Obj)} {ρ : List Addr} {m : Str → Option Value} {h h' : Heap} {I : Addr} {o o' : Obj} {K : Frag} {mg mb : Str → Option Value}
theorem RS.restAdd (R : RS c σ fro ρ m h ζ) (k : ∀ b x, h.get? b = some x → h'.get? b = some x) (ho : h'.get? I = some o) (ha : h.get? I = none) : RS (c.wr ((I, o) :: c.rest)) σ fro ρ m h' ζ := by
  obtain ⟨own, N, hn, r⟩ := R.cs.own
  have hne : ∀ p ∈ own ++ (fro ++ c.rest), p.1 ≠ I := fun p hp e => by have := (N p hp).1; rw [e, ha] at this; cases this
  refine ⟨⟨R.cs.fr.keeps k, own, fun p hp => ?_, ?_, r⟩, R.loc, R.oge⟩
  · rcases List.mem_append.mp hp with hp | hp
    · exact ⟨k _ _ (N p (List.mem_append_left _ hp)).1, (N p (List.mem_append_left _ hp)).2⟩
    · rcases List.mem_append.mp hp with hp | hp
      · have := N p (List.mem_append_right _ (List.mem_append_left _ hp)); exact ⟨k _ _ this.1, this.2⟩
      · rcases List.mem_cons.mp hp with rfl | hp
        · refine ⟨ho, fun e => ?_, ?_⟩
          · obtain ⟨oL, _, _, hL, _⟩ := R.cs.fr.ns
            have e : I = c.L := e
            rw [← e, ha] at hL; cases hL
          · show c.base.get? I = none
            cases q : c.base.get? I with
            | none => rfl
            | some x => have := R.cs.fr.keep _ _ q; rw [ha] at this; cases this
        · have := N p (List.mem_append_right _ (List.mem_append_right _ hp)); exact ⟨k _ _ this.1, this.2⟩
  · have e0 : List.Perm (own ++ (fro ++ (I, o) :: c.rest)) ((I, o) :: (own ++ (fro ++ c.rest))) := by
      simp only [← List.append_assoc]
      exact List.perm_middle
    have e := e0.map (·.1)
    refine e.nodup_iff.mpr (List.nodup_cons.mpr ⟨fun hm => ?_, hn⟩)
    obtain ⟨p, hp, e⟩ := List.mem_map.mp hm
    exact hne p hp e
theorem RS.restUpd (R : RS (c.wr ((I, o) :: c.rest)) σ fro ρ m h ζ) (ho : h'.get? I = some o') (k : ∀ b x, b ≠ I → h.get? b = some x → h'.get? b = some x) : RS (c.wr ((I, o') :: c.rest)) σ fro ρ m h' ζ := by
  obtain ⟨own, N, hn, r⟩ := R.cs.own
  have NI := N (I, o) (List.mem_append_right _ (List.mem_append_right _ (.head _)))
  have e : (own ++ (fro ++ (I, o') :: c.rest)).map (·.1) = (own ++ (fro ++ (I, o) :: c.rest)).map (·.1) := by simp
  have hp0 : List.Perm (own ++ (fro ++ (I, o) :: c.rest)) ((I, o) :: (own ++ (fro ++ c.rest))) := by
    simp only [← List.append_assoc]
    exact List.perm_middle
  have hp := hp0.map (·.1)
  have nb : c.base.get? I = none := NI.2.2
  have nL : I ≠ c.L := NI.2.1
  have hI : I ∉ (own ++ (fro ++ c.rest)).map (·.1) := (List.nodup_cons.mp (hp.nodup_iff.mp hn)).1
  obtain ⟨oL, a1, a2, hoL, a3⟩ := R.cs.fr.ns
  refine ⟨⟨⟨⟨oL, a1, a2, k _ _ (fun z => nL z.symm) hoL, a3⟩, fun b x q => k _ _ (fun z => ?_) (R.cs.fr.keep b x q), R.cs.fr.above⟩, own, fun p hp => ?_, by rw [show (c.wr ((I, o') :: c.rest)).rest = (I, o') :: c.rest from rfl, e]; exact hn, r⟩, R.loc, R.oge⟩
  · have q' : c.base.get? b = some x := q
    rw [z, nb] at q'; cases q'
  · have old : ∀ p, p ∈ own ++ (fro ++ c.rest) → (h'.get? p.1 = some p.2 ∧ p.1 ≠ c.L ∧ c.base.get? p.1 = none) := fun p hp => by
      have z := N p (by
        rcases List.mem_append.mp hp with hp | hp
        · exact List.mem_append_left _ hp
        · rcases List.mem_append.mp hp with hp | hp
          · exact List.mem_append_right _ (List.mem_append_left _ hp)
          · exact List.mem_append_right _ (List.mem_append_right _ (.tail _ hp)))
      exact ⟨k _ _ (fun y => hI (by rw [← y]; exact List.mem_map_of_mem hp)) z.1, z.2⟩
    rcases List.mem_append.mp hp with hp | hp
    · exact old p (List.mem_append_left _ hp)
    · rcases List.mem_append.mp hp with hp | hp
      · exact old p (List.mem_append_right _ (List.mem_append_left _ hp))
      · rcases List.mem_cons.mp hp with rfl | hp
        · exact ⟨ho, NI.2⟩
        · exact old p (List.mem_append_right _ (List.mem_append_right _ hp))
theorem RS.restAt (R : RS (c.wr ((I, o) :: c.rest)) σ fro ρ m h ζ) : h.get? I = some o := by
  obtain ⟨own, N, hn, r⟩ := R.cs.own
  exact (N (I, o) (List.mem_append_right _ (List.mem_append_right _ (.head _)))).1
theorem RS.restDrop (R : RS (c.wr ((I, o) :: c.rest)) σ fro ρ m h ζ) : RS c σ fro ρ m h ζ := by
  obtain ⟨own, N, hn, r⟩ := R.cs.own
  have sub : (own ++ (fro ++ c.rest)).Sublist (own ++ (fro ++ (I, o) :: c.rest)) := List.Sublist.append_left (List.Sublist.append_left (List.sublist_cons_self _ _) _) _
  exact ⟨⟨R.cs.fr, own, fun p hp => N p (sub.subset hp), List.Sublist.nodup (sub.map _) hn, r⟩, R.loc, R.oge⟩
theorem Cx.Ok.wr (O : c.Ok K mg mb) (p : Addr × Obj) : (c.wr (p :: c.rest)).Ok K mg mb := by
  refine ⟨O.kind, O.cells, O.X, O.T, fun env he => ?_, fun b o e => (O.xs b o e).imp id (.tail _), O.xL, ?_⟩
  · obtain ⟨h1, L, o, h2, h3, h4⟩ := O.outs env he
    exact ⟨h1, L, o, h2, .tail _ h3, h4⟩
  · exact O.low.imp (fun ⟨o, es, ep, h1, h2⟩ => ⟨o, es, ep, .tail _ h1, h2⟩) id
end
theorem OkA.wr {c : Cx} {ℓ : Nat} {A : Around} (h : OkA c ℓ A) (r) : OkA (c.wr r) ℓ A := ⟨h.fr, h.hd, h.dep, h.un⟩
section
variable {P : Ps} {K : Frag} {mg mb : Str → Option Value}
/-- a while -/
theorem ss_whl (H0 : P.ρ0.length = P.n0) {ns : List Nat} {k : Nat} {c : X} {b : Ss} (hc : ST P.toPm c) (hb : SSs P b) : SS P (.whl ns k c b) := fun st me A σ fro ρ m s N R Qr Er oa pr rs vc hn hrt hr => by
  replace me := onWhile_iff me; obtain ⟨x, a, p, rfl, me⟩ := me
  replace me := and2 me
  obtain ⟨n, vc⟩ := vc
  have hr' := hr.loop (prog := P.prog) (w := P.w) (A := A) oa.fr
  refine wpAny_While (codeAny_whileLoop (fun n s' => ∃ σ' f' r' m', (∀ p ∈ fro, p ∈ f') ∧ P.ρ0 <+: r' ∧ RS P.c σ' f' r' m' s'.heap (og s') ∧ wl P.Γ P.n0 P.XQ c ns k (fun σ1 N1 => vcSs P.Γ P.n0 P.XQ b σ1 N1 R) N n σ') ?_ n ⟨σ, fro, ρ, m, fun _ hp => hp, pr, rs, vc⟩)
  rintro n s1 ⟨σ1, f1, r1, m1, h1, h2, h3, h4⟩
  cases n with
  | zero => exact h4.elim
  | succ n =>
    obtain ⟨hk, h4⟩ := h4
    obtain ⟨R1, l1, l2⟩ := h3.keep hk
    have pr1 := take_prefix h2 (by rw [H0]; exact l1)
    refine hc _ me.1 A _ f1 _ m1 s1 _ _ _ oa R1 h4 (fun f2 r2 t σ2 s2 k1 k2 k3 k4 => ?_) hr'
    cases t with
    | true =>
      refine hb _ me.2 A σ2 f2 r2 m1 s2 _ R (fun f s₃ => match f with
          | .next | .cont => _
          | .brk => _
          | .ret v => _) _ oa (pr1.trans k2) k3 (k4.1 rfl) (fun f3 r3 m3 σ3 s3 j1 j2 j3 j4 => ?_) (fun f3 r3 m3 σ3 v rv s3 j1 j2 j3 j4 j5 => ?_) hr'
      · exact ⟨n, Nat.lt_succ_self n, σ3, f3, r3, m3, fun p hp => j1 p (k1 p (h1 p hp)), j2, j3, j4⟩
      · exact hrt f3 r3 m3 σ3 v rv s3 (fun p hp => j1 p (k1 p (h1 p hp))) j2 j3 j4 j5
    | false => exact wpAny_execs_nil (hn f2 r2 m1 σ2 s2 (fun p hp => k1 p (h1 p hp)) (pr1.trans k2) k3 (k4.2 rfl))
end
end Mine
end

section
open PySem PySem.W PyProof.Rows PySem.Calls
namespace Mine
variable {ζ : OG}

theorem RS.restLose {c : Cx} {σ : St} {fro : List (Addr × Obj)} {ρ : List Addr} {m : Str → Option Value} {h h' : Heap} {I : Addr} {o : Obj} (R : RS (c.wr ((I, o) :: c.rest)) σ fro ρ m h ζ) (k : ∀ b x, b ≠ I → h.get? b = some x → h'.get? b = some x) : RS c σ fro ρ m h' ζ := by
  obtain ⟨own, N, hn, r⟩ := R.cs.own
  have NI := N (I, o) (List.mem_append_right _ (List.mem_append_right _ (.head _)))
  have hp0 : List.Perm (own ++ (fro ++ (I, o) :: c.rest)) ((I, o) :: (own ++ (fro ++ c.rest))) := by
    simp only [← List.append_assoc]
    exact List.perm_middle
  have hp := hp0.map (·.1)
  have nb : c.base.get? I = none := NI.2.2
  have nL : I ≠ c.L := NI.2.1
  have hnd := List.nodup_cons.mp (hp.nodup_iff.mp hn)
  have hI : I ∉ (own ++ (fro ++ c.rest)).map (·.1) := hnd.1
  obtain ⟨oL, a1, a2, hoL, a3⟩ := R.cs.fr.ns
  refine ⟨⟨⟨⟨oL, a1, a2, k _ _ (fun z => nL z.symm) hoL, a3⟩, fun b x q => k _ _ (fun z => ?_) (R.cs.fr.keep b x q), R.cs.fr.above⟩, own, fun p hp => ?_, hnd.2, r⟩, R.loc, R.oge⟩
  · rw [z, nb] at q; cases q
  · have z := N p (by
      rcases List.mem_append.mp hp with hp | hp
      · exact List.mem_append_left _ hp
      · rcases List.mem_append.mp hp with hp | hp
        · exact List.mem_append_right _ (List.mem_append_left _ hp)
        · exact List.mem_append_right _ (List.mem_append_right _ (.tail _ hp)))
    exact ⟨k _ _ (fun y => hI (by rw [← y]; exact List.mem_map_of_mem hp)) z.1, z.2⟩
section
variable {P : Ps} {K : Frag} {mg mb : Str → Option Value}
/-- the loop's own names take the item -/
theorem target_sound {c : Cx} (O : c.Ok K mg mb) {prog : Program} {w : World} {A : Around} (hh : A.handled = none) {E : Value → Shared → Prop} {Q : Unit → Shared → Prop} {s : Shared} {σ : St} {fro : List (Addr × Obj)} {ρ : List Addr} {m : Str → Option Value} (R : RS c σ fro ρ m s.heap (og s)) {xs : List Nat} {t : PySem.Expr}
    (ht : isTarget c.cs xs t = true) {d : D} {v : Value} (hd : DR (kn c.base fro) d v) {body : St → Prop} (vc : tgt xs d σ body)
    (H : ∀ m' σ' s', RS c σ' fro ρ m' s'.heap (og s') → body σ' → Q () s') : wpAny (model prog w) A (assign t c.env v) Q E s := by
  unfold isTarget at ht
  rw [Bool.or_eq_true] at ht
  rcases ht with ht | ht
  · replace ht := on1_iff ht; obtain ⟨x, rfl, ht⟩ := ht
    replace ht := onName_iff ht; obtain ⟨y, p, rfl, ht⟩ := ht
    replace ht := and2 ht
    obtain rfl := eq_of_beq ht.1
    exact PyProof.Rows.assign_Name (store_sound O R ht.2 (.d hd) fun m' s' R' => H m' _ s' R' vc)
  · replace ht := onTup_iff ht; obtain ⟨ts, k, p, rfl, ht⟩ := ht
    obtain ⟨⟨h1, h2⟩, h3⟩ := and3 ht
    obtain ⟨g1, g2, g3, g4, g5⟩ := namesOk_parts (env := c.env) h1
    have hl : 1 < xs.length := Nat.blt_eq.mp h3
    unfold tgt at vc
    split at vc
    · simp at hl
    · split at vc
      · obtain ⟨h5, h6⟩ := vc
        cases hd with
        | tup hx hi =>
          rename_i rvs n
          have hsz : rvs.length = xs.length := by rw [hi.length, h5]
          refine wpAny_assign_Tuple (items := rvs.toArray) hh ⟨_, R.at hx, rfl, n, rfl⟩ (by rw [g3, List.size_toArray, hsz]) g4 fun h' hxt => ?_
          have R2 : RS c σ fro ρ m h' (og s) := R.ext fun b o e => hxt b o (Nat.ne_of_lt (Heap.lt_size e)) e
          refine inOrder (s := { s with heap := h' }) O g2 g1 (DRs_V hi) (by rw [List.length_map, h5]) R2 fun m' s2 R3 => H m' _ s2 R3 ?_
          rw [← putsN_V]; exact h6
      · cases vc

theorem for_sound (O : P.c.Ok K mg mb) (H0 : P.ρ0.length = P.n0) {A : Around} {I : Addr} {fp : List Addr} {n : Nat} {Pv : Nat → Value → Prop} {Sti : Nat → Heap → Prop} (W : Walks P.prog P.w A I fp [I] n Pv Sti) {ds : List D} (hn : ds.length = n) {fro1 : List (Addr × Obj)}
    (hfp : ∀ b ∈ fp, b = I ∨ ∃ o, kn P.c.base fro1 b o) (hit : ∀ i v, Pv i v → ∀ d, ds[i]? = some d → DR (kn P.c.base fro1) d v) (hI : ∀ i h, Sti i h → ∃ o, h.get? I = some o)
    {t : PySem.Expr} (hLG : ∀ i (v : Value) (s : Shared) (Q : Unit → Shared → Prop) (E : Value → Shared → Prop), Sti i s.heap → Q () s → wpAny (model P.prog P.w) A (letOwnedTupleGo t (.ref I) v) Q E s)
    {xs ns : List Nat} {k : Nat} {b : Ss} (hb : ∀ o, SSs (P.wr ((I, o) :: P.c.rest)) b) (ht : isTarget P.c.cs xs t = true) {a : List Stmt} (ma : mSs P.c.cs b a = true)
    {σ : St} {ρ : List Addr} {m : Str → Option Value} {s : Shared} {N : St → Prop} {R : V → St → Prop} {Qr : Flow → Shared → Prop} {Er : Value → Shared → Prop} {oI : Obj} (oa : OkA P.c P.ℓ A) (pr : P.ρ0 <+: ρ) (rs : RS (P.c.wr ((I, oI) :: P.c.rest)) σ fro1 ρ m s.heap (og s)) (st : Sti 0 s.heap)
    (vc : fl P.n0 xs ns k (fun σ1 N1 => vcSs P.Γ P.n0 P.XQ b σ1 N1 R) N ds σ) (hN : Nx P fro1 N Qr) (hrt : Rt P fro1 R Qr) (hr : Rai P.c P.XQ Er) :
    codeAny (model P.prog P.w) A (.forLoop t (.ref I) a [] P.c.env) (fun r s' => match r with | .ok f => Qr f s' | .error e => cameBackBy (model P.prog P.w) A P.c.env Er e s') s := by
  have hr' := hr.loop (prog := P.prog) (w := P.w) (A := A) oa.fr
  refine codeAny_forLoop_any (fun kk s' => ∃ i f' r' m' σ' o, (∀ p ∈ fro1, p ∈ f') ∧ P.ρ0 <+: r' ∧ RS (P.c.wr ((I, o) :: P.c.rest)) σ' f' r' m' s'.heap (og s') ∧ Sti i s'.heap ∧ i ≤ n ∧ kk = n + 1 - i ∧
    fl P.n0 xs ns k (fun σ1 N1 => vcSs P.Γ P.n0 P.XQ b σ1 N1 R) N (ds.drop i) σ') ?_ (n + 1) ⟨0, fro1, ρ, m, σ, oI, fun _ hp => hp, pr, rs, st, Nat.zero_le _, rfl, vc⟩
  rintro kk s1 ⟨i, f1, r1, m1, σ1, o1, h1, h2, h3, h4, h5, rfl, h6⟩
  by_cases hlt : i < n
  · have hid : i < ds.length := by rw [hn]; exact hlt
    rw [List.drop_eq_getElem_cons hid] at h6
    obtain ⟨hk, h6⟩ := h6
    refine W.item i s1 _ _ hlt h4 fun v h' tk hv hst hkeep => ?_
    obtain ⟨o2, ho2⟩ := hI _ _ hst
    have R2 : RS (P.c.wr ((I, o2) :: P.c.rest)) σ1 f1 r1 m1 h' (og s1) := h3.restUpd ho2 fun b x hb e => hkeep b x (by simpa using hb) e
    obtain ⟨R3, l1, l2⟩ := R2.keep hk
    have pr1 := take_prefix h2 (by rw [H0]; exact l1)
    refine hLG _ v { s1 with heap := h', toks := tk } _ _ hst ?_
    have hd : DR (kn P.c.base f1) ds[i] v := (hit i v hv _ (by simp [hid])).mono (kmono h1)
    refine target_sound (c := P.c.wr ((I, o2) :: P.c.rest)) (s := { s1 with heap := h', toks := tk }) (O.wr _) oa.hd R3 ht hd (body := fun σ' => vcSs P.Γ P.n0 P.XQ b σ' (fl P.n0 xs ns k (fun σ1 N1 => vcSs P.Γ P.n0 P.XQ b σ1 N1 R) N (ds.drop (i + 1))) R) h6 fun m' σ' s' R4 vc' => ?_
    refine hb o2 a ma A σ' f1 _ m' s' _ R (fun f s₃ => match f with
            | .next | .cont => _
            | .brk => _
            | .ret v => _) _ (oa.wr _) pr1 R4 vc' (fun f3 r3 m3 σ3 s3 j1 j2 j3 j4 => ?_) (fun f3 r3 m3 σ3 v rv s3 j1 j2 j3 j4 j5 => ?_) hr'
    · refine ⟨n + 1 - (i + 1), by omega, i + 1, f3, r3, m3, σ3, o2, fun p hp => j1 p (h1 p hp), j2, j3, ?_, hlt, rfl, j4⟩
      refine W.frame (i + 1) h' s3.heap hst fun b hb' o e => ?_
      rcases hfp b hb' with rfl | ⟨x, hx⟩
      · have e2 := j3.restAt
        rw [ho2] at e; cases e; exact e2
      · have g1 := R2.at (kmono h1 _ _ hx)
        rw [g1] at e; cases e
        exact j3.at (kmono (fun p hp => j1 p (h1 p hp)) _ _ hx)
    · exact hrt f3 r3 m3 σ3 v rv s3 (fun p hp => j1 p (h1 p hp)) j2 j3.restDrop j4 j5
  · have hin : i = n := by omega
    subst hin
    refine W.done s1 _ _ h4 fun h' tk hkeep => ?_
    have ed : ds.drop i = [] := by rw [List.drop_eq_nil_iff]; omega
    rw [ed] at h6
    obtain ⟨hk, h6⟩ := h6
    have R2 : RS P.c σ1 f1 r1 m1 h' (og s1) := h3.restLose fun b x hb e => hkeep b x (by simpa using hb) e
    obtain ⟨R3, l1, l2⟩ := R2.keep hk
    have pr1 := take_prefix h2 (by rw [H0]; exact l1)
    exact wpAny_execs_nil (hN f1 _ m1 _ { s1 with heap := h', toks := tk } h1 pr1 R3 h6)
theorem idxD_list {Pk : Kn} {ds : List D} {vs : List Value} (h : DRs Pk ds vs) {i : Nat} {v : Value} (e : vs.toArray[i]? = some v) {d : D} (ed : ds[i]? = some d) : DR Pk d v := by
  obtain ⟨v', h1, h2⟩ := h.get ed
  have : vs[i]? = some v := by simpa using e
  rw [this] at h1; cases h1; exact h2
theorem ints_DR {Pk : Kn} : ∀ {vs : List Value} {ns : List Int}, IntsAre vs ns → DRs Pk (ns.map D.int) vs
  | _, _, .nil => .nil
  | _, _, .cons n t h => .cons (.int n t) (ints_DR h)
theorem target_name {cs : Scope} {x : Nat} {t : PySem.Expr} (h : isTarget cs [x] t = true) : ∃ y p, t = .Name y p := by
  unfold isTarget at h
  rw [Bool.or_eq_true] at h
  rcases h with h | h
  · replace h := on1_iff h; obtain ⟨x', _, h⟩ := h
    replace h := onName_iff h; obtain ⟨y, p, rfl, _⟩ := h
    exact ⟨_, _, rfl⟩
  · replace h := onTup_iff h; obtain ⟨ts, k, p, rfl, h⟩ := h
    simp at h
theorem bytes_letGo {prog : Program} {w : World} {A : Around} {E : Value → Shared → Prop} {target : PySem.Expr} {I : Addr} {b : Array UInt8} {t : Tok} {i : Nat} {v : Value} {Q : Unit → Shared → Prop} {s : Shared} (hit : KBw.IsBytesIter s.heap I b t i) (h : Q () s) :
    wpAny (model prog w) A (letOwnedTupleGo target (.ref I) v) Q E s := by
  obtain ⟨o, ho, hc, hd⟩ := hit
  unfold letOwnedTupleGo
  cases target <;> first
    | exact wpAny_pure h
    | (cases v <;> first
        | exact wpAny_pure h
        | (refine wpAny_bind (wpAny_load ho ?_)
           rw [hc, hd]
           exact wpAny_pure h))
theorem range_letGo {prog : Program} {w : World} {A : Around} {E : Value → Shared → Prop} {target : PySem.Expr} {I : Addr} {a b c : Int} {v : Value} {Q : Unit → Shared → Prop} {s : Shared} (hit : IsRangeIter s.heap I a b c) (h : Q () s) :
    wpAny (model prog w) A (letOwnedTupleGo target (.ref I) v) Q E s := by
  unfold letOwnedTupleGo
  cases target <;> first
    | exact wpAny_pure h
    | (cases v <;> first
        | exact wpAny_pure h
        | exact wpAny_bind (wpAny_load hit (wpAny_pure h)))
theorem ss_forD (O : P.c.Ok K mg mb) (H0 : P.ρ0.length = P.n0) {ns : List Nat} {k : Nat} {xs : List Nat} {it : X} {b : Ss} (hi : SX P.toPm it) (hb : ∀ p, SSs (P.wr (p :: P.c.rest)) b) : SS P (.forD ns k xs it b) := fun st me A σ fro ρ m s N R Qr Er oa pr rs vc hn hrt hr => by
  replace me := onFor_iff me; obtain ⟨t, z, a, p, rfl, me⟩ := me
  obtain ⟨⟨⟨m1, m2⟩, m3⟩, m4⟩ := and4 me
  have hfold : ∀ v, foldedSetIterable z P.c.env v = pure v := fun _ => by cases z <;> first | rfl | exact absurd m1 Bool.false_ne_true
  refine wpAny_For (hi _ m3 A σ fro ρ m s _ _ _ oa rs vc (fun f1 r1 v σ1 rv s1 h1 h2 h3 h4 h5 => ?_) hr) hfold
  split at h5
  · rename_i x
    split at h5
    · rename_i ds hds
      cases h4 with
      | d hx =>
        have fresh : s1.heap.get? s1.heap.objs.size = none := Heap.get?_none_of_le (Nat.le_refl _)
        unfold itemsD at hds
        split at hds
        · cases hds
          cases hx with
          | il hx hI =>
            rename_i ax vs n0
            have hl := isList_of (h3.at hx)
            have hlt := Heap.lt_size (h3.at hx)
            refine wpAny_pyIter_list hl ?_
            refine for_sound O H0 (Walks.list oa.hd s1.heap.objs.size ax (Nat.ne_of_lt hlt) vs.toArray) (by simp [IntsAre.len hI]) (fro1 := f1) (fun b hb => ?_) (fun i v hv d hd => idxD_list (ints_DR hI) hv hd) (fun i h hh => ⟨_, hh.1.choose_spec.1⟩) (fun i v s Q E hs hq => letGo_listiter hs.1 hq) (fun o => hb _) m2 m4 oa (pr.trans h2)
              (h3.restAdd (fun _ _ e => Heap.get?_push_of_some _ e) (Heap.get?_push_size _ rfl) fresh) ⟨⟨_, Heap.get?_push_size _ rfl, rfl, rfl⟩, hl.push _⟩ h5 (hn.on h1) (hrt.on h1) hr
            rcases List.mem_cons.mp hb with rfl | hb
            · exact .inl rfl
            · rw [List.mem_singleton] at hb; subst hb; exact .inr ⟨_, hx⟩
        · cases hds
          cases hx with
          | bytes t' hB =>
            rename_i bb
            subst hB
            refine KBw.pyIter_bytes ?_
            refine for_sound O H0 (KBw.walks oa.hd s1.heap.objs.size bb t') (by simp [KBw.ints_length]) (fro1 := f1) (fun b hb => by rw [List.mem_singleton] at hb; exact .inl hb) (fun i v hv d hd => ?_) (fun i h hh => ⟨_, hh.choose_spec.1⟩) (fun i v s Q E hs hq => bytes_letGo hs hq) (fun o => hb _) m2 m4 oa (pr.trans h2)
              (h3.restAdd (fun _ _ e => Heap.get?_push_of_some _ e) (Heap.get?_push_size _ rfl) fresh) ⟨_, Heap.get?_push_size _ rfl, rfl, rfl⟩ h5 (hn.on h1) (hrt.on h1) hr
            obtain ⟨c, u, hc, rfl⟩ := hv
            have := KBw.ints_get hc
            rw [List.getElem?_map, this] at hd
            cases hd
            exact .int _ _
        · cases hds
          cases hx with
          | lst hx hI =>
            rename_i ax vs n0
            have hl := isList_of (h3.at hx)
            have hlt := Heap.lt_size (h3.at hx)
            refine wpAny_pyIter_list hl ?_
            refine for_sound O H0 (Walks.list oa.hd s1.heap.objs.size ax (Nat.ne_of_lt hlt) vs.toArray) (by simp [hI.length]) (fro1 := f1) (fun b hb => ?_) (fun i v hv d hd => idxD_list hI hv hd) (fun i h hh => ⟨_, hh.1.choose_spec.1⟩) (fun i v s Q E hs hq => letGo_listiter hs.1 hq) (fun o => hb _) m2 m4 oa (pr.trans h2)
              (h3.restAdd (fun _ _ e => Heap.get?_push_of_some _ e) (Heap.get?_push_size _ rfl) fresh) ⟨⟨_, Heap.get?_push_size _ rfl, rfl, rfl⟩, hl.push _⟩ h5 (hn.on h1) (hrt.on h1) hr
            rcases List.mem_cons.mp hb with rfl | hb
            · exact .inl rfl
            · rw [List.mem_singleton] at hb; subst hb; exact .inr ⟨_, hx⟩
        · cases hds
    · cases h5
  · cases h5
theorem ss_forR (O : P.c.Ok K mg mb) (kf : KF K) (H0 : P.ρ0.length = P.n0) {ns : List Nat} {k : Nat} {x : Nat} {it : X} {b : Ss} (hi : SX P.toPm it) (hb : ∀ p, SSs (P.wr (p :: P.c.rest)) b) : SS P (.forR ns k x it b) := fun st me A σ fro ρ m s N R Qr Er oa pr rs vc hn hrt hr => by
  replace me := onFor_iff me; obtain ⟨t, z, a, p, rfl, me⟩ := me
  replace me := onCall1_iff me; obtain ⟨g, z, rp, rfl, me⟩ := me
  obtain ⟨⟨⟨⟨m1, m2⟩, m3⟩, m4⟩, m5⟩ := and5 me
  have hfold : ∀ v, foldedSetIterable (.Call g [z] [] rp) P.c.env v = pure v := fun _ => rfl
  refine wpAny_For (bname_call O kf (x := "range") (by decide) m2 rs.cs.fr (v := .type "range") rfl (callWith_type1 (args_cons (hi _ m4 A σ fro ρ m s _ _ _ oa rs vc (fun f1 r1 v σ1 rv s1 h1 h2 h3 h4 h5 => args_nil ?_) hr) (notStar_one m3 _ _)) (notStar_one m3 _ _))) hfold
  split at h5
  · rename_i mm
    obtain ⟨hz, h5⟩ := h5
    cases h4 with
    | d hx =>
      cases hx
      refine range_iter hz fun I h2' kk hI hkeep hsz hlt => ?_
      have e : s1.heap.get? I = none := Heap.get?_none_of_le hsz
      refine for_sound (s := { s1 with heap := h2', toks := kk }) O H0 (Walks.range oa.hd I 0 1 mm.toNat) (by simp) (fro1 := f1) (fun b hb => by rw [List.mem_singleton] at hb; exact .inl hb) (fun i v hv d hd => ?_) (fun i h hh => ⟨_, hh⟩) (fun i v s Q E hs hq => range_letGo hs hq) (fun o => hb _) m1 m5 oa (pr.trans h2)
        (h3.restAdd hkeep hI e) hI h5 (hn.on h1) (hrt.on h1) hr
      obtain ⟨t, rfl⟩ := hv
      rw [List.getElem?_map] at hd
      cases hg : (List.range mm.toNat)[i]? with
      | none => rw [hg] at hd; cases hd
      | some j =>
        rw [hg] at hd
        have hj : j = i := by
          have := List.getElem?_eq_some_iff.mp hg
          obtain ⟨hl, he⟩ := this
          simpa using he.symm
        subst hj
        cases hd
        have e0 : (0 + (j : Int) * 1) = (j : Int) := by omega
        rw [e0]
        exact .int _ _
  · cases h5
end
end Mine
end

section
open PySem PySem.W PyProof.Rows PySem.Calls
namespace Mine

section
variable {K : Frag} {mg mb : Str → Option Value}
noncomputable def RaiseOk (K : Frag) (mg mb : Str → Option Value) : Prop := ∀ (P : Ps), P.c.Ok K mg mb → ∀ x a, SX P.toPm a → SS P (.raise x a)
noncomputable def Calls (P : Ps) : Prop := ∀ r, (∀ p ∈ P.c.rest, p ∈ r) → HCall (P.wr r).toPm
theorem Calls.here {P : Ps} (h : Calls P) : HCall P.toPm := h P.c.rest fun _ hp => hp
theorem Calls.wr {P : Ps} (h : Calls P) (p : Addr × Obj) : Calls (P.wr (p :: P.c.rest)) := fun r hr => h r fun q hq => hr q (.tail _ hq)
mutual
theorem sOk (kf : KF K) (hR : RaiseOk K mg mb) : ∀ (x : S) (P : Ps), P.c.Ok K mg mb → P.ρ0.length = P.n0 → Calls P → SS P x
  | .asg n e, P, O, _, hc => ss_asg O n (xOk O kf hc.here e).1
  | .asgT ns e, P, O, _, hc => ss_asgT O ns (xOk O kf hc.here e).1
  | .asgA o f e, P, O, _, hc => ss_asgA O kf f (xOk O kf hc.here o).1 (xOk O kf hc.here e).1
  | .asgI o i e, P, O, _, hc => ss_asgI (xOk O kf hc.here o).1 (xOk O kf hc.here i).1 (xOk O kf hc.here e).1
  | .sif c t e, P, O, H0, hc => ss_sif (xOk O kf hc.here c).2 (ssOk kf hR t P O H0 hc) (ssOk kf hR e P O H0 hc)
  | .whl ns k c b, P, O, H0, hc => ss_whl H0 (xOk O kf hc.here c).2 (ssOk kf hR b P O H0 hc)
  | .forD ns k xs it b, P, O, H0, hc => ss_forD O H0 (xOk O kf hc.here it).1 fun p => ssOk kf hR b (P.wr (p :: P.c.rest)) (O.wr p) H0 (hc.wr p)
  | .forR ns k x it b, P, O, H0, hc => ss_forR O kf H0 (xOk O kf hc.here it).1 fun p => ssOk kf hR b (P.wr (p :: P.c.rest)) (O.wr p) H0 (hc.wr p)
  | .ret j e, P, O, H0, hc => ss_ret H0 j (xOk O kf hc.here e).1
  | .raise w a, P, O, _, hc => hR P O w a (xOk O kf hc.here a).1
  | .app o e, P, O, _, hc => ss_app (xOk O kf hc.here o).1 (xOk O kf hc.here e).1 O.kind
  | .expr e, P, O, _, hc => ss_expr (xOk O kf hc.here e).1 O.kind
theorem ssOk (kf : KF K) (hR : RaiseOk K mg mb) : ∀ (x : Ss) (P : Ps), P.c.Ok K mg mb → P.ρ0.length = P.n0 → Calls P → SSs P x
  | .nil, _, _, _, _ => ss_nil
  | .cons s ss, P, O, H0, hc => ss_cons (sOk kf hR s P O H0 hc) (ssOk kf hR ss P O H0 hc)
end
end

/-! the frame rule: a call sees what is handed in alone -/
/-- own objects, piece by piece -/
theorem ObsR.pcs {P : Kn} {ρ : List Addr} : ∀ {as : List Addr} {os : List Ob} {own : List (Addr × Obj)}, ObsR P ρ as os own → ∃ pcs : List (List (Addr × Obj)), own = pcs.flatten ∧ pcs.length = os.length ∧ as.length = os.length ∧
    ∀ (i : Nat) a o pc, as[i]? = some a → os[i]? = some o → pcs[i]? = some pc → PieceR P ρ a o pc
  | _, _, _, .nil => ⟨[], rfl, rfl, rfl, fun i a o pc h => by simp at h⟩
  | _, _, _, .cons (pc := pc0) h r => by
    obtain ⟨pcs, h1, h2, h3, h4⟩ := ObsR.pcs r
    refine ⟨pc0 :: pcs, by rw [h1]; rfl, by simp [h2], by simp [h3], fun i a o pc ha ho hp => ?_⟩
    cases i with
    | zero => simp at ha ho hp; subst ha ho hp; exact h
    | succ i => exact h4 i a o pc (by simpa using ha) (by simpa using ho) (by simpa using hp)
theorem ObsR.of {P : Kn} {ρ : List Addr} : ∀ {as : List Addr} {os : List Ob} {pcs : List (List (Addr × Obj))}, pcs.length = os.length → as.length = os.length → (∀ (i : Nat) a o pc, as[i]? = some a → os[i]? = some o → pcs[i]? = some pc → PieceR P ρ a o pc) → ObsR P ρ as os pcs.flatten
  | [], [], [], _, _, _ => .nil
  | a :: as, o :: os, pc :: pcs, h1, h2, h => .cons (h 0 a o pc rfl rfl rfl) (ObsR.of (by simpa using h1) (by simpa using h2) fun i a o pc ha ho hp => h (i + 1) a o pc (by simpa using ha) (by simpa using ho) (by simpa using hp))
  | [], [], _ :: _, h1, _, _ => by simp at h1
  | _ :: _, [], _, _, h2, _ => by simp at h2
  | [], _ :: _, _, _, h2, _ => by simp at h2
  | _ :: _, _ :: _, [], h1, _, _ => by simp at h1
mutual
theorem VR.ren {P : Kn} {ρ ρ' : List Addr} {f : Nat → Nat} : ∀ {v : V} {rv : Value}, (∀ k ∈ refsV v, ∀ a, ρ[k]? = some a → ρ'[f k]? = some a) → VR P ρ v rv → VR P ρ' (mapV f v) rv
  | _, _, _, .d h => .d h
  | _, _, hf, .ref h => .ref (hf _ (by unfold refsV; exact .head _) _ h)
  | _, _, hf, .tup h r => .tup h (VRs.ren (fun k hk => hf k (by unfold refsV; exact hk)) r)
theorem VRs.ren {P : Kn} {ρ ρ' : List Addr} {f : Nat → Nat} : ∀ {v : List V} {rv : List Value}, (∀ k ∈ refsV.refsVs v, ∀ a, ρ[k]? = some a → ρ'[f k]? = some a) → VRs P ρ v rv → VRs P ρ' (mapV.mapVs f v) rv
  | _, _, _, .nil => .nil
  | _, _, hf, .cons h r => .cons (VR.ren (fun k hk => hf k (by unfold refsV.refsVs; exact List.mem_append_left _ hk)) h) (VRs.ren (fun k hk => hf k (by unfold refsV.refsVs; exact List.mem_append_right _ hk)) r)
end
theorem FldR.ren {P : Kn} {ρ ρ' : List Addr} {f : Nat → Nat} : ∀ {fs : List (Nat × V)} {es : List DictEntry}, (∀ k ∈ fs.flatMap (fun p => refsV p.2), ∀ a, ρ[k]? = some a → ρ'[f k]? = some a) → FldR P ρ fs es → FldR P ρ' (fs.map fun p => (p.1, mapV f p.2)) es
  | _, _, _, .nil => .nil
  | _, _, hf, .cons h1 h2 h3 r => .cons h1 h2 (h3.ren fun k hk => hf k (by rw [List.flatMap_cons]; exact List.mem_append_left _ hk)) (FldR.ren (fun k hk => hf k (by rw [List.flatMap_cons]; exact List.mem_append_right _ hk)) r)
theorem PieceR.ren {P : Kn} {ρ ρ' : List Addr} {f : Nat → Nat} {a : Addr} {o : Ob} {pc : List (Addr × Obj)} (hf : ∀ k ∈ refsO o, ∀ a, ρ[k]? = some a → ρ'[f k]? = some a) (h : PieceR P ρ a o pc) : PieceR P ρ' a (mapO f o) pc := by
  cases o with
  | dead => exact h
  | il xs => exact h
  | lst ds => exact h
  | inst c fs => obtain ⟨d, es, n, e, r⟩ := h; exact ⟨d, es, n, e, r.ren hf⟩
end Mine
end

section
open PySem PySem.W PyProof.Rows PySem.Calls
set_option linter.unusedVariables false
namespace Mine

theorem nodupN_iff : ∀ {ks : List Nat}, nodupN ks = true → ks.Nodup
  | [], _ => .nil
  | k :: r, h => by
    unfold nodupN at h
    replace h := and2 h
    exact List.nodup_cons.mpr ⟨by simpa using h.1, nodupN_iff h.2⟩
theorem idxOf_get {k : Nat} : ∀ {ks : List Nat}, k ∈ ks → ks[idxOf k ks]? = some k
  | x :: r, h => by
    unfold idxOf
    cases hb : Nat.beq k x with
    | true => rw [Nat.eq_of_beq_eq_true hb]; rfl
    | false =>
      have hne : k ≠ x := fun e => by rw [e, Nat.beq_refl] at hb; cases hb
      rcases List.mem_cons.mp h with e | h
      · exact absurd e hne
      · simpa using idxOf_get h
theorem idxOf_at {ks : List Nat} (hn : ks.Nodup) {j : Nat} {k : Nat} (h : ks[j]? = some k) : idxOf k ks = j := by
  have hm : k ∈ ks := List.mem_of_getElem? h
  have h2 := idxOf_get hm
  obtain ⟨l1, e1⟩ := List.getElem?_eq_some_iff.mp h
  obtain ⟨l2, e2⟩ := List.getElem?_eq_some_iff.mp h2
  exact (List.getElem_inj (h₀ := l2) (h₁ := l1) hn).mp (e2.trans e1.symm)
theorem setAll_get {ks : List Nat} (hn : ks.Nodup) : ∀ {obs os : List Ob}, ks.length ≤ os.length → (∀ k ∈ ks, k < obs.length) → ∀ i, (setAll obs ks os)[i]? = if i ∈ ks then os[idxOf i ks]? else obs[i]? := by
  induction ks with
  | nil => intro obs os _ _ i; simp [setAll]
  | cons k r ih =>
    intro obs os hl hk i
    cases os with
    | nil => simp at hl
    | cons o os =>
      obtain ⟨h1, h2⟩ := List.nodup_cons.mp hn
      show (setAll (obs.set k o) r os)[i]? = _
      rw [ih h2 (by simpa using hl) (fun x hx => by rw [List.length_set]; exact hk x (.tail _ hx))]
      by_cases e : i = k
      · subst e
        rw [if_neg h1, if_pos (.head _)]
        unfold idxOf
        rw [Nat.beq_refl]
        simp [hk i (.head _)]
      · have hb : Nat.beq i k = false := by
          cases q : Nat.beq i k with
          | true => exact absurd (Nat.eq_of_beq_eq_true q) e
          | false => rfl
        by_cases hr : i ∈ r
        · have e1 : idxOf i (k :: r) = idxOf i r + 1 := by
            show (match Nat.beq i k with | true => 0 | false => idxOf i r + 1) = _
            rw [hb]
          rw [if_pos hr, if_pos (.tail _ hr), e1, List.getElem?_cons_succ]
        · rw [if_neg hr, if_neg (by simp [e, hr]), List.getElem?_set_ne (Ne.symm e)]
theorem setAll_len : ∀ {ks : List Nat} {obs os : List Ob}, (setAll obs ks os).length = obs.length
  | [], _, os => by cases os <;> rfl
  | _ :: _, _, [] => rfl
  | k :: r, obs, o :: os => by
    show (setAll (obs.set k o) r os).length = _
    rw [setAll_len, List.length_set]
theorem map_range_getD {α : Type} (d : α) (l : List α) : (List.range l.length).map (fun i => l.getD i d) = l := by
  apply List.ext_getElem (by simp)
  intro i h1 h2
  simp [h2]
theorem range_split {n : Nat} {ks : List Nat} (hn : ks.Nodup) (hk : ∀ k ∈ ks, k < n) : (List.range n).Perm (ks ++ (List.range n).filter fun i => !ks.contains i) := by
  refine (List.perm_ext_iff_of_nodup List.nodup_range (List.nodup_append.mpr ⟨hn, List.Pairwise.filter _ List.nodup_range, fun a ha b hb e => ?_⟩)).mpr fun a => ?_
  · subst e
    have := (List.mem_filter.mp hb).2
    simp [ha] at this
  · simp only [List.mem_append, List.mem_filter, List.mem_range]
    by_cases h : a ∈ ks
    · simp [h, hk a h]
    · simp [h]

theorem frame {base h : Heap} {L : Addr} {m : Str → Option Value} {fro rest : List (Addr × Obj)} {ρ : List Addr} {obs : List Ob} (C : CS base L m fro rest ρ obs h) {ks : List Nat} (hn : ks.Nodup) (hk : ∀ k ∈ ks, k < obs.length) (hcl : ∀ k ∈ ks, ∀ o, obs[k]? = some o → ∀ i ∈ refsO o, i ∈ ks) :
    ∃ oth, CS base L m fro (oth ++ rest) (ks.map fun k => ρ.getD k 0) (ks.map fun k => mapO (idxOf · ks) (obs.getD k .dead)) h ∧
      ∀ fro' ρ2 obs2 h', (∀ p ∈ fro, p ∈ fro') → (ks.map fun k => ρ.getD k 0) <+: ρ2 → CS base L m fro' (oth ++ rest) ρ2 obs2 h' → ks.length ≤ obs2.length →
        CS base L m fro' rest (ρ ++ ρ2.drop ks.length) (setAll obs ks (obs2.map (mapO (back ks obs.length))) ++ (obs2.drop ks.length).map (mapO (back ks obs.length))) h' ∧ ∀ (i : Nat) a, ρ2[i]? = some a → (ρ ++ ρ2.drop ks.length)[back ks obs.length i]? = some a := by
  obtain ⟨own, N, hnd, r⟩ := C.own
  obtain ⟨pcs, rfl, hl1, hl2, hp⟩ := r.pcs
  have hsplit := range_split hn hk
  have hpc : pcs.Perm ((ks.map fun i => pcs.getD i []) ++ (((List.range obs.length).filter fun i => !ks.contains i).map fun i => pcs.getD i [])) := by
    have e := map_range_getD [] pcs
    rw [hl1] at e
    have := hsplit.map fun i => pcs.getD i []
    rw [e, List.map_append] at this
    exact this
  have hpf := hpc.flatten
  rw [List.flatten_append] at hpf
  generalize hoth : (((List.range obs.length).filter fun i => !ks.contains i).map fun i => pcs.getD i []).flatten = oth at hpf
  have hρ : ∀ k ∈ ks, ρ[k]? = some (ρ.getD k 0) := fun k hk' => by
    have : k < ρ.length := by rw [hl2]; exact hk k hk'
    simp [this]
  have hfwd : ∀ k ∈ ks, ∀ a, ρ[k]? = some a → (ks.map fun k => ρ.getD k 0)[idxOf k ks]? = some a := fun k hk' a e => by
    rw [List.getElem?_map, idxOf_get hk']
    rw [hρ k hk'] at e
    exact e
  refine ⟨oth, ⟨C.fr, (ks.map fun i => pcs.getD i []).flatten, fun p hp' => N p ?_, ?_, ?_⟩, ?_⟩
  · simp only [List.mem_append] at hp' ⊢
    rcases hp' with hp' | hp' | hp' | hp'
    · exact .inl (hpf.mem_iff.mpr (List.mem_append_left _ hp'))
    · exact .inr (.inl hp')
    · exact .inl (hpf.mem_iff.mpr (List.mem_append_right _ hp'))
    · exact .inr (.inr hp')
  · have e : (pcs.flatten ++ (fro ++ rest)).Perm ((ks.map fun i => pcs.getD i []).flatten ++ (fro ++ (oth ++ rest))) := by
      refine (hpf.append_right _).trans ?_
      rw [List.append_assoc]
      refine List.Perm.append_left _ ?_
      rw [← List.append_assoc, ← List.append_assoc]
      exact List.Perm.append_right _ List.perm_append_comm
    exact (e.map _).nodup_iff.mp hnd
  · refine ObsR.of (by simp) (by simp) fun i a o pc ha ho hpc' => ?_
    rw [List.getElem?_map] at ha ho hpc'
    cases hki : ks[i]? with
    | none => rw [hki] at ha; cases ha
    | some k =>
      rw [hki] at ha ho hpc'
      cases ha; cases ho; cases hpc'
      have hkm : k ∈ ks := List.mem_of_getElem? hki
      have hkl := hk k hkm
      have eo : obs[k]? = some (obs.getD k .dead) := by simp [hkl]
      have ep : pcs[k]? = some (pcs.getD k []) := by simp [hl1, hkl]
      exact (hp k _ _ _ (hρ k hkm) eo ep).ren fun j hj b hb => hfwd j (hcl k hkm _ eo j hj) b hb
  · intro fro' ρ2 obs2 h' hf hpre C2 hlen
    obtain ⟨own2, N2, hnd2, r2⟩ := C2.own
    obtain ⟨pcs2, rfl, g1, g2, gp⟩ := r2.pcs
    obtain ⟨tl, hρ2⟩ := hpre
    have hk1 : (ks.map fun k => ρ.getD k 0).length = ks.length := by simp
    have hdrop : ρ2.drop ks.length = tl := by rw [← hρ2, ← hk1, List.drop_left]
    have hbk : ∀ (i : Nat) a, ρ2[i]? = some a → (ρ ++ ρ2.drop ks.length)[back ks obs.length i]? = some a := fun i a e => by
      rw [hdrop]
      rw [← hρ2] at e
      unfold back
      cases hki : ks[i]? with
      | some k =>
        dsimp only
        have hil : i < ks.length := (List.getElem?_eq_some_iff.mp hki).1
        rw [List.getElem?_append_left (by rw [hk1]; exact hil), List.getElem?_map, hki] at e
        have hkm : k ∈ ks := List.mem_of_getElem? hki
        rw [List.getElem?_append_left (by rw [hl2]; exact hk k hkm), hρ k hkm]
        exact e
      | none =>
        dsimp only
        have hil : ks.length ≤ i := List.getElem?_eq_none_iff.mp hki
        rw [List.getElem?_append_right (by rw [hk1]; exact hil), hk1] at e
        rw [← hl2, List.getElem?_append_right (Nat.le_add_right _ _), Nat.add_sub_cancel_left]
        exact e
    refine ⟨?_, hbk⟩
    -- the pieces, put back
    let g : Nat → List (Addr × Obj) := fun i => if i ∈ ks then pcs2.getD (idxOf i ks) [] else pcs.getD i []
    have hks : ks.map g = pcs2.take ks.length := by
      apply List.ext_getElem (by simp; omega)
      intro j h1 h2
      have hj : j < ks.length := by simpa using h1
      have e1 : idxOf ks[j] ks = j := idxOf_at hn (by simp [hj])
      have hj2 : j < pcs2.length := by omega
      simp [g, e1, hj2]
    have hjs : (((List.range obs.length).filter fun i => !ks.contains i).map g) = (((List.range obs.length).filter fun i => !ks.contains i).map fun i => pcs.getD i []) := by
      apply List.map_congr_left
      intro i hi
      have := (List.mem_filter.mp hi).2
      have hni : i ∉ ks := by simpa using this
      simp [g, hni]
    have hperm : (((List.range obs.length).map g) ++ pcs2.drop ks.length).flatten.Perm (pcs2.flatten ++ oth) := by
      have h1 := (hsplit.map g).flatten
      rw [List.map_append, List.flatten_append, hks, hjs, hoth] at h1
      rw [List.flatten_append]
      refine (h1.append_right _).trans ?_
      have e2 : pcs2.flatten = (pcs2.take ks.length).flatten ++ (pcs2.drop ks.length).flatten := by rw [← List.flatten_append, List.take_append_drop]
      rw [e2, List.append_assoc, List.append_assoc]
      exact List.Perm.append_left _ List.perm_append_comm
    have hkn := kmono (base := base) hf
    have hpreN : ρ <+: ρ ++ ρ2.drop ks.length := List.prefix_append _ _
    refine ⟨C2.fr, (((List.range obs.length).map g) ++ pcs2.drop ks.length).flatten, fun p hp' => N2 p ?_, ?_, ?_⟩
    · simp only [List.mem_append] at hp' ⊢
      rcases hp' with hp' | hp' | hp'
      · rcases List.mem_append.mp (hperm.mem_iff.mp hp') with q | q
        · exact .inl q
        · exact .inr (.inr (.inl q))
      · exact .inr (.inl hp')
      · exact .inr (.inr (.inr hp'))
    · have e : (pcs2.flatten ++ (fro' ++ (oth ++ rest))).Perm ((((List.range obs.length).map g) ++ pcs2.drop ks.length).flatten ++ (fro' ++ rest)) := by
        refine List.Perm.trans ?_ (hperm.symm.append_right _)
        rw [List.append_assoc]
        refine List.Perm.append_left _ ?_
        rw [← List.append_assoc, ← List.append_assoc]
        exact List.Perm.append_right _ List.perm_append_comm
      exact (e.map _).nodup_iff.mp hnd2
    · refine ObsR.of (by simp [setAll_len, g1]) (by simp [setAll_len, g2, hl2]) fun i a o pc ha ho hpc' => ?_
      by_cases hin : i < obs.length
      · rw [List.getElem?_append_left (by rw [hl2]; exact hin)] at ha
        rw [List.getElem?_append_left (by rw [setAll_len]; exact hin), setAll_get hn (by simpa using hlen) hk] at ho
        rw [List.getElem?_append_left (by simpa using hin), List.getElem?_map, List.getElem?_range hin] at hpc'
        cases hpc'
        by_cases hki : i ∈ ks
        · rw [if_pos hki, List.getElem?_map] at ho
          have hgi : g i = pcs2.getD (idxOf i ks) [] := by simp [g, hki]
          rw [hgi]
          cases ho2 : obs2[idxOf i ks]? with
          | none => rw [ho2] at ho; cases ho
          | some o2 =>
            rw [ho2] at ho
            cases ho
            have hjl := (List.getElem?_eq_some_iff.mp ho2).1
            have ep : pcs2[idxOf i ks]? = some (pcs2.getD (idxOf i ks) []) := by simp [g1, hjl]
            have ea : ρ2[idxOf i ks]? = some a := by
              rw [← hρ2, List.getElem?_append_left (by rw [hk1]; exact (List.getElem?_eq_some_iff.mp (idxOf_get hki)).1)]
              exact hfwd i hki a ha
            exact (gp _ _ _ _ ea ho2 ep).ren fun j _ b hb => hbk j b hb
        · rw [if_neg hki] at ho
          have hgi : g i = pcs.getD i [] := by simp [g, hki]
          rw [hgi]
          have ep : pcs[i]? = some (pcs.getD i []) := by simp [hl1, hin]
          exact (hp _ _ _ _ ha ho ep).mono hkn hpreN
      · have hge : obs.length ≤ i := Nat.le_of_not_lt hin
        rw [List.getElem?_append_right (by rw [hl2]; exact hge), hl2, List.getElem?_drop] at ha
        rw [List.getElem?_append_right (by rw [setAll_len]; exact hge), setAll_len, List.getElem?_map, List.getElem?_drop] at ho
        rw [List.getElem?_append_right (by simpa using hge), List.length_map, List.length_range, List.getElem?_drop] at hpc'
        cases ho2 : obs2[ks.length + (i - obs.length)]? with
        | none => rw [ho2] at ho; cases ho
        | some o2 =>
          rw [ho2] at ho
          cases ho
          exact (gp _ _ _ _ ha ho2 hpc').ren fun j _ b hb => hbk j b hb
end Mine
end

section
open PySem PySem.W PyProof.Rows PySem.Calls
set_option linter.unusedVariables false
namespace Mine

/-- what a call asks of the caller -/
structure Cx.Ok0 (c : Cx) (K : Frag) (mg mb : Str → Option Value) : Prop where
  kind : c.cs.kind = .function
  X : K.In c.base
  T : TopF mg mb c.base
  outs : ∀ env ∈ c.outer, env.scope.kind ≠ .module ∧ ∃ L o, env.frame = some L ∧ (L, o) ∈ c.rest ∧ c.xb.get? L = none ∧ ∀ vs, o.data ≠ .fields vs
  xs : ∀ b o, c.xb.get? b = some o → c.base.get? b = some o ∨ (b, o) ∈ c.rest
  xL : c.xb.get? c.L = none
theorem Cx.Ok.to0 {c : Cx} {K : Frag} {mg mb : Str → Option Value} (O : c.Ok K mg mb) : c.Ok0 K mg mb := ⟨O.kind, O.X, O.T, O.outs, O.xs, O.xL⟩
noncomputable def LowAt (c : Cx) (m : Str → Option Value) : Prop := ((∃ o es ep, (c.L0, o) ∈ c.rest ∧ o.data = .dict es ep ∧ StrKeys es ∧ ∀ name, nsFind es name = c.m0 name) ∨ c.base.Ns c.L0 c.m0) ∨ (c.L0 = c.L ∧ ∀ name, m name = c.m0 name)
/-- a function keeps its word -/
noncomputable def SoundF (prog : Program) (w : World) (K : Frag) (mg mb : Str → Option Value) (ℓ f : Nat) (S : FSpec) : Prop :=
  ∀ (XQ : Str → Prop) (c : Cx) (A : Around) (fro : List (Addr × Obj)) (ρ : List Addr) (m : Str → Option Value) (obs : List Ob) (s : Shared) (vs : List V) (rvs : List Value) (q : V → List Ob → Prop) (Qr Er : Value → Shared → Prop), c.Ok0 K mg mb → LowAt c m → OkA c ℓ A →
    CS c.base c.L m fro c.rest ρ obs s.heap → og s = c.og → VRs (kn c.base fro) ρ vs rvs → S vs obs q XQ →
    (∀ fro' ρ' obs' v rv s', (∀ p ∈ fro, p ∈ fro') → ρ <+: ρ' → CS c.base c.L m fro' c.rest ρ' obs' s'.heap → og s' = c.og → VR (kn c.base fro') ρ' v rv → q v obs' → Qr rv s') → Rai c XQ Er → wpAny (model prog w) A (call (.ref (fAddr f)) rvs) Qr Er s
theorem OkA.down {c : Cx} {ℓ ℓ' : Nat} {A : Around} (h : OkA c ℓ A) (hl : ℓ' ≤ ℓ) : OkA c ℓ' A := ⟨h.fr, h.hd, by have := h.dep; omega, by have := h.un; omega⟩
theorem SoundF.up {prog : Program} {w : World} {K : Frag} {mg mb : Str → Option Value} {ℓ ℓ' f : Nat} {S : FSpec} (h : SoundF prog w K mg mb ℓ f S) (hl : ℓ ≤ ℓ') : SoundF prog w K mg mb ℓ' f S :=
  fun XQ c A fro ρ m obs s vs rvs q Qr Er O lw oa => h XQ c A fro ρ m obs s vs rvs q Qr Er O lw (oa.down hl)
theorem CxOk_wr {c : Cx} {K : Frag} {mg mb : Str → Option Value} (O : c.Ok K mg mb) {r : List (Addr × Obj)} (hr : ∀ p ∈ c.rest, p ∈ r) : (c.wr r).Ok K mg mb := by
  refine ⟨O.kind, O.cells, O.X, O.T, fun env he => ?_, fun b o e => (O.xs b o e).imp id (hr _), O.xL, ?_⟩
  · obtain ⟨h1, L, o, h2, h3, h4⟩ := O.outs env he
    exact ⟨h1, L, o, h2, hr _ h3, h4⟩
  · exact O.low.imp (fun ⟨o, es, ep, h1, h2⟩ => ⟨o, es, ep, hr _ h1, h2⟩) id
theorem hcall_of {P : Pm} {K : Frag} {mg mb : Str → Option Value} (O : P.c.Ok K mg mb) (h : ∀ f, f < 30 → SoundF P.prog P.w K mg mb P.ℓ f (P.Γ f)) : HCall P := by
  intro A σ fro ρ m s f vs rvs q Qr Er hf oa rs hvs hc hs hr
  unfold callS at hc
  dsimp only at hc
  generalize reach σ.obs 4 (refsV.refsVs vs) [] = ks at hc
  obtain ⟨hcl, hc⟩ := hc
  unfold closedN at hcl
  obtain ⟨⟨h1, h2⟩, h3⟩ := and3 hcl
  have hn := nodupN_iff h1
  have h3' := List.all_eq_true.mp h3
  have hk : ∀ k ∈ ks, k < σ.obs.length := fun k hk => by
    have := h3' k hk
    split at this
    · rename_i o e; exact (List.getElem?_eq_some_iff.mp e).1
    · cases this
  have hcl : ∀ k ∈ ks, ∀ o, σ.obs[k]? = some o → ∀ i ∈ refsO o, i ∈ ks := fun k hk o e i hi => by
    have := h3' k hk
    rw [e] at this
    have := List.all_eq_true.mp this i hi
    simpa using this
  obtain ⟨oth, C1, back'⟩ := frame rs.cs hn hk hcl
  have hρ : ∀ k ∈ ks, ρ[k]? = some (ρ.getD k 0) := fun k hk' => by
    have : k < ρ.length := by rw [rs.rholen]; exact hk k hk'
    simp [this]
  have hvs' : VRs (kn P.c.base fro) (ks.map fun k => ρ.getD k 0) (mapV.mapVs (idxOf · ks) vs) rvs := hvs.ren fun k hk' a e => by
    have hm : k ∈ ks := by have := List.all_eq_true.mp h2 k hk'; simpa using this
    rw [List.getElem?_map, idxOf_get hm]
    rw [hρ k hm] at e
    exact e
  have Ow := CxOk_wr (r := oth ++ P.c.rest) O fun p hp => List.mem_append_right _ hp
  refine h f hf P.XQ (P.c.wr (oth ++ P.c.rest)) A fro _ m _ s _ rvs _ Qr Er Ow.to0 (.inl Ow.low) (oa.wr _) C1 rs.oge hvs' hc (fun fro' ρ2 obs2 v rv s' g1 g2 g3 g6' g4 g5 => ?_) hr
  obtain ⟨g5, g6⟩ := g5
  obtain ⟨C3, hbk⟩ := back' fro' ρ2 obs2 s'.heap g1 g2 g3 g5
  refine hs fro' _ _ ⟨σ.loc, _⟩ rv s' g1 (List.prefix_append _ _) ⟨C3, rs.loc.mono (kmono g1) (List.prefix_append _ _), g6'⟩ (g4.ren fun i _ a e => hbk i a e) g6
end Mine
end

section
open PySem PySem.W PyProof.Rows PySem.Calls
set_option linter.unusedVariables false
namespace Mine
variable {ζ : OG}

/-- a name of a parameter -/
noncomputable def isPar (cs : Scope) (n : Nat) : Bool := Nat.blt n 41 && (cs.names.lookup (nm n) == some .local || cs.names.lookup (nm n) == some .cell)
theorem isPar_parts {cs : Scope} {n : Nat} (h : isPar cs n = true) : n < 41 ∧ (cs.names.lookup (nm n) = some .local ∨ cs.names.lookup (nm n) = some .cell) := by
  unfold isPar at h
  rw [Bool.and_eq_true, Bool.or_eq_true] at h
  exact ⟨Nat.blt_eq.mp h.1, h.2.imp eq_of_beq eq_of_beq⟩
/-- a def of the kept part, with its words -/
structure DefAt (K : Frag) (f : Addr) (qual : Str) (bodyS : List Stmt) (scope : Scope) (cdv : Value) (params : List Nat) (body : Ss) (dfl : List Value) : Prop where
  ex : ∃ name prm dV kV doc pm an ct oc od osl, K.lookup f = some ⟨oc, od, .func (fnOf name qual prm bodyS scope dV kV doc pm an cdv ct), osl⟩ ∧
    ∀ s args, K.In s.heap → args.length ≤ params.length → params.length ≤ args.length + dfl.length → BindsTo s (fnOf name qual prm bodyS scope dV kV doc pm an cdv ct) ⟨args, []⟩ ((params.map nm).zip (args ++ dfl.drop (args.length + dfl.length - params.length)))
  code : codeIn K cdv qual = true
  mt : mSs scope body bodyS = true
  kind : scope.kind = .function
  co : scope.isCoroutine = false
  gen : scope.isGenerator = false
  cnd : ((cellsFrom 0 scope.names []).map (·.1)).Nodup
  nd : nodupS params = true
  loc : params.all (isPar scope) = true

theorem zip_lookup {n : Nat} (hn : n < 41) : ∀ {ps : List Nat} {vs : List V} {rvs : List Value} {P : Kn} {ρ : List Addr} {v : V}, (∀ p ∈ ps, p < 41) → VRs P ρ vs rvs → getN n (zipL ps vs) = some v → ∃ rv, ((ps.map nm).zip rvs).lookup (nm n) = some rv ∧ VR P ρ v rv
  | [], _, _, _, _, _, _, _, e => by cases e
  | _ :: _, [], _, _, _, _, _, _, e => by cases e
  | p :: ps, v0 :: vs, _, P, ρ, v, hp, .cons (rv := rv) h r, e => by
    unfold zipL getN at e
    dsimp only at e
    cases hb : Nat.beq n p with
    | true =>
      rw [hb] at e
      cases e
      rw [Nat.eq_of_beq_eq_true hb]
      exact ⟨rv, by simp, h⟩
    | false =>
      rw [hb] at e
      obtain ⟨rv', h1, h2⟩ := zip_lookup hn (fun q hq => hp q (.tail _ hq)) r e
      refine ⟨rv', ?_, h2⟩
      have hne : (nm n == nm p) = false := beq_eq_false_iff_ne.mpr fun z => by
        have := nmI hn (hp p (.head _)) z
        rw [this, Nat.beq_refl] at hb; cases hb
      rw [List.map_cons, List.zip_cons_cons, List.lookup_cons, hne]
      exact h1
theorem nodupS_iff : ∀ {ks : List Nat}, nodupS ks = true → ks.Nodup
  | [], _ => .nil
  | k :: r, h => by
    unfold nodupS at h
    replace h := and2 h
    exact List.nodup_cons.mpr ⟨by simpa using h.1, nodupS_iff h.2⟩
theorem lookup_rev {l : List (Str × Value)} (hn : (l.map (·.1)).Nodup) {x : Str} {v : Value} (h : l.lookup x = some v) : l.reverse.lookup x = some v := by
  induction l with
  | nil => cases h
  | cons p r ih =>
    obtain ⟨y, w⟩ := p
    obtain ⟨h1, h2⟩ := List.nodup_cons.mp hn
    rw [List.reverse_cons, List.lookup_append]
    rw [List.lookup_cons] at h
    cases hb : x == y with
    | true =>
      rw [hb] at h
      cases h
      obtain rfl := eq_of_beq hb
      have : r.reverse.lookup x = none := by
        cases q : r.reverse.lookup x with
        | none => rfl
        | some z => exact absurd (List.mem_map_of_mem (f := (·.1)) (List.mem_reverse.mp (mem_of_lookup q))) h1
      rw [this]
      simp
    | false =>
      rw [hb] at h
      rw [ih h2 h]; rfl
theorem zip_names : ∀ (ps : List Nat) (rvs : List Value), rvs.length = ps.length → ((ps.map nm).zip rvs).map (·.1) = ps.map nm
  | [], [], _ => rfl
  | p :: ps, v :: rvs, h => congrArg (nm p :: ·) (zip_names ps rvs (by simpa using h))
  | [], _ :: _, h => by simp at h
  | _ :: _, [], h => by simp at h
theorem nodup_nm {ps : List Nat} (h1 : ps.Nodup) (h2 : ∀ p ∈ ps, p < 41) : (ps.map nm).Nodup := by
  induction ps with
  | nil => exact .nil
  | cons p ps ih =>
    obtain ⟨a, b⟩ := List.nodup_cons.mp h1
    refine List.nodup_cons.mpr ⟨fun hm => ?_, ih b fun q hq => h2 q (.tail _ hq)⟩
    obtain ⟨q, hq, e⟩ := List.mem_map.mp hm
    have := nmI (h2 q (.tail _ hq)) (h2 p (.head _)) e
    exact a (this ▸ hq)

theorem mem_zipL {n : Nat} {v : V} : ∀ {ps : List Nat} {vs : List V}, (n, v) ∈ zipL ps vs → n ∈ ps
  | [], _, h => by cases h
  | _ :: _, [], h => by cases h
  | p :: ps, v0 :: vs, h => by
    rcases List.mem_cons.mp h with h | h
    · cases h; exact .head _
    · exact .tail _ (mem_zipL h)
section
variable {k : Str → Option NameKind} {n : Str} {v : Value}
theorem bindL_other : ∀ {b : List (Str × Value)} {m : Str → Option Value}, n ∉ b.map (·.1) → bindL k b m n = m n
  | [], _, _ => rfl
  | (x, w) :: r, m, h => by
    unfold bindL
    rw [bindL_other fun z => h (.tail _ z)]
    split
    · exact if_neg fun z => h (by rw [z]; exact .head _)
    · rfl
theorem bindC_other : ∀ {b : List (Str × Value)} {m : Str → Option Value}, n ∉ b.map (·.1) → bindC k b m n = m n
  | [], _, _ => rfl
  | (x, w) :: r, m, h => by
    unfold bindC
    rw [bindC_other fun z => h (.tail _ z)]
    split
    · rfl
    · exact if_neg fun z => h (by rw [z]; exact .head _)
theorem bindL_get : ∀ {b : List (Str × Value)} {m : Str → Option Value}, (b.map (·.1)).Nodup → k n = some .local → b.lookup n = some v → bindL k b m n = some v
  | (x, w) :: r, m, hd, hk, e => by
    obtain ⟨h1, h2⟩ := List.nodup_cons.mp hd
    unfold bindL
    rw [List.lookup_cons] at e
    cases hb : n == x with
    | true =>
      rw [hb] at e; cases e
      rw [eq_of_beq hb] at hk ⊢
      rw [bindL_other h1, if_pos hk]
      exact if_pos rfl
    | false =>
      rw [hb] at e
      exact bindL_get h2 hk e
theorem bindC_get : ∀ {b : List (Str × Value)} {m : Str → Option Value}, (b.map (·.1)).Nodup → k n ≠ some .local → b.lookup n = some v → bindC k b m n = some v
  | (x, w) :: r, m, hd, hk, e => by
    obtain ⟨h1, h2⟩ := List.nodup_cons.mp hd
    unfold bindC
    rw [List.lookup_cons] at e
    cases hb : n == x with
    | true =>
      rw [hb] at e; cases e
      rw [eq_of_beq hb] at hk ⊢
      rw [bindC_other h1, if_neg hk]
      exact if_pos rfl
    | false =>
      rw [hb] at e
      exact bindC_get h2 hk e
theorem cells_fst {cm : Str → Option Value} : ∀ {cs : List (Str × Addr)} {cells : List (Addr × Obj)}, CellsAre cm cs cells → cells.map (·.1) = cs.map (·.2)
  | _, _, .nil => rfl
  | _, _, .cons _ r => congrArg (_ :: ·) (cells_fst r)
theorem cells_nodup {cm : Str → Option Value} {cs : List (Str × Addr)} {cells : List (Addr × Obj)} (h : CellsAre cm cs cells) (ha : cs.Pairwise fun x y => x.2 ≠ y.2) : (cells.map (·.1)).Nodup := by
  rw [cells_fst h]
  exact List.pairwise_map.mpr ha
theorem cells_get {cm : Str → Option Value} {ca : Addr} : ∀ {cs : List (Str × Addr)} {cells : List (Addr × Obj)}, CellsAre cm cs cells → cs.lookup n = some ca → ∃ o, (ca, o) ∈ cells ∧ o.data = .cell (cm n)
  | _, _, .cons (n := x) (o := o) hd r, e => by
    rw [List.lookup_cons] at e
    cases hb : n == x with
    | true =>
      rw [hb] at e; cases e
      rw [eq_of_beq hb]
      exact ⟨o, .head _, hd⟩
    | false =>
      rw [hb] at e
      obtain ⟨o', h1, h2⟩ := cells_get r e
      exact ⟨o', .tail _ h1, h2⟩
end

section
variable {prog : Program} {w : World} {K : Frag} {mg mb : Str → Option Value}
/-- into a def and back -/
theorem defIn (kf : KF K) (hR : RaiseOk K mg mb) {f : Addr} {qual : Str} {bodyS : List Stmt} {scope : Scope} {cdv : Value} {params : List Nat} {body : Ss} {dfl : List Value} (D : DefAt K f qual bodyS scope cdv params body dfl) {Γ : Nat → FSpec} {ℓ : Nat} (hΓ : ∀ f, f < 30 → SoundF prog w K mg mb ℓ f (Γ f))
    {XQ : Str → Prop} {c : Cx} {A : Around} {fro : List (Addr × Obj)} {ρ : List Addr} {m : Str → Option Value} {obs : List Ob} {s : Shared} {vs : List V} {rvs args : List Value} {q : V → List Ob → Prop} {Er : Value → Shared → Prop} {R : Result → Shared → Prop} (ha : args.length ≤ params.length) (hrv : rvs = args ++ dfl.drop (args.length + dfl.length - params.length)) (O : c.Ok0 K mg mb) (hlow : LowAt c m) (oa : OkA c (ℓ + 1) A)
    (C : CS c.base c.L m fro c.rest ρ obs s.heap) (Cg : og s = c.og) (hv : VRs (kn c.base fro) ρ vs rvs) (vc : vcF Γ params body vs obs q XQ)
    (hs : ∀ fro' ρ' obs' v rv s', (∀ p ∈ fro, p ∈ fro') → ρ <+: ρ' → CS c.base c.L m fro' c.rest ρ' obs' s'.heap → og s' = c.og → VR (kn c.base fro') ρ' v rv → q v obs' → R (.ok (.ret rv)) s') (hE : ∀ e s', Er e s' → R (.error e) s') (hr : Rai c XQ Er) :
    codeAny (model prog w) A (.call (.ref f) ⟨args, []⟩) R s := by
  obtain ⟨name, prm, dV, kV, doc, pm, an, ct, oc, od, osl, ho, hbind⟩ := D.ex
  obtain ⟨hlen, vc⟩ := vc
  have hrl : rvs.length = params.length := by rw [hv.length, hlen]
  have hloc : ∀ p ∈ params, isPar scope p = true := fun p hp => List.all_eq_true.mp D.loc p hp
  have h41 : ∀ p ∈ params, p < 41 := fun p hp => (isPar_parts (hloc p hp)).1
  have hnd := nodup_nm (nodupS_iff D.nd) h41
  obtain ⟨oL, es, ep, hL, hLd, hLk, hLf⟩ := C.fr.ns
  have hLt := Heap.lt_size hL
  have X := O.X.keeps C.fr.keep
  have hroom2 : params.length ≤ args.length + dfl.length := by
    rw [hrv, List.length_append, List.length_drop] at hrl
    omega
  have hzn := zip_names params rvs hrl
  have hkk : ∀ y ∈ (params.map nm).zip rvs, scope.names.lookup y.1 = some .local ∨ scope.names.lookup y.1 = some .cell := fun y hy => by
    have : y.1 ∈ ((params.map nm).zip rvs).map (·.1) := List.mem_map_of_mem hy
    rw [hzn] at this
    obtain ⟨p, hp, e⟩ := List.mem_map.mp this
    rw [← e]
    exact (isPar_parts (hloc p hp)).2
  have hcf : ∀ z, scope.names.lookup z = some .cell → ((cellsFrom (s.heap.objs.size + 1) scope.names []).lookup z).isSome = true := fun z hz => cellsFrom_some _ _ _ (.inl hz)
  refine codeAny_call_function (fd := fnOf name qual prm bodyS scope dV kV doc pm an cdv ct) (by have := oa.dep; omega) (X _ _ ho) rfl D.co D.gen rfl (codeRec_of X D.code) ((hrv ▸ hbind s args X ha hroom2) _ _ _ _ ?_)
  refine wpAny_newFunctionEnv_cells D.kind (fun y hy => (hkk y hy).imp id fun e => ⟨e, hcf _ e⟩) fun env' he s' x => ?_
  subst he
  refine ⟨(O.T.nolimit.keeps C.fr.keep).keeps x.toInCall.keep, codeAny_func ?_⟩
  obtain ⟨h₁, tk, rfl, _⟩ := x.done
  have hk₁ := x.toInCall.keep
  have hns := x.toInCall.ns
  obtain ⟨cells, NC, Y⟩ := Cl.news (h₀ := s.heap) (Nat.le_refl _) fun n c hm => ⟨x.cell n c (lookup_of_mem_nodup (cellsFrom_names scope.names 0 (s.heap.objs.size + 1) [] [] rfl ▸ D.cnd) hm), x.above n c hm⟩
  have hcd := cells_nodup Y x.apart
  clear x
  let c' : Cx := { base := c.base, L := s.heap.objs.size, cn := qual, cs := scope, cl := cellsFrom (s.heap.objs.size + 1) scope.names [], a := f, ccd := cdv, outer := c.env :: c.outer, rest := (c.L, oL) :: c.rest, L0 := c.L0, m0 := c.m0, xb := c.xb, og := c.og }
  let P : Ps := { prog := prog, w := w, c := c', ℓ := ℓ, Γ := Γ, XQ := XQ, n0 := obs.length, ρ0 := ρ }
  have O' : c'.Ok K mg mb := by
    refine ⟨D.kind, fun x hx => Option.isSome_iff_exists.mp (hcf x hx), O.X, O.T, fun env he => ?_, fun b o e => (O.xs b o e).imp id (.tail _), ?_, ?_⟩
    · rcases List.mem_cons.mp he with rfl | he
      · refine ⟨?_, c.L, oL, rfl, .head _, O.xL, fun vs q => by rw [hLd] at q; cases q⟩
        have : c.env.scope.kind = .function := O.kind
        rw [this]; decide
      · obtain ⟨h1, L, o, h2, h3, h4⟩ := O.outs env he
        exact ⟨h1, L, o, h2, .tail _ h3, h4⟩
    · show c.xb.get? s.heap.objs.size = none
      cases qx : c.xb.get? s.heap.objs.size with
      | none => rfl
      | some ox =>
        have : s.heap.get? s.heap.objs.size = some ox := by
          rcases O.xs _ _ qx with h1 | h1
          · exact C.fr.keep _ _ h1
          · obtain ⟨own, N, _, _⟩ := C.own
            exact (N (_, ox) (List.mem_append_right _ (List.mem_append_right _ h1))).1
        exact absurd (Heap.lt_size this) (Nat.lt_irrefl _)
    · rcases hlow with (⟨o, es', ep', h1, h2⟩ | h1) | ⟨h1, h2⟩
      · exact .inl ⟨o, es', ep', .tail _ h1, h2⟩
      · exact .inr h1
      · exact .inl ⟨oL, es, ep, h1 ▸ .head _, hLd, hLk, fun name => (hLf name).trans (h2 name)⟩
  have oa' : OkA c' ℓ (A.deeper c'.env) := by
    refine ⟨?_, oa.hd, ?_, ?_⟩
    · show A.frames.map (c'.env :: ·) = _
      rw [oa.fr]; rfl
    · have := oa.dep
      show A.depth + 1 + 4 * ℓ + 8 < _
      omega
    · have := oa.un
      show A.units + 3 + 200 * ℓ + 100 < _
      omega
  obtain ⟨own, N, hn, rO⟩ := C.own
  have hbn : ∀ p ∈ cells, c.base.get? p.1 = none := fun p hp => by
    cases q : c.base.get? p.1 with
    | none => rfl
    | some o => have := C.fr.keep _ _ q; rw [(NC p hp).2.2] at this; cases this
  have C' : CS c.base s.heap.objs.size (bindL c'.env.kindOf ((params.map nm).zip rvs) fun _ => none) (cells ++ fro) ((c.L, oL) :: c.rest) ρ obs h₁ := by
    refine ⟨⟨hns, fun b o e => hk₁ b o (C.fr.keep b o e), Nat.le_trans C.fr.above (Nat.le_of_lt hLt)⟩, own, fun p hp => ?_, ?_, rO.mono (kn_mono fun _ hp => List.mem_append_right _ hp) (rfP _)⟩
    · have old : ∀ p, p ∈ own ++ (fro ++ c.rest) → (h₁.get? p.1 = some p.2 ∧ p.1 ≠ s.heap.objs.size ∧ c.base.get? p.1 = none) := fun p hp => ⟨hk₁ _ _ (N p hp).1, Nat.ne_of_lt (Heap.lt_size (N p hp).1), (N p hp).2.2⟩
      rcases List.mem_append.mp hp with hp | hp
      · exact old p (List.mem_append_left _ hp)
      · rcases List.mem_append.mp hp with hp | hp
        · rcases List.mem_append.mp hp with hp | hp
          · exact ⟨(NC p hp).1, (NC p hp).2.1, hbn p hp⟩
          · exact old p (List.mem_append_right _ (List.mem_append_left _ hp))
        · rcases List.mem_cons.mp hp with rfl | hp
          · exact ⟨hk₁ _ _ hL, Nat.ne_of_lt hLt, Heap.get?_none_of_le C.fr.above⟩
          · exact old p (List.mem_append_right _ (List.mem_append_right _ hp))
    · have e0 : List.Perm (own ++ ((cells ++ fro) ++ (c.L, oL) :: c.rest)) (cells ++ ((c.L, oL) :: (own ++ (fro ++ c.rest)))) := by
        have p1 : List.Perm (own ++ ((cells ++ fro) ++ (c.L, oL) :: c.rest)) (cells ++ (own ++ (fro ++ (c.L, oL) :: c.rest))) := by
          rw [List.append_assoc cells, ← List.append_assoc, ← List.append_assoc cells]
          exact List.Perm.append_right _ List.perm_append_comm
        refine p1.trans (List.Perm.append_left _ ?_)
        simp only [← List.append_assoc]
        exact List.perm_middle
      have hold : ∀ p ∈ (c.L, oL) :: (own ++ (fro ++ c.rest)), s.heap.get? p.1 = some p.2 := fun p hp => by
        rcases List.mem_cons.mp hp with rfl | hp
        · exact hL
        · exact (N p hp).1
      refine (e0.map (·.1)).nodup_iff.mpr ?_
      rw [List.map_append, List.nodup_append]
      refine ⟨hcd, List.nodup_cons.mpr ⟨fun hm => ?_, hn⟩, fun a ha b hb e => ?_⟩
      · obtain ⟨p, hp, e⟩ := List.mem_map.mp hm
        exact (N p hp).2.1 e
      · obtain ⟨p, hp, rfl⟩ := List.mem_map.mp ha
        obtain ⟨q, hq, rfl⟩ := List.mem_map.mp hb
        have := hold q hq
        rw [← e, (NC p hp).2.2] at this; cases this
  have RS' : RS c' ⟨zipL params vs, obs⟩ (cells ++ fro) ρ (bindL c'.env.kindOf ((params.map nm).zip rvs) fun _ => none) h₁ (og s) := by
    refine ⟨C', fun n v e => ?_, Cg⟩
    have hm : n ∈ params := mem_zipL (mem_of_getN e)
    obtain ⟨rv, h1, h2⟩ := zip_lookup (h41 n hm) h41 hv e
    refine ⟨h41 n hm, rv, h2.mono (kn_mono fun _ hp => List.mem_append_right _ hp) (rfP _), ?_⟩
    rcases (isPar_parts (hloc n hm)).2 with hk | hk
    · exact .inl ⟨hk, bindL_get (by rw [hzn]; exact hnd) hk h1⟩
    · obtain ⟨ca, hca⟩ := Option.isSome_iff_exists.mp (hcf _ hk)
      obtain ⟨o, g1, g2⟩ := cells_get Y hca
      refine .inr ⟨hk, ca, o, hca, .inr (List.mem_append_left _ g1), g2.trans (congrArg _ (bindC_get (by rw [hzn]; exact hnd) (by show scope.names.lookup _ ≠ _; rw [hk]; intro z; cases z) h1))⟩
  -- and back
  have goBack : ∀ fro' ρ' m' obs' h', CS c.base s.heap.objs.size m' fro' ((c.L, oL) :: c.rest) ρ' obs' h' → CS c.base c.L m fro' c.rest ρ' obs' h' := by
    intro fro' ρ' m' obs' h' C2
    obtain ⟨own2, N2, hn2, r2⟩ := C2.own
    have NL := (N2 (c.L, oL) (List.mem_append_right _ (List.mem_append_right _ (.head _)))).1
    have e0 : List.Perm (own2 ++ (fro' ++ (c.L, oL) :: c.rest)) ((c.L, oL) :: (own2 ++ (fro' ++ c.rest))) := by
      simp only [← List.append_assoc]
      exact List.perm_middle
    have hnd2 := List.nodup_cons.mp ((e0.map (·.1)).nodup_iff.mp hn2)
    refine ⟨⟨⟨oL, es, ep, NL, hLd, hLk, hLf⟩, C2.fr.keep, C.fr.above⟩, own2, fun p hp => ?_, hnd2.2, r2⟩
    have z := N2 p (e0.mem_iff.mpr (.tail _ hp))
    exact ⟨z.1, fun e => hnd2.1 (List.mem_map.mpr ⟨p, hp, e⟩), z.2.2⟩
  refine ssOk kf hR body P O' (by show ρ.length = obs.length; exact rO.length) (fun r hr => hcall_of (P := (P.wr r).toPm) (CxOk_wr O' hr) hΓ) bodyS D.mt (A.deeper c'.env) _ (cells ++ fro) ρ _ { s with heap := h₁, toks := tk } _ _ (fun fl s' => R (.ok (.ret (match fl with | .ret v => v | _ => .none))) s') _ oa' (rfP ρ) RS' vc
    (fun fro' ρ' m' σ' s' h1 h2 h3 h4 => ?_) (fun fro' ρ' m' σ' v rv s' h1 h2 h3 h4 h5 => ?_) (fun why e s' hw hx hg => ?_)
  · obtain ⟨j, h4, h5⟩ := h4
    obtain ⟨R1, l1, l2⟩ := h3.keep (ns := []) (n0 := obs.length) (k := obs.length + j) h4
    exact hs fro' _ _ (.d .none) .none s' (fun p hp => h1 p (List.mem_append_right _ hp)) (take_prefix h2 (by rw [rO.length]; exact Nat.le_add_right _ _)) (goBack _ _ _ _ _ R1.cs) R1.oge (.d .none) h5
  · exact hs fro' ρ' _ v rv s' (fun p hp => h1 p (List.mem_append_right _ hp)) h2 (goBack _ _ _ _ _ h3.cs) h3.oge h4 h5
  · refine leave_sound (env := c'.env) oa'.fr rfl hx fun h' hx' => hE e _ (hr why e { s' with heap := h' } hw hx' hg)
/-- a def's word from its body's -/
theorem soundDef (kf : KF K) (hR : RaiseOk K mg mb) {f : Nat} {qual : Str} {bodyS : List Stmt} {scope : Scope} {cdv : Value} {params : List Nat} {body : Ss} {dfl : List Value} (D : DefAt K (fAddr f) qual bodyS scope cdv params body dfl) {Γ : Nat → FSpec} {ℓ : Nat} (hΓ : ∀ f, f < 30 → SoundF prog w K mg mb ℓ f (Γ f)) {S : FSpec}
    (hS : ∀ vs obs q XQ, S vs obs q XQ → vcF Γ params body vs obs q XQ) : SoundF prog w K mg mb (ℓ + 1) f S := by
  intro XQ c A fro ρ m obs s vs rvs q Qr Er O lw oa C Cg hv vc hs hr
  have hl : rvs.length = params.length := by rw [hv.length, (hS _ _ _ _ vc).1]
  exact wpAny_call (defIn kf hR D hΓ (args := rvs) (Nat.le_of_eq hl) (by rw [show rvs.length + dfl.length - params.length = dfl.length by omega, List.drop_length, List.append_nil]) O lw oa C Cg hv (hS _ _ _ _ vc) hs (fun _ _ h => h) hr)
end
end Mine
end

section
open PySem PySem.W PyProof.Rows PySem.Calls
set_option linter.unusedVariables false
set_option maxRecDepth 100000
namespace Mine

noncomputable def bmM : List Value := [.ref 38, .type "Exception", .type "BaseException", .type "object"]
section
variable {h : Heap} {g : Array GenState} {d : Drawn} {t : Nat} {os : OsState} {nm q : Str} {C N : Addr} {bs : List Value} {hdct : Bool} {sn : List Str} {sub : List Value} {ab : Bool} {col : Option Bool} {dd : Option Addr} {k0 k1 k2 k3 k5 : Option Value}
theorem exc_check {M : Model} {A : Around} {E : Value → Shared → Prop} {rest : List Value} {Q : Unit → Shared → Prop} (hC : h.get? C = some (excClassObj nm q C N bs bmM hdct sn sub ab col dd k0 k1 k2 k3 k5 "Exception.__new__"))
    (hq : Q () ⟨h, g, d, t, os⟩) : wpAny M A (checkBuiltinCall "Exception.__new__" ⟨.ref C :: rest, []⟩) Q E ⟨h, g, d, t, os⟩ := by
  have F := PySem.F.excBase_Exception
  have hcont : (Value.ref C :: bmM).contains (.type "Exception") = true := by rw [List.contains_cons]; simp [bmM]
  have hstar := F.noStar
  simp only [checkBuiltinCall, F.newKind, F.newSplit, F.newRow]
  repeat (first | refine wpAny_loadPart_at hC ?_ | (refine wpAny_isSubtype_exc hC ?_; rw [hcont]) | refine wpAny_staticBase_exc hC ?_ | refine wpAny_madeBy_exc hC ?_ | simp only [bne_self_eq_false, Bool.false_eq_true, if_false] | wp_step)
  exact hq
theorem exc_new {prog : Program} {w : World} {A : Around} {R : Result → Shared → Prop} {rest : List Value} (hC : h.get? C = some (excClassObj nm q C N bs bmM hdct sn sub ab col dd k0 k1 k2 k3 k5 "Exception.__new__")) (hrest : rest.length ≤ sizeLine)
    (hq : R (.ok (.ret (.ref (h.objs.size + 1)))) ⟨(h.push { cls := .type "tuple", data := .seq rest.toArray }).push { cls := .ref C, data := .fields #[.ref h.objs.size, .none, .none, .none, .bool false, .none] }, g, d, t, os⟩) :
    codeAny (model prog w) A (.builtin "Exception.__new__" ⟨.ref C :: rest, []⟩) R ⟨h, g, d, t, os⟩ := by
  have F := PySem.F.excBase_Exception
  have hends := F.ends
  have hcB : (Value.ref C :: bmM).contains (.type "Exception") = true := by rw [List.contains_cons]; simp [bmM]
  have hcA : (Value.ref C :: bmM).contains (.type "AttributeError") = false := by rw [List.contains_cons]; simp [bmM]
  have hcN : (Value.ref C :: bmM).contains (.type "NameError") = false := by rw [List.contains_cons]; simp [bmM]
  refine codeAny_builtinAt F.entry ?_
  unfold Builtin.«BaseException.__new__»
  refine PySem.wpAt_bind ?_
  show PySem.wpAt _ _ _ (stack >>= _) _ _ _
  refine PySem.wpAt_bind (PySem.wpAt_stack fun p below => PySem.wpAt_of_wpAny ?_)
  wp_walk
  refine PySem.wpAt_of_wpAny ?_
  rw [F.owner]
  repeat (first | with_reducible refine wpAny_madeHere_exc F.canon hC ?_ | with_reducible refine wpAny_loadPart_at hC ?_ | (with_reducible refine wpAny_isSubtype_exc hC ?_; first | rw [hcB] | rw [hcA] | rw [hcN]) | wp_step)
  show R _ _
  rw [Heap.size_push]
  exact hq
/-- what an own __init__ gives back to the making -/
theorem exc_type_call {prog : Program} {w : World} {A : Around} {E : Value → Shared → Prop} {rest : List Value} {K : Frag} {fI : Addr} {Q : Fin → Shared → Prop} (X : K.In h) (hi : findIn K (.ref C) "__init__" = some (some (.ref fI))) (hf : typeIn K (.ref fI) = some (.type "function"))
    (hC : h.get? C = some (excClassObj nm q C N bs bmM hdct sn sub ab col dd k0 k1 k2 k3 k5 "Exception.__new__")) (hrest : rest.length ≤ sizeLine)
    (hq : codeAny (model prog w) A (.call (.ref fI) ⟨.ref (h.objs.size + 1) :: rest, []⟩) (fun r s' => match r with | .ok (.ret v) => v = .none ∧ Q (.done (.ret (.ref (h.objs.size + 1)))) s' | .ok _ => False | .error e => E e s')
      ⟨(h.push { cls := .type "tuple", data := .seq rest.toArray }).push { cls := .ref C, data := .fields #[.ref h.objs.size, .none, .none, .none, .bool false, .none] }, g, d, t, os⟩) :
    wpAny (model prog w) A (Builtin.«type.__call__» ⟨.ref C :: rest, []⟩) Q E ⟨h, g, d, t, os⟩ := by
  have F := PySem.F.excBase_Exception
  repeat (first | with_reducible refine wpAny_loadPart_at hC ?_ | with_reducible refine wpAny_madeBy_exc hC ?_ | wp_step)
  refine codeAny_call_builtin_code (Code.quiet_builtin _ F.quiet) (exc_check hC ?_)
  refine exc_new hC hrest ?_
  show wpAny _ _ _ _ _ _
  have kk : ∀ b o, h.get? b = some o → ((h.push { cls := .type "tuple", data := .seq rest.toArray }).push { cls := .ref C, data := .fields #[.ref h.objs.size, .none, .none, .none, .bool false, .none] }).get? b = some o := fun b o e => Heap.get?_push_of_some _ (Heap.get?_push_of_some _ e)
  have hC₁ := kk _ _ hC
  have X₁ := X.keeps kk
  have hget : ((h.push { cls := .type "tuple", data := .seq rest.toArray }).push
      { cls := .ref C, data := .fields #[.ref h.objs.size, .none, .none, .none, .bool false, .none] }).get? (h.objs.size + 1) = some
      { cls := .ref C, data := .fields #[.ref h.objs.size, .none, .none, .none, .bool false, .none] } := by heap_get
  have hcC : (Value.ref C :: bmM).contains (.ref C) = true := by simp
  unfold isInstance
  repeat (first | with_reducible refine wpAny_loadPart_at hget ?_ | (with_reducible refine wpAny_isSubtype_exc hC₁ ?_; rw [hcC]) | wp_step)
  show wpAny _ _ (typeLookup (.ref C) _) _ _ _
  refine (looks_findIn X₁ hi).at ?_
  refine wpAny_holding (wpAny_bind ((bind_fn X₁ _ hf).at ?_))
  refine wpAny_bind (wpAny_call (codeAny_mono hq fun r s' z => ?_))
  rcases r with e | (v | _ | _ | _) <;> first | exact z | exact z.elim | skip
  obtain ⟨rfl, z⟩ := z
  exact wpAny_pure (wpAny_pure z)
end
end Mine
end

section
open PySem
set_option linter.unusedVariables false
set_option maxRecDepth 100000
namespace Mine
section
variable {prog : Program} {w : World} {A : Around} {E : Value → Shared → Prop} {h : Heap} {g : Array GenState} {d : Drawn} {t : Nat} {os : OsState}
variable {nm q : Str} {C N x : Addr} {bs : List Value} {sn : List Str} {sub : List Value} {ab : Bool} {col : Option Bool} {dd : Option Addr} {k0 k1 k2 k3 k5 : Option Value} {K : PySem.W.Frag} {mA : Str → Option Value} {name : Str} {v : Value}
theorem passesM (self : Value) : refuseLoop self "__setattr__" (.ref 58 :: bmM) = pure () := by
  unfold bmM
  rw [refuseLoop_ref, refuseLoop_ref]
  exact PySem.F.store_Exception.passes self
theorem sa_check {M : Model} {o : Obj} {nameV : Value} {Q : Unit → Shared → Prop} (hC : h.get? C = some (excClassObj nm q C N bs bmM true sn sub ab col dd k0 k1 k2 k3 k5 "Exception.__new__")) (hx : h.get? x = some o) (hc : o.cls = .ref C) (hq : Q () ⟨h, g, d, t, os⟩) :
    wpAny M A (checkBuiltinCall "object.__setattr__" ⟨[.ref x, nameV, v], []⟩) Q E ⟨h, g, d, t, os⟩ := by
  have SF := PySem.F.store_Exception
  have hcB : (Value.ref C :: bmM).contains (.type "object") = true := by rw [List.contains_cons]; simp [bmM]
  have ha := SF.args (.ref x) nameV v
  simp only [checkBuiltinCall, SF.kind, SF.split]
  refine wpAny_bind ?_
  · unfold isInstance
    repeat (first | (with_reducible refine wpAny_loadPart_at hx ?_; rw [hc]) | (with_reducible refine wpAny_isSubtype_exc hC ?_; rw [hcB]) | wp_step)
    exact hq
theorem saEntry {tk : Tok} {Q : Fin → Shared → Prop} {ns : List Str} (X : K.In h) (hC : h.get? 58 = some (excClassObj nm q 58 N bs bmM true sn sub ab col dd k0 k1 k2 k3 k5 "Exception.__new__")) (hna : PySem.W.findIn K (.ref 58) name = some none)
    (I : h.Inst x 58 mA)
    (hq : ∀ h' tk', h'.Inst x 58 (fun y => if y = name then some v else mA y) →
      (∀ b o, b ≠ x → (∀ o₀ dx, h.get? x = some o₀ → o₀.dict = some dx → b ≠ dx) → h.get? b = some o → h'.get? b = some o) →
      (∀ o₀, h.get? x = some o₀ → ∃ o₁, h'.get? x = some o₁ ∧ o₁.cls = o₀.cls ∧ o₁.data = o₀.data ∧ o₁.slots = o₀.slots ∧ ∀ dx, o₀.dict = some dx → o₁.dict = some dx) →
      (∀ o₀, h.get? x = some o₀ → o₀.dict = none → ∃ o₁ dx, h'.get? x = some o₁ ∧ o₁.dict = some dx ∧ h.get? dx = none) → Q (.done (.ret .none)) ⟨h', g, d, tk', os⟩) (hw : Within mA ns) (hsz : ns.length ≤ 100) :
    wpAny (model prog w) A (Builtin.«object.__setattr__» ⟨[.ref x, .str name tk, v], []⟩) Q E ⟨h, g, d, t, os⟩ := by
  obtain ⟨o, hx, hc, hnc, hd⟩ := I
  have hpass := passesM (.ref x)
  unfold Builtin.«object.__setattr__»
  repeat (first | rw [refuse_eq] | rw [hpass] | (with_reducible refine wpAny_loadPart_at hx ?_; rw [hc]) | with_reducible refine wpAny_mroOf_exc hC ?_ | (with_reducible refine (PySem.W.looks_findIn X hna).at ?_) | wp_step)
  rcases hd with ⟨hdn, hmA⟩ | ⟨dx, hdx, hne, hns⟩
  · rw [hdn, if_neg (by simp [typeHasDict])]
    split
    · rename_i hcd
      cases hcd
    split
    · rename_i c hcd
      exact absurd hcd (hnc c)
    · have hx₁ : (h.push { cls := .type "dict", data := .dict #[] }).get? x = some o := Heap.get?_push_of_some _ hx
      have hxs : x ≠ h.objs.size := Nat.ne_of_lt (Heap.lt_size hx)
      refine wpAny_bind (wpAny_alloc' ?_)
      refine wpAny_bind (wpAny_update' hx₁ ?_)
      refine wpAny_pure ?_
      have hgd : ((h.push { cls := .type "dict", data := .dict #[] }).update x fun o => { cls := o.cls, dict := some h.objs.size, data := o.data, slots := o.slots }).get? h.objs.size
          = some { cls := .type "dict", data := .dict #[] } :=
        (Heap.get?_update_ne _ _ _ _ hxs.symm).trans (Heap.get?_push_at rfl rfl)
      have hnd : ((h.push { cls := .type "dict", data := .dict #[] }).update x fun o => { cls := o.cls, dict := some h.objs.size, data := o.data, slots := o.slots }).Ns h.objs.size (fun _ => none) :=
        ⟨_, #[], _, hgd, rfl, fun e he => absurd he (by simp), fun _ => rfl⟩
      show wpAny _ _ (Builtin.ObjectAttr.storeInDict h.objs.size (.str name tk) name v) _ _ _
      unfold Builtin.ObjectAttr.storeInDict Builtin.ObjectAttr.newKeyGuard
      refine wpAny_bind (wpAny_pure (wpAny_bind (wpAny_nsSet1 (Heap.Ns1.of_empty hnd) fun h' hn' hs => ?_)))
      obtain ⟨oD, esD, epD, hoD, hdD, hcD⟩ := hn'.count (Within.cons name v Within.nil)
      refine wpAny_bind (wpAny_lookBehind hoD (by rw [hdD]; exact pastItsLine_dict (Nat.le_trans hcD (by rw [List.length_cons, List.length_nil, sizeLine_eq]; omega))) ?_)
      wp_walk
      have hx' : h'.get? x = some { cls := o.cls, dict := some h.objs.size, data := o.data, slots := o.slots } := ?_
      refine hq h' _ ⟨{ cls := o.cls, dict := some h.objs.size, data := o.data, slots := o.slots }, hx', hc, hnc, .inr ⟨h.objs.size, rfl, hxs.symm, ?_⟩⟩ (fun b ob hbx _ hb => ?_)
        (fun o₀ h₀ => by obtain rfl : o = o₀ := Option.some.inj (hx.symm.trans h₀); exact ⟨_, hx', rfl, rfl, rfl, fun dx e => by rw [hdn] at e; cases e⟩)
        (fun o₀ h₀ _ => ⟨_, _, hx', rfl, Heap.get?_none_of_le (Nat.le_refl _)⟩)
      · obtain ⟨o', es, ep, e1, e2, e3, eu, e4⟩ := hn'
        exact ⟨o', es, ep, e1, e2, e3, eu, fun y => by rw [e4 y]; by_cases hy : y = name <;> simp [hy, hmA]⟩
      · exact (hs.2 b (Nat.ne_of_lt (Heap.lt_size hb))).trans ((Heap.get?_update_ne _ _ _ _ hbx).trans (Heap.get?_push_of_some _ hb))
      · refine (hs.2 x hxs).trans (Heap.get?_update_self _ hx₁ ?_)
        have hfr := (Heap.get?_some_iff.mp hx).2
        obtain ⟨oc, od, odt, osl⟩ := o
        cases odt <;> first | rfl | exact hfr
  · rw [hdx]
    refine wpAny_pure ?_
    show wpAny _ _ (Builtin.ObjectAttr.storeInDict dx (.str name tk) name v) _ _ _
    unfold Builtin.ObjectAttr.storeInDict Builtin.ObjectAttr.newKeyGuard
    refine wpAny_bind (wpAny_pure (wpAny_bind (wpAny_nsSet1 hns fun h' hn' hs => ?_)))
    obtain ⟨oD, esD, epD, hoD, hdD, hcD⟩ := hn'.count (Within.cons name v hw)
    refine wpAny_bind (wpAny_lookBehind hoD (by rw [hdD]; exact pastItsLine_dict (Nat.le_trans hcD (by rw [List.length_cons, sizeLine_eq]; omega))) ?_)
    wp_walk
    refine hq h' _ ⟨o, (hs.2 x hne.symm).trans hx, hc, hnc, .inr ⟨dx, hdx, hne, hn'⟩⟩ (fun b ob _ hbd hb => ?_)
      (fun o₀ h₀ => ⟨o₀, (hs.2 x hne.symm).trans h₀, rfl, rfl, rfl, fun _ e => e⟩) (fun o₀ h₀ hn => by rw [hx] at h₀; cases h₀; rw [hdx] at hn; cases hn)
    exact (hs.2 b (hbd o dx hx hdx)).trans hb
/-- an attribute of an exception of ours is stored -/
theorem saAttr {Q : Unit → Shared → Prop} {ns : List Str} (X : K.In h) (hC : h.get? 58 = some (excClassObj nm q 58 N bs bmM true sn sub ab col dd k0 k1 k2 k3 k5 "Exception.__new__")) (hs : PySem.W.findIn K (.ref 58) "__setattr__" = some (some (.builtin "object.__setattr__"))) (hna : PySem.W.findIn K (.ref 58) name = some none)
    (I : h.Inst x 58 mA)
    (hq : ∀ h' tk', h'.Inst x 58 (fun y => if y = name then some v else mA y) →
      (∀ b o, b ≠ x → (∀ o₀ dx, h.get? x = some o₀ → o₀.dict = some dx → b ≠ dx) → h.get? b = some o → h'.get? b = some o) →
      (∀ o₀, h.get? x = some o₀ → ∃ o₁, h'.get? x = some o₁ ∧ o₁.cls = o₀.cls ∧ o₁.data = o₀.data ∧ o₁.slots = o₀.slots ∧ ∀ dx, o₀.dict = some dx → o₁.dict = some dx) →
      (∀ o₀, h.get? x = some o₀ → o₀.dict = none → ∃ o₁ dx, h'.get? x = some o₁ ∧ o₁.dict = some dx ∧ h.get? dx = none) → Q () ⟨h', g, d, tk', os⟩) (hw : Within mA ns) (hsz : ns.length ≤ 100) :
    wpAny (model prog w) A (setAttr (.ref x) name v) Q E ⟨h, g, d, t, os⟩ := by
  obtain ⟨o, hx, hc, _⟩ := id I
  have SF := PySem.F.store_Exception
  have f3 := SF.slot.bind (.ref x)
  unfold setAttr callSpecial? specialOf
  repeat (any_goals (first | assumption | (with_reducible refine wpAny_loadPart_at hx ?_; rw [hc]) | (with_reducible refine (PySem.W.looks_findIn X hs).at ?_) | wp_step))
  refine codeAny_call_builtin SF.slot.plain SF.entry (sa_check hC hx hc (saEntry X hC hna I (fun h' tk' I' hk hsame hnew => ?_) hw hsz))
  repeat (any_goals (first | assumption | wp_step))
  exact hq h' tk' I' hk hsame hnew
end
end Mine
end

section
open PySem
set_option linter.unusedVariables false
set_option maxRecDepth 100000
namespace Mine
section
variable {prog : Program} {w : World} {A : Around} {E : Value → Shared → Prop} {h : Heap} {g : Array GenState} {d : Drawn} {t : Nat} {os : OsState}
variable {nm q : Str} {C N x : Addr} {bs : List Value} {sn : List Str} {sub : List Value} {ab : Bool} {col : Option Bool} {dd : Option Addr} {k0 k1 k2 k3 k5 : Option Value} {K : PySem.W.Frag}
theorem base_check {M : Model} {o : Obj} {rest : List Value} {Q : Unit → Shared → Prop} (hC : h.get? C = some (excClassObj nm q C N bs bmM true sn sub ab col dd k0 k1 k2 k3 k5 "Exception.__new__")) (hx : h.get? x = some o) (hc : o.cls = .ref C) (hq : Q () ⟨h, g, d, t, os⟩) :
    wpAny M A (checkBuiltinCall "Exception.__init__" ⟨.ref x :: rest, []⟩) Q E ⟨h, g, d, t, os⟩ := by
  have F := PySem.F.excBase_Exception
  have hcB : (Value.ref C :: bmM).contains (.type "Exception") = true := by rw [List.contains_cons]; simp [bmM]
  have hshort := F.noStar
  simp only [checkBuiltinCall, F.initKind, F.initSplit, F.initRow]
  repeat (first | (with_reducible refine wpAny_loadPart_at hx ?_; rw [hc]) | with_reducible refine wpAny_loadPart_at hC ?_ | (with_reducible refine wpAny_isSubtype_exc hC ?_; rw [hcB]) | wp_step)
  refine wpAny_onRaise ?_
  rw [show ∀ (a b : String) (n : Nat), Bind.check ⟨.positional, "*", "Exception", .self, [⟨"args", .varPos, false⟩]⟩ a b n (List.map (fun x => x.fst) ({ pos := Value.ref x :: rest } : Args).kw) = pure () from
    fun a b n => check_star_args _ _ _ _ _ _]
  exact wpAny_pure hq
/-- Exception.__init__ on an exception of ours -/
theorem base_init {o : Obj} {vs : Array Value} {rest : List Value} {Q : Value → Shared → Prop} (hC : h.get? C = some (excClassObj nm q C N bs bmM true sn sub ab col dd k0 k1 k2 k3 k5 "Exception.__new__")) (hx : h.get? x = some o) (hc : o.cls = .ref C) (hd : o.data = .fields vs) (hs : 0 < vs.size) (hrest : rest.length ≤ sizeLine)
    (hq : ∀ h' o', h'.get? x = some o' → o'.cls = o.cls → o'.dict = o.dict → (∃ v, o'.data = .fields (vs.setIfInBounds 0 v)) → (∀ b ob, b ≠ x → h.get? b = some ob → h'.get? b = some ob) → Q .none ⟨h', g, d, t, os⟩) :
    wpAny (model prog w) A (call (.builtin "Exception.__init__") (.ref x :: rest)) Q E ⟨h, g, d, t, os⟩ := by
  have F := PySem.F.excBase_Exception
  refine wpAny_call (codeAny_call_builtin F.init.plain F.initEntry (base_check hC hx hc ?_))
  unfold Builtin.«BaseException.__init__»
  show wpAny _ _ (newTuple rest >>= fun v => Builtin.BaseException.bexcPut (.ref x) 0 v >>= fun _ => ret .none) _ _ _
  refine wpAny_bind (wpAny_newTuple ?_ hrest)
  have hx₁ : (h.push { cls := .type "tuple", data := .seq rest.toArray }).get? x = some o := Heap.get?_push_of_some _ hx
  unfold Builtin.BaseException.bexcPut
  have h0 : vs[0]? = some vs[0] := by simp [hs]
  refine wpAny_bind (wpAny_bind (wpAny_field (s := ⟨h.push { cls := .type "tuple", data := .seq rest.toArray }, g, d, t, os⟩) hx₁ hd h0 (wpAny_bind (wpAny_setField (s := ⟨h.push { cls := .type "tuple", data := .seq rest.toArray }, g, d, t, os⟩) hx₁ hd hs ?_))))
  have hd₃ := Obj.data_mapFields hd (·.setIfInBounds 0 (Value.ref h.objs.size))
  have he₃ := Heap.get?_update_self (Obj.mapFields (·.setIfInBounds 0 (Value.ref h.objs.size))) hx₁ (Obj.isFreed_of_fields hd₃)
  have fin : wpAny (model prog w) A.in1 (ret .none) (fun fin s' => match fin with
      | .done f => (match (Except.ok f : Result) with | .ok (.ret v) => Q v s' | .ok _ => False | .error e => E e s')
      | .again c' => c'.quiet = true ∧ codeAny (model prog w) A c' (fun r s' => match r with | .ok (.ret v) => Q v s' | .ok _ => False | .error e => E e s') s') E
      ⟨(h.push { cls := .type "tuple", data := .seq rest.toArray }).update x (Obj.mapFields (·.setIfInBounds 0 (Value.ref h.objs.size))), g, d, t, os⟩ :=
    wpAny_pure (hq _ _ he₃ (Obj.cls_mapFields _ _) (dict_mapFields _ _) ⟨_, hd₃⟩ fun b ob hb e => (Heap.get?_update_other _ _ (Ne.symm hb)).trans (Heap.get?_push_of_some _ e))
  cases vs[0] <;> first | exact wpAny_pure fin | exact wpAny_letGo fin
end
end Mine
end

section
open PySem PySem.W PyProof.Rows PySem.Calls
set_option linter.unusedVariables false
set_option maxRecDepth 100000
namespace Mine

noncomputable def shapeI (cls attr : Str) (b : List Stmt) : Prop := ∃ p1 ap p2 p3 p p4 p5 p6 p7 p8, b = [.Expr (.Call (.Attribute (.Name cls p1) "__init__" ap) [.Name "self" p2, .Name "why" p3] [] p) p4, .Assign [.Attribute (.Name "self" p5) attr p6] (.Name attr p7) p8] ∧ ap.endLine = p.line
structure EF (K : Frag) : Prop where
  cls : ∃ nm q N bs sn sub ab col dd k0 k1 k2 k3 k5, K.lookup 58 = some (excClassObj nm q 58 N bs bmM true sn sub ab col dd k0 k1 k2 k3 k5 "Exception.__new__")
  init : findIn K (.ref 58) "__init__" = some (some (.ref 55))
  fn55 : typeIn K (.ref 55) = some (.type "function")
  sa : findIn K (.ref 58) "__setattr__" = some (some (.builtin "object.__setattr__"))
  why : findIn K (.ref 58) "why" = some none
  at_ : findIn K (.ref 58) "at" = some none
  n58 : nsIn K mainGlobals "Malformed" = some (some (.ref 58))
  n38 : nsIn K mainGlobals "WasmFault" = some (some (.ref 38))
  nE : nsIn K mainGlobals "Exception" = some none
  keep58 : keepIn K (.ref 58) = true
  keep35 : keepIn K (.ref 35) = true
  g38 : specialIn K (.ref 38) "__getattribute__" = some (some (.builtin "type.__getattribute__"))
  t38 : typeIn K (.ref 38) = some (.type "type")
  r38 : readsIn K 38 (.type "type") = true
  f38 : findCls K (.ref 38) (.type "type") "__init__" = some (.val (.ref 35))
  fE : findCls K (.type "Exception") (.type "type") "__init__" = some (.val (.builtin "Exception.__init__"))
  d35 : ∃ name qual prm body scope dV kV doc pm an cdv ct oc od osl, K.lookup 35 = some ⟨oc, od, .func (fnOf name qual prm body scope dV kV doc pm an cdv ct), osl⟩ ∧ codeIn K cdv qual = true ∧ shapeI "Exception" "why" body ∧ scope.kind = .function ∧ scope.isCoroutine = false ∧ scope.isGenerator = false ∧
    (∀ x ∈ scope.names, x.2 ≠ .cell) ∧ scope.names.lookup (Str.ofString "self") = some .local ∧ scope.names.lookup (Str.ofString "why") = some .local ∧ scope.names.lookup (Str.ofString "Exception") = some .globalImplicit ∧
    ∀ s a b, BindsTo s (fnOf name qual prm body scope dV kV doc pm an cdv ct) ⟨[a, b], []⟩ [(("self" : Str), a), (("why" : Str), b)]
  d55 : ∃ name qual prm body scope dV kV doc pm an cdv ct oc od osl, K.lookup 55 = some ⟨oc, od, .func (fnOf name qual prm body scope dV kV doc pm an cdv ct), osl⟩ ∧ codeIn K cdv qual = true ∧ shapeI "WasmFault" "at" body ∧ scope.kind = .function ∧ scope.isCoroutine = false ∧ scope.isGenerator = false ∧
    (∀ x ∈ scope.names, x.2 ≠ .cell) ∧ scope.names.lookup (Str.ofString "self") = some .local ∧ scope.names.lookup (Str.ofString "why") = some .local ∧ scope.names.lookup (Str.ofString "at") = some .local ∧ scope.names.lookup (Str.ofString "WasmFault") = some .globalImplicit ∧
    ∀ s a b c, BindsTo s (fnOf name qual prm body scope dV kV doc pm an cdv ct) ⟨[a, b, c], []⟩ [(("self" : Str), a), (("why" : Str), b), (("at" : Str), c)]

/-- an exception of ours in the making: no own dict yet -/
noncomputable def ExRaw (h : Heap) (x : Addr) : Prop := ∃ o vs, h.get? x = some o ∧ o.cls = .ref 58 ∧ o.dict = none ∧ o.data = .fields vs ∧ 1 < vs.size ∧ vs[1]? = some .none
/-- made: its dict is younger than h0 -/
noncomputable def ExIn (h0 h : Heap) (x : Addr) (mA : Str → Option Value) : Prop := ∃ o d vs, h.get? x = some o ∧ o.cls = .ref 58 ∧ o.dict = some d ∧ d ≠ x ∧ h0.get? d = none ∧ o.data = .fields vs ∧ 1 < vs.size ∧ vs[1]? = some .none ∧ h.Ns1 d mA
section
variable {prog : Program} {w : World} {A : Around} {K : Frag} {mg mb : Str → Option Value}
theorem inst_raw {h : Heap} {x : Addr} (e : ExRaw h x) : h.Inst x 58 (fun _ => none) := by
  obtain ⟨o, vs, h1, h2, h3, h4, _⟩ := e
  exact ⟨o, h1, h2, (fun c q => by rw [h4] at q; cases q), .inl ⟨h3, fun _ => rfl⟩⟩
theorem init35 (k : EF K) {b0 : Heap} {s : Shared} (X : K.In b0) (T : TopF mg mb b0) (kp : ∀ b o, b0.get? b = some o → s.heap.get? b = some o) (hsz : b0.objs.size ≤ s.heap.objs.size) (hd : A.depth + 2 < recursionLimit) {x : Addr} {y : Str} {ty : Tok} (hx0 : b0.get? x = none) (hx : ExRaw s.heap x) {R : Result → Shared → Prop}
    (H : ∀ h' tk, (∀ b o, b ≠ x → s.heap.get? b = some o → h'.get? b = some o) → ExIn s.heap h' x (fun z => if z = "why" then some (.str y ty) else none) → R (.ok (.ret .none)) { s with heap := h', toks := tk }) :
    codeAny (model prog w) A (.call (.ref 35) ⟨[.ref x, .str y ty], []⟩) R s := by
  obtain ⟨name, qual, prm, body, scope, dV, kV, doc, pm, an, cdv, ct, oc, od, osl, ho, hcd, hsh, hk, hco, hgen, hcell, l1, l2, l3, hb⟩ := k.d35
  obtain ⟨nm, q, N, bs, sn, sub, ab, col, dd, k0, k1, k2, k3, k5, hC⟩ := k.cls
  have X1 := X.keeps kp
  obtain ⟨_, _, _, _, _, _, _, _, _, _, rfl, hpos⟩ := hsh
  · refine codeAny_call_def (fd := fnOf name qual prm _ scope dV kV doc pm an cdv ct) (by omega) (X1 _ _ ho) rfl (T.nolimit.keeps kp) (codeRec_of X1 hcd) rfl (hb s _ _) hcell (fun y hy => ?_) (fun h₁ hns hk₁ => ?_) hco hgen hk
    · rcases List.mem_cons.mp hy with rfl | hy
      · exact l1
      · rcases List.mem_cons.mp hy with rfl | hy
        · exact l2
        · cases hy
    · have hLx : s.heap.objs.size ≠ x := fun z => by
        obtain ⟨o, vs, h1, _⟩ := hx
        exact absurd (Heap.lt_size h1) (by rw [z]; exact Nat.lt_irrefl _)
      obtain ⟨o, vs, g1, g2, g3, g4, g5, g6⟩ := hx
      have F1 : Fr b0 s.heap.objs.size h₁ (fun z => List.lookup z [(("self" : Str), Value.ref x), (("why" : Str), Value.str y ty)].reverse) := ⟨hns, fun b o e => hk₁ _ _ (kp b o e), hsz⟩
      show wpAny (model prog w) (A.deeper (envOf qual scope s.heap.objs.size 35 cdv)) (execs _ (envOf qual scope s.heap.objs.size 35 cdv)) _ _ _
      have X2 : K.In h₁ := X1.keeps hk₁
      have hne : interactive (envOf qual scope s.heap.objs.size 35 cdv) = false := by
        unfold interactive
        have : (envOf qual scope s.heap.objs.size 35 cdv).scope.kind = .function := hk
        rw [this]; rfl
      refine wpAny_execs_cons (wpAny_Expr_any (MethodCall_ (ld_builtin_at F1 T.g (mg_none_of X T.g k.nE) T.b ((T.builtins _ (by decide)).trans (by decide +kernel : bootBuiltins (Str.ofString "Exception") = some (.type "Exception"))) (method_type F1 X (by kernel_rfl) (by decide +kernel) k.fE (by decide +kernel)
        (callWith_builtin1 (args_cons (ld F1 rfl (args_cons (ld F1 rfl (args_nil ?_) hk l2) rfl) hk l1) rfl) rfl rfl)) hk l3) (meth_he rfl _ rfl (by show 2 < 30; decide) hpos)) hne rfl)
      have hC1 := X2 _ _ hC
      refine base_init hC1 (hk₁ _ _ g1) g2 g4 (by omega) (by show 1 ≤ 2 ^ 24; decide) fun h2 o2 e1 e2 e3 e4 e5 => ?_
      obtain ⟨v0, e4⟩ := e4
      have F2 : Fr b0 s.heap.objs.size h2 (fun z => List.lookup z [(("self" : Str), Value.ref x), (("why" : Str), Value.str y ty)].reverse) := by
        obtain ⟨oL, a1, a2, a3, a4⟩ := F1.ns
        exact ⟨⟨oL, a1, a2, e5 _ _ hLx a3, a4⟩, fun b o e => e5 _ _ (fun z => by rw [z, hx0] at e; cases e) (F1.keep b o e), hsz⟩
      have X3 : K.In h2 := X.keeps F2.keep
      refine wpAny_execs_cons (plainObj_wpAny_Assign_Attribute (ld F2 rfl (ld F2 rfl ?_ hk l1) hk l2) rfl)
      have hraw : ExRaw h2 x := ⟨o2, _, e1, by rw [e2]; exact g2, by rw [e3]; exact g3, e4, by simpa using g5, by rw [Array.getElem?_setIfInBounds_ne (by decide)]; exact g6⟩
      refine saAttr X3 (X3 _ _ hC) k.sa k.why (inst_raw hraw) (fun h3 tk3 I3 k3' same new => wpAny_execs_nil ?_) Within.nil (by decide)
      obtain ⟨o3, c1, c2, c3, c4, c5⟩ := same o2 e1
      obtain ⟨o4, dx, c6, c7, c8⟩ := new o2 e1 (by rw [e3]; exact g3)
      rw [c1] at c6; cases c6
      obtain ⟨oi, i1, i2, i3, i4⟩ := I3
      rw [c1] at i1; cases i1
      have old : ∀ b o, b ≠ x → s.heap.get? b = some o → h2.get? b = some o := fun b o hb e => e5 b o hb (hk₁ _ _ e)
      refine H h3 tk3 (fun b o hb e => k3' b o hb (fun o₀ dx h0 h1 => ?_) (old b o hb e)) ?_
      · rw [e1] at h0; cases h0; rw [e3, g3] at h1; cases h1
      · rcases i4 with ⟨i4, _⟩ | ⟨d', i4, i5, i6⟩
        · rw [c7] at i4; cases i4
        · rw [c7] at i4; cases i4
          refine ⟨o3, dx, _, c1, i2, c7, i5, ?_, by rw [c3]; exact e4, by simpa using g5, by rw [Array.getElem?_setIfInBounds_ne (by decide)]; exact g6, i6⟩
          cases q : s.heap.get? dx with
          | none => rfl
          | some ob => have := old dx ob i5 q; rw [c8] at this; cases this
end
end Mine
end

section
open PySem PySem.W PyProof.Rows PySem.Calls
set_option linter.unusedVariables false
set_option maxRecDepth 100000
namespace Mine
section
variable {prog : Program} {w : World} {A : Around} {K : Frag} {mg mb : Str → Option Value}
theorem inst_ex {h0 h : Heap} {x : Addr} {mA : Str → Option Value} (e : ExIn h0 h x mA) : h.Inst x 58 mA := by
  obtain ⟨o, d, vs, h1, h2, h3, h4, h5, h6, h7, h8, h9⟩ := e
  exact ⟨o, h1, h2, (fun c q => by rw [h6] at q; cases q), .inr ⟨d, h3, h4, h9⟩⟩
theorem init55 (k : EF K) {b0 : Heap} {s : Shared} (X : K.In b0) (T : TopF mg mb b0) (kp : ∀ b o, b0.get? b = some o → s.heap.get? b = some o) (hsz : b0.objs.size ≤ s.heap.objs.size) (hd : A.depth + 4 < recursionLimit) {x : Addr} {y : Str} {ty : Tok} {av : Value} (hx0 : b0.get? x = none) (hx : ExRaw s.heap x) {R : Result → Shared → Prop}
    (H : ∀ h' tk, (∀ b o, b ≠ x → s.heap.get? b = some o → h'.get? b = some o) → (∃ mA, mA "why" = some (.str y ty) ∧ ExIn s.heap h' x mA) → R (.ok (.ret .none)) { s with heap := h', toks := tk }) :
    codeAny (model prog w) A (.call (.ref 55) ⟨[.ref x, .str y ty, av], []⟩) R s := by
  obtain ⟨name, qual, prm, body, scope, dV, kV, doc, pm, an, cdv, ct, oc, od, osl, ho, hcd, hsh, hk, hco, hgen, hcell, l1, l2, l3, l4, hb⟩ := k.d55
  obtain ⟨nm, q, N, bs, sn, sub, ab, col, dd, k0, k1, k2, k3, k5, hC⟩ := k.cls
  have X1 := X.keeps kp
  obtain ⟨_, _, _, _, _, _, _, _, _, _, rfl, hpos⟩ := hsh
  · refine codeAny_call_def (fd := fnOf name qual prm _ scope dV kV doc pm an cdv ct) (by omega) (X1 _ _ ho) rfl (T.nolimit.keeps kp) (codeRec_of X1 hcd) rfl (hb s _ _ _) hcell (fun y hy => ?_) (fun h₁ hns hk₁ => ?_) hco hgen hk
    · rcases List.mem_cons.mp hy with rfl | hy
      · exact l1
      · rcases List.mem_cons.mp hy with rfl | hy
        · exact l2
        · rcases List.mem_cons.mp hy with rfl | hy
          · exact l3
          · cases hy
    · have hLx : s.heap.objs.size ≠ x := fun z => by
        obtain ⟨o, vs, h1, _⟩ := hx
        exact absurd (Heap.lt_size h1) (by rw [z]; exact Nat.lt_irrefl _)
      obtain ⟨o, vs, g1, g2, g3, g4, g5, g6⟩ := hx
      have F1 : Fr b0 s.heap.objs.size h₁ (fun z => List.lookup z [(("self" : Str), Value.ref x), (("why" : Str), Value.str y ty), (("at" : Str), av)].reverse) := ⟨hns, fun b o e => hk₁ _ _ (kp b o e), hsz⟩
      have hsz1 : b0.objs.size ≤ h₁.objs.size := by
        obtain ⟨oL, a1, a2, a3, a4⟩ := hns
        exact Nat.le_trans hsz (Nat.le_of_lt (Heap.lt_size a3))
      show wpAny (model prog w) (A.deeper (envOf qual scope s.heap.objs.size 55 cdv)) (execs _ (envOf qual scope s.heap.objs.size 55 cdv)) _ _ _
      have X2 : K.In h₁ := X1.keeps hk₁
      have hne : interactive (envOf qual scope s.heap.objs.size 55 cdv) = false := by
        unfold interactive
        have : (envOf qual scope s.heap.objs.size 55 cdv).scope.kind = .function := hk
        rw [this]; rfl
      refine wpAny_execs_cons (wpAny_Expr_any (MethodCall_ (ld_global_at F1 T.g (mg_of X T.g k.n38) (method_of_cls F1 X k.g38 (cls_val F1 X k.t38 k.r38 k.f38 (by decide +kernel)
        (callWith_any rfl k.keep35 (args_cons (ld F1 rfl (args_cons (ld F1 rfl (args_nil ⟨X2, ?_⟩) hk l2) rfl) hk l1) rfl)))) hk l4) (meth_he rfl _ rfl (by show 2 < 30; decide) hpos)) hne rfl)
      refine wpAny_call (init35 k X T (b0 := b0) F1.keep hsz1 (by show A.depth + 1 + 2 < _; omega) hx0 ⟨o, vs, hk₁ _ _ g1, g2, g3, g4, g5, g6⟩ fun h2 tk e5 e6 => ?_)
      have F2 : Fr b0 s.heap.objs.size h2 (fun z => List.lookup z [(("self" : Str), Value.ref x), (("why" : Str), Value.str y ty), (("at" : Str), av)].reverse) := by
        obtain ⟨oL, a1, a2, a3, a4⟩ := F1.ns
        exact ⟨⟨oL, a1, a2, e5 _ _ hLx a3, a4⟩, fun b o e => e5 _ _ (fun z => by rw [z, hx0] at e; cases e) (F1.keep b o e), hsz⟩
      have X3 : K.In h2 := X.keeps F2.keep
      refine wpAny_execs_cons (plainObj_wpAny_Assign_Attribute (ld F2 rfl (ld F2 rfl ?_ hk l1) hk l3) rfl)
      refine saAttr (ns := ["why"]) X3 (X3 _ _ hC) k.sa k.at_ (inst_ex e6) (fun h3 tk3 I3 k3' same new => wpAny_execs_nil ?_) ?_ (by decide)
      · obtain ⟨o2, d2, vs2, f1, f2, f3, f4, f5, f6, f7, f8, f9⟩ := e6
        obtain ⟨o3, c1, c2, c3, c4, c5⟩ := same o2 f1
        obtain ⟨oi, i1, i2, i3, i4⟩ := I3
        rw [c1] at i1; cases i1
        have old : ∀ b o, b ≠ x → s.heap.get? b = some o → h2.get? b = some o := fun b o hb e => e5 b o hb (hk₁ _ _ e)
        have hdf : ∀ b o, s.heap.get? b = some o → b ≠ d2 := fun b o e z => by
          have := hk₁ _ _ e
          rw [z, f5] at this; cases this
        refine H h3 tk3 (fun b o hb e => k3' b o hb (fun o₀ dx h0 h1 => ?_) (old b o hb e)) ?_
        · rw [f1] at h0; cases h0; rw [f3] at h1; cases h1; exact hdf b o e
        · rcases i4 with ⟨i4, _⟩ | ⟨d', i4, i5, i6⟩
          · rw [c5 d2 f3] at i4; cases i4
          · rw [c5 d2 f3] at i4; cases i4
            refine ⟨_, ?_, o3, d2, vs2, c1, i2, c5 d2 f3, f4, ?_, by rw [c3]; exact f6, f7, f8, i6⟩
            · exact if_neg (by decide +kernel)
            · cases q : s.heap.get? d2 with
              | none => rfl
              | some ob => exact absurd rfl (hdf _ _ q)
      · intro z hz
        by_cases hw : z = "why"
        · simp [hw]
        · exact absurd (by simp [hw]) hz
end
end Mine
end

section
open PySem PySem.W PyProof.Rows PySem.Calls
set_option linter.unusedVariables false
set_option maxRecDepth 100000
namespace Mine
section
variable {prog : Program} {w : World} {A : Around} {K : Frag} {mg mb : Str → Option Value} {E : Value → Shared → Prop}
/-- Malformed(why, at) -/
theorem exc_call (k : EF K) {b0 : Heap} {s : Shared} (X : K.In b0) (T : TopF mg mb b0) (kp : ∀ b o, b0.get? b = some o → s.heap.get? b = some o) (hsz : b0.objs.size ≤ s.heap.objs.size) (hd : A.depth + 7 < recursionLimit) {y : Str} {ty : Tok} {av : Value} {Q : Value → Shared → Prop}
    (H : ∀ h' tk x mA, b0.get? x = none → s.heap.get? x = none → (∀ b o, s.heap.get? b = some o → h'.get? b = some o) → mA "why" = some (.str y ty) → ExIn s.heap h' x mA → Q (.ref x) { s with heap := h', toks := tk }) :
    wpAny (model prog w) A (call (.ref 58) [.str y ty, av]) Q E s := by
  obtain ⟨nm, q, N, bs, sn, sub, ab, col, dd, k0, k1, k2, k3, k5, hC0⟩ := k.cls
  obtain ⟨h, g, d, t, os⟩ := s
  have X1 := X.keeps kp
  have hC := X1 _ _ hC0
  have f1 := tc_lookup
  have f2 := tc_bind (.ref 58)
  have hT : (⟨h, g, d, t, os⟩ : Shared).TypeIs (.ref 58) "type" := ⟨_, hC, rfl⟩
  refine wpAny_call (codeAny_of_tree ?_)
  show wpAny _ _ (callAny (.ref 58) _) _ _ _
  repeat (any_goals (first | assumption | with_reducible refine wpAny_loadPart_at hC ?_ | wp_step))
  refine ⟨rfl, ?_⟩
  refine codeAny_call_builtin_at (Code.quiet_builtin _ (by decide +kernel)) entry_typeCall (wpAny_check_type_call_sub hC (exc_type_call X1 k.init k.fn55 hC (by show 2 ≤ sizeLine; rw [sizeLine_eq]; omega) ?_))
  have kk : ∀ b o, h.get? b = some o → ((h.push { cls := .type "tuple", data := .seq [Value.str y ty, av].toArray }).push { cls := .ref 58, data := .fields #[.ref h.objs.size, .none, .none, .none, .bool false, .none] }).get? b = some o := fun b o e => Heap.get?_push_of_some _ (Heap.get?_push_of_some _ e)
  have hnew : h.get? (h.objs.size + 1) = none := Heap.get?_none_of_le (Nat.le_succ _)
  have hb0 : b0.get? (h.objs.size + 1) = none := Heap.get?_none_of_le (Nat.le_trans hsz (Nat.le_succ _))
  refine init55 k X T (b0 := b0) (fun b o e => kk b o (kp b o e)) (by simp only [Heap.size_push]; exact Nat.le_trans (show b0.objs.size ≤ h.objs.size from hsz) (by omega)) ?_ hb0 ⟨{ cls := .ref 58, data := .fields #[.ref h.objs.size, .none, .none, .none, .bool false, .none] }, _, by heap_get, rfl, rfl, rfl, by simp, by simp⟩ (fun h' tk e1 e2 => ?_)
  · show A.depth + 1 + 4 < recursionLimit
    omega
  · refine ⟨rfl, ?_⟩
    obtain ⟨mA, hw, o, d', vs, a1, a2, a3, a4, a5, a6, a7, a8, a9⟩ := e2
    refine H h' tk _ mA hb0 hnew (fun b o e => e1 b o (fun z => by rw [z, hnew] at e; cases e) (kk b o e)) hw ⟨o, d', vs, a1, a2, a3, a4, ?_, a6, a7, a8, a9⟩
    cases q : h.get? d' with
    | none => rfl
    | some ob => exact absurd ((kk _ _ q).symm.trans a5) (by simp)
end
end Mine
end

section
open PySem PySem.W PyProof.Rows PySem.Calls
set_option linter.unusedVariables false
set_option maxRecDepth 100000
namespace Mine
section
variable {M : Model} {A : Around} {E : Value → Shared → Prop} {env : Env} {nm q : Str} {N : Addr} {bs : List Value} {sn : List Str} {sub : List Value} {ab : Bool} {col : Option Bool} {dd : Option Addr} {k0 k1 k2 k3 k5 : Option Value}
theorem raise_made {s : Shared} {x : Sem Value} {Q : Flow → Shared → Prop} (hh : A.handled = none)
    (h : wpAny M A x (fun v s₁ => ∃ e o, v = .ref e ∧ s₁.heap.get? 58 = some (excClassObj nm q 58 N bs bmM true sn sub ab col dd k0 k1 k2 k3 k5 "Exception.__new__") ∧
      s₁.heap.get? e = some o ∧ o.cls = .ref 58 ∧ (∃ vs, o.data = .fields vs ∧ vs[1]? = some .none) ∧ E (.ref e) s₁) E s) :
    wpAny M A (raiseStmt env (some x) none) Q E s := by
  have hcB : (Value.ref 58 :: bmM).contains (.type "BaseException") = true := by rw [List.contains_cons]; simp [bmM]
  unfold raiseStmt
  refine wpAny_bind (wpAny_mono h (fun v s₁ h₁ => ?_) fun _ _ x => x)
  obtain ⟨e, ⟨oc, od, odt, osl⟩, rfl, hC, he, hc, ⟨vs, hv, hv1⟩, hE⟩ := h₁
  cases hc
  cases hv
  obtain ⟨hp, g, d, tk, os⟩ := s₁
  repeat (first | with_reducible refine wpAny_loadPart_at he ?_ | with_reducible refine wpAny_loadPart_at hC ?_ | (with_reducible refine wpAny_isSubtype_exc hC ?_; rw [hcB]) | wp_step)
  rw [hv1]
  wp_walk
  exact wpAny_raiseNew_none hh hE
end
section
variable {K : Frag} {mg mb : Str → Option Value}
theorem CS.ff {c : Cx} (O : c.Ok K mg mb) {m : Str → Option Value} {fro : List (Addr × Obj)} {ρ : List Addr} {obs : List Ob} {h : Heap} (C : CS c.base c.L m fro c.rest ρ obs h) : h.FunFrames c.xb (c.env :: c.outer) ∧ h.Ns c.L0 c.m0 := by
  obtain ⟨own, N, hn, _⟩ := C.own
  obtain ⟨oL, es, ep, hL, hLd, hLk, hLf⟩ := C.fr.ns
  have inR : ∀ p ∈ c.rest, h.get? p.1 = some p.2 ∧ c.base.get? p.1 = none := fun p hp => by
    have := N p (List.mem_append_right _ (List.mem_append_right _ hp))
    exact ⟨this.1, this.2.2⟩
  refine ⟨⟨?_, ⟨c.L, oL, rfl, O.xL, hL, fun vs q => by rw [hLd] at q; cases q⟩, ?_⟩, ?_⟩
  · have : c.env.scope.kind = .function := O.kind
    rw [this]; decide
  · have H := O.outs
    revert H
    generalize c.outer = l
    induction l with
    | nil => intro _; trivial
    | cons env r ih =>
      intro H
      obtain ⟨h1, L, o, h2, h3, h3', h4⟩ := H env (.head _)
      exact ⟨h1, ⟨L, o, h2, h3', (inR _ h3).1, h4⟩, ih fun e he => H e (.tail _ he)⟩
  · rcases O.low with ⟨o, es, ep, h1, h2, h3, h4⟩ | h1
    · exact ⟨o, es, ep, (inR _ h1).1, h2, h3, h4⟩
    · exact h1.keeps C.fr.keep
theorem CS.xst {c : Cx} (O : c.Ok K mg mb) {m : Str → Option Value} {fro : List (Addr × Obj)} {ρ : List Addr} {obs : List Ob} {h : Heap} (C : CS c.base c.L m fro c.rest ρ obs h) : c.xb.StaysIn h := fun b o e => by
  obtain ⟨own, N, hn, _⟩ := C.own
  rcases O.xs b o e with h1 | h1
  · exact C.fr.keep b o h1
  · exact (N (b, o) (List.mem_append_right _ (List.mem_append_right _ h1))).1
theorem raiseOk (k : EF K) : RaiseOk K mg mb := fun P O w a ha st me A σ fro ρ m s N R Qr Er oa _ rs vc hn hr he => by
  replace me := onRaise_iff me; obtain ⟨v, p, rfl, me⟩ := me
  replace me := onCall2_iff me; obtain ⟨g, y, z, p', rfl, me⟩ := me
  simp only [Bool.and_eq_true, beq_iff_eq] at me
  obtain ⟨⟨⟨m0, m1⟩, m3⟩, m4⟩ := me
  replace m0 := onStr_iff m0; obtain ⟨y, n', p2, rfl, m0⟩ := m0
  obtain rfl := eq_of_beq m0
  obtain ⟨nm, q, N', bs, sn, sub, ab, col, dd, k0, k1, k2, k3, k5, hC⟩ := k.cls
  rw [arm_exec_Raise]
  simp only [evalOpt, Option.map]
  refine wpAny_bind (wpAny_standAt (raise_made (nm := nm) (q := q) (N := N') (bs := bs) (sn := sn) (sub := sub) (ab := ab) (col := col) (dd := dd) (k0 := k0) (k1 := k1) (k2 := k2) (k3 := k3) (k5 := k5) oa.hd (wpAny_bind (wpAny_mono (Call_ (glob_name O m1 rs.cs.fr k.n58 (by decide +kernel) (callWith_any (by rw [List.all_cons, List.all_cons, m3]; rfl) k.keep58 (args_cons (wpAny_Constant_str (args_cons (ha _ m4 A σ fro ρ m { s with toks := s.toks + 1 } _ _ _ oa rs vc (fun f1 r1 v σ1 rv s1 h1 h2 h3 h4 h5 => args_nil ?_) he) (notStar_one m3 _ _))) rfl))) ?_) (fun v s' h' => wpAny_bind (wpAny_standAt (wpAny_pure h'))) fun _ _ x => x))))
  · cases v with
    | d x =>
      cases x <;> first | exact absurd h5 id | skip
      rename_i i
      refine ⟨O.X.keeps h3.cs.fr.keep, exc_call k O.X O.T (b0 := P.c.base) h3.cs.fr.keep (Nat.le_trans h3.cs.fr.above (Nat.le_of_lt (Heap.lt_size h3.cs.fr.ns.choose_spec.choose_spec.choose_spec.1))) (by have := oa.dep; omega) (fun h' tk x mA g1 g2 g3 g4 g5 => ?_)⟩
      obtain ⟨o, d', vs, a1, a2, a3, a4, a5, a6, a7, a8, a9⟩ := g5
      refine ⟨x, o, rfl, g3 _ _ (O.X.keeps h3.cs.fr.keep _ _ hC), a1, a2, ⟨vs, a6, a8⟩, he (Str.ofString w) _ _ h5 ?_ h3.oge⟩
      obtain ⟨e1, e2⟩ := CS.ff O (h3.cs.ext g3)
      have xst := h3.cs.xst O
      refine ⟨x, o, vs, d', mA, _, rfl, fun b ob hb => g3 _ _ (xst b ob hb), ?_, e1, e2, a1, a2, a3, a6, a9.ns, g4, .inl a8⟩
      cases qx : P.c.xb.get? x with
      | none => rfl
      | some ox => have := xst x ox qx; rw [g2] at this; cases this
    | ref _ => exact absurd h5 id
    | tup _ => exact absurd h5 id
  · replace m1 := onName_iff m1; obtain ⟨y', q', rfl, _⟩ := m1
    rfl
end
end Mine
end

section
open PySem PySem.W PyProof.Rows PySem.Calls
set_option linter.unusedVariables false
set_option maxRecDepth 100000
namespace Mine
section
variable {prog : Program} {w : World} {K : Frag} {mg mb : Str → Option Value}
theorem DRs.drop {P : Kn} : ∀ {ds : List D} {rvs : List Value} (n : Nat), DRs P ds rvs → DRs P (ds.drop n) (rvs.drop n)
  | _, _, 0, h => h
  | _, _, _ + 1, .nil => .nil
  | _, _, n + 1, .cons _ r => DRs.drop n r
/-- the call of a class: the making, then its __init__ -/
theorem soundCls (kf : KF K) (hR : RaiseOk K mg mb) {f cI : Nat} {fI : Addr} {qual : Str} {bodyS : List Stmt} {scope : Scope} {cdv : Value} {params : List Nat} {body : Ss} {dfl : List Value} (D : DefAt K fI qual bodyS scope cdv params body dfl) {Γ : Nat → FSpec} {ℓ : Nat} (hΓ : ∀ f, f < 30 → SoundF prog w K mg mb ℓ f (Γ f)) {S : FSpec}
    (hf : fAddr f = clsA cI) (hm : makesIn K (clsA cI) = true) (hi : findIn K (.ref (clsA cI)) "__init__" = some (some (.ref fI))) (ht : typeIn K (.ref fI) = some (.type "function")) {dv : List Mine.D} (hdv : ∀ P : Kn, DRs P dv dfl)
    (hS : ∀ vs obs q XQ, S vs obs q XQ → 1 + vs.length ≤ params.length ∧ vcF Γ params body (.ref obs.length :: vs ++ (dv.drop (1 + vs.length + dv.length - params.length)).map .d) (obs ++ [.inst cI []]) (fun v obs' => v = .d .none ∧ q (.ref obs.length) obs') XQ) :
    SoundF prog w K mg mb (ℓ + 2) f S := by
  intro XQ c A fro ρ m obs s vs rvs q Qr Er O lw oa C Cg hv vc hs hr
  obtain ⟨hl, vc⟩ := hS _ _ _ _ vc
  obtain ⟨hh, g, d, t, os⟩ := s
  have X := O.X.keeps C.fr.keep
  have hrho : ρ.length = obs.length := by obtain ⟨_, _, _, r⟩ := C.own; exact r.length
  rw [hf]
  refine wpAny_call (make_core (makes_of X hm) (looks_findIn X hi) (fun self => bind_fn X self ht) (.inl rfl) ?_)
  have kk : ∀ b o, hh.get? b = some o → ((hh.push emptyDict).push (instObj (clsA cI) hh.objs.size)).get? b = some o := fun b o e => Heap.get?_push_of_some _ (Heap.get?_push_of_some _ e)
  have C1 : CS c.base c.L m fro c.rest (ρ ++ [hh.objs.size + 1]) (obs ++ [.inst cI []]) ((hh.push emptyDict).push (instObj (clsA cI) hh.objs.size)) := by
    refine C.make (pc := [(hh.objs.size + 1, instObj (clsA cI) hh.objs.size), (hh.objs.size, dictOf [] 0)]) kk ⟨hh.objs.size, [], 0, rfl, .nil⟩ (fun p hp => ?_) (by simp)
    rcases List.mem_cons.mp hp with rfl | hp
    · exact ⟨by heap_get, Nat.le_succ _⟩
    · rcases List.mem_cons.mp hp with rfl | hp
      · exact ⟨by show Heap.get? _ _ = some emptyDict; heap_get, Nat.le_refl _⟩
      · cases hp
  have hrl := hv.length
  have hdl := (hdv (kn c.base fro)).length
  have oa1 : OkA c (ℓ + 1) (A.under (.builtin "type.__call__" ⟨.ref (clsA cI) :: rvs, []⟩)) := by
    refine ⟨oa.fr, oa.hd, ?_, ?_⟩
    · have := oa.dep
      show A.depth + 1 + 4 * (ℓ + 1) + 8 < recursionLimit
      omega
    · have := oa.un
      show A.units + 1 + 200 * (ℓ + 1) + 100 < cLine
      omega
  have hx : (ρ ++ [hh.objs.size + 1])[obs.length]? = some (hh.objs.size + 1) := by rw [← hrho]; simp
  refine defIn kf hR D hΓ (args := .ref (hh.objs.size + 1) :: rvs) (by rw [List.length_cons, hrl]; omega) (rvs := .ref (hh.objs.size + 1) :: rvs ++ dfl.drop (1 + vs.length + dv.length - params.length)) (by rw [List.length_cons, hrl, hdl, Nat.add_comm 1 vs.length]) O lw oa1 C1 Cg
    (VRs.cons (.ref hx) ((hv.mono (fun _ _ h => h) (List.prefix_append _ _)).append (DRs_V ((hdv _).drop _)))) vc (fun fro' ρ' obs' v rv s' g1 g2 g3 g3' g4 g5 => ?_) (fun e s' h => h) hr
  obtain ⟨rfl, g5⟩ := g5
  cases g4 with
  | d g4 =>
    cases g4
    refine ⟨rfl, hs fro' ρ' obs' (.ref obs.length) _ s' g1 ((List.prefix_append _ _).trans g2) g3 g3' (.ref ?_) g5⟩
    obtain ⟨tl, rfl⟩ := g2
    rw [List.getElem?_append_left (by rw [List.length_append, hrho]; simp)]
    exact hx
end
end Mine
end

section
open PySem PySem.W PyProof.Rows PySem.Calls
set_option linter.unusedVariables false
namespace Mine
theorem look_zip {ns : List Str} {vs : List Value} (hl : vs.length = ns.length) : ∀ n ∈ ns, ∃ v, (ns.zip vs).lookup n = some v := by
  induction ns generalizing vs with
  | nil => intro n h; cases h
  | cons x r ih =>
    intro n hn
    cases vs with
    | nil => simp at hl
    | cons v vs =>
      rw [List.zip_cons_cons, List.lookup_cons]
      cases hb : n == x with
      | true => exact ⟨v, rfl⟩
      | false =>
        rcases List.mem_cons.mp hn with rfl | hn
        · simp at hb
        · exact ih (by simpa using hl) n hn
theorem fm_congr {α β : Type} {f g : α → Option β} : ∀ (l : List α), (∀ x ∈ l, f x = g x) → l.filterMap f = l.filterMap g
  | [], _ => rfl
  | x :: l, h => by rw [List.filterMap_cons, List.filterMap_cons, h x (.head _), fm_congr l fun y hy => h y (.tail _ hy)]
theorem fm_zip {ns : List Str} {vs : List Value} (hl : vs.length = ns.length) (hn : ns.Nodup) : ns.filterMap (fun n => ((ns.zip vs).lookup n).map (n, ·)) = ns.zip vs := by
  induction ns generalizing vs with
  | nil => rfl
  | cons x r ih =>
    cases vs with
    | nil => simp at hl
    | cons v vs =>
      obtain ⟨h1, h2⟩ := List.nodup_cons.mp hn
      rw [List.zip_cons_cons, List.filterMap_cons, List.lookup_cons, beq_self_eq_true]
      show (x, v) :: _ = _
      congr 1
      refine Eq.trans (fm_congr r fun n hn' => ?_) (ih (by simpa using hl) h2)
      rw [List.lookup_cons]
      have : (n == x) = false := beq_eq_false_iff_ne.mpr fun e => h1 (e ▸ hn')
      rw [this]
theorem bind_plain {fd : FuncData} {names : List Str} {args : List Value} {as : List Arg} {kd : List (Option Expr)} {ds : List Expr} (hp : fd.params = ⟨[], as, none, [], kd, none, ds⟩) (h2 : as.map (·.arg) = names) (h6 : fd.defaults = .none) (hl : args.length = names.length) (hn : names.Nodup) :
    bindArgs fd ⟨args, []⟩ = pure (names.zip args) := by
  unfold bindArgs
  rw [hp, h6]
  dsimp only
  rw [h2]
  simp only [List.map_nil, List.nil_append]
  have e0 : seqItems? Value.none = pure none := rfl
  rw [e0]
  have e1 : (List.take names.length names).filter (fun n => ((names.zip args).lookup n).isNone) = [] := by
    rw [List.filter_eq_nil_iff]
    intro n h
    obtain ⟨v, e⟩ := look_zip hl n (List.mem_of_mem_take h)
    simp [e]
  simp [hl, fm_zip hl hn]
  intro x hx h
  obtain ⟨v, e⟩ := look_zip hl x hx
  exact absurd (mem_of_lookup e) (h v)
/-- a def of K and its words: what the kernel looks at -/
noncomputable def nodupStr : List Str → Bool
  | [] => true
  | x :: r => !r.contains x && nodupStr r
theorem nodupStr_iff : ∀ {l : List Str}, nodupStr l = true → l.Nodup
  | [], _ => .nil
  | x :: r, h => by
    unfold nodupStr at h
    replace h := and2 h
    exact List.nodup_cons.mpr ⟨by simpa using h.1, nodupStr_iff h.2⟩
noncomputable def isFunK : ScopeKind → Bool
  | .function => true
  | _ => false
theorem isFunK_iff {k : ScopeKind} (h : isFunK k = true) : k = .function := by
  cases k <;> first | rfl | exact absurd h Bool.false_ne_true
noncomputable def parOk (p : Arguments) (ns : List Str) : Bool := p.posonlyargs.isEmpty && (p.vararg.isNone && (p.kwonlyargs.isEmpty && (p.kwarg.isNone && (p.args.map (·.arg) == ns))))
theorem parOk_iff {p : Arguments} {ns : List Str} (h : parOk p ns = true) : ∃ as kd ds, p = ⟨[], as, none, [], kd, none, ds⟩ ∧ as.map (·.arg) = ns := by
  obtain ⟨po, as, va, ko, kd, kw, ds⟩ := p
  obtain ⟨h1, h⟩ := and2 h; obtain ⟨h2, h⟩ := and2 h; obtain ⟨h3, h⟩ := and2 h; obtain ⟨h4, h⟩ := and2 h
  have h1 : po = [] := List.isEmpty_iff.mp h1
  have h2 : va = none := Option.isNone_iff_eq_none.mp h2
  have h3 : ko = [] := List.isEmpty_iff.mp h3
  have h4 : kw = none := Option.isNone_iff_eq_none.mp h4
  exact ⟨as, kd, ds, by rw [h1, h2, h3, h4], eq_of_beq h⟩
noncomputable def okF (K : Frag) (fd : FuncData) (ps : List Nat) (w : Ss) : Bool := match fd.body with
  | .stmts b => mSs fd.scope w b && (codeIn K fd.code fd.qualname && (isFunK fd.scope.kind && (!fd.scope.isCoroutine && (!fd.scope.isGenerator && (nodupStr ((cellsFrom 0 fd.scope.names []).map (·.1)) && (nodupS ps && (ps.all (isPar fd.scope) && (Nat.beq fd.globals mainGlobals && (Nat.beq fd.builtins builtinsNs && (fd.closure.isEmpty && (parOk fd.params (ps.map nm) && nodupStr (ps.map nm))))))))))))
  | _ => false
noncomputable def okD (K : Frag) (a : Addr) (ps : List Nat) (w : Ss) : Bool := match K.lookup a with
  | some ⟨_, _, .func fd, _⟩ => okF K fd ps w && (match fd.defaults with
    | .none => true
    | _ => false)
  | _ => false
theorem okF_def {K : Frag} {a : Addr} {fd : FuncData} {oc od osl} {ps : List Nat} {w : Ss} {dfl : List Value} (hK : K.lookup a = some ⟨oc, od, .func fd, osl⟩) (h : okF K fd ps w = true)
    (hb : (∃ as kd ds, fd.params = ⟨[], as, none, [], kd, none, ds⟩ ∧ as.map (·.arg) = ps.map nm) → (ps.map nm).Nodup → ∀ s args, K.In s.heap → args.length ≤ ps.length → ps.length ≤ args.length + dfl.length → BindsTo s fd ⟨args, []⟩ ((ps.map nm).zip (args ++ dfl.drop (args.length + dfl.length - ps.length)))) :
    ∃ qual bodyS scope cdv, DefAt K a qual bodyS scope cdv ps w dfl := by
  obtain ⟨name, qual, params, body, scope, glo, clo, dV, kV, doc, pm, an, cdv, ct, bi⟩ := fd
  unfold okF at h
  dsimp only at h
  split at h
  · rename_i b
    obtain ⟨h1, h⟩ := and2 h; obtain ⟨h2, h⟩ := and2 h; obtain ⟨h3, h⟩ := and2 h; obtain ⟨h4, h⟩ := and2 h; obtain ⟨h5, h⟩ := and2 h; obtain ⟨h6, h⟩ := and2 h; obtain ⟨h7, h⟩ := and2 h; obtain ⟨h8, h⟩ := and2 h; obtain ⟨h9, h⟩ := and2 h; obtain ⟨h10, h⟩ := and2 h; obtain ⟨h11, h⟩ := and2 h; obtain ⟨h12, h13⟩ := and2 h
    obtain rfl := Nat.eq_of_beq_eq_true h9
    obtain rfl := Nat.eq_of_beq_eq_true h10
    obtain rfl := List.isEmpty_iff.mp h11
    refine ⟨qual, b, scope, cdv, ⟨name, params, dV, kV, doc, pm, an, ct, oc, od, osl, hK, hb ?_ (nodupStr_iff h13)⟩, h2, h1, ?_, by simpa using h4, by simpa using h5, nodupStr_iff h6, h7, h8⟩
    · exact parOk_iff h12
    · exact isFunK_iff h3
  · cases h
theorem okD_def {K : Frag} {a : Addr} {ps : List Nat} {w : Ss} (h : okD K a ps w = true) : ∃ qual bodyS scope cdv, DefAt K a qual bodyS scope cdv ps w [] := by
  unfold okD at h
  split at h
  · rename_i oc od fd osl e
    replace h := and2 h
    refine okF_def e h.1 fun ⟨as, kd, ds, hp, hn⟩ hd s args _ h1 h2 => ?_
    have hl : args.length = ps.length := Nat.le_antisymm h1 (by simpa using h2)
    rw [List.drop_nil, List.append_nil]
    refine BindsTo.of_eq (bind_plain hp hn ?_ (by rw [List.length_map, hl]) hd)
    have := h.2
    split at this
    · assumption
    · cases this
  · cases h
noncomputable def dflOf (K : Frag) (v : Value) : Option (List Value) := match v with
  | .ref T => (match K.lookup T with
    | some ⟨_, _, .seq ⟨items⟩ _, _⟩ => some items
    | _ => none)
  | _ => none
theorem dflOf_iff {K : Frag} {v : Value} {l : List Value} (h : dflOf K v = some l) : ∃ T o n, v = .ref T ∧ K.lookup T = some o ∧ o.data = .seq ⟨l⟩ n := by
  unfold dflOf at h
  split at h
  · split at h
    · rename_i T _ _ _ items n _ e
      cases h
      exact ⟨_, _, _, rfl, e, rfl⟩
    · cases h
  · cases h
noncomputable def isC75 (l : Option (List Value)) : Bool := match l with
  | some [.int 0 _, .none] => true
  | _ => false
noncomputable def isC195 (l : Option (List Value)) : Bool := match l with
  | some [.int 0 _] => true
  | _ => false
noncomputable def ok75 (K : Frag) : Bool := match K.lookup 75 with
  | some ⟨_, _, .func fd, _⟩ => okF K fd p75 w75 && isC75 (dflOf K fd.defaults)
  | _ => false
noncomputable def ok195 (K : Frag) : Bool := match K.lookup 195 with
  | some ⟨_, _, .func fd, _⟩ => okF K fd p195 w195 && isC195 (dflOf K fd.defaults)
  | _ => false
theorem bind75 {fd : FuncData} {s : Shared} {K : Frag} {t : Tok} {a0 a1 a2 a3 : Arg} {kd : List (Option Expr)} {ds : List Expr} (X : K.In s.heap) (hp : fd.params = ⟨[], [a0, a1, a2, a3], none, [], kd, none, ds⟩) (h0 : a0.arg = nm 0) (h1 : a1.arg = nm 1) (h2 : a2.arg = nm 2) (h3 : a3.arg = nm 3) (hd : dflOf K fd.defaults = some [.int 0 t, .none]) :
    (∀ v0 v1, BindsTo s fd ⟨[v0, v1], []⟩ [(nm 0, v0), (nm 1, v1), (nm 2, .int 0 t), (nm 3, .none)]) ∧ (∀ v0 v1 v2, BindsTo s fd ⟨[v0, v1, v2], []⟩ [(nm 0, v0), (nm 1, v1), (nm 2, v2), (nm 3, .none)]) ∧ (∀ v0 v1 v2 v3, BindsTo s fd ⟨[v0, v1, v2, v3], []⟩ [(nm 0, v0), (nm 1, v1), (nm 2, v2), (nm 3, v3)]) := by
  obtain ⟨T, o, n, e1, e2, e3⟩ := dflOf_iff hd
  obtain ⟨name, qual, params, body, scope, glo, clo, dV, kV, doc, pm, an, cdv, ct, bi⟩ := fd
  obtain ⟨x0, _, _⟩ := a0
  obtain ⟨x1, _, _⟩ := a1
  obtain ⟨x2, _, _⟩ := a2
  obtain ⟨x3, _, _⟩ := a3
  dsimp only at hp h0 h1 h2 h3 e1
  subst hp h0 h1 h2 h3 e1
  refine ⟨fun v0 v1 => binds_K X rfl e2 e3 rfl ?_, fun v0 v1 v2 => binds_K X rfl e2 e3 rfl ?_, fun v0 v1 v2 v3 => binds_K X rfl e2 e3 rfl ?_⟩ <;> kernel_rfl
theorem bind195 {fd : FuncData} {s : Shared} {K : Frag} {t : Tok} {a0 a1 : Arg} {kd : List (Option Expr)} {ds : List Expr} (X : K.In s.heap) (hp : fd.params = ⟨[], [a0, a1], none, [], kd, none, ds⟩) (h0 : a0.arg = nm 1) (h1 : a1.arg = nm 8) (hd : dflOf K fd.defaults = some [.int 0 t]) :
    ∀ v0 v1, BindsTo s fd ⟨[v0, v1], []⟩ [(nm 1, v0), (nm 8, v1)] := by
  obtain ⟨T, o, n, e1, e2, e3⟩ := dflOf_iff hd
  obtain ⟨name, qual, params, body, scope, glo, clo, dV, kV, doc, pm, an, cdv, ct, bi⟩ := fd
  obtain ⟨x0, _, _⟩ := a0
  obtain ⟨x1, _, _⟩ := a1
  dsimp only at hp h0 h1 e1
  subst hp h0 h1 e1
  refine fun v0 v1 => binds_K X rfl e2 e3 rfl ?_
  kernel_rfl
theorem def75 {K : Frag} (h : ok75 K = true) : ∃ qual bodyS scope cdv dfl, (∀ P : Kn, DRs P [.int 0, .none] dfl) ∧ DefAt K 75 qual bodyS scope cdv p75 w75 dfl := by
  unfold ok75 at h
  split at h
  · rename_i oc od fd osl e
    replace h := and2 h
    obtain ⟨h, hd⟩ := h
    unfold isC75 at hd
    split at hd
    · rename_i t hq
      obtain ⟨qual, bodyS, scope, cdv, D⟩ := okF_def (dfl := [.int 0 t, .none]) e h fun ⟨as, kd, ds, hp, hn⟩ _ s args X h1 h2 => by
        match as, hn with
        | [a0, a1, a2, a3], hn =>
          simp only [p75, List.map_cons, List.map_nil, List.cons.injEq, and_true] at hn
          obtain ⟨b1, b2, b3⟩ := bind75 X hp hn.1 hn.2.1 hn.2.2.1 hn.2.2.2 hq
          match args, h1, h2 with
          | [v0, v1], _, _ => exact b1 v0 v1
          | [v0, v1, v2], _, _ => exact b2 v0 v1 v2
          | [v0, v1, v2, v3], _, _ => exact b3 v0 v1 v2 v3
          | [], _, h => exact absurd h (by simp [p75])
          | [_], _, h => exact absurd h (by simp [p75])
          | _ :: _ :: _ :: _ :: _ :: _, h, _ => exact absurd h (by simp [p75])
        | [], hn => exact absurd (congrArg List.length hn) (by simp [p75])
        | [_], hn => exact absurd (congrArg List.length hn) (by simp [p75])
        | [_, _], hn => exact absurd (congrArg List.length hn) (by simp [p75])
        | [_, _, _], hn => exact absurd (congrArg List.length hn) (by simp [p75])
        | _ :: _ :: _ :: _ :: _ :: _, hn => exact absurd (congrArg List.length hn) (by simp [p75])
      exact ⟨qual, bodyS, scope, cdv, _, fun P => .cons (.int 0 t) (.cons .none .nil), D⟩
    · cases hd
  · cases h
theorem def195 {K : Frag} (h : ok195 K = true) : ∃ qual bodyS scope cdv, DefAt K 195 qual bodyS scope cdv p195 w195 [] := by
  unfold ok195 at h
  split at h
  · rename_i oc od fd osl e
    replace h := and2 h
    obtain ⟨h, hd⟩ := h
    unfold isC195 at hd
    split at hd
    · rename_i t hq
      exact okF_def (dfl := []) e h fun ⟨as, kd, ds, hp, hn⟩ _ s args X h1 h2 => by
        match as, hn with
        | [a0, a1], hn =>
          simp only [p195, List.map_cons, List.map_nil, List.cons.injEq, and_true] at hn
          match args, h1, h2 with
          | [v0, v1], _, _ => exact bind195 X hp hn.1 hn.2 hq v0 v1
          | [], _, h => exact absurd h (by simp [p195])
          | [_], _, h => exact absurd h (by simp [p195])
          | _ :: _ :: _ :: _, h, _ => exact absurd h (by simp [p195])
        | [], hn => exact absurd (congrArg List.length hn) (by simp [p195])
        | [_], hn => exact absurd (congrArg List.length hn) (by simp [p195])
        | _ :: _ :: _ :: _, hn => exact absurd (congrArg List.length hn) (by simp [p195])
    · cases hd
  · cases h
end Mine
end

section
open PySem PySem.W PyProof.Rows PySem.Calls
set_option linter.unusedVariables false
namespace Mine
theorem getN_app {α : Type} (f g : Nat) (S : α) : ∀ l : List (Nat × α), getN f (l ++ [(g, S)]) = getN f l ∨ (f = g ∧ getN f (l ++ [(g, S)]) = some S)
  | [] => by
    show (match Nat.beq f g with | true => some S | false => none) = none ∨ (f = g ∧ (match Nat.beq f g with | true => some S | false => none) = some S)
    cases h : Nat.beq f g with
    | true => exact .inr ⟨Nat.eq_of_beq_eq_true h, rfl⟩
    | false => exact .inl rfl
  | p :: l => by
    show (match Nat.beq f p.1 with | true => some p.2 | false => getN f (l ++ [(g, S)])) = (match Nat.beq f p.1 with | true => some p.2 | false => getN f l) ∨ (f = g ∧ (match Nat.beq f p.1 with | true => some p.2 | false => getN f (l ++ [(g, S)])) = some S)
    cases Nat.beq f p.1 with
    | true => exact .inl rfl
    | false => exact getN_app f g S l
section
variable {prog : Program} {w : World} {K : Frag} {mg mb : Str → Option Value}
noncomputable def Upto (prog : Program) (w : World) (K : Frag) (mg mb : Str → Option Value) (n ℓ : Nat) : Prop := ∀ f, f < 30 → SoundF prog w K mg mb ℓ f (Gam n f)
theorem upto0 : Upto prog w K mg mb 0 0 := fun f _ XQ c A fro ρ m obs s vs rvs q Qr Er _ _ _ _ _ _ vc => vc.elim
theorem Upto.step {n ℓ ℓ' g : Nat} {S : FSpec} (H : Upto prog w K mg mb n ℓ) (hl : ℓ ≤ ℓ') (hs : SEQ.take (n + 1) = SEQ.take n ++ [(g, S)]) (h : SoundF prog w K mg mb ℓ' g S) : Upto prog w K mg mb (n + 1) ℓ' := fun f hf => by
  unfold Gam
  rw [hs]
  rcases getN_app f g S (SEQ.take n) with e | ⟨rfl, e⟩
  · rw [e]
    exact (H f hf).up hl
  · rw [e]
    exact h
structure Facts (K : Frag) : Prop where
  kf : KF K
  ef : EF K
  d82 : okD K 82 p82 w82 = true
  d89 : okD K 89 p89 w89 = true
  d96 : okD K 96 p96 w96 = true
  d103 : okD K 103 p103 w103 = true
  d110 : okD K 110 p110 w110 = true
  d117 : okD K 117 p117 w117 = true
  d124 : okD K 124 p124 w124 = true
  d138 : okD K 138 p138 w138 = true
  d173 : okD K 173 p173 w173 = true
  d187 : okD K 187 p187 w187 = true
  d203 : okD K 203 p203 w203 = true
  d210 : okD K 210 p210 w210 = true
  d224 : okD K 224 p224 w224 = true
  d231 : okD K 231 p231 w231 = true
  d238 : okD K 238 p238 w238 = true
  d252 : okD K 252 p252 w252 = true
  d259 : okD K 259 p259 w259 = true
  d264 : okD K 264 p264 w264 = true
  d271 : okD K 271 p271 w271 = true
  d276 : okD K 276 p276 w276 = true
  d283 : okD K 283 p283 w283 = true
  d290 : okD K 290 p290 w290 = true
  d297 : okD K 297 p297 w297 = true
  d302 : okD K 302 p302 w302 = true
  d309 : okD K 309 p309 w309 = true
  d316 : okD K 316 p316 w316 = true
  d323 : okD K 323 p323 w323 = true
  d330 : okD K 330 p330 w330 = true
  d75 : ok75 K = true
  d195 : ok195 K = true
  m176 : makesIn K 176 = true
  m241 : makesIn K 241 = true
  i176 : findIn K (.ref 176) "__init__" = some (some (.ref 75))
  i241 : findIn K (.ref 241) "__init__" = some (some (.ref 224))
  t75 : typeIn K (.ref 75) = some (.type "function")
  t224 : typeIn K (.ref 224) = some (.type "function")
theorem Upto.def {n ℓ f a : Nat} {S : FSpec} {ps : List Nat} {ws : Ss} (k : Facts K) (H : Upto prog w K mg mb n ℓ) (ha : fAddr f = a) (hs : SEQ.take (n + 1) = SEQ.take n ++ [(f, S)]) (hd : ∃ qual bodyS scope cdv, DefAt K a qual bodyS scope cdv ps ws [])
    (hv : ∀ vs obs q XQ, S vs obs q XQ → vcF (Gam n) ps ws vs obs q XQ) : Upto prog w K mg mb (n + 1) (ℓ + 1) := by
  obtain ⟨_, _, _, _, D⟩ := hd
  subst ha
  exact H.step (Nat.le_succ _) hs (soundDef k.kf (raiseOk k.ef) D H hv)
theorem upto30 (k : Facts K) : Upto prog w K mg mb 30 32 := by
  have H := upto0 (prog := prog) (w := w) (K := K) (mg := mg) (mb := mb)
  have H := H.def (f := 0) (a := 82) k rfl rfl (okD_def k.d82) fun _ _ _ _ => v0
  have H := H.def (f := 1) (a := 89) k rfl rfl (okD_def k.d89) fun _ _ _ _ => v1
  have H := H.def (f := 2) (a := 96) k rfl rfl (okD_def k.d96) fun _ _ _ _ => v2
  have H := H.def (f := 3) (a := 103) k rfl rfl (okD_def k.d103) fun _ _ _ _ => v3
  have H := H.def (f := 4) (a := 110) k rfl rfl (okD_def k.d110) fun _ _ _ _ => v4
  have H : Upto prog w K mg mb 6 7 := by
    obtain ⟨_, _, _, _, dfl, hdv, D⟩ := def75 k.d75
    exact H.step (g := 28) (S := f28) (by decide) rfl (soundCls k.kf (raiseOk k.ef) (cI := 0) D H rfl k.m176 k.i176 k.t75 hdv fun _ _ _ _ => v28)
  have H := H.def (f := 5) (a := 117) k rfl rfl (okD_def k.d117) fun _ _ _ _ => v5
  have H := H.def (f := 6) (a := 124) k rfl rfl (okD_def k.d124) fun _ _ _ _ => v6
  have H := H.def (f := 7) (a := 138) k rfl rfl (okD_def k.d138) fun _ _ _ _ => v7
  have H := H.def (f := 9) (a := 187) k rfl rfl (okD_def k.d187) fun _ _ _ _ => v9
  have H := H.def (f := 10) (a := 195) k rfl rfl (def195 k.d195) fun _ _ _ _ => v10
  have H := H.def (f := 8) (a := 173) k rfl rfl (okD_def k.d173) fun _ _ _ _ => v8
  have H := H.def (f := 11) (a := 203) k rfl rfl (okD_def k.d203) fun _ _ _ _ => v11
  have H := H.def (f := 12) (a := 210) k rfl rfl (okD_def k.d210) fun _ _ _ _ => v12
  have H := H.def (f := 13) (a := 231) k rfl rfl (okD_def k.d231) fun _ _ _ _ => v13
  have H := H.def (f := 14) (a := 238) k rfl rfl (okD_def k.d238) fun _ _ _ _ => v14
  have H : Upto prog w K mg mb 17 19 := by
    obtain ⟨_, _, _, _, D⟩ := okD_def k.d224
    exact H.step (g := 29) (S := f29) (by decide) rfl (soundCls k.kf (raiseOk k.ef) (cI := 1) (dv := []) D H rfl k.m241 k.i241 k.t224 (fun _ => .nil) fun _ _ _ _ => v29)
  have H := H.def (f := 15) (a := 252) k rfl rfl (okD_def k.d252) fun _ _ _ _ => v15
  have H := H.def (f := 16) (a := 259) k rfl rfl (okD_def k.d259) fun _ _ _ _ => v16
  have H := H.def (f := 17) (a := 264) k rfl rfl (okD_def k.d264) fun _ _ _ _ => v17
  have H := H.def (f := 18) (a := 271) k rfl rfl (okD_def k.d271) fun _ _ _ _ => v18
  have H := H.def (f := 19) (a := 276) k rfl rfl (okD_def k.d276) fun _ _ _ _ => v19
  have H := H.def (f := 20) (a := 283) k rfl rfl (okD_def k.d283) fun _ _ _ _ => v20
  have H := H.def (f := 21) (a := 290) k rfl rfl (okD_def k.d290) fun _ _ _ _ => v21
  have H := H.def (f := 22) (a := 297) k rfl rfl (okD_def k.d297) fun _ _ _ _ => v22
  have H := H.def (f := 23) (a := 302) k rfl rfl (okD_def k.d302) fun _ _ _ _ => v23
  have H := H.def (f := 24) (a := 309) k rfl rfl (okD_def k.d309) fun _ _ _ _ => v24
  have H := H.def (f := 25) (a := 316) k rfl rfl (okD_def k.d316) fun _ _ _ _ => v25
  have H := H.def (f := 26) (a := 323) k rfl rfl (okD_def k.d323) fun _ _ _ _ => v26
  exact H.def (f := 27) (a := 330) k rfl rfl (okD_def k.d330) fun _ _ _ _ => v27
end
end Mine
end

section
open PySem PySem.W PyProof.Rows PySem.Calls
set_option linter.unusedVariables false
namespace Mine
/-! what the kernel looks at, for KF -/
noncomputable def isRefO (a : Addr) : Option (Option Value) → Bool
  | some (some (.ref b)) => Nat.beq a b
  | _ => false
theorem isRefO_iff {a : Addr} {o : Option (Option Value)} (h : isRefO a o = true) : o = some (some (.ref a)) := by
  unfold isRefO at h
  split at h
  · rw [Nat.eq_of_beq_eq_true h]
  · cases h
noncomputable def isNoO : Option (Option Value) → Bool
  | some none => true
  | _ => false
theorem isNoO_iff {o : Option (Option Value)} (h : isNoO o = true) : o = some none := by
  unfold isNoO at h
  split at h
  · rfl
  · cases h
noncomputable def intsOfV : List Value → Option (List Int)
  | [] => some []
  | .int i _ :: r => (intsOfV r).map (i :: ·)
  | _ :: _ => none
theorem intsOfV_R {P : Kn} : ∀ {vs : List Value} {xs : List Int}, intsOfV vs = some xs → DRs P (xs.map Mine.D.int) vs
  | [], _, h => by cases h; exact .nil
  | .int i t :: r, xs, h => by
    unfold intsOfV at h
    cases q : intsOfV r with
    | none => rw [q] at h; cases h
    | some ys => rw [q] at h; cases h; exact .cons (.int i t) (intsOfV_R q)
noncomputable def isGl (K : Frag) (d : Mine.D) : Option (Option Value) → Bool
  | some (some (.bytes b _)) => (match d with
    | .bytes xs => KBw.bInts b == xs
    | _ => false)
  | some (some (.int i _)) => (match d with
    | .int j => i == j
    | _ => false)
  | some (some (.ref a)) => (match K.lookup a with
    | some ⟨.type t, none, .seq ⟨vs⟩ _, ⟨[]⟩⟩ => (t == "tuple") && ((match d with
      | .tup ds => (match intsOfV vs, intsD ds with
        | some xs, some ys => xs == ys
        | _, _ => false)
      | _ => false))
    | _ => false)
  | _ => false
theorem intsD_R : ∀ {ds : List Mine.D} {ys : List Int}, intsD ds = some ys → ds = ys.map Mine.D.int
  | [], _, h => by cases h; rfl
  | .int i :: r, _, h => by
    unfold intsD at h
    cases q : intsD r with
    | none => rw [q] at h; cases h
    | some ys => rw [q] at h; cases h; rw [intsD_R q]; rfl
theorem isGl_iff {K : Frag} {d : Mine.D} {o : Option (Option Value)} (h : isGl K d o = true) : ∃ v, o = some (some v) ∧ DR (fun a o => K.lookup a = some o) d v := by
  unfold isGl at h
  split at h
  · split at h
    · exact ⟨_, rfl, .bytes _ (eq_of_beq h)⟩
    · cases h
  · split at h
    · obtain rfl := eq_of_beq h
      exact ⟨_, rfl, .int _ _⟩
    · cases h
  · split at h
    · rename_i a _ t vs n e
      replace h := and2 h
      obtain ⟨h1, h⟩ := h
      obtain rfl := eq_of_beq h1
      split at h
      · split at h
        · rename_i ds _ _ xs ys e1 e2
          obtain rfl := eq_of_beq h
          refine ⟨_, rfl, .tup (n := n) e ?_⟩
          rw [intsD_R e2]
          exact intsOfV_R e1
        · cases h
      · cases h
    · cases h
  · cases h
noncomputable def ckGlob (K : Frag) : Bool := (List.range 5).all fun g => isGl K (gVal g) (nsIn K mainGlobals (Str.ofString (gName g)))
noncomputable def ckFn (K : Frag) : Bool := (List.range 30).all fun f => Nat.ble f 8 || (Nat.beq f 13 || (Nat.beq f 14 || isRefO (fAddr f) (nsIn K mainGlobals (Str.ofString (fName f)))))
noncomputable def ckKeep (K : Frag) : Bool := (List.range 30).all fun f => keepIn K (.ref (fAddr f))
noncomputable def ckIsFn (K : Frag) : Bool := (List.range 28).all fun f => isFn K (.ref (fAddr f))
noncomputable def ckBi (K : Frag) : Bool := ["len", "max", "min", "bytes", "chr", "any", "range"].all fun x => isNoO (nsIn K mainGlobals (Str.ofString x))
noncomputable def ckNoA (K : Frag) : Bool := (List.range 2).all fun c => (List.range 41).all fun f => !isFld f || isNoO (findIn K (.ref (clsA c)) (nm f))
noncomputable def ckMeth (K : Frag) : Bool := (List.range 2).all fun c => (List.range 15).all fun f => !methOk c f || isRefO (fAddr f) (findIn K (.ref (clsA c)) (Str.ofString (fName f)))
noncomputable def ckTak (K : Frag) : Bool := (List.range 2).all fun c => (List.range 41).all fun f => match takerIn K (clsA c) (nm f) with
  | some none => true
  | _ => false
theorem clsA_two (c : Nat) : ∃ d, d < 2 ∧ clsA c = clsA d ∧ ∀ f, methOk c f = methOk d f := match c with
  | 0 => ⟨0, by decide, rfl, fun _ => rfl⟩
  | _ + 1 => ⟨1, by decide, rfl, fun _ => rfl⟩
theorem all_at {n : Nat} {p : Nat → Bool} (h : (List.range n).all p = true) {i : Nat} (hi : i < n) : p i = true := List.all_eq_true.mp h i (List.mem_range.mpr hi)
theorem KF_of {K : Frag} (h1 : ckGlob K = true) (h2 : ckFn K = true) (h3 : ckKeep K = true) (h4 : ckIsFn K = true) (h5 : ckBi K = true) (h6 : ∀ f, plainGet K 176 f = true) (h6' : ∀ f, plainGet K 241 f = true) (h7 : hasDictIn K 176 = true) (h7' : hasDictIn K 241 = true) (h8 : ckNoA K = true) (h9 : ckMeth K = true)
    (ha : findIn K (.ref 176) "__setattr__" = some (some (.builtin "object.__setattr__"))) (ha' : findIn K (.ref 241) "__setattr__" = some (some (.builtin "object.__setattr__"))) (hb : plainOver K 176 = true) (hb' : plainOver K 241 = true) (hc : ckTak K = true) : KF K := by
  have tak : ∀ c f, f < 41 → takerIn K (clsA c) (nm f) = some none := fun c f hf => by
    obtain ⟨d, hd, e, _⟩ := clsA_two c
    rw [e]
    have := all_at (all_at hc hd) hf
    split at this
    · assumption
    · cases this
  refine ⟨fun g hg => isGl_iff (all_at h1 hg), fun f f1 f2 f3 f4 => ?_, fun f hf => all_at h3 hf, fun f hf => all_at h4 hf, fun x hx => isNoO_iff (List.all_eq_true.mp h5 x hx), fun c f => ?_, fun c => ?_, fun c f hf => ?_, fun c f hm => ?_, fun c => ?_⟩
  · have := all_at h2 f2
    simp only [Bool.or_eq_true] at this
    rcases this with h | h | h | h
    · exact absurd (Nat.ble_eq.mp h) (by omega)
    · exact absurd (Nat.eq_of_beq_eq_true h) f3
    · exact absurd (Nat.eq_of_beq_eq_true h) f4
    · exact isRefO_iff h
  · match c with
    | 0 => exact h6 f
    | _ + 1 => exact h6' f
  · match c with
    | 0 => exact h7
    | _ + 1 => exact h7'
  · obtain ⟨d, hd, e, _⟩ := clsA_two c
    rw [e]
    have := all_at (all_at h8 hd) (isFld_lt hf)
    rw [hf] at this
    exact isNoO_iff this
  · obtain ⟨d, hd, e, em⟩ := clsA_two c
    rw [e]
    have hf : f < 15 := by
      rw [em] at hm
      match d, hd with
      | 0, _ => have := Nat.ble_eq.mp (show Nat.ble f 8 = true from hm); omega
      | 1, _ =>
        have : (f == 13 || f == 14) = true := hm
        simp at this; omega
    have := all_at (all_at h9 hd) hf
    rw [← em, hm] at this
    exact isRefO_iff this
  · match c with
    | 0 => exact ⟨ha, hb, fun f => tak 0 f⟩
    | n + 1 => exact ⟨ha', hb', fun f hf => tak (n + 1) f hf⟩
end Mine
end

section
open PySem PySem.W PyProof.Rows PySem.Calls
set_option linter.unusedVariables false
namespace Mine
open PySem.SeqAt
/-- no deeper than n -/
noncomputable def Flat : Nat → Mine.D → Bool
  | 0, .il _ => false
  | 0, .tup _ => false
  | 0, .lst _ => false
  | n + 1, .tup ds => ds.all (Flat n)
  | n + 1, .lst ds => ds.all (Flat n)
  | _, _ => true
section
variable {A : Around} {s : Shared}
theorem EqAt_bytes (b : Array UInt8) (t u : Tok) : EqAt A s (.bytes b t) (.bytes b u) true := fun prog w E Q h => by
  unfold eqBool
  refine wpAny_holding ?_
  refine wpAny_ite_split (fun _ => wpAny_bind (wpAny_rule (wpAny_pure h))) (fun _ => ?_)
  refine wpAny_bind (?_ : wpAny _ _ (compareOp .Eq _ _) _ _ _)
  refine PySem.W.eq_bytes ?_
  rw [beq_self_eq_true]
  exact wpAny_truthy_bool h
theorem all_range (n : Nat) : (List.range n).all (fun _ => true) = true := List.all_eq_true.mpr fun _ _ => rfl
theorem at_DRs {P : Kn} : ∀ {ds : List Mine.D} {vs : List Value}, DRs P ds vs → ∀ (j : Nat) (h : j < vs.length), ∃ (k : j < ds.length), DR P ds[j] vs[j]
  | _, _, .nil, j, h => absurd h (Nat.not_lt_zero _)
  | _, _, .cons a r, 0, h => ⟨Nat.zero_lt_succ _, a⟩
  | _, _, .cons a r, j + 1, h => by
    obtain ⟨k, x⟩ := at_DRs r j (Nat.lt_of_succ_lt_succ h)
    exact ⟨Nat.succ_lt_succ k, x⟩
theorem at_ints : ∀ {vs : List Value} {xs : List Int}, IntsAre vs xs → ∀ (j : Nat) (h : j < vs.length), ∃ i t, xs[j]? = some i ∧ vs[j] = .int i t
  | _, _, .nil, j, h => absurd h (Nat.not_lt_zero _)
  | _, _, .cons i t r, 0, h => ⟨i, t, rfl, rfl⟩
  | _, _, .cons i t r, j + 1, h => at_ints r j (Nat.lt_of_succ_lt_succ h)
theorem isTup_of {h : Heap} {a : Addr} {vs : List Value} {n : Nat} (e : h.get? a = some (tupOf vs n)) : h.IsTuple a vs.toArray := ⟨_, e, rfl, n, rfl⟩
theorem isLst_of {h : Heap} {a : Addr} {vs : List Value} {n : Nat} (e : h.get? a = some (listOf vs.toArray n)) : h.IsList a vs.toArray := ⟨_, e, rfl, n, rfl⟩
theorem rc_tups {a b : Addr} {vs ws : List Value} {n n' : Nat} (ha : s.heap.get? a = some (tupOf vs n)) (hb : s.heap.get? b = some (tupOf ws n')) (hl : vs.length = ws.length) (hu : A.units < cLine)
    (he : ∀ j (h1 : j < vs.length) (h2 : j < ws.length), EqAt A.in1 s vs[j] ws[j] true) : RcAt A s (.ref a) (.ref b) true := by
  have := RcAt.tuples (e := fun _ => true) (isTup_of ha) (isTup_of hb) hu fun j h1 h2 => by
    have := he j (by simpa using h1) (by simpa using h2)
    simpa using this
  rw [all_range] at this
  simpa [hl] using this
theorem rc_lsts {a b : Addr} {vs ws : List Value} {n n' : Nat} (ha : s.heap.get? a = some (listOf vs.toArray n)) (hb : s.heap.get? b = some (listOf ws.toArray n')) (hl : vs.length = ws.length) (hu : A.units < cLine)
    (he : ∀ j (h1 : j < vs.length) (h2 : j < ws.length), EqAt A.in1 s vs[j] ws[j] true) : RcAt A s (.ref a) (.ref b) true := by
  have := RcAt.lists (e := fun _ => true) (isLst_of ha) (isLst_of hb) (by simpa using hl) hu fun j h1 h2 => by
    have := he j (by simpa using h1) (by simpa using h2)
    simpa using this
  rw [all_range] at this
  exact this
theorem eq_refs {a b : Addr} (h : RcAt A s (.ref a) (.ref b) true) : EqAt A s (.ref a) (.ref b) true := by
  by_cases e : a = b
  · subst e; exact EqAt.same _
  · exact EqAt.of_refs e h
/-- equal data compare equal -/
theorem eqD : ∀ (n : Nat) (d : Mine.D) (A : Around) (a b : Value), Flat n d = true → A.units + n < cLine → DR (fun x o => s.heap.get? x = some o) d a → DR (fun x o => s.heap.get? x = some o) d b → EqAt A s a b true := by
  intro n
  induction n with
  | zero =>
    intro d A a b hf hu ha hb
    cases ha with
    | none => cases hb; exact EqAt.same _
    | bool x => cases hb; exact EqAt.same _
    | int i t => cases hb; have := EqAt.int_int (A := A) (s := s) i t i ‹Tok›; rwa [beq_self_eq_true] at this
    | str x t => cases hb; have := EqAt.str_str (A := A) (s := s) x t x ‹Tok›; rwa [beq_self_eq_true] at this
    | bytes t e => cases hb with
      | bytes u e' => obtain rfl := Array.toList_inj.mp (bInts_inj (e.trans e'.symm)); exact EqAt_bytes _ _ _
    | il _ _ => cases hf
    | tup _ _ => cases hf
    | lst _ _ => cases hf
  | succ n ih =>
    intro d A a b hf hu ha hb
    have hu0 : A.units < cLine := by omega
    have hu1 : A.in1.units + n < cLine := by show A.units + 1 + n < cLine; omega
    cases ha with
    | none => cases hb; exact EqAt.same _
    | bool x => cases hb; exact EqAt.same _
    | int i t => cases hb; have := EqAt.int_int (A := A) (s := s) i t i ‹Tok›; rwa [beq_self_eq_true] at this
    | str x t => cases hb; have := EqAt.str_str (A := A) (s := s) x t x ‹Tok›; rwa [beq_self_eq_true] at this
    | bytes t e => cases hb with
      | bytes u e' => obtain rfl := Array.toList_inj.mp (bInts_inj (e.trans e'.symm)); exact EqAt_bytes _ _ _
    | il ha ia => cases hb with
      | il hb ib =>
        refine eq_refs (rc_lsts ha hb (by rw [ia.length, ib.length]) hu0 fun j h1 h2 => ?_)
        obtain ⟨i, t, e1, e2⟩ := at_ints ia j h1
        obtain ⟨i', t', e3, e4⟩ := at_ints ib j h2
        rw [e1] at e3; cases e3
        rw [e2, e4]
        have := EqAt.int_int (A := A.in1) (s := s) i t i t'; rwa [beq_self_eq_true] at this
    | tup ha ra => cases hb with
      | tup hb rb =>
        refine eq_refs (rc_tups ha hb (by rw [ra.length, rb.length]) hu0 fun j h1 h2 => ?_)
        obtain ⟨k1, x1⟩ := at_DRs ra j h1
        obtain ⟨k2, x2⟩ := at_DRs rb j h2
        exact ih _ _ _ _ (List.all_eq_true.mp hf _ (List.getElem_mem k1)) hu1 x1 x2
    | lst ha ra => cases hb with
      | lst hb rb =>
        refine eq_refs (rc_lsts ha hb (by rw [ra.length, rb.length]) hu0 fun j h1 h2 => ?_)
        obtain ⟨k1, x1⟩ := at_DRs ra j h1
        obtain ⟨k2, x2⟩ := at_DRs rb j h2
        exact ih _ _ _ _ (List.all_eq_true.mp hf _ (List.getElem_mem k1)) hu1 x1 x2
theorem rcTup (n : Nat) {ds : List Mine.D} {a b : Value} (hf : Flat (n + 1) (.tup ds) = true) (hu : A.units + (n + 1) < cLine) (ha : DR (fun x o => s.heap.get? x = some o) (.tup ds) a) (hb : DR (fun x o => s.heap.get? x = some o) (.tup ds) b) : RcAt A s a b true := by
  cases ha with
  | tup ha ra => cases hb with
    | tup hb rb =>
      refine rc_tups ha hb (by rw [ra.length, rb.length]) (by omega) fun j h1 h2 => ?_
      obtain ⟨k1, x1⟩ := at_DRs ra j h1
      obtain ⟨k2, x2⟩ := at_DRs rb j h2
      exact eqD n _ _ _ _ (List.all_eq_true.mp hf _ (List.getElem_mem k1)) (by show A.units + 1 + n < cLine; omega) x1 x2
end
end Mine
end

section
open PySem PySem.W PyProof.Rows PySem.Calls
set_option linter.unusedVariables false
set_option maxRecDepth 100000
namespace Mine
section
variable {prog : Program} {w : World} {A : Around} {E : Value → Shared → Prop} {h : Heap} {g : Array GenState} {d : Drawn} {t : Nat} {os : OsState}
variable {nm q : Str} {N x : Addr} {bs : List Value} {sn : List Str} {sub : List Value} {ab : Bool} {col : Option Bool} {dd : Option Addr} {k0 k1 k2 k3 k5 : Option Value} {K : PySem.W.Frag} {name : Str} {v : Value}
theorem ga_check {M : Model} {o : Obj} {nameV : Value} {Q : Unit → Shared → Prop} (hC : h.get? 58 = some (excClassObj nm q 58 N bs bmM true sn sub ab col dd k0 k1 k2 k3 k5 "Exception.__new__")) (hx : h.get? x = some o) (hc : o.cls = .ref 58) (hq : Q () ⟨h, g, d, t, os⟩) :
    wpAny M A (checkBuiltinCall "BaseException.__getattribute__" ⟨[.ref x, nameV], []⟩) Q E ⟨h, g, d, t, os⟩ := by
  have hk : builtinKind "BaseException.__getattribute__" = some .slot := by decide +kernel
  have hsplit : splitId "BaseException.__getattribute__" = some ("BaseException", "__getattribute__") := by decide +kernel
  have hcB : (Value.ref 58 :: bmM).contains (.type "BaseException") = true := by rw [List.contains_cons]; simp [bmM]
  have ha := F.args_bexc_ga (.ref x) nameV
  simp only [checkBuiltinCall, hk, hsplit]
  refine wpAny_bind ?_
  · unfold isInstance
    repeat (first | (with_reducible refine wpAny_loadPart_at hx ?_; rw [hc]) | (with_reducible refine wpAny_isSubtype_exc hC ?_; rw [hcB]) | wp_step)
    exact hq
theorem gaEntry {tk : Tok} {ox : Obj} {od : Option Obj} {Q : Fin → Shared → Prop} (X : K.In h) (I : InstAt h x ox 58 od) (hf : findObj K 58 od name = some (.value v)) (hq : Q (.done (.ret v)) ⟨h, g, d, t, os⟩) :
    wpAny (model prog w) A (Builtin.«object.__getattribute__» ⟨[.ref x, .str name tk], []⟩) Q E ⟨h, g, d, t, os⟩ := by
  have hx := I.at_
  have hc := I.cls
  unfold Builtin.«object.__getattribute__»
  repeat (first | (with_reducible refine wpAny_loadPart_at hx ?_; rw [hc]) | (with_reducible refine (PySem.W.looks_find X I hf).at ?_) | wp_step)
  exact hq
theorem gaAttr {ox : Obj} {od : Option Obj} {expr : Bool} {Q : Value → Shared → Prop} (X : K.In h) (hC : h.get? 58 = some (excClassObj nm q 58 N bs bmM true sn sub ab col dd k0 k1 k2 k3 k5 "Exception.__new__"))
    (h1 : findIn K (.ref 58) "__getattribute__" = some (some (.builtin "BaseException.__getattribute__"))) (h2 : findIn K (.ref 58) "__getattr__" = some none) (I : InstAt h x ox 58 od) (hf : findObj K 58 od name = some (.value v)) (hh : handedIn v = true) (hq : Q v ⟨h, g, d, t + 1, os⟩) :
    wpAny (model prog w) A (getAttr (.ref x) name expr) Q E ⟨h, g, d, t, os⟩ := by
  have hx := I.at_
  have hc := I.cls
  have FB := PySem.F.attr_Exception
  have f3 := FB.ga.bind (.ref x)
  have hx0 : (expr && onTheHeap (Value.builtin "BaseException.__getattribute__")) = false := by cases expr <;> rfl
  have hx2 : (Value.builtin "BaseException.__getattribute__" == Value.builtin "object.__getattribute__") = false := by decide +kernel
  have hx1 : (onTheHeap (Value.ref 58) && Value.builtin "BaseException.__getattribute__" == Value.builtin "object.__getattribute__") = false := by rw [hx2]; rfl
  unfold getAttr getAttrBy
  repeat (any_goals (first | assumption | (with_reducible refine wpAny_loadPart_at hx ?_; rw [hc]) | (with_reducible refine (PySem.W.looks_findIn X h1).at ?_) | (with_reducible refine (PySem.W.looks_findIn X h2).at ?_) | wp_step))
  refine codeAny_call_builtin FB.ga.plain F.entry_bexc_ga (ga_check hC hx hc (gaEntry X I hf ?_))
  repeat (any_goals (first | assumption | wp_step))
  show wpAny _ _ (handedOut v) _ _ _
  rw [handedOut_of hh]; exact wpAny_pure hq
end
end Mine
end

section
open PySem PySem.W PyProof.Rows PySem.Calls
set_option linter.unusedVariables false
set_option maxRecDepth 100000
namespace Mine
open PySem.SeqAt
theorem lookIn_of {od : Obj} {es : Array DictEntry} {ep : Nat} {v : Value} {name : Str} (hd : od.data = .dict es ep) (h : nsFind es name = some v) : lookIn name od = some (some v) := by
  unfold lookIn
  rw [hd]
  unfold nsFind findBy at h
  obtain ⟨e, h1, h2⟩ := Option.map_eq_some_iff.mp h
  rw [← Array.find?_toList] at h1
  dsimp only
  rw [h1]
  dsimp only
  rw [h2]
/-- the reading's answer -/
noncomputable def toldOf (xs : List Int) : Mine.D := match secP xs with
  | .ok ds => .tup [.lst ds, sW ""]
  | .error w => .tup [.none, sW w]
theorem custP_flat {xs : List Int} {a e : Int} {d : Mine.D} (h : custP xs a e = .ok d) : Flat 1 d = true := by
  unfold custP at h
  split at h
  · cases h
  · split at h
    · cases h
    · split at h
      · cases h
      · cases h; rfl
theorem dueP_flat {xs : List Int} : ∀ (n : Nat) (a pl : Int) (acc ds : List Mine.D), dueP xs n a pl acc = .ok ds → acc.all (Flat 1) = true → ds.all (Flat 1) = true
  | 0, _, _, _, _, h, ha => by cases h; exact ha
  | n + 1, a, pl, acc, ds, h, ha => by
    unfold dueP at h
    dsimp only at h
    split at h
    · cases h; exact ha
    split at h
    · cases h
    split at h
    · cases h
    split at h
    · cases h
    split at h
    · split at h
      · cases h
      · rename_i d hd
        exact dueP_flat n _ _ _ _ h (by rw [List.all_append, ha, List.all_cons, custP_flat hd]; rfl)
    split at h
    · cases h
    · exact dueP_flat n _ _ _ _ h (by rw [List.all_append, ha]; rfl)
theorem told_flat (xs : List Int) : Flat 3 (toldOf xs) = true := by
  unfold toldOf
  split
  · rename_i ds h
    unfold secP at h
    split at h
    · cases h
    · have := dueP_flat _ _ _ _ _ h rfl
      show ([Mine.D.lst ds, sW ""].all (Flat 2)) = true
      rw [List.all_cons]
      show (ds.all (Flat 1) && _) = true
      rw [this]; rfl
  · rfl
theorem told_tup (xs : List Int) : ∃ ds, toldOf xs = .tup ds := by
  unfold toldOf
  split <;> exact ⟨_, rfl⟩
noncomputable def lawCx (b0 : Heap) (L : Addr) (scope : Scope) (fa : Addr) (cd : Value) (mg : Str → Option Value) (z : OG) : Cx :=
  { base := b0, L := L, cn := "law", cs := scope, cl := [], a := fa, ccd := cd, outer := [], rest := [], L0 := mainGlobals, m0 := mg, xb := b0, og := z }
structure LawOk (K : Frag) (mg mb : Str → Option Value) (b0 : Heap) (scope : Scope) (L : Addr) : Prop where
  k : Facts K
  g1 : findIn K (.ref 58) "__getattribute__" = some (some (.builtin "BaseException.__getattribute__"))
  g2 : findIn K (.ref 58) "__getattr__" = some none
  g3 : hasDictIn K 58 = true
  hk : scope.kind = .function
  nc : ∀ x, scope.names.lookup x ≠ some .cell
  l1 : scope.names.lookup (nm 1) = some .local
  l22 : scope.names.lookup (nm 22) = some .local
  l25 : scope.names.lookup (nm 25) = some .local
  l40 : scope.names.lookup (nm 40) = some .local
  hX : K.In b0
  T : TopF mg mb b0
  hL : b0.objs.size ≤ L
section
variable {prog : Program} {w : World} {K : Frag} {mg mb : Str → Option Value} {b0 : Heap} {scope : Scope} {L fa : Addr} {cd : Value} {z : OG}
theorem LawOk.ok (o : LawOk K mg mb b0 scope L) : (lawCx b0 L scope fa cd mg z).Ok K mg mb :=
  ⟨o.hk, fun x h => absurd h (o.nc x), o.hX, o.T, fun env h => (by cases h), fun b ob e => .inl e, Heap.get?_none_of_le o.hL, .inr o.T.g⟩
noncomputable def lawPm (prog : Program) (w : World) (c : Cx) : Pm := { prog := prog, w := w, c := c, ℓ := 32, Γ := Gam 30, XQ := fun _ => False }
theorem LawOk.calls (o : LawOk K mg mb b0 scope L) : HCall (lawPm prog w (lawCx b0 L scope fa cd mg z)) := hcall_of (P := lawPm prog w (lawCx b0 L scope fa cd mg z)) o.ok (upto30 o.k)
theorem LawOk.x (o : LawOk K mg mb b0 scope L) (e : X) : SX (lawPm prog w (lawCx b0 L scope fa cd mg z)) e := (xOk o.ok o.k.kf o.calls e).1
theorem noRai {c : Cx} {Er : Value → Shared → Prop} : Rai c (fun _ => False) Er := fun _ _ _ h => h.elim
/-- return told == _law_due(octets) -/
theorem law_ret (o : LawOk K mg mb b0 scope L) {e1 e3 : PySem.Expr} {p1 p2 : Pos} {A : Around} {σ : St} {fro : List (Addr × Obj)} {ρ : List Addr} {m : Str → Option Value} {s : Shared} {Q : Flow → Shared → Prop} {Er : Value → Shared → Prop} {ys : List Int} (hg : Good ys)
    (m1 : mX scope (.loc 25) e1 = true) (m3 : mX scope (.call 27 (.cons (.loc 1) .nil)) e3 = true) (oa : OkA (lawCx b0 L scope fa cd mg z) 32 A) (R : RS (lawCx b0 L scope fa cd mg z) σ fro ρ m s.heap (og s)) (h1 : getN 1 σ.loc = some (sL ys)) (h2 : getN 25 σ.loc = some (.d (toldOf ys)))
    (hq : ∀ s', (∀ b o, b0.get? b = some o → s'.heap.get? b = some o) → og s' = z → Q (.ret (.bool true)) s') : wpAny (model prog w) A (exec (.Return (some (.Compare e1 [.Eq] [e3] p1)) p2) (lawCx b0 L scope fa cd mg z).env) Q Er s := by
  refine wpAny_Return_some (wpAny_Compare1 (two (P := lawPm prog w (lawCx b0 L scope fa cd mg z)) (o.x (.loc 25)) (o.x (.call 27 (.cons (.loc 1) .nil))) m1 m3 oa R (q := fun v w' _ => v = .d (toldOf ys) ∧ w' = .d (toldOf ys)) ?_ (fun f' r' v w' σ' rv rw s' g1 g2 g3 g4 g5 g6 => ?_) noRai) (cp_marks .eq _))
  · show (match getN 25 σ.loc with
      | some v => (match getN 1 σ.loc with
        | some u => callS (Gam 30) (fun _ => False) 27 [u] σ fun w' _ => v = .d (toldOf ys) ∧ w' = .d (toldOf ys)
        | none => False)
      | none => False)
    rw [h2]
    show (match getN 1 σ.loc with
        | some u => callS (Gam 30) (fun _ => False) 27 [u] σ fun w' _ => V.d (toldOf ys) = .d (toldOf ys) ∧ w' = .d (toldOf ys)
        | none => False)
    rw [h1]
    refine And.intro rfl ⟨ys, rfl, rfl, hg, fun w' hw => And.intro (Nat.zero_le _) (And.intro rfl ?_), fun ds hd => And.intro (Nat.zero_le _) (And.intro rfl ?_)⟩
    · show V.d _ = V.d _
      unfold toldOf; rw [hw]
    · show V.d _ = V.d _
      unfold toldOf; rw [hd]
  · obtain ⟨rfl, rfl⟩ := g6
    obtain ⟨ds, hds⟩ := told_tup ys
    have hf := told_flat ys
    cases g4 with
    | d g4 => cases g5 with
      | d g5 =>
        rw [hds] at g4 g5 hf
        exact rcTup 2 hf (by have := oa.un; omega) (g3.dr g4) (g3.dr g5) prog w _ _ (hq _ g3.cs.fr.keep g3.oge)
end
end Mine
end

section
open PySem PySem.W PyProof.Rows PySem.Calls
set_option linter.unusedVariables false
set_option maxRecDepth 100000
namespace Mine
variable {ζ : OG}
/-! a heap that holds what stays alone -/
noncomputable def hidAs (b0 h : Heap) (fro : List (Addr × Obj)) : List Addr := (List.range h.objs.size).filter fun a => (b0.get? a).isNone && !(fro.map (·.1)).contains a
noncomputable def hid (b0 h : Heap) (fro : List (Addr × Obj)) : Heap := hideAll h (hidAs b0 h fro)
theorem mem_hidAs {b0 h : Heap} {fro : List (Addr × Obj)} {a : Addr} : a ∈ hidAs b0 h fro ↔ a < h.objs.size ∧ b0.get? a = none ∧ a ∉ fro.map (·.1) := by
  unfold hidAs
  rw [List.mem_filter, List.mem_range, Bool.and_eq_true, Option.isNone_iff_eq_none, Bool.not_eq_true']
  refine and_congr Iff.rfl (and_congr Iff.rfl ?_)
  rw [← Bool.not_eq_true, List.contains_iff_mem]
theorem hid_in {b0 h : Heap} {fro : List (Addr × Obj)} {b : Addr} {o : Obj} (e : h.get? b = some o) (hh : b0.get? b = some o ∨ (b, o) ∈ fro) : (hid b0 h fro).get? b = some o := by
  refine hideAll_get _ e fun hm => ?_
  obtain ⟨_, h1, h2⟩ := mem_hidAs.mp hm
  rcases hh with hh | hh
  · rw [h1] at hh; cases hh
  · exact h2 (List.mem_map.mpr ⟨_, hh, rfl⟩)
theorem hid_of {b0 h : Heap} {fro : List (Addr × Obj)} (hk : ∀ b o, b0.get? b = some o → h.get? b = some o) (hf : ∀ p ∈ fro, h.get? p.1 = some p.2) {b : Addr} {o : Obj} (e : (hid b0 h fro).get? b = some o) : b0.get? b = some o ∨ (b, o) ∈ fro := by
  have e1 := of_hideAll _ e
  have hn : b ∉ hidAs b0 h fro := fun hm => by
    have := hideAll_none (h := h) _ hm
    unfold hid at e
    rw [this] at e; cases e
  cases q : b0.get? b with
  | some o' => have := hk b o' q; rw [e1] at this; cases this; exact .inl rfl
  | none =>
    refine .inr ?_
    have : b ∈ fro.map (·.1) := Classical.byContradiction fun hc => hn (mem_hidAs.mpr ⟨Heap.lt_size e1, q, hc⟩)
    obtain ⟨p, hp, rfl⟩ := List.mem_map.mp this
    have := hf p hp
    rw [e1] at this; cases this
    exact hp
theorem hid_none {b0 h : Heap} {fro : List (Addr × Obj)} {L : Addr} (h1 : L < h.objs.size) (h2 : b0.get? L = none) (h3 : ∀ p ∈ fro, p.1 ≠ L) : (hid b0 h fro).get? L = none :=
  hideAll_none _ (mem_hidAs.mpr ⟨h1, h2, fun hm => by obtain ⟨p, hp, e⟩ := List.mem_map.mp hm; exact h3 p hp e⟩)
section
variable {M : Model} {A : Around} {E : Value → Shared → Prop} {s : Shared}
theorem flight_again {base : Heap} {l : List Env} {L0 : Addr} {m0 : Str → Option Value} {why : Str} {ea T : Addr} {vs ts : Array Value} {oT : Obj} {z : Value} {Q : Unit → Shared → Prop} (X : XC base l L0 m0 why ea vs s.heap) (h1 : vs[1]? = some (.ref T)) (hnT : base.get? T = none) (hTe : T ≠ ea) (hT : s.heap.get? T = some oT) (hdT : oT.data = .fields ts) (h3 : ts[3]? = some z)
    (h : ∀ h', XC base l L0 m0 why ea vs h' → Q () { s with heap := h' }) : wpAny M A (setFlight (.ref ea) none) Q E s := by
  obtain ⟨oe, d, mA, t, h6, h7, h8, h9, h10, h11⟩ := id X.ob
  have hsz3 : 3 < ts.size := (Array.getElem?_eq_some_iff.mp h3).1
  have other : ∀ b, b ≠ T → (s.heap.update T (Obj.mapFields (·.setIfInBounds 3 (Value.none)))).get? b = s.heap.get? b := fun b hb => Heap.get?_update_other _ _ (Ne.symm hb)
  have noRecord : ∀ b o, s.heap.get? b = some o → (∀ vs, o.data ≠ .fields vs) → b ≠ T := fun b o hb hnf q => by
    rw [q, hT] at hb; injection hb with hb; subst hb; exact hnf ts hdT
  have u : UpT s.heap (s.heap.update T (Obj.mapFields (·.setIfInBounds 3 (Value.none)))) := UpT.of _ _ fun b o hb hn => (other b (noRecord b o hb hn)).trans hb
  unfold setFlight
  refine wpAny_bind (wpAny_field h6 h9 h1 ?_)
  rw [if_pos (show (Value.ref T != Value.none) = true from by simp)]
  exact wpAny_setField hT hdT hsz3 (h _ (X.step X.ff u (fun b o hbo => (other b fun q => by rw [q, hnT] at hbo; cases hbo).trans (X.st b o hbo)) fun oe2 g1 g2 => ⟨oe2, (other ea (Ne.symm hTe)).trans g1, rfl, rfl, g2⟩))
end
section
variable {prog : Program} {w : World} {K : Frag} {mg mb : Str → Option Value} {b0 : Heap} {scope : Scope} {L fa : Addr} {cd : Value} {z : OG}
theorem mkRS (o : LawOk K mg mb b0 scope L) {B h : Heap} {fro : List (Addr × Obj)} {σ : St} {m : Str → Option Value} (ho : σ.obs = []) (hB1 : ∀ b ob, b0.get? b = some ob → B.get? b = some ob) (hB2 : ∀ p ∈ fro, B.get? p.1 = some p.2) (hBL : B.get? L = none) (hnd : (fro.map (·.1)).Nodup) (hf0 : ∀ p ∈ fro, b0.get? p.1 = none)
    (hs : B.StaysIn h) (hn : h.Ns L m) (hz : ζ = z) (lr : LocR (lawCx b0 L scope fa cd mg z).env (kn b0 fro) [] σ.loc m) : RS (lawCx b0 L scope fa cd mg z) σ fro [] m h ζ := by
  refine ⟨⟨⟨hn, fun b ob e => hs b ob (hB1 b ob e), o.hL⟩, [], fun p hp => ?_, ?_, ?_⟩, lr, hz⟩
  · have hp : p ∈ fro := by simpa [lawCx] using hp
    exact ⟨hs _ _ (hB2 p hp), fun e => by have := hB2 p hp; rw [e] at this; exact absurd (this.symm.trans hBL) (by simp), hf0 p hp⟩
  · simpa [lawCx] using hnd
  · rw [ho]; exact .nil
end
end Mine
end

section
open PySem PySem.W PyProof.Rows PySem.Calls
set_option linter.unusedVariables false
set_option maxRecDepth 100000
namespace Mine
section
variable {prog : Program} {w : World} {K : Frag} {mg mb : Str → Option Value} {b0 : Heap} {scope : Scope} {L fa : Addr} {cd : Value} {z : OG}
theorem ns_ne {h : Heap} {d L : Addr} {mA m : Str → Option Value} {name : Str} {v : Value} (h1 : h.Ns d mA) (h2 : h.Ns L m) (e1 : mA name = some v) (e2 : m name = none) : d ≠ L := fun e => by
  subst e
  obtain ⟨o, es, ep, a1, a2, a3, a4⟩ := h1
  obtain ⟨o', es', ep', b1, b2, b3, b4⟩ := h2
  rw [a1] at b1; cases b1
  rw [a2] at b2; cases b2
  have := (a4 name).symm.trans (b4 name)
  rw [e1, e2] at this; cases this
/-- except Malformed as fault: told = (None, fault.why) -/
theorem law_catch (o : LawOk K mg mb b0 scope L) {eM : PySem.Expr} {q1 q2 q3 q4 q5 q6 q7 : Pos} {k2 k3 : Nat} {A : Around} {fro : List (Addr × Obj)} {m : Str → Option Value} {s : Shared} {e : Value} {why : Str} {ys : List Int} {B : Heap} {Q : Flow → Shared → Prop} {Er : Value → Shared → Prop}
    (mM : isBuiltinName scope "Malformed" eM = true) (hB1 : ∀ b ob, b0.get? b = some ob → B.get? b = some ob) (hB2 : ∀ p ∈ fro, B.get? p.1 = some p.2) (hBL : B.get? L = none) (hnd : (fro.map (·.1)).Nodup) (hf0 : ∀ p ∈ fro, b0.get? p.1 = none)
    (lr : LocR (lawCx b0 L scope fa cd mg z).env (kn b0 fro) [] [(1, sL ys)] m) (hw : m "why" = none) (hfr : A.frames = some [(lawCx b0 L scope fa cd mg z).env]) (x : XP B [(lawCx b0 L scope fa cd mg z).env] L m why e s.heap) (hz : og s = z)
    (H : ∀ fro' m' s', RS (lawCx b0 L scope fa cd mg z) ⟨[(1, sL ys), (25, .d (.tup [.none, .str why]))], []⟩ fro' [] m' s'.heap (og s') → Q .next s') :
    wpAny (model prog w) A (noteFrame e (lawCx b0 L scope fa cd mg z).env) (fun _ s₂ => wpAny (model prog w) A (setFlight e none) (fun _ s₃ => wpAny (model prog w) A (handleBy e (lawCx b0 L scope fa cd mg z).env
      [.ExceptHandler (some eM) (some (nm 40)) [.Assign [.Name (nm 25) q1] (.Tuple [.Constant .none k2 q2, .Attribute (.Name (nm 40) q3) (Str.ofString "why") q4] k3 q5) q6] q7]) Q Er s₃) Er s₂) Er s := by
  obtain ⟨nm', q', N', bs, sn, sub, ab, col, dd, k0, k1, k2', k3', k5, hC⟩ := o.k.ef.cls
  have hkk : ((lawCx b0 L scope fa cd mg z).env.scope.kind == .class || ((lawCx b0 L scope fa cd mg z).env.scope.kind == .module && (lawCx b0 L scope fa cd mg z).env.locals != (lawCx b0 L scope fa cd mg z).env.globals)) = false := kind_hp (c := lawCx b0 L scope fa cd mg z) o.hk
  refine note_sound hfr rfl x fun h1 x1 _ => ?_
  obtain ⟨ea, _, _, _, _, rfl, X1, _⟩ := id x1
  refine flight_sound (s := { s with heap := h1 }) none x1 X1.ff fun h2 u2 ⟨ea', vs, T, oT, ts, he, X2, t1, t2, t3, t4, t5, t6⟩ => ?_
  cases he
  have F2 : Fr b0 L h2 m := ⟨X2.low, fun b ob q => X2.st b ob (hB1 b ob q), o.hL⟩
  obtain ⟨hh, g, d, t, os⟩ := s
  refine wpAny_handleBy_cons (codeAny_handlers_test (glob_name (c := lawCx b0 L scope fa cd mg z) o.ok mM F2 o.k.ef.n58 (by decide +kernel) ?_)) (by intro q; cases q)
  obtain ⟨oe, dx, mA, tk, a1, a2, a3, a4, a5, a6⟩ := id X2.ob
  refine wpAny_excMatches_sub_self ((o.hX.keeps F2.keep) _ _ hC) a1 a2 (by simp [bmM]) (codeAny_handlers_suite_as (flight_again (s := ⟨h2, g, d, t, os⟩) X2 t1 t2 t3 t4 t5 t6 fun h3 X3 => ?_))
  obtain ⟨oe, dx, mA, tk, a1, a2, a3, a4, a5, a6⟩ := id X3.ob
  refine wpAny_storeName_local (env := (lawCx b0 L scope fa cd mg z).env) o.l40 X3.low (fun h4 n4 sb4 => ?_) hkk
  have hdL : dx ≠ L := ns_ne a5 X3.low a6 hw
  have heL : ea ≠ L := fun q => by
    obtain ⟨oL, es, ep, b1, b2, _⟩ := X3.low
    rw [q, b1] at a1; cases a1
    rw [b2] at a4; cases a4
  have st4 : B.StaysIn h4 := fun b ob q => by
    have hb : b ≠ L := fun z => by rw [z, hBL] at q; cases q
    exact (sb4.2 b hb).trans (X3.st b ob q)
  have e4 : h4.get? ea = some oe := (sb4.2 ea heL).trans a1
  obtain ⟨od, es, ep, d1, d2, d3, d4⟩ := a5
  have d4' : h4.get? dx = some od := (sb4.2 dx hdL).trans d1
  have I : PySem.W.InstAt h4 ea oe 58 (some od) := by
    refine ⟨e4, a2, ?_, ?_⟩
    · unfold notCls
      rw [a4]
    · rw [a3]; exact d4'
  have F4 : Fr b0 L h4 _ := ⟨n4, fun b ob q => st4 b ob (hB1 b ob q), o.hL⟩
  refine wpAny_execs_cons (wpAny_Assign_Name (wpAny_Tuple (args_cons (wpAny_Constant_none (args_cons (Attribute_any_ (wpAny_Name (wpAny_loadName_local (env := (lawCx b0 L scope fa cd mg z).env) (v := .ref ea) o.hk o.l40 n4 (by rw [if_pos rfl]) ?_) (nm_not_debug 40 (by decide)))) (by rfl))) (by rfl))) (by rfl))
  refine gaAttr (o.hX.keeps F4.keep) ((o.hX.keeps F4.keep) _ _ hC) o.g1 o.g2 I (findObj_own o.g3 o.k.ef.why rfl (lookIn_of d2 ((d4 _).trans a6))) rfl (args_nil ⟨by show 2 ≤ sizeLine; decide, ?_⟩)
  refine wpAny_storeName_local (env := (lawCx b0 L scope fa cd mg z).env) (m := fun z => if z = nm 40 then some (.ref ea) else m z) o.l25 (n4.keeps fun b ob q => Heap.get?_push_of_some _ q) (fun h5 n5 sb5 => ?_) hkk
  refine wpAny_execs_nil ?_
  refine wpAny_nameGoes_keeps (env := (lawCx b0 L scope fa cd mg z).env) o.l40 n5 hkk fun h6 v n6 sb6 => ?_
  have pushed : (h4.push { cls := .type "tuple", data := .seq [Value.none, .str why tk].toArray }).get? h4.objs.size = some (tupOf [Value.none, .str why tk] 0) := Heap.get?_push_size _ rfl
  have hne : h4.objs.size ≠ L := fun q => absurd n4.lt (by show ¬ L < h4.objs.size; rw [q]; exact Nat.lt_irrefl _)
  have st6 : ∀ b ob, b ≠ L → (h4.push { cls := .type "tuple", data := .seq [Value.none, .str why tk].toArray }).get? b = some ob → h6.get? b = some ob := fun b ob hb q => (sb6.2 b hb).trans ((sb5.2 b hb).trans q)
  refine H ((h4.objs.size, tupOf [Value.none, .str why tk] 0) :: fro) _ _ ⟨⟨⟨n6, fun b ob q => ?_, o.hL⟩, [], fun p hp => ?_, ?_, .nil⟩, fun n v' hv => ?_, hz⟩
  · have hb : b ≠ L := fun z => by have q' : b0.get? b = some ob := q; rw [z, Heap.get?_none_of_le o.hL] at q'; cases q'
    exact st6 b ob hb (Heap.get?_push_of_some _ (F4.keep b ob q))
  · have hp : p ∈ (h4.objs.size, tupOf [Value.none, .str why tk] 0) :: fro := by simpa [lawCx] using hp
    rcases List.mem_cons.mp hp with rfl | hp
    · exact ⟨st6 _ _ hne pushed, hne, fresh_of F4 (Nat.le_refl _)⟩
    · have hb : p.1 ≠ L := fun z => by have := hB2 p hp; rw [z, hBL] at this; cases this
      exact ⟨st6 _ _ hb (Heap.get?_push_of_some _ (st4 _ _ (hB2 p hp))), hb, hf0 p hp⟩
  · show ((([] : List (Addr × Obj)) ++ (((h4.objs.size, tupOf [Value.none, .str why tk] 0) :: fro) ++ ([] : List (Addr × Obj)))).map fun p : Addr × Obj => p.1).Nodup
    rw [List.nil_append, List.append_nil, List.map_cons]
    exact List.nodup_cons.mpr ⟨fun hm => by
      obtain ⟨p, hp, e⟩ := List.mem_map.mp hm
      exact absurd (Heap.lt_size (st4 _ _ (hB2 p hp))) (by rw [e]; exact Nat.lt_irrefl _), hnd⟩
  · have hkn : ∀ a ob, kn b0 fro a ob → kn b0 ((h4.objs.size, tupOf [Value.none, .str why tk] 0) :: fro) a ob := fun a ob => Or.imp id (.tail _)
    by_cases q1' : n = 1
    · subst q1'
      cases hv
      obtain ⟨g1, rv, g2, g3⟩ := lr 1 _ rfl
      refine ⟨g1, rv, g2.mono hkn (rfP _), ?_⟩
      rcases g3 with ⟨g3, g4⟩ | ⟨g3, _⟩
      · refine .inl ⟨g3, ?_⟩
        show (if nm 1 = nm 40 then v else if nm 1 = nm 25 then _ else if nm 1 = nm 40 then _ else m (nm 1)) = some rv
        rw [if_neg (by decide +kernel), if_neg (by decide +kernel), if_neg (by decide +kernel)]
        exact g4
      · exact absurd g3 (o.nc _)
    · by_cases q2' : n = 25
      · subst q2'
        cases hv
        refine ⟨by decide, _, .d (.tup (n := 0) (.inr (.head _)) (.cons .none (.cons (.str why tk) .nil))), .inl ⟨o.l25, ?_⟩⟩
        show (if nm 25 = nm 40 then v else if nm 25 = nm 25 then _ else _) = _
        rw [if_neg (by decide +kernel), if_pos rfl]
      · have : getN n [(1, sL ys), (25, V.d (.tup [.none, .str why]))] = none := by
          show (match Nat.beq n 1 with | true => _ | false => match Nat.beq n 25 with | true => _ | false => none) = none
          have b1 : Nat.beq n 1 = false := by cases z : Nat.beq n 1 with | false => rfl | true => exact absurd (Nat.eq_of_beq_eq_true z) q1'
          have b2 : Nat.beq n 25 = false := by cases z : Nat.beq n 25 with | false => rfl | true => exact absurd (Nat.eq_of_beq_eq_true z) q2'
          rw [b1, b2]
        rw [this] at hv; cases hv
end
end Mine
end

section
open PySem PySem.W PyProof.Rows PySem.Calls
set_option linter.unusedVariables false
set_option maxRecDepth 100000
namespace Mine
section
variable {prog : Program} {w : World} {K : Frag} {mg mb : Str → Option Value} {b0 : Heap} {scope : Scope} {L fa : Addr} {cd : Value} {z : OG}
theorem nil_of_len {α β : Type} {l : List α} {l' : List β} (h : l.length = l'.length) (e : l' = []) : l = [] := by
  rw [e] at h; exact List.length_eq_zero_iff.mp h
theorem own_nil {P : Kn} {ρ : List Addr} {own : List (Addr × Obj)} : ∀ {as : List Addr}, ObsR P ρ as [] own → own = []
  | _, .nil => rfl
/-- try: told = (sections_of(bytes(octets)), '') -/
theorem law_try (o : LawOk K mg mb b0 scope L) {e2 eS eM : PySem.Expr} {p2 p3 p4 p5 p6 q1 q2 q3 q4 q5 q6 q7 q8 : Pos} {k2 k3 k4 k5 : Nat} {A : Around} {fro : List (Addr × Obj)} {m : Str → Option Value} {s : Shared} {ys : List Int} {Q : Flow → Shared → Prop} {Er : Value → Shared → Prop}
    (mS2 : isBuiltinName scope "sections_of" eS = true) (m2 : mXs scope (.cons (.toB (.loc 1)) .nil) [e2] = true) (mM : isBuiltinName scope "Malformed" eM = true)
    (hcall : ∀ env, eval (.Call eS [e2] [] p3) env = (do callWith p3 (← eval eS env) [] (backTo p3 (starEach [e2] env)) (backToKw p3 (keywordEach [] env))))
    (oa : OkA (lawCx b0 L scope fa cd mg z) 33 A) (hg : Good ys) (hw : m "why" = none) (R : RS (lawCx b0 L scope fa cd mg z) ⟨[(1, sL ys)], []⟩ fro [] m s.heap (og s))
    (H : ∀ fro' m' s', RS (lawCx b0 L scope fa cd mg z) ⟨[(1, sL ys), (25, .d (toldOf ys))], []⟩ fro' [] m' s'.heap (og s') → Q .next s') :
    wpAny (model prog w) A (exec (.Try [.Assign [.Name (nm 25) p2] (.Tuple [.Call eS [e2] [] p3, .Constant (.str (Str.ofString "")) k4 p4] k5 p5) p6]
      [.ExceptHandler (some eM) (some (nm 40)) [.Assign [.Name (nm 25) q1] (.Tuple [.Constant .none k2 q2, .Attribute (.Name (nm 40) q3) (Str.ofString "why") q4] k3 q5) q6] q7] [] [] q8) (lawCx b0 L scope fa cd mg z).env) Q Er s := by
  refine wpAny_Try_except (wpAny_execs_cons (wpAny_Assign_Name (wpAny_Tuple (args_cons (Call_ (glob_name (c := lawCx b0 L scope fa cd mg z) o.ok mS2 R.cs.fr (o.k.kf.fn 15 (by decide) (by decide) (by decide) (by decide)) (fName_debug 15 (by decide)) (callWith_any (mXs_all m2) (o.k.kf.keep 15 (by decide)) ?_)) (hcall _)) (by rfl))) (by rfl)))
  refine (xsOk o.ok o.k.kf o.calls (.cons (.toB (.loc 1)) .nil) : SL (lawPm prog w (lawCx b0 L scope fa cd mg z)) _) _ m2 A ⟨[(1, sL ys)], []⟩ fro [] m s (fun vs σ' => vs = [sB ys] ∧ σ' = ⟨[(1, sL ys)], []⟩) _ _ _ (oa.down (show 32 ≤ 33 by decide)) R (And.intro hg.1 (And.intro (by have := hg.2; omega) ⟨rfl, rfl⟩)) (fun f' r' vs σ' rvs s1 h1 h2 h3 h4 h5 => ?_) noRai
  obtain ⟨rfl, rfl⟩ := h5
  refine ⟨o.hX.keeps h3.cs.fr.keep, ?_⟩
  obtain ⟨own, N, hnd, rO⟩ := h3.cs.own
  have hr0 : r' = [] := nil_of_len rO.length rfl
  subst hr0
  obtain rfl := own_nil rO
  have N' : ∀ p ∈ f', s1.heap.get? p.1 = some p.2 ∧ p.1 ≠ L ∧ b0.get? p.1 = none := fun p hp => N p (by show p ∈ ([] : List (Addr × Obj)) ++ (f' ++ ([] : List (Addr × Obj))); simpa using hp)
  have hnd' : (f'.map (·.1)).Nodup := by
    have hnd : ((([] : List (Addr × Obj)) ++ (f' ++ ([] : List (Addr × Obj)))).map (·.1)).Nodup := hnd
    simpa using hnd
  have hLlt : L < s1.heap.objs.size := h3.cs.fr.ns.lt
  have hL0 : b0.get? L = none := Heap.get?_none_of_le o.hL
  have keep := h3.cs.fr.keep
  let c1 : Cx := { base := b0, L := L, cn := "law", cs := scope, cl := [], a := fa, ccd := cd, outer := [], rest := f', L0 := L, m0 := m, xb := hid b0 s1.heap f', og := z }
  have hBL : (hid b0 s1.heap f').get? L = none := hid_none hLlt hL0 fun p hp => (N' p hp).2.1
  have O1 : c1.Ok0 K mg mb := ⟨o.hk, o.hX, o.T, fun env h => (by cases h), fun b ob e => hid_of keep (fun p hp => (N' p hp).1) e, hBL⟩
  have C1 : CS c1.base c1.L m [] c1.rest [] [] s1.heap := ⟨h3.cs.fr, [], fun p hp => N' p (by simpa using hp), by simpa using hnd', .nil⟩
  have hv : VRs (kn b0 []) [] [sB ys] rvs := by
    cases h4 with
    | cons a r => cases r; cases a with
      | d a => cases a with
        | bytes t e => exact .cons (.d (.bytes t e)) .nil
  refine upto30 o.k 15 (by decide) (fun x => ∃ y, secP ys = .error y ∧ x = Str.ofString y) c1 A [] [] m [] s1 [sB ys] rvs (fun v obs' => obs' = [] ∧ ∃ ds, secP ys = .ok ds ∧ v = .d (.lst ds)) _ _ O1 (.inr ⟨rfl, fun _ => rfl⟩) ⟨oa.fr, oa.hd, by have := oa.dep; omega, by have := oa.un; omega⟩ C1 h3.oge hv ⟨ys, rfl, rfl, hg, fun y hy => ⟨y, hy, rfl⟩, fun ds hd => ⟨rfl, ds, hd, rfl⟩⟩ (fun f2 r2 obs2 v rv s2 g1 g2 g3 g3' g4 g5 => ?_) (fun why e s2 hwy hx hz2 => ?_)
  · obtain ⟨rfl, ds, hd, rfl⟩ := g5
    obtain ⟨own2, N2, hnd2, rO2⟩ := g3.own
    have hr2 : r2 = [] := nil_of_len rO2.length rfl
    subst hr2
    obtain rfl := own_nil rO2
    have R2 : RS (lawCx b0 L scope fa cd mg z) ⟨[(1, sL ys)], []⟩ (f2 ++ f') [] m s2.heap (og s2) :=
      ⟨⟨g3.fr, [], fun p hp => N2 p (by simpa [lawCx] using hp), by simpa [lawCx] using hnd2, .nil⟩, h3.loc.mono (kmono fun p hp => List.mem_append_right _ hp) (rfP _), g3'⟩
    refine args_cons (wpAny_Constant_str (args_nil ⟨by show 2 ≤ sizeLine; decide, ?_⟩)) (by rfl)
    have R3 := (R2.ext (h' := s2.heap.push (tupOf [rv, .str (Str.ofString "") s2.toks] 0)) fun b ob q => Heap.get?_push_of_some _ q)
    have R4 := R2.push (tupOf [rv, .str (Str.ofString "") s2.toks] 0)
    refine store_sound (c := lawCx b0 L scope fa cd mg z) o.ok (n := 25) (v := .d (toldOf ys)) (s := ⟨s2.heap.push (tupOf [rv, .str (Str.ofString "") s2.toks] 0), s2.gens, s2.drawn, s2.toks + 1, s2.os⟩) R4 ?_ ?_ fun m' s' R' => wpAny_execs_nil (wpAny_execs_nil (H _ _ _ R'))
    · unfold isLoc
      rw [show (lawCx b0 L scope fa cd mg z).cs = scope from rfl, o.l25]
      decide
    · unfold toldOf
      rw [hd]
      cases g4 with
      | d g4 => exact .d (.tup (n := 0) (.inr (.head _)) (.cons (g4.mono (kmono fun p hp => .tail _ (List.mem_append_left _ hp))) (.cons (.str _ _) .nil)))
  · obtain ⟨y, hy, rfl⟩ := hwy
    refine law_catch o (ys := ys) mM (fun b ob q => hid_in (keep b ob q) (.inl q)) (fun p hp => hid_in (N' p hp).1 (.inr hp)) hBL hnd' (fun p hp => (N' p hp).2.2) h3.loc hw oa.fr hx hz2 fun fro' m' s' R' => ?_
    refine H fro' m' s' ?_
    have : toldOf ys = .tup [.none, sW y] := by unfold toldOf; rw [hy]
    rw [this]
    exact R'
end
end Mine
end

section
open PySem PySem.W PyProof.Rows PySem.Calls
set_option linter.unusedVariables false
set_option maxRecDepth 100000
namespace Mine
variable {ζ : OG}
section
variable {prog : Program} {w : World} {K : Frag} {mg mb : Str → Option Value} {b0 : Heap} {scope : Scope} {L fa : Addr} {cd : Value} {z : OG}
theorem law_walk (o : LawOk K mg mb b0 scope L) {e1 e2 e3 eT eS eM : PySem.Expr} {p0 p1 p2 p3 p4 p5 p6 q1 q2 q3 q4 q5 q6 q7 q8 r1 r2 : Pos} {k2 k3 k4 k5 : Nat} {A : Around} {m : Str → Option Value} {s : Shared} {ws : List Int} {Q : Flow → Shared → Prop} {Er : Value → Shared → Prop}
    (m1 : mX scope (.call 20 (.cons (.loc 22) .nil)) e1 = true) (nc : notComp e1 = true) (mS2 : isBuiltinName scope "sections_of" eS = true) (m2 : mXs scope (.cons (.toB (.loc 1)) .nil) [e2] = true) (mM : isBuiltinName scope "Malformed" eM = true)
    (hcall : ∀ env, eval (.Call eS [e2] [] p3) env = (do callWith p3 (← eval eS env) [] (backTo p3 (starEach [e2] env)) (backToKw p3 (keywordEach [] env))))
    (mT : mX scope (.loc 25) eT = true) (m3 : mX scope (.call 27 (.cons (.loc 1) .nil)) e3 = true)
    (oa : OkA (lawCx b0 L scope fa cd mg z) 33 A) (hl : ws.length ≤ 1000) (hw : m "why" = none) (R : RS (lawCx b0 L scope fa cd mg z) ⟨[(22, sL ws)], []⟩ [] [] m s.heap (og s)) (hq : ∀ s', (∀ b o, b0.get? b = some o → s'.heap.get? b = some o) → og s' = z → Q (.ret (.bool true)) s') :
    wpAny (model prog w) A (execs [.Assign [.Name (nm 1) p0] e1 p1, .Try [.Assign [.Name (nm 25) p2] (.Tuple [.Call eS [e2] [] p3, .Constant (.str (Str.ofString "")) k4 p4] k5 p5) p6]
      [.ExceptHandler (some eM) (some (nm 40)) [.Assign [.Name (nm 25) q1] (.Tuple [.Constant .none k2 q2, .Attribute (.Name (nm 40) q3) (Str.ofString "why") q4] k3 q5) q6] q7] [] [] q8, .Return (some (.Compare eT [.Eq] [e3] r1)) r2] (lawCx b0 L scope fa cd mg z).env) Q Er s := by
  refine wpAny_execs_cons (wpAny_Assign_Name (o.x (prog := prog) (w := w) (.call 20 (.cons (.loc 22) .nil)) _ m1 A ⟨[(22, sL ws)], []⟩ [] [] m s (fun v σ' => (∃ ys, Good ys ∧ v = sL ys) ∧ σ' = ⟨[(22, sL ws)], []⟩) _ _ (oa.down (show 32 ≤ 33 by decide)) R
    (And.intro rfl ⟨ws, rfl, rfl, hl, fun ys hg => And.intro (Nat.zero_le _) ⟨⟨ys, hg, rfl⟩, rfl⟩⟩) (fun f' r' v σ' rv s1 h1 h2 h3 h4 h5 => ?_) noRai) (notComp_swaps nc _ _ _))
  obtain ⟨⟨ys, hg, rfl⟩, rfl⟩ := h5
  have hr0 : r' = [] := by
    obtain ⟨own, N, hnd, rO⟩ := h3.cs.own
    exact nil_of_len rO.length rfl
  subst hr0
  refine wpAny_storeName_local (env := (lawCx b0 L scope fa cd mg z).env) o.l1 h3.cs.fr.ns (fun h' hn hs => ?_) (kind_hp (c := lawCx b0 L scope fa cd mg z) o.hk)
  have R2 : RS (lawCx b0 L scope fa cd mg z) _ f' [] _ h' (og s1) := h3.put (n := 1) (by decide) o.l1 h4 hn hs
  have R3 : RS (lawCx b0 L scope fa cd mg z) ⟨[(1, sL ys)], []⟩ f' [] (fun x => if x = nm 1 then some rv else m x) h' (og s1) := by
    refine ⟨R2.cs, fun n v e => R2.loc n v ?_, R2.oge⟩
    by_cases hn : n = 1
    · subst hn; exact e
    · have b1 : Nat.beq n 1 = false := by cases z : Nat.beq n 1 with | false => rfl | true => exact absurd (Nat.eq_of_beq_eq_true z) hn
      have : getN n [(1, sL ys)] = none := by
        show (match Nat.beq n 1 with | true => _ | false => none) = none
        rw [b1]
      rw [this] at e; cases e
  refine wpAny_execs_cons (law_try o mS2 m2 mM hcall oa hg (by show (if ("why" : Str) = nm 1 then _ else _) = none; rw [if_neg (by decide +kernel)]; exact hw) (s := { s1 with heap := h', toks := s1.toks + 1 }) R3 fun fro' m' s' R' => ?_)
  exact wpAny_execs_cons (law_ret o hg mT m3 (oa.down (show 32 ≤ 33 by decide)) R' rfl rfl hq)
end
end Mine
end

section
open PySem PySem.W PySem.Calls PyProof.Rows
set_option maxRecDepth 100000
set_option maxHeartbeats 8000000
set_option linter.unusedVariables false
namespace Mine
noncomputable abbrev PG : Program := PySem.Challenge.rw_nm0120_01.row.toRowW.1
noncomputable def PB : List Stmt := behindTheImports PG
noncomputable abbrev q (a b c d : Nat) : Pos := ⟨a, b, c, d⟩
noncomputable abbrev z (s : String) : Str := Str.ofString s
noncomputable def sa (i : Nat) : Stmt := (PB[i]?).getD (.Pass (q 0 0 0 0))
noncomputable def fp (s : Stmt) : Arguments × List Stmt × Scope := match s with
  | .FunctionDef _ a b _ _ _ sc _ _ _ => (a, b, sc)
  | _ => (⟨[], [], none, [], [], none, []⟩, [], ⟨.module, [], false, false, []⟩)
noncomputable def cb (s : Stmt) : List Stmt := match s with
  | .ClassDef _ _ _ b _ _ _ _ _ _ _ => b
  | _ => []
noncomputable def sm (i : Nat) := fp (sa i)
noncomputable def cm (i j : Nat) := fp (((cb (sa i))[j]?).getD (.Pass (q 0 0 0 0)))
noncomputable def o43 : Params → Obj := fun P => { cls := .type "tuple", data := .seq #[] }
noncomputable def o44 : Params → Obj := fun P => { cls := .none, data := .fields #[] }
noncomputable def o45 : Params → Obj := fun P => { cls := .type "code", data := .fields #[.str (z "<module>") 182, .str (z "<module>") 183, .str (z "/claim/cut.py") 184, .int 1 0, .int 0 0, .int 0 0, .int 0 0, .int 0 0, .ref 11, .bool false, .int 181 0, .ref 12, .none, .none, .none, .none, .int 185 0, .int 1 0, .str (z "/claim/cut.py") 186] }
noncomputable def o46 : Params → Obj := fun P => { cls := .type "frame", slots := #[some (.ref 13), some (.ref 3), some (.ref 3), none, some (.str (z "__main__") 164), none, some (.ref 0)] }
noncomputable def o49 : Params → Obj := fun P => { cls := .none, data := .dict #[{ hash := PyData.keyHash P (z "type.__subclasses__.Exception.0"), key := .str (z "type.__subclasses__.Exception.0") 221, val := .int 38 0 }, { hash := PyData.keyHash P (z "type.__subclasses__.Exception.n"), key := .str (z "type.__subclasses__.Exception.n") 222, val := .int 1 0 }] 2 }
noncomputable def o52 : Params → Obj := fun P => { cls := .type "tuple", data := .seq #[] }
noncomputable def o53 : Params → Obj := fun P => { cls := .none, data := .fields #[] }
noncomputable def o54 : Params → Obj := fun P => { cls := .type "tuple", data := .seq #[.str (z "k") 190] }
noncomputable def o55 : Params → Obj := fun P => { cls := .type "tuple", data := .seq #[] }
noncomputable def o56 : Params → Obj := fun P => { cls := .none, data := .func { name := z "_wall", qualname := z "_wall", params := (sm 0).1, body := FuncBody.stmts (sm 0).2.1, scope := (sm 0).2.2, globals := 0, closure := [], defaults := .none, kwdefaults := .none } }
noncomputable def o57 : Params → Obj := fun P => { cls := .type "code", data := .fields #[.str (z "_wall") 187, .str (z "_wall") 188, .str (z "/claim/cut.py") 189, .int 1 0, .int 1 0, .int 0 0, .int 0 0, .int 3 0, .ref 15, .bool true, .int 181 0, .ref 16, .none, .ref 17, .ref 18, .ref 19, .int 191 0, .int 1 0, .str (z "/claim/cut.py") 192] }
noncomputable def o58 : Params → Obj := fun P => { cls := .type "function", data := .func { name := z "_wall", qualname := z "_wall", params := (sm 0).1, body := FuncBody.stmts (sm 0).2.1, scope := (sm 0).2.2, globals := 3, closure := [], defaults := .none, kwdefaults := .none, pyModule := .str (z "__main__") 164, code := .ref 20 } }
noncomputable def o59 : Params → Obj := fun P => { cls := .type "tuple", data := .seq #[.type "Exception"] }
noncomputable def o60 : Params → Obj := fun P => { cls := .type "builtin_function_or_method", data := .fields #[.builtin "type.__prepare__", .type "type"] }
noncomputable def o61 : Params → Obj := fun P => { cls := .type "dict", data := .dict #[{ hash := PyData.keyHash P (z "__module__"), key := .str (z "__module__") 203, val := .str (z "wasmcore.faults") 194 }, { hash := PyData.keyHash P (z "__qualname__"), key := .str (z "__qualname__") 205, val := .str (z "WasmFault") 204 }, { hash := PyData.keyHash P (z "__firstlineno__"), key := .str (z "__firstlineno__") 207, val := .int 5 206 }, { hash := PyData.keyHash P (z "__init__"), key := .str (z "__init__") 215, val := .ref 35 }, { hash := PyData.keyHash P (z "__static_attributes__"), key := .str (z "__static_attributes__") 217, val := .ref 36 }] 5 }
noncomputable def o62 : Params → Obj := fun P => { cls := .type "tuple", data := .seq #[] }
noncomputable def o63 : Params → Obj := fun P => { cls := .none, data := .fields #[.int 7 0, .int 4 0, .ref 34] }
noncomputable def o64 : Params → Obj := fun P => { cls := .type "code", data := .fields #[.str (z "WasmFault") 198, .str (z "WasmFault") 199, .str (z "/claim/cut.py") 200, .int 5 0, .int 0 0, .int 0 0, .int 0 0, .int 0 0, .ref 25, .bool false, .int 181 0, .ref 26, .none, .none, .none, .none, .int 201 0, .int 5 0, .str (z "/claim/cut.py") 202] }
noncomputable def o65 : Params → Obj := fun P => { cls := .type "frame", slots := #[some (.ref 27), some (.ref 3), some (.ref 24), none, some (.str (z "wasmcore.faults") 194), none, some (.ref 0)] }
noncomputable def o66 : Params → Obj := fun P => { cls := .type "tuple", data := .seq #[] }
noncomputable def o67 : Params → Obj := fun P => { cls := .none, data := .fields #[] }
noncomputable def o68 : Params → Obj := fun P => { cls := .type "tuple", data := .seq #[.str (z "self") 211, .str (z "why") 212] }
noncomputable def o69 : Params → Obj := fun P => { cls := .type "tuple", data := .seq #[] }
noncomputable def o70 : Params → Obj := fun P => { cls := .none, data := .func { name := z "__init__", qualname := z "WasmFault.__init__", params := (cm 2 0).1, body := FuncBody.stmts (cm 2 0).2.1, scope := (cm 2 0).2.2, globals := 0, closure := [], defaults := .none, kwdefaults := .none } }
noncomputable def o71 : Params → Obj := fun P => { cls := .type "code", data := .fields #[.str (z "__init__") 208, .str (z "WasmFault.__init__") 209, .str (z "/claim/cut.py") 210, .int 7 0, .int 2 0, .int 0 0, .int 0 0, .int 3 0, .ref 29, .bool true, .int 181 0, .ref 30, .none, .ref 31, .ref 32, .ref 33, .int 213 0, .int 7 0, .str (z "/claim/cut.py") 214] }
noncomputable def o72 : Params → Obj := fun P => { cls := .type "function", data := .func { name := z "__init__", qualname := z "WasmFault.__init__", params := (cm 2 0).1, body := FuncBody.stmts (cm 2 0).2.1, scope := (cm 2 0).2.2, globals := 3, closure := [], defaults := .none, kwdefaults := .none, pyModule := .str (z "wasmcore.faults") 194, code := .ref 34 } }
noncomputable def o73 : Params → Obj := fun P => { cls := .type "tuple", data := .seq #[.str (z "why") 216] }
noncomputable def o74 : Params → Obj := fun P => { cls := .type "dict", data := .dict #[{ hash := PyData.keyHash P (z "__module__"), key := .str (z "__module__") 203, val := .str (z "wasmcore.faults") 194 }, { hash := PyData.keyHash P (z "__firstlineno__"), key := .str (z "__firstlineno__") 207, val := .int 5 206 }, { hash := PyData.keyHash P (z "__init__"), key := .str (z "__init__") 215, val := .ref 35 }, { hash := PyData.keyHash P (z "__static_attributes__"), key := .str (z "__static_attributes__") 217, val := .ref 36 }, { hash := PyData.keyHash P (z "__weakref__"), key := .str (z "__weakref__") 219, val := .ref 39 }, { hash := PyData.keyHash P (z "__doc__"), key := .str (z "__doc__") 220, val := .none }] 3 }
noncomputable def o76 : Params → Obj := fun P => { cls := .type "getset_descriptor", data := .fields #[.str (z "__weakref__") 218, .ref 38, .builtin "ExceptionGroup.__weakref__", .none] }
noncomputable def o77 : Params → Obj := fun P => { cls := .type "super", data := .fields #[.ref 38, .ref 38, .ref 38] }
noncomputable def o78 : Params → Obj := fun P => { cls := .type "builtin_function_or_method", data := .fields #[.builtin "object.__init_subclass__", .ref 38] }
noncomputable def o81 : Params → Obj := fun P => { cls := .type "type", data := .cls { name := z "WasmFault", bases := [.type "Exception"], mro := [.ref 38, .type "Exception", .type "BaseException", .type "object"], ns := 37, qualname := z "WasmFault", subclasses := [.ref 58] }, slots := #[some (.ref 22), none, some (.str (z "WasmFault") 196), some (.str (z "WasmFault") 204), some (.builtin "Exception.__new__"), some (.bool true)] }
noncomputable def o82 : Params → Obj := fun P => { cls := .type "tuple", data := .seq #[.ref 38] }
noncomputable def o83 : Params → Obj := fun P => { cls := .type "builtin_function_or_method", data := .fields #[.builtin "type.__prepare__", .type "type"] }
noncomputable def o84 : Params → Obj := fun P => { cls := .type "dict", data := .dict #[{ hash := PyData.keyHash P (z "__module__"), key := .str (z "__module__") 232, val := .str (z "wasmcore.faults") 194 }, { hash := PyData.keyHash P (z "__qualname__"), key := .str (z "__qualname__") 234, val := .str (z "Malformed") 233 }, { hash := PyData.keyHash P (z "__firstlineno__"), key := .str (z "__firstlineno__") 236, val := .int 10 235 }, { hash := PyData.keyHash P (z "__init__"), key := .str (z "__init__") 245, val := .ref 55 }, { hash := PyData.keyHash P (z "__static_attributes__"), key := .str (z "__static_attributes__") 247, val := .ref 56 }] 5 }
noncomputable def o85 : Params → Obj := fun P => { cls := .type "tuple", data := .seq #[] }
noncomputable def o86 : Params → Obj := fun P => { cls := .none, data := .fields #[.int 12 0, .int 4 0, .ref 54] }
noncomputable def o87 : Params → Obj := fun P => { cls := .type "code", data := .fields #[.str (z "Malformed") 227, .str (z "Malformed") 228, .str (z "/claim/cut.py") 229, .int 10 0, .int 0 0, .int 0 0, .int 0 0, .int 0 0, .ref 45, .bool false, .int 181 0, .ref 46, .none, .none, .none, .none, .int 230 0, .int 10 0, .str (z "/claim/cut.py") 231] }
noncomputable def o88 : Params → Obj := fun P => { cls := .type "frame", slots := #[some (.ref 47), some (.ref 3), some (.ref 44), none, some (.str (z "wasmcore.faults") 194), none, some (.ref 0)] }
noncomputable def o89 : Params → Obj := fun P => { cls := .type "tuple", data := .seq #[] }
noncomputable def o90 : Params → Obj := fun P => { cls := .none, data := .fields #[] }
noncomputable def o91 : Params → Obj := fun P => { cls := .type "tuple", data := .seq #[.str (z "self") 240, .str (z "why") 241, .str (z "at") 242] }
noncomputable def o92 : Params → Obj := fun P => { cls := .type "tuple", data := .seq #[] }
noncomputable def o93 : Params → Obj := fun P => { cls := .none, data := .func { name := z "__init__", qualname := z "Malformed.__init__", params := (cm 3 0).1, body := FuncBody.stmts (cm 3 0).2.1, scope := (cm 3 0).2.2, globals := 0, closure := [], defaults := .none, kwdefaults := .none } }
noncomputable def o94 : Params → Obj := fun P => { cls := .type "code", data := .fields #[.str (z "__init__") 237, .str (z "Malformed.__init__") 238, .str (z "/claim/cut.py") 239, .int 12 0, .int 3 0, .int 0 0, .int 0 0, .int 3 0, .ref 49, .bool true, .int 181 0, .ref 50, .none, .ref 51, .ref 52, .ref 53, .int 243 0, .int 12 0, .str (z "/claim/cut.py") 244] }
noncomputable def o95 : Params → Obj := fun P => { cls := .type "function", data := .func { name := z "__init__", qualname := z "Malformed.__init__", params := (cm 3 0).1, body := FuncBody.stmts (cm 3 0).2.1, scope := (cm 3 0).2.2, globals := 3, closure := [], defaults := .none, kwdefaults := .none, pyModule := .str (z "wasmcore.faults") 194, code := .ref 54 } }
noncomputable def o96 : Params → Obj := fun P => { cls := .type "tuple", data := .seq #[.str (z "at") 246] }
noncomputable def o97 : Params → Obj := fun P => { cls := .type "dict", data := .dict #[{ hash := PyData.keyHash P (z "__module__"), key := .str (z "__module__") 232, val := .str (z "wasmcore.faults") 194 }, { hash := PyData.keyHash P (z "__firstlineno__"), key := .str (z "__firstlineno__") 236, val := .int 10 235 }, { hash := PyData.keyHash P (z "__init__"), key := .str (z "__init__") 245, val := .ref 55 }, { hash := PyData.keyHash P (z "__static_attributes__"), key := .str (z "__static_attributes__") 247, val := .ref 56 }, { hash := PyData.keyHash P (z "__doc__"), key := .str (z "__doc__") 248, val := .none }] 2 }
noncomputable def o98 : Params → Obj := fun P => { cls := .type "type", data := .cls { name := z "Malformed", bases := [.ref 38], mro := [.ref 58, .ref 38, .type "Exception", .type "BaseException", .type "object"], ns := 57, qualname := z "Malformed" }, slots := #[some (.ref 42), none, some (.str (z "Malformed") 225), some (.str (z "Malformed") 233), some (.builtin "Exception.__new__"), some (.bool true)] }
noncomputable def o99 : Params → Obj := fun P => { cls := .type "super", data := .fields #[.ref 58, .ref 58, .ref 58] }
noncomputable def o100 : Params → Obj := fun P => { cls := .type "builtin_function_or_method", data := .fields #[.builtin "object.__init_subclass__", .ref 58] }
noncomputable def o103 : Params → Obj := fun P => { cls := .type "tuple", data := .seq #[] }
noncomputable def o104 : Params → Obj := fun P => { cls := .type "builtin_function_or_method", data := .fields #[.builtin "type.__prepare__", .type "type"] }
noncomputable def o105 : Params → Obj := fun P => { cls := .type "dict", data := .dict #[{ hash := PyData.keyHash P (z "__module__"), key := .str (z "__module__") 260, val := .str (z "wasmcore.octets") 251 }, { hash := PyData.keyHash P (z "__qualname__"), key := .str (z "__qualname__") 262, val := .str (z "Cursor") 261 }, { hash := PyData.keyHash P (z "__firstlineno__"), key := .str (z "__firstlineno__") 264, val := .int 16 263 }, { hash := PyData.keyHash P (z "__init__"), key := .str (z "__init__") 275, val := .ref 75 }, { hash := PyData.keyHash P (z "left"), key := .str (z "left") 282, val := .ref 82 }, { hash := PyData.keyHash P (z "is_done"), key := .str (z "is_done") 289, val := .ref 89 }, { hash := PyData.keyHash P (z "peek"), key := .str (z "peek") 296, val := .ref 96 }, { hash := PyData.keyHash P (z "octet"), key := .str (z "octet") 304, val := .ref 103 }, { hash := PyData.keyHash P (z "take"), key := .str (z "take") 313, val := .ref 110 }, { hash := PyData.keyHash P (z "part"), key := .str (z "part") 322, val := .ref 117 }, { hash := PyData.keyHash P (z "unsigned"), key := .str (z "unsigned") 335, val := .ref 124 }, { hash := PyData.keyHash P (z "signed"), key := .str (z "signed") 343, val := .ref 131 }, { hash := PyData.keyHash P (z "u32"), key := .str (z "u32") 350, val := .ref 138 }, { hash := PyData.keyHash P (z "s7"), key := .str (z "s7") 357, val := .ref 145 }, { hash := PyData.keyHash P (z "s32"), key := .str (z "s32") 364, val := .ref 152 }, { hash := PyData.keyHash P (z "s33"), key := .str (z "s33") 371, val := .ref 159 }, { hash := PyData.keyHash P (z "s64"), key := .str (z "s64") 378, val := .ref 166 }, { hash := PyData.keyHash P (z "name"), key := .str (z "name") 387, val := .ref 173 }, { hash := PyData.keyHash P (z "__static_attributes__"), key := .str (z "__static_attributes__") 391, val := .ref 174 }] 19 }
noncomputable def o106 : Params → Obj := fun P => { cls := .type "tuple", data := .seq #[] }
noncomputable def o107 : Params → Obj := fun P => { cls := .none, data := .fields #[.int 18 0, .int 4 0, .ref 74, .int 23 0, .int 4 0, .ref 81, .int 26 0, .int 4 0, .ref 88, .int 29 0, .int 4 0, .ref 95, .int 34 0, .int 4 0, .ref 102, .int 39 0, .int 4 0, .ref 109, .int 46 0, .int 4 0, .ref 116, .int 53 0, .int 4 0, .ref 123, .int 67 0, .int 4 0, .ref 130, .int 70 0, .int 4 0, .ref 137, .int 73 0, .int 4 0, .ref 144, .int 76 0, .int 4 0, .ref 151, .int 79 0, .int 4 0, .ref 158, .int 82 0, .int 4 0, .ref 165, .int 85 0, .int 4 0, .ref 172] }
noncomputable def o108 : Params → Obj := fun P => { cls := .type "code", data := .fields #[.str (z "Cursor") 255, .str (z "Cursor") 256, .str (z "/claim/cut.py") 257, .int 16 0, .int 0 0, .int 0 0, .int 0 0, .int 0 0, .ref 64, .bool false, .int 181 0, .ref 65, .none, .none, .none, .none, .int 258 0, .int 16 0, .str (z "/claim/cut.py") 259] }
noncomputable def o109 : Params → Obj := fun P => { cls := .type "frame", slots := #[some (.ref 66), some (.ref 3), some (.ref 63), none, some (.str (z "wasmcore.octets") 251), none, some (.ref 0)] }
noncomputable def o110 : Params → Obj := fun P => { cls := .type "tuple", data := .seq #[.int 0 265, .none] }
noncomputable def o111 : Params → Obj := fun P => { cls := .type "tuple", data := .seq #[] }
noncomputable def o112 : Params → Obj := fun P => { cls := .none, data := .fields #[] }
noncomputable def o113 : Params → Obj := fun P => { cls := .type "tuple", data := .seq #[.str (z "self") 269, .str (z "octets") 270, .str (z "at") 271, .str (z "end") 272] }
noncomputable def o114 : Params → Obj := fun P => { cls := .type "tuple", data := .seq #[] }
noncomputable def o115 : Params → Obj := fun P => { cls := .none, data := .func { name := z "__init__", qualname := z "Cursor.__init__", params := (cm 5 0).1, body := FuncBody.stmts (cm 5 0).2.1, scope := (cm 5 0).2.2, globals := 0, closure := [], defaults := .none, kwdefaults := .none } }
noncomputable def o116 : Params → Obj := fun P => { cls := .type "code", data := .fields #[.str (z "__init__") 266, .str (z "Cursor.__init__") 267, .str (z "/claim/cut.py") 268, .int 18 0, .int 4 0, .int 0 0, .int 0 0, .int 3 0, .ref 69, .bool true, .int 181 0, .ref 70, .none, .ref 71, .ref 72, .ref 73, .int 273 0, .int 18 0, .str (z "/claim/cut.py") 274] }
noncomputable def o117 : Params → Obj := fun P => { cls := .type "function", data := .func { name := z "__init__", qualname := z "Cursor.__init__", params := (cm 5 0).1, body := FuncBody.stmts (cm 5 0).2.1, scope := (cm 5 0).2.2, globals := 3, closure := [], defaults := .ref 68, kwdefaults := .none, pyModule := .str (z "wasmcore.octets") 251, code := .ref 74 } }
noncomputable def o118 : Params → Obj := fun P => { cls := .type "tuple", data := .seq #[] }
noncomputable def o119 : Params → Obj := fun P => { cls := .none, data := .fields #[] }
noncomputable def o120 : Params → Obj := fun P => { cls := .type "tuple", data := .seq #[.str (z "self") 279] }
noncomputable def o121 : Params → Obj := fun P => { cls := .type "tuple", data := .seq #[] }
noncomputable def o122 : Params → Obj := fun P => { cls := .none, data := .func { name := z "left", qualname := z "Cursor.left", params := (cm 5 1).1, body := FuncBody.stmts (cm 5 1).2.1, scope := (cm 5 1).2.2, globals := 0, closure := [], defaults := .none, kwdefaults := .none } }
noncomputable def o123 : Params → Obj := fun P => { cls := .type "code", data := .fields #[.str (z "left") 276, .str (z "Cursor.left") 277, .str (z "/claim/cut.py") 278, .int 23 0, .int 1 0, .int 0 0, .int 0 0, .int 3 0, .ref 76, .bool true, .int 181 0, .ref 77, .none, .ref 78, .ref 79, .ref 80, .int 280 0, .int 23 0, .str (z "/claim/cut.py") 281] }
noncomputable def o124 : Params → Obj := fun P => { cls := .type "function", data := .func { name := z "left", qualname := z "Cursor.left", params := (cm 5 1).1, body := FuncBody.stmts (cm 5 1).2.1, scope := (cm 5 1).2.2, globals := 3, closure := [], defaults := .none, kwdefaults := .none, pyModule := .str (z "wasmcore.octets") 251, code := .ref 81 } }
noncomputable def o125 : Params → Obj := fun P => { cls := .type "tuple", data := .seq #[] }
noncomputable def o126 : Params → Obj := fun P => { cls := .none, data := .fields #[] }
noncomputable def o127 : Params → Obj := fun P => { cls := .type "tuple", data := .seq #[.str (z "self") 286] }
noncomputable def o128 : Params → Obj := fun P => { cls := .type "tuple", data := .seq #[] }
noncomputable def o129 : Params → Obj := fun P => { cls := .none, data := .func { name := z "is_done", qualname := z "Cursor.is_done", params := (cm 5 2).1, body := FuncBody.stmts (cm 5 2).2.1, scope := (cm 5 2).2.2, globals := 0, closure := [], defaults := .none, kwdefaults := .none } }
noncomputable def o130 : Params → Obj := fun P => { cls := .type "code", data := .fields #[.str (z "is_done") 283, .str (z "Cursor.is_done") 284, .str (z "/claim/cut.py") 285, .int 26 0, .int 1 0, .int 0 0, .int 0 0, .int 3 0, .ref 83, .bool true, .int 181 0, .ref 84, .none, .ref 85, .ref 86, .ref 87, .int 287 0, .int 26 0, .str (z "/claim/cut.py") 288] }
noncomputable def o131 : Params → Obj := fun P => { cls := .type "function", data := .func { name := z "is_done", qualname := z "Cursor.is_done", params := (cm 5 2).1, body := FuncBody.stmts (cm 5 2).2.1, scope := (cm 5 2).2.2, globals := 3, closure := [], defaults := .none, kwdefaults := .none, pyModule := .str (z "wasmcore.octets") 251, code := .ref 88 } }
noncomputable def o132 : Params → Obj := fun P => { cls := .type "tuple", data := .seq #[] }
noncomputable def o133 : Params → Obj := fun P => { cls := .none, data := .fields #[] }
noncomputable def o134 : Params → Obj := fun P => { cls := .type "tuple", data := .seq #[.str (z "self") 293] }
noncomputable def o135 : Params → Obj := fun P => { cls := .type "tuple", data := .seq #[] }
noncomputable def o136 : Params → Obj := fun P => { cls := .none, data := .func { name := z "peek", qualname := z "Cursor.peek", params := (cm 5 3).1, body := FuncBody.stmts (cm 5 3).2.1, scope := (cm 5 3).2.2, globals := 0, closure := [], defaults := .none, kwdefaults := .none } }
noncomputable def o137 : Params → Obj := fun P => { cls := .type "code", data := .fields #[.str (z "peek") 290, .str (z "Cursor.peek") 291, .str (z "/claim/cut.py") 292, .int 29 0, .int 1 0, .int 0 0, .int 0 0, .int 3 0, .ref 90, .bool true, .int 181 0, .ref 91, .none, .ref 92, .ref 93, .ref 94, .int 294 0, .int 29 0, .str (z "/claim/cut.py") 295] }
noncomputable def o138 : Params → Obj := fun P => { cls := .type "function", data := .func { name := z "peek", qualname := z "Cursor.peek", params := (cm 5 3).1, body := FuncBody.stmts (cm 5 3).2.1, scope := (cm 5 3).2.2, globals := 3, closure := [], defaults := .none, kwdefaults := .none, pyModule := .str (z "wasmcore.octets") 251, code := .ref 95 } }
noncomputable def o139 : Params → Obj := fun P => { cls := .type "tuple", data := .seq #[] }
noncomputable def o140 : Params → Obj := fun P => { cls := .none, data := .fields #[] }
noncomputable def o141 : Params → Obj := fun P => { cls := .type "tuple", data := .seq #[.str (z "self") 300, .str (z "found") 301] }
noncomputable def o142 : Params → Obj := fun P => { cls := .type "tuple", data := .seq #[] }
noncomputable def o143 : Params → Obj := fun P => { cls := .none, data := .func { name := z "octet", qualname := z "Cursor.octet", params := (cm 5 4).1, body := FuncBody.stmts (cm 5 4).2.1, scope := (cm 5 4).2.2, globals := 0, closure := [], defaults := .none, kwdefaults := .none } }
noncomputable def o144 : Params → Obj := fun P => { cls := .type "code", data := .fields #[.str (z "octet") 297, .str (z "Cursor.octet") 298, .str (z "/claim/cut.py") 299, .int 34 0, .int 1 0, .int 0 0, .int 0 0, .int 3 0, .ref 97, .bool true, .int 181 0, .ref 98, .none, .ref 99, .ref 100, .ref 101, .int 302 0, .int 34 0, .str (z "/claim/cut.py") 303] }
noncomputable def o145 : Params → Obj := fun P => { cls := .type "function", data := .func { name := z "octet", qualname := z "Cursor.octet", params := (cm 5 4).1, body := FuncBody.stmts (cm 5 4).2.1, scope := (cm 5 4).2.2, globals := 3, closure := [], defaults := .none, kwdefaults := .none, pyModule := .str (z "wasmcore.octets") 251, code := .ref 102 } }
noncomputable def o146 : Params → Obj := fun P => { cls := .type "tuple", data := .seq #[] }
noncomputable def o147 : Params → Obj := fun P => { cls := .none, data := .fields #[] }
noncomputable def o148 : Params → Obj := fun P => { cls := .type "tuple", data := .seq #[.str (z "self") 308, .str (z "many") 309, .str (z "found") 310] }
noncomputable def o149 : Params → Obj := fun P => { cls := .type "tuple", data := .seq #[] }
noncomputable def o150 : Params → Obj := fun P => { cls := .none, data := .func { name := z "take", qualname := z "Cursor.take", params := (cm 5 5).1, body := FuncBody.stmts (cm 5 5).2.1, scope := (cm 5 5).2.2, globals := 0, closure := [], defaults := .none, kwdefaults := .none } }
noncomputable def o151 : Params → Obj := fun P => { cls := .type "code", data := .fields #[.str (z "take") 305, .str (z "Cursor.take") 306, .str (z "/claim/cut.py") 307, .int 39 0, .int 2 0, .int 0 0, .int 0 0, .int 3 0, .ref 104, .bool true, .int 181 0, .ref 105, .none, .ref 106, .ref 107, .ref 108, .int 311 0, .int 39 0, .str (z "/claim/cut.py") 312] }
noncomputable def o152 : Params → Obj := fun P => { cls := .type "function", data := .func { name := z "take", qualname := z "Cursor.take", params := (cm 5 5).1, body := FuncBody.stmts (cm 5 5).2.1, scope := (cm 5 5).2.2, globals := 3, closure := [], defaults := .none, kwdefaults := .none, pyModule := .str (z "wasmcore.octets") 251, code := .ref 109 } }
noncomputable def o153 : Params → Obj := fun P => { cls := .type "tuple", data := .seq #[] }
noncomputable def o154 : Params → Obj := fun P => { cls := .none, data := .fields #[] }
noncomputable def o155 : Params → Obj := fun P => { cls := .type "tuple", data := .seq #[.str (z "self") 317, .str (z "many") 318, .str (z "found") 319] }
noncomputable def o156 : Params → Obj := fun P => { cls := .type "tuple", data := .seq #[] }
noncomputable def o157 : Params → Obj := fun P => { cls := .none, data := .func { name := z "part", qualname := z "Cursor.part", params := (cm 5 6).1, body := FuncBody.stmts (cm 5 6).2.1, scope := (cm 5 6).2.2, globals := 0, closure := [], defaults := .none, kwdefaults := .none } }
noncomputable def o158 : Params → Obj := fun P => { cls := .type "code", data := .fields #[.str (z "part") 314, .str (z "Cursor.part") 315, .str (z "/claim/cut.py") 316, .int 46 0, .int 2 0, .int 0 0, .int 0 0, .int 3 0, .ref 111, .bool true, .int 181 0, .ref 112, .none, .ref 113, .ref 114, .ref 115, .int 320 0, .int 46 0, .str (z "/claim/cut.py") 321] }
noncomputable def o159 : Params → Obj := fun P => { cls := .type "function", data := .func { name := z "part", qualname := z "Cursor.part", params := (cm 5 6).1, body := FuncBody.stmts (cm 5 6).2.1, scope := (cm 5 6).2.2, globals := 3, closure := [], defaults := .none, kwdefaults := .none, pyModule := .str (z "wasmcore.octets") 251, code := .ref 116 } }
noncomputable def o160 : Params → Obj := fun P => { cls := .type "tuple", data := .seq #[] }
noncomputable def o161 : Params → Obj := fun P => { cls := .none, data := .fields #[] }
noncomputable def o162 : Params → Obj := fun P => { cls := .type "tuple", data := .seq #[.str (z "self") 326, .str (z "bits") 327, .str (z "found") 328, .str (z "shift") 329, .str (z "begin") 330, .str (z "octet") 331, .str (z "left") 332] }
noncomputable def o163 : Params → Obj := fun P => { cls := .type "tuple", data := .seq #[] }
noncomputable def o164 : Params → Obj := fun P => { cls := .none, data := .func { name := z "unsigned", qualname := z "Cursor.unsigned", params := (cm 5 7).1, body := FuncBody.stmts (cm 5 7).2.1, scope := (cm 5 7).2.2, globals := 0, closure := [], defaults := .none, kwdefaults := .none } }
noncomputable def o165 : Params → Obj := fun P => { cls := .type "code", data := .fields #[.str (z "unsigned") 323, .str (z "Cursor.unsigned") 324, .str (z "/claim/cut.py") 325, .int 53 0, .int 2 0, .int 0 0, .int 0 0, .int 3 0, .ref 118, .bool true, .int 181 0, .ref 119, .none, .ref 120, .ref 121, .ref 122, .int 333 0, .int 53 0, .str (z "/claim/cut.py") 334] }
noncomputable def o166 : Params → Obj := fun P => { cls := .type "function", data := .func { name := z "unsigned", qualname := z "Cursor.unsigned", params := (cm 5 7).1, body := FuncBody.stmts (cm 5 7).2.1, scope := (cm 5 7).2.2, globals := 3, closure := [], defaults := .none, kwdefaults := .none, pyModule := .str (z "wasmcore.octets") 251, code := .ref 123 } }
noncomputable def o167 : Params → Obj := fun P => { cls := .type "tuple", data := .seq #[] }
noncomputable def o168 : Params → Obj := fun P => { cls := .none, data := .fields #[] }
noncomputable def o169 : Params → Obj := fun P => { cls := .type "tuple", data := .seq #[.str (z "self") 339, .str (z "bits") 340] }
noncomputable def o170 : Params → Obj := fun P => { cls := .type "tuple", data := .seq #[] }
noncomputable def o171 : Params → Obj := fun P => { cls := .none, data := .func { name := z "signed", qualname := z "Cursor.signed", params := (cm 5 8).1, body := FuncBody.stmts (cm 5 8).2.1, scope := (cm 5 8).2.2, globals := 0, closure := [], defaults := .none, kwdefaults := .none } }
noncomputable def o172 : Params → Obj := fun P => { cls := .type "code", data := .fields #[.str (z "signed") 336, .str (z "Cursor.signed") 337, .str (z "/claim/cut.py") 338, .int 67 0, .int 2 0, .int 0 0, .int 0 0, .int 3 0, .ref 125, .bool true, .int 181 0, .ref 126, .none, .ref 127, .ref 128, .ref 129, .int 341 0, .int 67 0, .str (z "/claim/cut.py") 342] }
noncomputable def o173 : Params → Obj := fun P => { cls := .type "function", data := .func { name := z "signed", qualname := z "Cursor.signed", params := (cm 5 8).1, body := FuncBody.stmts (cm 5 8).2.1, scope := (cm 5 8).2.2, globals := 3, closure := [], defaults := .none, kwdefaults := .none, pyModule := .str (z "wasmcore.octets") 251, code := .ref 130 } }
noncomputable def o174 : Params → Obj := fun P => { cls := .type "tuple", data := .seq #[] }
noncomputable def o175 : Params → Obj := fun P => { cls := .none, data := .fields #[] }
noncomputable def o176 : Params → Obj := fun P => { cls := .type "tuple", data := .seq #[.str (z "self") 347] }
noncomputable def o177 : Params → Obj := fun P => { cls := .type "tuple", data := .seq #[] }
noncomputable def o178 : Params → Obj := fun P => { cls := .none, data := .func { name := z "u32", qualname := z "Cursor.u32", params := (cm 5 9).1, body := FuncBody.stmts (cm 5 9).2.1, scope := (cm 5 9).2.2, globals := 0, closure := [], defaults := .none, kwdefaults := .none } }
noncomputable def o179 : Params → Obj := fun P => { cls := .type "code", data := .fields #[.str (z "u32") 344, .str (z "Cursor.u32") 345, .str (z "/claim/cut.py") 346, .int 70 0, .int 1 0, .int 0 0, .int 0 0, .int 3 0, .ref 132, .bool true, .int 181 0, .ref 133, .none, .ref 134, .ref 135, .ref 136, .int 348 0, .int 70 0, .str (z "/claim/cut.py") 349] }
noncomputable def o180 : Params → Obj := fun P => { cls := .type "function", data := .func { name := z "u32", qualname := z "Cursor.u32", params := (cm 5 9).1, body := FuncBody.stmts (cm 5 9).2.1, scope := (cm 5 9).2.2, globals := 3, closure := [], defaults := .none, kwdefaults := .none, pyModule := .str (z "wasmcore.octets") 251, code := .ref 137 } }
noncomputable def o181 : Params → Obj := fun P => { cls := .type "tuple", data := .seq #[] }
noncomputable def o182 : Params → Obj := fun P => { cls := .none, data := .fields #[] }
noncomputable def o183 : Params → Obj := fun P => { cls := .type "tuple", data := .seq #[.str (z "self") 354] }
noncomputable def o184 : Params → Obj := fun P => { cls := .type "tuple", data := .seq #[] }
noncomputable def o185 : Params → Obj := fun P => { cls := .none, data := .func { name := z "s7", qualname := z "Cursor.s7", params := (cm 5 10).1, body := FuncBody.stmts (cm 5 10).2.1, scope := (cm 5 10).2.2, globals := 0, closure := [], defaults := .none, kwdefaults := .none } }
noncomputable def o186 : Params → Obj := fun P => { cls := .type "code", data := .fields #[.str (z "s7") 351, .str (z "Cursor.s7") 352, .str (z "/claim/cut.py") 353, .int 73 0, .int 1 0, .int 0 0, .int 0 0, .int 3 0, .ref 139, .bool true, .int 181 0, .ref 140, .none, .ref 141, .ref 142, .ref 143, .int 355 0, .int 73 0, .str (z "/claim/cut.py") 356] }
noncomputable def o187 : Params → Obj := fun P => { cls := .type "function", data := .func { name := z "s7", qualname := z "Cursor.s7", params := (cm 5 10).1, body := FuncBody.stmts (cm 5 10).2.1, scope := (cm 5 10).2.2, globals := 3, closure := [], defaults := .none, kwdefaults := .none, pyModule := .str (z "wasmcore.octets") 251, code := .ref 144 } }
noncomputable def o188 : Params → Obj := fun P => { cls := .type "tuple", data := .seq #[] }
noncomputable def o189 : Params → Obj := fun P => { cls := .none, data := .fields #[] }
noncomputable def o190 : Params → Obj := fun P => { cls := .type "tuple", data := .seq #[.str (z "self") 361] }
noncomputable def o191 : Params → Obj := fun P => { cls := .type "tuple", data := .seq #[] }
noncomputable def o192 : Params → Obj := fun P => { cls := .none, data := .func { name := z "s32", qualname := z "Cursor.s32", params := (cm 5 11).1, body := FuncBody.stmts (cm 5 11).2.1, scope := (cm 5 11).2.2, globals := 0, closure := [], defaults := .none, kwdefaults := .none } }
noncomputable def o193 : Params → Obj := fun P => { cls := .type "code", data := .fields #[.str (z "s32") 358, .str (z "Cursor.s32") 359, .str (z "/claim/cut.py") 360, .int 76 0, .int 1 0, .int 0 0, .int 0 0, .int 3 0, .ref 146, .bool true, .int 181 0, .ref 147, .none, .ref 148, .ref 149, .ref 150, .int 362 0, .int 76 0, .str (z "/claim/cut.py") 363] }
noncomputable def o194 : Params → Obj := fun P => { cls := .type "function", data := .func { name := z "s32", qualname := z "Cursor.s32", params := (cm 5 11).1, body := FuncBody.stmts (cm 5 11).2.1, scope := (cm 5 11).2.2, globals := 3, closure := [], defaults := .none, kwdefaults := .none, pyModule := .str (z "wasmcore.octets") 251, code := .ref 151 } }
noncomputable def o195 : Params → Obj := fun P => { cls := .type "tuple", data := .seq #[] }
noncomputable def o196 : Params → Obj := fun P => { cls := .none, data := .fields #[] }
noncomputable def o197 : Params → Obj := fun P => { cls := .type "tuple", data := .seq #[.str (z "self") 368] }
noncomputable def o198 : Params → Obj := fun P => { cls := .type "tuple", data := .seq #[] }
noncomputable def o199 : Params → Obj := fun P => { cls := .none, data := .func { name := z "s33", qualname := z "Cursor.s33", params := (cm 5 12).1, body := FuncBody.stmts (cm 5 12).2.1, scope := (cm 5 12).2.2, globals := 0, closure := [], defaults := .none, kwdefaults := .none } }
noncomputable def o200 : Params → Obj := fun P => { cls := .type "code", data := .fields #[.str (z "s33") 365, .str (z "Cursor.s33") 366, .str (z "/claim/cut.py") 367, .int 79 0, .int 1 0, .int 0 0, .int 0 0, .int 3 0, .ref 153, .bool true, .int 181 0, .ref 154, .none, .ref 155, .ref 156, .ref 157, .int 369 0, .int 79 0, .str (z "/claim/cut.py") 370] }
noncomputable def o201 : Params → Obj := fun P => { cls := .type "function", data := .func { name := z "s33", qualname := z "Cursor.s33", params := (cm 5 12).1, body := FuncBody.stmts (cm 5 12).2.1, scope := (cm 5 12).2.2, globals := 3, closure := [], defaults := .none, kwdefaults := .none, pyModule := .str (z "wasmcore.octets") 251, code := .ref 158 } }
noncomputable def o202 : Params → Obj := fun P => { cls := .type "tuple", data := .seq #[] }
noncomputable def o203 : Params → Obj := fun P => { cls := .none, data := .fields #[] }
noncomputable def o204 : Params → Obj := fun P => { cls := .type "tuple", data := .seq #[.str (z "self") 375] }
noncomputable def o205 : Params → Obj := fun P => { cls := .type "tuple", data := .seq #[] }
noncomputable def o206 : Params → Obj := fun P => { cls := .none, data := .func { name := z "s64", qualname := z "Cursor.s64", params := (cm 5 13).1, body := FuncBody.stmts (cm 5 13).2.1, scope := (cm 5 13).2.2, globals := 0, closure := [], defaults := .none, kwdefaults := .none } }
noncomputable def o207 : Params → Obj := fun P => { cls := .type "code", data := .fields #[.str (z "s64") 372, .str (z "Cursor.s64") 373, .str (z "/claim/cut.py") 374, .int 82 0, .int 1 0, .int 0 0, .int 0 0, .int 3 0, .ref 160, .bool true, .int 181 0, .ref 161, .none, .ref 162, .ref 163, .ref 164, .int 376 0, .int 82 0, .str (z "/claim/cut.py") 377] }
noncomputable def o208 : Params → Obj := fun P => { cls := .type "function", data := .func { name := z "s64", qualname := z "Cursor.s64", params := (cm 5 13).1, body := FuncBody.stmts (cm 5 13).2.1, scope := (cm 5 13).2.2, globals := 3, closure := [], defaults := .none, kwdefaults := .none, pyModule := .str (z "wasmcore.octets") 251, code := .ref 165 } }
noncomputable def o209 : Params → Obj := fun P => { cls := .type "tuple", data := .seq #[] }
noncomputable def o210 : Params → Obj := fun P => { cls := .none, data := .fields #[] }
noncomputable def o211 : Params → Obj := fun P => { cls := .type "tuple", data := .seq #[.str (z "self") 382, .str (z "many") 383, .str (z "begin") 384] }
noncomputable def o212 : Params → Obj := fun P => { cls := .type "tuple", data := .seq #[] }
noncomputable def o213 : Params → Obj := fun P => { cls := .none, data := .func { name := z "name", qualname := z "Cursor.name", params := (cm 5 14).1, body := FuncBody.stmts (cm 5 14).2.1, scope := (cm 5 14).2.2, globals := 0, closure := [], defaults := .none, kwdefaults := .none } }
noncomputable def o214 : Params → Obj := fun P => { cls := .type "code", data := .fields #[.str (z "name") 379, .str (z "Cursor.name") 380, .str (z "/claim/cut.py") 381, .int 85 0, .int 1 0, .int 0 0, .int 0 0, .int 3 0, .ref 167, .bool true, .int 181 0, .ref 168, .none, .ref 169, .ref 170, .ref 171, .int 385 0, .int 85 0, .str (z "/claim/cut.py") 386] }
noncomputable def o215 : Params → Obj := fun P => { cls := .type "function", data := .func { name := z "name", qualname := z "Cursor.name", params := (cm 5 14).1, body := FuncBody.stmts (cm 5 14).2.1, scope := (cm 5 14).2.2, globals := 3, closure := [], defaults := .none, kwdefaults := .none, pyModule := .str (z "wasmcore.octets") 251, code := .ref 172 } }
noncomputable def o216 : Params → Obj := fun P => { cls := .type "tuple", data := .seq #[.str (z "at") 388, .str (z "end") 389, .str (z "octets") 390] }
noncomputable def o217 : Params → Obj := fun P => { cls := .type "dict", data := .dict #[{ hash := PyData.keyHash P (z "__module__"), key := .str (z "__module__") 260, val := .str (z "wasmcore.octets") 251 }, { hash := PyData.keyHash P (z "__firstlineno__"), key := .str (z "__firstlineno__") 264, val := .int 16 263 }, { hash := PyData.keyHash P (z "__init__"), key := .str (z "__init__") 275, val := .ref 75 }, { hash := PyData.keyHash P (z "left"), key := .str (z "left") 282, val := .ref 82 }, { hash := PyData.keyHash P (z "is_done"), key := .str (z "is_done") 289, val := .ref 89 }, { hash := PyData.keyHash P (z "peek"), key := .str (z "peek") 296, val := .ref 96 }, { hash := PyData.keyHash P (z "octet"), key := .str (z "octet") 304, val := .ref 103 }, { hash := PyData.keyHash P (z "take"), key := .str (z "take") 313, val := .ref 110 }, { hash := PyData.keyHash P (z "part"), key := .str (z "part") 322, val := .ref 117 }, { hash := PyData.keyHash P (z "unsigned"), key := .str (z "unsigned") 335, val := .ref 124 }, { hash := PyData.keyHash P (z "signed"), key := .str (z "signed") 343, val := .ref 131 }, { hash := PyData.keyHash P (z "u32"), key := .str (z "u32") 350, val := .ref 138 }, { hash := PyData.keyHash P (z "s7"), key := .str (z "s7") 357, val := .ref 145 }, { hash := PyData.keyHash P (z "s32"), key := .str (z "s32") 364, val := .ref 152 }, { hash := PyData.keyHash P (z "s33"), key := .str (z "s33") 371, val := .ref 159 }, { hash := PyData.keyHash P (z "s64"), key := .str (z "s64") 378, val := .ref 166 }, { hash := PyData.keyHash P (z "name"), key := .str (z "name") 387, val := .ref 173 }, { hash := PyData.keyHash P (z "__static_attributes__"), key := .str (z "__static_attributes__") 391, val := .ref 174 }, { hash := PyData.keyHash P (z "__dict__"), key := .str (z "__dict__") 393, val := .ref 177 }, { hash := PyData.keyHash P (z "__weakref__"), key := .str (z "__weakref__") 395, val := .ref 178 }, { hash := PyData.keyHash P (z "__doc__"), key := .str (z "__doc__") 396, val := .none }] 4 }
noncomputable def o218 : Params → Obj := fun P => { cls := .type "type", data := .cls { name := z "Cursor", bases := [.type "object"], mro := [.ref 176, .type "object"], ns := 175, qualname := z "Cursor" }, slots := #[none, none, some (.str (z "Cursor") 253), some (.str (z "Cursor") 261), some (.builtin "object.__new__"), some (.bool true)] }
noncomputable def o219 : Params → Obj := fun P => { cls := .type "getset_descriptor", data := .fields #[.str (z "__dict__") 392, .ref 176, .builtin "function.__dict__", .builtin "function.__dict__#set"] }
noncomputable def o220 : Params → Obj := fun P => { cls := .type "getset_descriptor", data := .fields #[.str (z "__weakref__") 394, .ref 176, .builtin "ExceptionGroup.__weakref__", .none] }
noncomputable def o221 : Params → Obj := fun P => { cls := .type "super", data := .fields #[.ref 176, .ref 176, .ref 176] }
noncomputable def o222 : Params → Obj := fun P => { cls := .type "builtin_function_or_method", data := .fields #[.builtin "object.__init_subclass__", .ref 176] }
noncomputable def o314 : Params → Obj := fun P => { cls := .type "tuple", data := .seq #[] }
noncomputable def o315 : Params → Obj := fun P => { cls := .none, data := .fields #[] }
noncomputable def o316 : Params → Obj := fun P => { cls := .type "tuple", data := .seq #[.str (z "octet") 402, .str (z "at") 403] }
noncomputable def o317 : Params → Obj := fun P => { cls := .type "tuple", data := .seq #[] }
noncomputable def o318 : Params → Obj := fun P => { cls := .none, data := .func { name := z "head_of", qualname := z "head_of", params := (sm 6).1, body := FuncBody.stmts (sm 6).2.1, scope := (sm 6).2.2, globals := 0, closure := [], defaults := .none, kwdefaults := .none } }
noncomputable def o319 : Params → Obj := fun P => { cls := .type "code", data := .fields #[.str (z "head_of") 399, .str (z "head_of") 400, .str (z "/claim/cut.py") 401, .int 91 0, .int 2 0, .int 0 0, .int 0 0, .int 3 0, .ref 181, .bool true, .int 181 0, .ref 182, .none, .ref 183, .ref 184, .ref 185, .int 404 0, .int 91 0, .str (z "/claim/cut.py") 405] }
noncomputable def o320 : Params → Obj := fun P => { cls := .type "function", data := .func { name := z "head_of", qualname := z "head_of", params := (sm 6).1, body := FuncBody.stmts (sm 6).2.1, scope := (sm 6).2.2, globals := 3, closure := [], defaults := .none, kwdefaults := .none, pyModule := .str (z "wasmcore.octets") 251, code := .ref 186 } }
noncomputable def o321 : Params → Obj := fun P => { cls := .type "tuple", data := .seq #[.int 0 407] }
noncomputable def o322 : Params → Obj := fun P => { cls := .type "tuple", data := .seq #[] }
noncomputable def o323 : Params → Obj := fun P => { cls := .none, data := .fields #[] }
noncomputable def o324 : Params → Obj := fun P => { cls := .type "tuple", data := .seq #[.str (z "octets") 411, .str (z "begin") 412, .str (z "signs") 413, .str (z "at") 414, .str (z "follow") 415, .str (z "point") 416, .str (z "least") 417, .str (z "octet") 418] }
noncomputable def o325 : Params → Obj := fun P => { cls := .type "tuple", data := .seq #[] }
noncomputable def o326 : Params → Obj := fun P => { cls := .none, data := .func { name := z "text_of", qualname := z "text_of", params := (sm 7).1, body := FuncBody.stmts (sm 7).2.1, scope := (sm 7).2.2, globals := 0, closure := [], defaults := .none, kwdefaults := .none } }
noncomputable def o327 : Params → Obj := fun P => { cls := .type "code", data := .fields #[.str (z "text_of") 408, .str (z "text_of") 409, .str (z "/claim/cut.py") 410, .int 101 0, .int 2 0, .int 0 0, .int 0 0, .int 3 0, .ref 189, .bool true, .int 181 0, .ref 190, .none, .ref 191, .ref 192, .ref 193, .int 419 0, .int 101 0, .str (z "/claim/cut.py") 420] }
noncomputable def o328 : Params → Obj := fun P => { cls := .type "function", data := .func { name := z "text_of", qualname := z "text_of", params := (sm 7).1, body := FuncBody.stmts (sm 7).2.1, scope := (sm 7).2.2, globals := 3, closure := [], defaults := .ref 188, kwdefaults := .none, pyModule := .str (z "wasmcore.octets") 251, code := .ref 194 } }
noncomputable def o329 : Params → Obj := fun P => { cls := .type "tuple", data := .seq #[.int 1 428, .int 2 429, .int 3 430, .int 4 431, .int 5 432, .int 6 433, .int 7 434, .int 8 435, .int 9 436, .int 12 437, .int 10 438, .int 11 439] }
noncomputable def o330 : Params → Obj := fun P => { cls := .type "tuple", data := .seq #[] }
noncomputable def o331 : Params → Obj := fun P => { cls := .none, data := .fields #[] }
noncomputable def o332 : Params → Obj := fun P => { cls := .type "tuple", data := .seq #[.str (z "cursor") 448] }
noncomputable def o333 : Params → Obj := fun P => { cls := .type "tuple", data := .seq #[] }
noncomputable def o334 : Params → Obj := fun P => { cls := .none, data := .func { name := z "read_head", qualname := z "read_head", params := (sm 14).1, body := FuncBody.stmts (sm 14).2.1, scope := (sm 14).2.2, globals := 0, closure := [], defaults := .none, kwdefaults := .none } }
noncomputable def o335 : Params → Obj := fun P => { cls := .type "code", data := .fields #[.str (z "read_head") 445, .str (z "read_head") 446, .str (z "/claim/cut.py") 447, .int 122 0, .int 1 0, .int 0 0, .int 0 0, .int 3 0, .ref 197, .bool true, .int 181 0, .ref 198, .none, .ref 199, .ref 200, .ref 201, .int 449 0, .int 122 0, .str (z "/claim/cut.py") 450] }
noncomputable def o336 : Params → Obj := fun P => { cls := .type "function", data := .func { name := z "read_head", qualname := z "read_head", params := (sm 14).1, body := FuncBody.stmts (sm 14).2.1, scope := (sm 14).2.2, globals := 3, closure := [], defaults := .none, kwdefaults := .none, pyModule := .str (z "wasmcore.binsections") 422, code := .ref 202 } }
noncomputable def o337 : Params → Obj := fun P => { cls := .type "tuple", data := .seq #[] }
noncomputable def o338 : Params → Obj := fun P => { cls := .none, data := .fields #[] }
noncomputable def o339 : Params → Obj := fun P => { cls := .type "tuple", data := .seq #[.str (z "part") 455, .str (z "name") 456] }
noncomputable def o340 : Params → Obj := fun P => { cls := .type "tuple", data := .seq #[] }
noncomputable def o341 : Params → Obj := fun P => { cls := .none, data := .func { name := z "custom_at", qualname := z "custom_at", params := (sm 15).1, body := FuncBody.stmts (sm 15).2.1, scope := (sm 15).2.2, globals := 0, closure := [], defaults := .none, kwdefaults := .none } }
noncomputable def o342 : Params → Obj := fun P => { cls := .type "code", data := .fields #[.str (z "custom_at") 452, .str (z "custom_at") 453, .str (z "/claim/cut.py") 454, .int 127 0, .int 1 0, .int 0 0, .int 0 0, .int 3 0, .ref 204, .bool true, .int 181 0, .ref 205, .none, .ref 206, .ref 207, .ref 208, .int 457 0, .int 127 0, .str (z "/claim/cut.py") 458] }
noncomputable def o343 : Params → Obj := fun P => { cls := .type "function", data := .func { name := z "custom_at", qualname := z "custom_at", params := (sm 15).1, body := FuncBody.stmts (sm 15).2.1, scope := (sm 15).2.2, globals := 3, closure := [], defaults := .none, kwdefaults := .none, pyModule := .str (z "wasmcore.binsections") 422, code := .ref 209 } }
noncomputable def o346 : Params → Obj := fun P => { cls := .type "tuple", data := .seq #[] }
noncomputable def o347 : Params → Obj := fun P => { cls := .type "builtin_function_or_method", data := .fields #[.builtin "type.__prepare__", .type "type"] }
noncomputable def o348 : Params → Obj := fun P => { cls := .type "dict", data := .dict #[{ hash := PyData.keyHash P (z "__module__"), key := .str (z "__module__") 467, val := .str (z "wasmcore.binsections") 422 }, { hash := PyData.keyHash P (z "__qualname__"), key := .str (z "__qualname__") 469, val := .str (z "SectionWalk") 468 }, { hash := PyData.keyHash P (z "__firstlineno__"), key := .str (z "__firstlineno__") 471, val := .int 130 470 }, { hash := PyData.keyHash P (z "__init__"), key := .str (z "__init__") 479, val := .ref 224 }, { hash := PyData.keyHash P (z "is_done"), key := .str (z "is_done") 486, val := .ref 231 }, { hash := PyData.keyHash P (z "step"), key := .str (z "step") 497, val := .ref 238 }, { hash := PyData.keyHash P (z "__static_attributes__"), key := .str (z "__static_attributes__") 500, val := .ref 239 }] 7 }
noncomputable def o349 : Params → Obj := fun P => { cls := .type "tuple", data := .seq #[] }
noncomputable def o350 : Params → Obj := fun P => { cls := .none, data := .fields #[.int 132 0, .int 4 0, .ref 223, .int 137 0, .int 4 0, .ref 230, .int 140 0, .int 4 0, .ref 237] }
noncomputable def o351 : Params → Obj := fun P => { cls := .type "code", data := .fields #[.str (z "SectionWalk") 462, .str (z "SectionWalk") 463, .str (z "/claim/cut.py") 464, .int 130 0, .int 0 0, .int 0 0, .int 0 0, .int 0 0, .ref 214, .bool false, .int 181 0, .ref 215, .none, .none, .none, .none, .int 465 0, .int 130 0, .str (z "/claim/cut.py") 466] }
noncomputable def o352 : Params → Obj := fun P => { cls := .type "frame", slots := #[some (.ref 216), some (.ref 3), some (.ref 213), none, some (.str (z "wasmcore.binsections") 422), none, some (.ref 0)] }
noncomputable def o353 : Params → Obj := fun P => { cls := .type "tuple", data := .seq #[] }
noncomputable def o354 : Params → Obj := fun P => { cls := .none, data := .fields #[] }
noncomputable def o355 : Params → Obj := fun P => { cls := .type "tuple", data := .seq #[.str (z "self") 475, .str (z "octets") 476] }
noncomputable def o356 : Params → Obj := fun P => { cls := .type "tuple", data := .seq #[] }
noncomputable def o357 : Params → Obj := fun P => { cls := .none, data := .func { name := z "__init__", qualname := z "SectionWalk.__init__", params := (cm 16 0).1, body := FuncBody.stmts (cm 16 0).2.1, scope := (cm 16 0).2.2, globals := 0, closure := [], defaults := .none, kwdefaults := .none } }
noncomputable def o358 : Params → Obj := fun P => { cls := .type "code", data := .fields #[.str (z "__init__") 472, .str (z "SectionWalk.__init__") 473, .str (z "/claim/cut.py") 474, .int 132 0, .int 2 0, .int 0 0, .int 0 0, .int 3 0, .ref 218, .bool true, .int 181 0, .ref 219, .none, .ref 220, .ref 221, .ref 222, .int 477 0, .int 132 0, .str (z "/claim/cut.py") 478] }
noncomputable def o359 : Params → Obj := fun P => { cls := .type "function", data := .func { name := z "__init__", qualname := z "SectionWalk.__init__", params := (cm 16 0).1, body := FuncBody.stmts (cm 16 0).2.1, scope := (cm 16 0).2.2, globals := 3, closure := [], defaults := .none, kwdefaults := .none, pyModule := .str (z "wasmcore.binsections") 422, code := .ref 223 } }
noncomputable def o360 : Params → Obj := fun P => { cls := .type "tuple", data := .seq #[] }
noncomputable def o361 : Params → Obj := fun P => { cls := .none, data := .fields #[] }
noncomputable def o362 : Params → Obj := fun P => { cls := .type "tuple", data := .seq #[.str (z "self") 483] }
noncomputable def o363 : Params → Obj := fun P => { cls := .type "tuple", data := .seq #[] }
noncomputable def o364 : Params → Obj := fun P => { cls := .none, data := .func { name := z "is_done", qualname := z "SectionWalk.is_done", params := (cm 16 1).1, body := FuncBody.stmts (cm 16 1).2.1, scope := (cm 16 1).2.2, globals := 0, closure := [], defaults := .none, kwdefaults := .none } }
noncomputable def o365 : Params → Obj := fun P => { cls := .type "code", data := .fields #[.str (z "is_done") 480, .str (z "SectionWalk.is_done") 481, .str (z "/claim/cut.py") 482, .int 137 0, .int 1 0, .int 0 0, .int 0 0, .int 3 0, .ref 225, .bool true, .int 181 0, .ref 226, .none, .ref 227, .ref 228, .ref 229, .int 484 0, .int 137 0, .str (z "/claim/cut.py") 485] }
noncomputable def o366 : Params → Obj := fun P => { cls := .type "function", data := .func { name := z "is_done", qualname := z "SectionWalk.is_done", params := (cm 16 1).1, body := FuncBody.stmts (cm 16 1).2.1, scope := (cm 16 1).2.2, globals := 3, closure := [], defaults := .none, kwdefaults := .none, pyModule := .str (z "wasmcore.binsections") 422, code := .ref 230 } }
noncomputable def o367 : Params → Obj := fun P => { cls := .type "tuple", data := .seq #[] }
noncomputable def o368 : Params → Obj := fun P => { cls := .none, data := .fields #[] }
noncomputable def o369 : Params → Obj := fun P => { cls := .type "tuple", data := .seq #[.str (z "self") 490, .str (z "at") 491, .str (z "number") 492, .str (z "part") 493, .str (z "place") 494] }
noncomputable def o370 : Params → Obj := fun P => { cls := .type "tuple", data := .seq #[] }
noncomputable def o371 : Params → Obj := fun P => { cls := .none, data := .func { name := z "step", qualname := z "SectionWalk.step", params := (cm 16 2).1, body := FuncBody.stmts (cm 16 2).2.1, scope := (cm 16 2).2.2, globals := 0, closure := [], defaults := .none, kwdefaults := .none } }
noncomputable def o372 : Params → Obj := fun P => { cls := .type "code", data := .fields #[.str (z "step") 487, .str (z "SectionWalk.step") 488, .str (z "/claim/cut.py") 489, .int 140 0, .int 1 0, .int 0 0, .int 0 0, .int 3 0, .ref 232, .bool true, .int 181 0, .ref 233, .none, .ref 234, .ref 235, .ref 236, .int 495 0, .int 140 0, .str (z "/claim/cut.py") 496] }
noncomputable def o373 : Params → Obj := fun P => { cls := .type "function", data := .func { name := z "step", qualname := z "SectionWalk.step", params := (cm 16 2).1, body := FuncBody.stmts (cm 16 2).2.1, scope := (cm 16 2).2.2, globals := 3, closure := [], defaults := .none, kwdefaults := .none, pyModule := .str (z "wasmcore.binsections") 422, code := .ref 237 } }
noncomputable def o374 : Params → Obj := fun P => { cls := .type "tuple", data := .seq #[.str (z "cursor") 498, .str (z "place") 499] }
noncomputable def o375 : Params → Obj := fun P => { cls := .type "dict", data := .dict #[{ hash := PyData.keyHash P (z "__module__"), key := .str (z "__module__") 467, val := .str (z "wasmcore.binsections") 422 }, { hash := PyData.keyHash P (z "__firstlineno__"), key := .str (z "__firstlineno__") 471, val := .int 130 470 }, { hash := PyData.keyHash P (z "__init__"), key := .str (z "__init__") 479, val := .ref 224 }, { hash := PyData.keyHash P (z "is_done"), key := .str (z "is_done") 486, val := .ref 231 }, { hash := PyData.keyHash P (z "step"), key := .str (z "step") 497, val := .ref 238 }, { hash := PyData.keyHash P (z "__static_attributes__"), key := .str (z "__static_attributes__") 500, val := .ref 239 }, { hash := PyData.keyHash P (z "__dict__"), key := .str (z "__dict__") 502, val := .ref 242 }, { hash := PyData.keyHash P (z "__weakref__"), key := .str (z "__weakref__") 504, val := .ref 243 }, { hash := PyData.keyHash P (z "__doc__"), key := .str (z "__doc__") 505, val := .none }] 4 }
noncomputable def o376 : Params → Obj := fun P => { cls := .type "type", data := .cls { name := z "SectionWalk", bases := [.type "object"], mro := [.ref 241, .type "object"], ns := 240, qualname := z "SectionWalk" }, slots := #[none, none, some (.str (z "SectionWalk") 460), some (.str (z "SectionWalk") 468), some (.builtin "object.__new__"), some (.bool true)] }
noncomputable def o377 : Params → Obj := fun P => { cls := .type "getset_descriptor", data := .fields #[.str (z "__dict__") 501, .ref 241, .builtin "function.__dict__", .builtin "function.__dict__#set"] }
noncomputable def o378 : Params → Obj := fun P => { cls := .type "getset_descriptor", data := .fields #[.str (z "__weakref__") 503, .ref 241, .builtin "ExceptionGroup.__weakref__", .none] }
noncomputable def o379 : Params → Obj := fun P => { cls := .type "super", data := .fields #[.ref 241, .ref 241, .ref 241] }
noncomputable def o380 : Params → Obj := fun P => { cls := .type "builtin_function_or_method", data := .fields #[.builtin "object.__init_subclass__", .ref 241] }
noncomputable def o381 : Params → Obj := fun P => { cls := .type "tuple", data := .seq #[] }
noncomputable def o382 : Params → Obj := fun P => { cls := .none, data := .fields #[] }
noncomputable def o383 : Params → Obj := fun P => { cls := .type "tuple", data := .seq #[.str (z "octets") 511, .str (z "walk") 512, .str (z "found") 513, .str (z "number") 514, .str (z "part") 515, .str (z "name") 516, .str (z "rest") 517] }
noncomputable def o384 : Params → Obj := fun P => { cls := .type "tuple", data := .seq #[] }
noncomputable def o385 : Params → Obj := fun P => { cls := .none, data := .func { name := z "sections_of", qualname := z "sections_of", params := (sm 17).1, body := FuncBody.stmts (sm 17).2.1, scope := (sm 17).2.2, globals := 0, closure := [], defaults := .none, kwdefaults := .none } }
noncomputable def o386 : Params → Obj := fun P => { cls := .type "code", data := .fields #[.str (z "sections_of") 508, .str (z "sections_of") 509, .str (z "/claim/cut.py") 510, .int 152 0, .int 1 0, .int 0 0, .int 0 0, .int 3 0, .ref 246, .bool true, .int 181 0, .ref 247, .none, .ref 248, .ref 249, .ref 250, .int 518 0, .int 152 0, .str (z "/claim/cut.py") 519] }
noncomputable def o387 : Params → Obj := fun P => { cls := .type "function", data := .func { name := z "sections_of", qualname := z "sections_of", params := (sm 17).1, body := FuncBody.stmts (sm 17).2.1, scope := (sm 17).2.2, globals := 3, closure := [], defaults := .none, kwdefaults := .none, pyModule := .str (z "wasmcore.binsections") 422, code := .ref 251 } }
noncomputable def o388 : Params → Obj := fun P => { cls := .type "tuple", data := .seq #[] }
noncomputable def o389 : Params → Obj := fun P => { cls := .none, data := .fields #[] }
noncomputable def o390 : Params → Obj := fun P => { cls := .type "tuple", data := .seq #[.str (z "script") 526, .str (z "at") 527] }
noncomputable def o391 : Params → Obj := fun P => { cls := .type "tuple", data := .seq #[] }
noncomputable def o392 : Params → Obj := fun P => { cls := .none, data := .func { name := z "_law_digit", qualname := z "_law_digit", params := (sm 19).1, body := FuncBody.stmts (sm 19).2.1, scope := (sm 19).2.2, globals := 0, closure := [], defaults := .none, kwdefaults := .none } }
noncomputable def o393 : Params → Obj := fun P => { cls := .type "code", data := .fields #[.str (z "_law_digit") 523, .str (z "_law_digit") 524, .str (z "/claim/cut.py") 525, .int 163 0, .int 2 0, .int 0 0, .int 0 0, .int 3 0, .ref 253, .bool true, .int 181 0, .ref 254, .none, .ref 255, .ref 256, .ref 257, .int 528 0, .int 163 0, .str (z "/claim/cut.py") 529] }
noncomputable def o394 : Params → Obj := fun P => { cls := .type "function", data := .func { name := z "_law_digit", qualname := z "_law_digit", params := (sm 19).1, body := FuncBody.stmts (sm 19).2.1, scope := (sm 19).2.2, globals := 3, closure := [], defaults := .none, kwdefaults := .none, pyModule := .str (z "law_nm0120_01") 521, code := .ref 258 } }
noncomputable def o395 : Params → Obj := fun P => { cls := .type "tuple", data := .seq #[] }
noncomputable def o396 : Params → Obj := fun P => { cls := .none, data := .fields #[] }
noncomputable def o397 : Params → Obj := fun P => { cls := .none, data := .func { name := z "_law_groups", qualname := z "_law_groups", params := (sm 20).1, body := FuncBody.stmts (sm 20).2.1, scope := (sm 20).2.2, globals := 0, closure := [], defaults := .none, kwdefaults := .none } }
noncomputable def o398 : Params → Obj := fun P => { cls := .type "code", data := .fields #[.str (z "_law_groups") 531, .str (z "_law_groups") 532, .str (z "/claim/cut.py") 533, .int 165 0, .int 2 0, .int 0 0, .int 0 0, .int 3 0, .ref 260, .bool true, .int 181 0, .ref 261, .none, .none, .none, .ref 262, .int 534 0, .int 165 0, .str (z "/claim/cut.py") 535] }
noncomputable def o399 : Params → Obj := fun P => { cls := .type "function", data := .func { name := z "_law_groups", qualname := z "_law_groups", params := (sm 20).1, body := FuncBody.stmts (sm 20).2.1, scope := (sm 20).2.2, globals := 3, closure := [], defaults := .none, kwdefaults := .none, pyModule := .str (z "law_nm0120_01") 521, code := .ref 263 } }
noncomputable def o400 : Params → Obj := fun P => { cls := .type "dict", data := .dict #[{ hash := PyData.keyHash P (z "__name__"), key := .str (z "__name__") 165, val := .str (z "law_nm0120_01") 521 }, { hash := PyData.keyHash P (z "__doc__"), key := .str (z "__doc__") 166, val := .none }, { hash := PyData.keyHash P (z "__package__"), key := .str (z "__package__") 167, val := .none }, { hash := PyData.keyHash P (z "__loader__"), key := .str (z "__loader__") 168, val := .builtin "__main__.__loader__#opaque" }, { hash := PyData.keyHash P (z "__spec__"), key := .str (z "__spec__") 169, val := .none }, { hash := PyData.keyHash P (z "__annotations__"), key := .str (z "__annotations__") 170, val := .ref 6 }, { hash := PyData.keyHash P (z "__builtins__"), key := .str (z "__builtins__") 171, val := .ref 4 }, { hash := PyData.keyHash P (z "__file__"), key := .str (z "__file__") 173, val := .str (z "/claim/cut.py") 172 }, { hash := PyData.keyHash P (z "__cached__"), key := .str (z "__cached__") 174, val := .none }, { hash := PyData.keyHash P (z "_wall"), key := .str (z "_wall") 193, val := .ref 21 }, { hash := PyData.keyHash P (z "WasmFault"), key := .str (z "WasmFault") 224, val := .ref 38 }, { hash := PyData.keyHash P (z "Malformed"), key := .str (z "Malformed") 250, val := .ref 58 }, { hash := PyData.keyHash P (z "Cursor"), key := .str (z "Cursor") 398, val := .ref 176 }, { hash := PyData.keyHash P (z "head_of"), key := .str (z "head_of") 406, val := .ref 187 }, { hash := PyData.keyHash P (z "text_of"), key := .str (z "text_of") 421, val := .ref 195 }, { hash := PyData.keyHash P (z "MAGIC"), key := .str (z "MAGIC") 425, val := .bytes #[0, 97, 115, 109] 424 }, { hash := PyData.keyHash P (z "VERSION"), key := .str (z "VERSION") 427, val := .bytes #[1, 0, 0, 0] 426 }, { hash := PyData.keyHash P (z "PLACES"), key := .str (z "PLACES") 440, val := .ref 196 }, { hash := PyData.keyHash P (z "CUSTOM"), key := .str (z "CUSTOM") 442, val := .int 0 441 }, { hash := PyData.keyHash P (z "LAST_SECTION"), key := .str (z "LAST_SECTION") 444, val := .int 12 443 }, { hash := PyData.keyHash P (z "read_head"), key := .str (z "read_head") 451, val := .ref 203 }, { hash := PyData.keyHash P (z "custom_at"), key := .str (z "custom_at") 459, val := .ref 210 }, { hash := PyData.keyHash P (z "SectionWalk"), key := .str (z "SectionWalk") 507, val := .ref 241 }, { hash := PyData.keyHash P (z "sections_of"), key := .str (z "sections_of") 520, val := .ref 252 }, { hash := PyData.keyHash P (z "_law_digit"), key := .str (z "_law_digit") 530, val := .ref 259 }, { hash := PyData.keyHash P (z "_law_groups"), key := .str (z "_law_groups") 536, val := .ref 264 }, { hash := PyData.keyHash P (z "_law_custom"), key := .str (z "_law_custom") 546, val := .ref 271 }, { hash := PyData.keyHash P (z "_law_section"), key := .str (z "_law_section") 552, val := .ref 276 }, { hash := PyData.keyHash P (z "_law_octets"), key := .str (z "_law_octets") 564, val := .ref 283 }, { hash := PyData.keyHash P (z "_law_number"), key := .str (z "_law_number") 576, val := .ref 290 }, { hash := PyData.keyHash P (z "_law_width"), key := .str (z "_law_width") 583, val := .ref 297 }, { hash := PyData.keyHash P (z "_law_text"), key := .str (z "_law_text") 589, val := .ref 302 }, { hash := PyData.keyHash P (z "_law_named"), key := .str (z "_law_named") 601, val := .ref 309 }, { hash := PyData.keyHash P (z "_law_head"), key := .str (z "_law_head") 610, val := .ref 316 }, { hash := PyData.keyHash P (z "_law_passed"), key := .str (z "_law_passed") 619, val := .ref 323 }, { hash := PyData.keyHash P (z "_law_due"), key := .str (z "_law_due") 633, val := .ref 330 }, { hash := PyData.keyHash P (z "law"), key := .str (z "law") 643, val := .ref 337 }] 37 }
noncomputable def o401 : Params → Obj := fun P => { cls := .none, data := .fields #[.int 1 0, .int 0 0, .ref 20, .int 5 0, .int 0 0, .ref 27, .int 10 0, .int 0 0, .ref 47, .int 16 0, .int 0 0, .ref 66, .int 91 0, .int 0 0, .ref 186, .int 101 0, .int 0 0, .ref 194, .int 122 0, .int 0 0, .ref 202, .int 127 0, .int 0 0, .ref 209, .int 130 0, .int 0 0, .ref 216, .int 152 0, .int 0 0, .ref 251, .int 163 0, .int 0 0, .ref 258, .int 165 0, .int 0 0, .ref 263, .int 167 0, .int 0 0, .ref 270, .int 172 0, .int 0 0, .ref 275, .int 177 0, .int 0 0, .ref 282, .int 187 0, .int 0 0, .ref 289, .int 199 0, .int 0 0, .ref 296, .int 207 0, .int 0 0, .ref 301, .int 221 0, .int 0 0, .ref 308, .int 231 0, .int 0 0, .ref 315, .int 239 0, .int 0 0, .ref 322, .int 245 0, .int 0 0, .ref 329, .int 271 0, .int 0 0, .ref 336] }
noncomputable def o402 : Params → Obj := fun P => { cls := .type "tuple", data := .seq #[] }
noncomputable def o403 : Params → Obj := fun P => { cls := .none, data := .fields #[] }
noncomputable def o404 : Params → Obj := fun P => { cls := .type "tuple", data := .seq #[.str (z "form") 540, .str (z "names") 541, .str (z "name") 542, .str (z "told") 543] }
noncomputable def o405 : Params → Obj := fun P => { cls := .type "tuple", data := .seq #[] }
noncomputable def o406 : Params → Obj := fun P => { cls := .none, data := .func { name := z "_law_custom", qualname := z "_law_custom", params := (sm 21).1, body := FuncBody.stmts (sm 21).2.1, scope := (sm 21).2.2, globals := 0, closure := [], defaults := .none, kwdefaults := .none } }
noncomputable def o407 : Params → Obj := fun P => { cls := .type "code", data := .fields #[.str (z "_law_custom") 537, .str (z "_law_custom") 538, .str (z "/claim/cut.py") 539, .int 167 0, .int 1 0, .int 0 0, .int 0 0, .int 3 0, .ref 265, .bool true, .int 181 0, .ref 266, .none, .ref 267, .ref 268, .ref 269, .int 544 0, .int 167 0, .str (z "/claim/cut.py") 545] }
noncomputable def o408 : Params → Obj := fun P => { cls := .type "function", data := .func { name := z "_law_custom", qualname := z "_law_custom", params := (sm 21).1, body := FuncBody.stmts (sm 21).2.1, scope := (sm 21).2.2, globals := 3, closure := [], defaults := .none, kwdefaults := .none, pyModule := .str (z "law_nm0120_01") 521, code := .ref 270 } }
noncomputable def o409 : Params → Obj := fun P => { cls := .type "tuple", data := .seq #[] }
noncomputable def o410 : Params → Obj := fun P => { cls := .none, data := .fields #[] }
noncomputable def o411 : Params → Obj := fun P => { cls := .none, data := .func { name := z "_law_section", qualname := z "_law_section", params := (sm 22).1, body := FuncBody.stmts (sm 22).2.1, scope := (sm 22).2.2, globals := 0, closure := [], defaults := .none, kwdefaults := .none } }
noncomputable def o412 : Params → Obj := fun P => { cls := .type "code", data := .fields #[.str (z "_law_section") 547, .str (z "_law_section") 548, .str (z "/claim/cut.py") 549, .int 172 0, .int 3 0, .int 0 0, .int 0 0, .int 3 0, .ref 272, .bool true, .int 181 0, .ref 273, .none, .none, .none, .ref 274, .int 550 0, .int 172 0, .str (z "/claim/cut.py") 551] }
noncomputable def o413 : Params → Obj := fun P => { cls := .type "function", data := .func { name := z "_law_section", qualname := z "_law_section", params := (sm 22).1, body := FuncBody.stmts (sm 22).2.1, scope := (sm 22).2.2, globals := 3, closure := [], defaults := .none, kwdefaults := .none, pyModule := .str (z "law_nm0120_01") 521, code := .ref 275 } }
noncomputable def o414 : Params → Obj := fun P => { cls := .type "tuple", data := .seq #[] }
noncomputable def o415 : Params → Obj := fun P => { cls := .none, data := .fields #[] }
noncomputable def o416 : Params → Obj := fun P => { cls := .type "tuple", data := .seq #[.str (z "script") 556, .str (z "head") 557, .str (z "way") 558, .str (z "octets") 559, .str (z "k") 560, .str (z "number") 561] }
noncomputable def o417 : Params → Obj := fun P => { cls := .type "tuple", data := .seq #[] }
noncomputable def o418 : Params → Obj := fun P => { cls := .none, data := .func { name := z "_law_octets", qualname := z "_law_octets", params := (sm 23).1, body := FuncBody.stmts (sm 23).2.1, scope := (sm 23).2.2, globals := 0, closure := [], defaults := .none, kwdefaults := .none } }
noncomputable def o419 : Params → Obj := fun P => { cls := .type "code", data := .fields #[.str (z "_law_octets") 553, .str (z "_law_octets") 554, .str (z "/claim/cut.py") 555, .int 177 0, .int 1 0, .int 0 0, .int 0 0, .int 3 0, .ref 277, .bool true, .int 181 0, .ref 278, .none, .ref 279, .ref 280, .ref 281, .int 562 0, .int 177 0, .str (z "/claim/cut.py") 563] }
noncomputable def o420 : Params → Obj := fun P => { cls := .type "function", data := .func { name := z "_law_octets", qualname := z "_law_octets", params := (sm 23).1, body := FuncBody.stmts (sm 23).2.1, scope := (sm 23).2.2, globals := 3, closure := [], defaults := .none, kwdefaults := .none, pyModule := .str (z "law_nm0120_01") 521, code := .ref 282 } }
noncomputable def o421 : Params → Obj := fun P => { cls := .type "tuple", data := .seq #[] }
noncomputable def o422 : Params → Obj := fun P => { cls := .none, data := .fields #[] }
noncomputable def o423 : Params → Obj := fun P => { cls := .type "tuple", data := .seq #[.str (z "octets") 568, .str (z "at") 569, .str (z "end") 570, .str (z "value") 571, .str (z "many") 572, .str (z "is_more") 573] }
noncomputable def o424 : Params → Obj := fun P => { cls := .type "tuple", data := .seq #[] }
noncomputable def o425 : Params → Obj := fun P => { cls := .none, data := .func { name := z "_law_number", qualname := z "_law_number", params := (sm 24).1, body := FuncBody.stmts (sm 24).2.1, scope := (sm 24).2.2, globals := 0, closure := [], defaults := .none, kwdefaults := .none } }
noncomputable def o426 : Params → Obj := fun P => { cls := .type "code", data := .fields #[.str (z "_law_number") 565, .str (z "_law_number") 566, .str (z "/claim/cut.py") 567, .int 187 0, .int 3 0, .int 0 0, .int 0 0, .int 3 0, .ref 284, .bool true, .int 181 0, .ref 285, .none, .ref 286, .ref 287, .ref 288, .int 574 0, .int 187 0, .str (z "/claim/cut.py") 575] }
noncomputable def o427 : Params → Obj := fun P => { cls := .type "function", data := .func { name := z "_law_number", qualname := z "_law_number", params := (sm 24).1, body := FuncBody.stmts (sm 24).2.1, scope := (sm 24).2.2, globals := 3, closure := [], defaults := .none, kwdefaults := .none, pyModule := .str (z "law_nm0120_01") 521, code := .ref 289 } }
noncomputable def o428 : Params → Obj := fun P => { cls := .type "tuple", data := .seq #[] }
noncomputable def o429 : Params → Obj := fun P => { cls := .none, data := .fields #[] }
noncomputable def o430 : Params → Obj := fun P => { cls := .type "tuple", data := .seq #[.str (z "octet") 580] }
noncomputable def o431 : Params → Obj := fun P => { cls := .type "tuple", data := .seq #[] }
noncomputable def o432 : Params → Obj := fun P => { cls := .none, data := .func { name := z "_law_width", qualname := z "_law_width", params := (sm 25).1, body := FuncBody.stmts (sm 25).2.1, scope := (sm 25).2.2, globals := 0, closure := [], defaults := .none, kwdefaults := .none } }
noncomputable def o433 : Params → Obj := fun P => { cls := .type "code", data := .fields #[.str (z "_law_width") 577, .str (z "_law_width") 578, .str (z "/claim/cut.py") 579, .int 199 0, .int 1 0, .int 0 0, .int 0 0, .int 3 0, .ref 291, .bool true, .int 181 0, .ref 292, .none, .ref 293, .ref 294, .ref 295, .int 581 0, .int 199 0, .str (z "/claim/cut.py") 582] }
noncomputable def o434 : Params → Obj := fun P => { cls := .type "function", data := .func { name := z "_law_width", qualname := z "_law_width", params := (sm 25).1, body := FuncBody.stmts (sm 25).2.1, scope := (sm 25).2.2, globals := 3, closure := [], defaults := .none, kwdefaults := .none, pyModule := .str (z "law_nm0120_01") 521, code := .ref 296 } }
noncomputable def o435 : Params → Obj := fun P => { cls := .type "tuple", data := .seq #[] }
noncomputable def o436 : Params → Obj := fun P => { cls := .none, data := .fields #[] }
noncomputable def o437 : Params → Obj := fun P => { cls := .none, data := .func { name := z "_law_text", qualname := z "_law_text", params := (sm 26).1, body := FuncBody.stmts (sm 26).2.1, scope := (sm 26).2.2, globals := 0, closure := [], defaults := .none, kwdefaults := .none } }
noncomputable def o438 : Params → Obj := fun P => { cls := .type "code", data := .fields #[.str (z "_law_text") 584, .str (z "_law_text") 585, .str (z "/claim/cut.py") 586, .int 207 0, .int 1 0, .int 0 0, .int 0 0, .int 3 0, .ref 298, .bool true, .int 181 0, .ref 299, .none, .none, .none, .ref 300, .int 587 0, .int 207 0, .str (z "/claim/cut.py") 588] }
noncomputable def o439 : Params → Obj := fun P => { cls := .type "function", data := .func { name := z "_law_text", qualname := z "_law_text", params := (sm 26).1, body := FuncBody.stmts (sm 26).2.1, scope := (sm 26).2.2, globals := 3, closure := [], defaults := .none, kwdefaults := .none, pyModule := .str (z "law_nm0120_01") 521, code := .ref 301 } }
noncomputable def o440 : Params → Obj := fun P => { cls := .type "tuple", data := .seq #[] }
noncomputable def o441 : Params → Obj := fun P => { cls := .none, data := .fields #[] }
noncomputable def o442 : Params → Obj := fun P => { cls := .type "tuple", data := .seq #[.str (z "octets") 593, .str (z "at") 594, .str (z "end") 595, .str (z "many") 596, .str (z "why") 597, .str (z "name") 598] }
noncomputable def o443 : Params → Obj := fun P => { cls := .type "tuple", data := .seq #[] }
noncomputable def o444 : Params → Obj := fun P => { cls := .none, data := .func { name := z "_law_named", qualname := z "_law_named", params := (sm 27).1, body := FuncBody.stmts (sm 27).2.1, scope := (sm 27).2.2, globals := 0, closure := [], defaults := .none, kwdefaults := .none } }
noncomputable def o445 : Params → Obj := fun P => { cls := .type "code", data := .fields #[.str (z "_law_named") 590, .str (z "_law_named") 591, .str (z "/claim/cut.py") 592, .int 221 0, .int 3 0, .int 0 0, .int 0 0, .int 3 0, .ref 303, .bool true, .int 181 0, .ref 304, .none, .ref 305, .ref 306, .ref 307, .int 599 0, .int 221 0, .str (z "/claim/cut.py") 600] }
noncomputable def o446 : Params → Obj := fun P => { cls := .type "function", data := .func { name := z "_law_named", qualname := z "_law_named", params := (sm 27).1, body := FuncBody.stmts (sm 27).2.1, scope := (sm 27).2.2, globals := 3, closure := [], defaults := .none, kwdefaults := .none, pyModule := .str (z "law_nm0120_01") 521, code := .ref 308 } }
noncomputable def o447 : Params → Obj := fun P => { cls := .type "tuple", data := .seq #[] }
noncomputable def o448 : Params → Obj := fun P => { cls := .none, data := .fields #[] }
noncomputable def o449 : Params → Obj := fun P => { cls := .type "tuple", data := .seq #[.str (z "octets") 605, .str (z "part") 606, .str (z "why") 607] }
noncomputable def o450 : Params → Obj := fun P => { cls := .type "tuple", data := .seq #[] }
noncomputable def o451 : Params → Obj := fun P => { cls := .none, data := .func { name := z "_law_head", qualname := z "_law_head", params := (sm 28).1, body := FuncBody.stmts (sm 28).2.1, scope := (sm 28).2.2, globals := 0, closure := [], defaults := .none, kwdefaults := .none } }
noncomputable def o452 : Params → Obj := fun P => { cls := .type "code", data := .fields #[.str (z "_law_head") 602, .str (z "_law_head") 603, .str (z "/claim/cut.py") 604, .int 231 0, .int 1 0, .int 0 0, .int 0 0, .int 3 0, .ref 310, .bool true, .int 181 0, .ref 311, .none, .ref 312, .ref 313, .ref 314, .int 608 0, .int 231 0, .str (z "/claim/cut.py") 609] }
noncomputable def o453 : Params → Obj := fun P => { cls := .type "function", data := .func { name := z "_law_head", qualname := z "_law_head", params := (sm 28).1, body := FuncBody.stmts (sm 28).2.1, scope := (sm 28).2.2, globals := 3, closure := [], defaults := .none, kwdefaults := .none, pyModule := .str (z "law_nm0120_01") 521, code := .ref 315 } }
noncomputable def o454 : Params → Obj := fun P => { cls := .type "tuple", data := .seq #[] }
noncomputable def o455 : Params → Obj := fun P => { cls := .none, data := .fields #[] }
noncomputable def o456 : Params → Obj := fun P => { cls := .type "tuple", data := .seq #[.str (z "number") 614, .str (z "row") 615, .str (z "found") 616] }
noncomputable def o457 : Params → Obj := fun P => { cls := .type "tuple", data := .seq #[] }
noncomputable def o458 : Params → Obj := fun P => { cls := .none, data := .func { name := z "_law_passed", qualname := z "_law_passed", params := (sm 29).1, body := FuncBody.stmts (sm 29).2.1, scope := (sm 29).2.2, globals := 0, closure := [], defaults := .none, kwdefaults := .none } }
noncomputable def o459 : Params → Obj := fun P => { cls := .type "code", data := .fields #[.str (z "_law_passed") 611, .str (z "_law_passed") 612, .str (z "/claim/cut.py") 613, .int 239 0, .int 1 0, .int 0 0, .int 0 0, .int 3 0, .ref 317, .bool true, .int 181 0, .ref 318, .none, .ref 319, .ref 320, .ref 321, .int 617 0, .int 239 0, .str (z "/claim/cut.py") 618] }
noncomputable def o460 : Params → Obj := fun P => { cls := .type "function", data := .func { name := z "_law_passed", qualname := z "_law_passed", params := (sm 29).1, body := FuncBody.stmts (sm 29).2.1, scope := (sm 29).2.2, globals := 3, closure := [], defaults := .none, kwdefaults := .none, pyModule := .str (z "law_nm0120_01") 521, code := .ref 322 } }
noncomputable def o461 : Params → Obj := fun P => { cls := .type "tuple", data := .seq #[] }
noncomputable def o462 : Params → Obj := fun P => { cls := .none, data := .fields #[] }
noncomputable def o463 : Params → Obj := fun P => { cls := .type "tuple", data := .seq #[.str (z "octets") 623, .str (z "why") 624, .str (z "at") 625, .str (z "found") 626, .str (z "passed") 627, .str (z "number") 628, .str (z "many") 629, .str (z "told") 630] }
noncomputable def o464 : Params → Obj := fun P => { cls := .type "tuple", data := .seq #[] }
noncomputable def o465 : Params → Obj := fun P => { cls := .none, data := .func { name := z "_law_due", qualname := z "_law_due", params := (sm 30).1, body := FuncBody.stmts (sm 30).2.1, scope := (sm 30).2.2, globals := 0, closure := [], defaults := .none, kwdefaults := .none } }
noncomputable def o466 : Params → Obj := fun P => { cls := .type "code", data := .fields #[.str (z "_law_due") 620, .str (z "_law_due") 621, .str (z "/claim/cut.py") 622, .int 245 0, .int 1 0, .int 0 0, .int 0 0, .int 3 0, .ref 324, .bool true, .int 181 0, .ref 325, .none, .ref 326, .ref 327, .ref 328, .int 631 0, .int 245 0, .str (z "/claim/cut.py") 632] }
noncomputable def o467 : Params → Obj := fun P => { cls := .type "function", data := .func { name := z "_law_due", qualname := z "_law_due", params := (sm 30).1, body := FuncBody.stmts (sm 30).2.1, scope := (sm 30).2.2, globals := 3, closure := [], defaults := .none, kwdefaults := .none, pyModule := .str (z "law_nm0120_01") 521, code := .ref 329 } }
noncomputable def o468 : Params → Obj := fun P => { cls := .type "tuple", data := .seq #[] }
noncomputable def o469 : Params → Obj := fun P => { cls := .none, data := .fields #[] }
noncomputable def o470 : Params → Obj := fun P => { cls := .type "tuple", data := .seq #[.str (z "script") 637, .str (z "octets") 638, .str (z "told") 639, .str (z "fault") 640] }
noncomputable def o471 : Params → Obj := fun P => { cls := .type "tuple", data := .seq #[] }
noncomputable def o472 : Params → Obj := fun P => { cls := .none, data := .func { name := z "law", qualname := z "law", params := (sm 31).1, body := FuncBody.stmts (sm 31).2.1, scope := (sm 31).2.2, globals := 0, closure := [], defaults := .none, kwdefaults := .none } }
noncomputable def o473 : Params → Obj := fun P => { cls := .type "code", data := .fields #[.str (z "law") 634, .str (z "law") 635, .str (z "/claim/cut.py") 636, .int 271 0, .int 1 0, .int 0 0, .int 0 0, .int 3 0, .ref 331, .bool true, .int 181 0, .ref 332, .none, .ref 333, .ref 334, .ref 335, .int 641 0, .int 271 0, .str (z "/claim/cut.py") 642] }
noncomputable def o474 : Params → Obj := fun P => { cls := .type "function", data := .func { name := z "law", qualname := z "law", params := (sm 31).1, body := FuncBody.stmts (sm 31).2.1, scope := (sm 31).2.2, globals := 3, closure := [], defaults := .none, kwdefaults := .none, pyModule := .str (z "law_nm0120_01") 521, code := .ref 336 } }
noncomputable def env41 : Env := { scope := Module.scope (Program.main (OpenRow.toRowW (OpenLaw.row Challenge.rw_nm0120_01)).1), locals := mainNs, globals := mainNs, cells := [], code := .ref 13, frame := some 14 }
noncomputable def heap46 : Params → Heap := fun P => { objs := { toList := [boot_o_0 P, boot_o_1 P, boot_o_2 P, boot_o_3 P, boot_o_4 P, boot_o_5 P, boot_o_6 P, boot_o_7 P, boot_o_8 P, boot_o_9 P, boot_o_10 P, o43 P, o44 P, o45 P, o46 P] } }
noncomputable def tree47 : Params → BT := fun P => BT.node (boot_o_0 P) (BT.node (boot_o_1 P) (BT.node (boot_o_3 P) (BT.node (boot_o_7 P) BT.nil BT.nil) (BT.node (o43 P) BT.nil BT.nil)) (BT.node (boot_o_5 P) (BT.node (boot_o_9 P) BT.nil BT.nil) (BT.node (o45 P) BT.nil BT.nil))) (BT.node (boot_o_2 P) (BT.node (boot_o_4 P) (BT.node (boot_o_8 P) BT.nil BT.nil) (BT.node (o44 P) BT.nil BT.nil)) (BT.node (boot_o_6 P) (BT.node (boot_o_10 P) BT.nil BT.nil) (BT.node (o46 P) BT.nil BT.nil)))
noncomputable def tree474 : Params → BT := fun P => BT.node (boot_o_0 P) (BT.node (boot_o_1 P) (BT.node (o400 P) (BT.node (boot_o_7 P) (BT.node (o52 P) (BT.node (o68 P) (BT.node (o105 P) (BT.node (o169 P) (BT.node (o390 P) BT.nil BT.nil) BT.nil) (BT.node (o324 P) (BT.node (o456 P) BT.nil BT.nil) BT.nil)) (BT.node (o137 P) (BT.node (o201 P) (BT.node (o424 P) BT.nil BT.nil) BT.nil) (BT.node (o358 P) BT.nil BT.nil))) (BT.node (o87 P) (BT.node (o121 P) (BT.node (o185 P) (BT.node (o408 P) BT.nil BT.nil) BT.nil) (BT.node (o340 P) (BT.node (o472 P) BT.nil BT.nil) BT.nil)) (BT.node (o153 P) (BT.node (o217 P) (BT.node (o440 P) BT.nil BT.nil) BT.nil) (BT.node (o374 P) BT.nil BT.nil)))) (BT.node (o60 P) (BT.node (o76 P) (BT.node (o113 P) (BT.node (o177 P) (BT.node (o398 P) BT.nil BT.nil) BT.nil) (BT.node (o332 P) (BT.node (o464 P) BT.nil BT.nil) BT.nil)) (BT.node (o145 P) (BT.node (o209 P) (BT.node (o432 P) BT.nil BT.nil) BT.nil) (BT.node (o366 P) BT.nil BT.nil))) (BT.node (o95 P) (BT.node (o129 P) (BT.node (o193 P) (BT.node (o416 P) BT.nil BT.nil) BT.nil) (BT.node (o350 P) BT.nil BT.nil)) (BT.node (o161 P) (BT.node (o316 P) (BT.node (o448 P) BT.nil BT.nil) BT.nil) (BT.node (o382 P) BT.nil BT.nil))))) (BT.node (o43 P) (BT.node (o56 P) (BT.node (o72 P) (BT.node (o109 P) (BT.node (o173 P) (BT.node (o394 P) BT.nil BT.nil) BT.nil) (BT.node (o328 P) (BT.node (o460 P) BT.nil BT.nil) BT.nil)) (BT.node (o141 P) (BT.node (o205 P) (BT.node (o428 P) BT.nil BT.nil) BT.nil) (BT.node (o362 P) BT.nil BT.nil))) (BT.node (o91 P) (BT.node (o125 P) (BT.node (o189 P) (BT.node (o412 P) BT.nil BT.nil) BT.nil) (BT.node (o346 P) BT.nil BT.nil)) (BT.node (o157 P) (BT.node (o221 P) (BT.node (o444 P) BT.nil BT.nil) BT.nil) (BT.node (o378 P) BT.nil BT.nil)))) (BT.node (o64 P) (BT.node (o83 P) (BT.node (o117 P) (BT.node (o181 P) (BT.node (o404 P) BT.nil BT.nil) BT.nil) (BT.node (o336 P) (BT.node (o468 P) BT.nil BT.nil) BT.nil)) (BT.node (o149 P) (BT.node (o213 P) (BT.node (o436 P) BT.nil BT.nil) BT.nil) (BT.node (o370 P) BT.nil BT.nil))) (BT.node (o99 P) (BT.node (o133 P) (BT.node (o197 P) (BT.node (o420 P) BT.nil BT.nil) BT.nil) (BT.node (o354 P) BT.nil BT.nil)) (BT.node (o165 P) (BT.node (o320 P) (BT.node (o452 P) BT.nil BT.nil) BT.nil) (BT.node (o386 P) BT.nil BT.nil)))))) (BT.node (boot_o_5 P) (BT.node (boot_o_9 P) (BT.node (o54 P) (BT.node (o70 P) (BT.node (o107 P) (BT.node (o171 P) (BT.node (o392 P) BT.nil BT.nil) BT.nil) (BT.node (o326 P) (BT.node (o458 P) BT.nil BT.nil) BT.nil)) (BT.node (o139 P) (BT.node (o203 P) (BT.node (o426 P) BT.nil BT.nil) BT.nil) (BT.node (o360 P) BT.nil BT.nil))) (BT.node (o89 P) (BT.node (o123 P) (BT.node (o187 P) (BT.node (o410 P) BT.nil BT.nil) BT.nil) (BT.node (o342 P) (BT.node (o474 P) BT.nil BT.nil) BT.nil)) (BT.node (o155 P) (BT.node (o219 P) (BT.node (o442 P) BT.nil BT.nil) BT.nil) (BT.node (o376 P) BT.nil BT.nil)))) (BT.node (o62 P) (BT.node (o78 P) (BT.node (o115 P) (BT.node (o179 P) (BT.node (o402 P) BT.nil BT.nil) BT.nil) (BT.node (o334 P) (BT.node (o466 P) BT.nil BT.nil) BT.nil)) (BT.node (o147 P) (BT.node (o211 P) (BT.node (o434 P) BT.nil BT.nil) BT.nil) (BT.node (o368 P) BT.nil BT.nil))) (BT.node (o97 P) (BT.node (o131 P) (BT.node (o195 P) (BT.node (o418 P) BT.nil BT.nil) BT.nil) (BT.node (o352 P) BT.nil BT.nil)) (BT.node (o163 P) (BT.node (o318 P) (BT.node (o450 P) BT.nil BT.nil) BT.nil) (BT.node (o384 P) BT.nil BT.nil))))) (BT.node (o45 P) (BT.node (o58 P) (BT.node (o74 P) (BT.node (o111 P) (BT.node (o175 P) (BT.node (o396 P) BT.nil BT.nil) BT.nil) (BT.node (o330 P) (BT.node (o462 P) BT.nil BT.nil) BT.nil)) (BT.node (o143 P) (BT.node (o207 P) (BT.node (o430 P) BT.nil BT.nil) BT.nil) (BT.node (o364 P) BT.nil BT.nil))) (BT.node (o93 P) (BT.node (o127 P) (BT.node (o191 P) (BT.node (o414 P) BT.nil BT.nil) BT.nil) (BT.node (o348 P) BT.nil BT.nil)) (BT.node (o159 P) (BT.node (o314 P) (BT.node (o446 P) BT.nil BT.nil) BT.nil) (BT.node (o380 P) BT.nil BT.nil)))) (BT.node (o66 P) (BT.node (o85 P) (BT.node (o119 P) (BT.node (o183 P) (BT.node (o406 P) BT.nil BT.nil) BT.nil) (BT.node (o338 P) (BT.node (o470 P) BT.nil BT.nil) BT.nil)) (BT.node (o151 P) (BT.node (o215 P) (BT.node (o438 P) BT.nil BT.nil) BT.nil) (BT.node (o372 P) BT.nil BT.nil))) (BT.node (o103 P) (BT.node (o135 P) (BT.node (o199 P) (BT.node (o422 P) BT.nil BT.nil) BT.nil) (BT.node (o356 P) BT.nil BT.nil)) (BT.node (o167 P) (BT.node (o322 P) (BT.node (o454 P) BT.nil BT.nil) BT.nil) (BT.node (o388 P) BT.nil BT.nil))))))) (BT.node (o49 P) (BT.node (boot_o_4 P) (BT.node (boot_o_8 P) (BT.node (o53 P) (BT.node (o69 P) (BT.node (o106 P) (BT.node (o170 P) (BT.node (o391 P) BT.nil BT.nil) BT.nil) (BT.node (o325 P) (BT.node (o457 P) BT.nil BT.nil) BT.nil)) (BT.node (o138 P) (BT.node (o202 P) (BT.node (o425 P) BT.nil BT.nil) BT.nil) (BT.node (o359 P) BT.nil BT.nil))) (BT.node (o88 P) (BT.node (o122 P) (BT.node (o186 P) (BT.node (o409 P) BT.nil BT.nil) BT.nil) (BT.node (o341 P) (BT.node (o473 P) BT.nil BT.nil) BT.nil)) (BT.node (o154 P) (BT.node (o218 P) (BT.node (o441 P) BT.nil BT.nil) BT.nil) (BT.node (o375 P) BT.nil BT.nil)))) (BT.node (o61 P) (BT.node (o77 P) (BT.node (o114 P) (BT.node (o178 P) (BT.node (o399 P) BT.nil BT.nil) BT.nil) (BT.node (o333 P) (BT.node (o465 P) BT.nil BT.nil) BT.nil)) (BT.node (o146 P) (BT.node (o210 P) (BT.node (o433 P) BT.nil BT.nil) BT.nil) (BT.node (o367 P) BT.nil BT.nil))) (BT.node (o96 P) (BT.node (o130 P) (BT.node (o194 P) (BT.node (o417 P) BT.nil BT.nil) BT.nil) (BT.node (o351 P) BT.nil BT.nil)) (BT.node (o162 P) (BT.node (o317 P) (BT.node (o449 P) BT.nil BT.nil) BT.nil) (BT.node (o383 P) BT.nil BT.nil))))) (BT.node (o401 P) (BT.node (o57 P) (BT.node (o73 P) (BT.node (o110 P) (BT.node (o174 P) (BT.node (o395 P) BT.nil BT.nil) BT.nil) (BT.node (o329 P) (BT.node (o461 P) BT.nil BT.nil) BT.nil)) (BT.node (o142 P) (BT.node (o206 P) (BT.node (o429 P) BT.nil BT.nil) BT.nil) (BT.node (o363 P) BT.nil BT.nil))) (BT.node (o92 P) (BT.node (o126 P) (BT.node (o190 P) (BT.node (o413 P) BT.nil BT.nil) BT.nil) (BT.node (o347 P) BT.nil BT.nil)) (BT.node (o158 P) (BT.node (o222 P) (BT.node (o445 P) BT.nil BT.nil) BT.nil) (BT.node (o379 P) BT.nil BT.nil)))) (BT.node (o65 P) (BT.node (o84 P) (BT.node (o118 P) (BT.node (o182 P) (BT.node (o405 P) BT.nil BT.nil) BT.nil) (BT.node (o337 P) (BT.node (o469 P) BT.nil BT.nil) BT.nil)) (BT.node (o150 P) (BT.node (o214 P) (BT.node (o437 P) BT.nil BT.nil) BT.nil) (BT.node (o371 P) BT.nil BT.nil))) (BT.node (o100 P) (BT.node (o134 P) (BT.node (o198 P) (BT.node (o421 P) BT.nil BT.nil) BT.nil) (BT.node (o355 P) BT.nil BT.nil)) (BT.node (o166 P) (BT.node (o321 P) (BT.node (o453 P) BT.nil BT.nil) BT.nil) (BT.node (o387 P) BT.nil BT.nil)))))) (BT.node (boot_o_6 P) (BT.node (boot_o_10 P) (BT.node (o55 P) (BT.node (o71 P) (BT.node (o108 P) (BT.node (o172 P) (BT.node (o393 P) BT.nil BT.nil) BT.nil) (BT.node (o327 P) (BT.node (o459 P) BT.nil BT.nil) BT.nil)) (BT.node (o140 P) (BT.node (o204 P) (BT.node (o427 P) BT.nil BT.nil) BT.nil) (BT.node (o361 P) BT.nil BT.nil))) (BT.node (o90 P) (BT.node (o124 P) (BT.node (o188 P) (BT.node (o411 P) BT.nil BT.nil) BT.nil) (BT.node (o343 P) BT.nil BT.nil)) (BT.node (o156 P) (BT.node (o220 P) (BT.node (o443 P) BT.nil BT.nil) BT.nil) (BT.node (o377 P) BT.nil BT.nil)))) (BT.node (o63 P) (BT.node (o82 P) (BT.node (o116 P) (BT.node (o180 P) (BT.node (o403 P) BT.nil BT.nil) BT.nil) (BT.node (o335 P) (BT.node (o467 P) BT.nil BT.nil) BT.nil)) (BT.node (o148 P) (BT.node (o212 P) (BT.node (o435 P) BT.nil BT.nil) BT.nil) (BT.node (o369 P) BT.nil BT.nil))) (BT.node (o98 P) (BT.node (o132 P) (BT.node (o196 P) (BT.node (o419 P) BT.nil BT.nil) BT.nil) (BT.node (o353 P) BT.nil BT.nil)) (BT.node (o164 P) (BT.node (o319 P) (BT.node (o451 P) BT.nil BT.nil) BT.nil) (BT.node (o385 P) BT.nil BT.nil))))) (BT.node (o46 P) (BT.node (o59 P) (BT.node (o81 P) (BT.node (o112 P) (BT.node (o176 P) (BT.node (o397 P) BT.nil BT.nil) BT.nil) (BT.node (o331 P) (BT.node (o463 P) BT.nil BT.nil) BT.nil)) (BT.node (o144 P) (BT.node (o208 P) (BT.node (o431 P) BT.nil BT.nil) BT.nil) (BT.node (o365 P) BT.nil BT.nil))) (BT.node (o94 P) (BT.node (o128 P) (BT.node (o192 P) (BT.node (o415 P) BT.nil BT.nil) BT.nil) (BT.node (o349 P) BT.nil BT.nil)) (BT.node (o160 P) (BT.node (o315 P) (BT.node (o447 P) BT.nil BT.nil) BT.nil) (BT.node (o381 P) BT.nil BT.nil)))) (BT.node (o67 P) (BT.node (o86 P) (BT.node (o120 P) (BT.node (o184 P) (BT.node (o407 P) BT.nil BT.nil) BT.nil) (BT.node (o339 P) (BT.node (o471 P) BT.nil BT.nil) BT.nil)) (BT.node (o152 P) (BT.node (o216 P) (BT.node (o439 P) BT.nil BT.nil) BT.nil) (BT.node (o373 P) BT.nil BT.nil))) (BT.node (o104 P) (BT.node (o136 P) (BT.node (o200 P) (BT.node (o423 P) BT.nil BT.nil) BT.nil) (BT.node (o357 P) BT.nil BT.nil)) (BT.node (o168 P) (BT.node (o323 P) (BT.node (o455 P) BT.nil BT.nil) BT.nil) (BT.node (o389 P) BT.nil BT.nil)))))))
noncomputable def heap475 : Params → Heap := fun P => { objs := { toList := [boot_o_0 P, boot_o_1 P, o49 P, o400 P, boot_o_4 P, boot_o_5 P, boot_o_6 P, boot_o_7 P, boot_o_8 P, boot_o_9 P, boot_o_10 P, o43 P, o401 P, o45 P, o46 P, o52 P, o53 P, o54 P, o55 P, o56 P, o57 P, o58 P, o59 P, o60 P, o61 P, o62 P, o63 P, o64 P, o65 P, o66 P, o67 P, o68 P, o69 P, o70 P, o71 P, o72 P, o73 P, o74 P, o81 P, o76 P, o77 P, o78 P, o82 P, o83 P, o84 P, o85 P, o86 P, o87 P, o88 P, o89 P, o90 P, o91 P, o92 P, o93 P, o94 P, o95 P, o96 P, o97 P, o98 P, o99 P, o100 P, o103 P, o104 P, o105 P, o106 P, o107 P, o108 P, o109 P, o110 P, o111 P, o112 P, o113 P, o114 P, o115 P, o116 P, o117 P, o118 P, o119 P, o120 P, o121 P, o122 P, o123 P, o124 P, o125 P, o126 P, o127 P, o128 P, o129 P, o130 P, o131 P, o132 P, o133 P, o134 P, o135 P, o136 P, o137 P, o138 P, o139 P, o140 P, o141 P, o142 P, o143 P, o144 P, o145 P, o146 P, o147 P, o148 P, o149 P, o150 P, o151 P, o152 P, o153 P, o154 P, o155 P, o156 P, o157 P, o158 P, o159 P, o160 P, o161 P, o162 P, o163 P, o164 P, o165 P, o166 P, o167 P, o168 P, o169 P, o170 P, o171 P, o172 P, o173 P, o174 P, o175 P, o176 P, o177 P, o178 P, o179 P, o180 P, o181 P, o182 P, o183 P, o184 P, o185 P, o186 P, o187 P, o188 P, o189 P, o190 P, o191 P, o192 P, o193 P, o194 P, o195 P, o196 P, o197 P, o198 P, o199 P, o200 P, o201 P, o202 P, o203 P, o204 P, o205 P, o206 P, o207 P, o208 P, o209 P, o210 P, o211 P, o212 P, o213 P, o214 P, o215 P, o216 P, o217 P, o218 P, o219 P, o220 P, o221 P, o222 P, o314 P, o315 P, o316 P, o317 P, o318 P, o319 P, o320 P, o321 P, o322 P, o323 P, o324 P, o325 P, o326 P, o327 P, o328 P, o329 P, o330 P, o331 P, o332 P, o333 P, o334 P, o335 P, o336 P, o337 P, o338 P, o339 P, o340 P, o341 P, o342 P, o343 P, o346 P, o347 P, o348 P, o349 P, o350 P, o351 P, o352 P, o353 P, o354 P, o355 P, o356 P, o357 P, o358 P, o359 P, o360 P, o361 P, o362 P, o363 P, o364 P, o365 P, o366 P, o367 P, o368 P, o369 P, o370 P, o371 P, o372 P, o373 P, o374 P, o375 P, o376 P, o377 P, o378 P, o379 P, o380 P, o381 P, o382 P, o383 P, o384 P, o385 P, o386 P, o387 P, o388 P, o389 P, o390 P, o391 P, o392 P, o393 P, o394 P, o395 P, o396 P, o397 P, o398 P, o399 P, o402 P, o403 P, o404 P, o405 P, o406 P, o407 P, o408 P, o409 P, o410 P, o411 P, o412 P, o413 P, o414 P, o415 P, o416 P, o417 P, o418 P, o419 P, o420 P, o421 P, o422 P, o423 P, o424 P, o425 P, o426 P, o427 P, o428 P, o429 P, o430 P, o431 P, o432 P, o433 P, o434 P, o435 P, o436 P, o437 P, o438 P, o439 P, o440 P, o441 P, o442 P, o443 P, o444 P, o445 P, o446 P, o447 P, o448 P, o449 P, o450 P, o451 P, o452 P, o453 P, o454 P, o455 P, o456 P, o457 P, o458 P, o459 P, o460 P, o461 P, o462 P, o463 P, o464 P, o465 P, o466 P, o467 P, o468 P, o469 P, o470 P, o471 P, o472 P, o473 P, o474 P] } }
noncomputable def KF0 (P : Params) : Frag := [(2, o49 P), (3, o400 P), (15, o52 P), (17, o54 P), (18, o55 P), (20, o57 P), (21, o58 P), (22, o59 P), (29, o66 P), (31, o68 P), (32, o69 P), (34, o71 P), (35, o72 P), (36, o73 P), (37, o74 P), (38, o81 P), (39, o76 P), (42, o82 P), (49, o89 P), (51, o91 P), (52, o92 P), (54, o94 P), (55, o95 P), (56, o96 P), (57, o97 P), (58, o98 P), (68, o110 P), (69, o111 P), (71, o113 P), (72, o114 P), (74, o116 P), (75, o117 P), (76, o118 P), (78, o120 P), (79, o121 P), (81, o123 P), (82, o124 P), (83, o125 P), (85, o127 P), (86, o128 P), (88, o130 P), (89, o131 P), (90, o132 P), (92, o134 P), (93, o135 P), (95, o137 P), (96, o138 P), (97, o139 P), (99, o141 P), (100, o142 P), (102, o144 P), (103, o145 P), (104, o146 P), (106, o148 P), (107, o149 P), (109, o151 P), (110, o152 P), (111, o153 P), (113, o155 P), (114, o156 P), (116, o158 P), (117, o159 P), (118, o160 P), (120, o162 P), (121, o163 P), (123, o165 P), (124, o166 P), (125, o167 P), (127, o169 P), (128, o170 P), (130, o172 P), (131, o173 P), (132, o174 P), (134, o176 P), (135, o177 P), (137, o179 P), (138, o180 P), (139, o181 P), (141, o183 P), (142, o184 P), (144, o186 P), (145, o187 P), (146, o188 P), (148, o190 P), (149, o191 P), (151, o193 P), (152, o194 P), (153, o195 P), (155, o197 P), (156, o198 P), (158, o200 P), (159, o201 P), (160, o202 P), (162, o204 P), (163, o205 P), (165, o207 P), (166, o208 P), (167, o209 P), (169, o211 P), (170, o212 P), (172, o214 P), (173, o215 P), (174, o216 P), (175, o217 P), (176, o218 P), (177, o219 P), (178, o220 P), (181, o314 P), (183, o316 P), (184, o317 P), (186, o319 P), (187, o320 P), (188, o321 P), (189, o322 P), (191, o324 P), (192, o325 P), (194, o327 P), (195, o328 P), (196, o329 P), (197, o330 P), (199, o332 P), (200, o333 P), (202, o335 P), (203, o336 P), (204, o337 P), (206, o339 P), (207, o340 P), (209, o342 P), (210, o343 P), (218, o353 P), (220, o355 P), (221, o356 P), (223, o358 P), (224, o359 P), (225, o360 P), (227, o362 P), (228, o363 P), (230, o365 P), (231, o366 P), (232, o367 P), (234, o369 P), (235, o370 P), (237, o372 P), (238, o373 P), (239, o374 P), (240, o375 P), (241, o376 P), (242, o377 P), (243, o378 P), (246, o381 P), (248, o383 P), (249, o384 P), (251, o386 P), (252, o387 P), (253, o388 P), (255, o390 P), (256, o391 P), (258, o393 P), (259, o394 P), (260, o395 P), (263, o398 P), (264, o399 P), (265, o402 P), (267, o404 P), (268, o405 P), (270, o407 P), (271, o408 P), (272, o409 P), (275, o412 P), (276, o413 P), (277, o414 P), (279, o416 P), (280, o417 P), (282, o419 P), (283, o420 P), (284, o421 P), (286, o423 P), (287, o424 P), (289, o426 P), (290, o427 P), (291, o428 P), (293, o430 P), (294, o431 P), (296, o433 P), (297, o434 P), (298, o435 P), (301, o438 P), (302, o439 P), (303, o440 P), (305, o442 P), (306, o443 P), (308, o445 P), (309, o446 P), (310, o447 P), (312, o449 P), (313, o450 P), (315, o452 P), (316, o453 P), (317, o454 P), (319, o456 P), (320, o457 P), (322, o459 P), (323, o460 P), (324, o461 P), (326, o463 P), (327, o464 P), (329, o466 P), (330, o467 P), (331, o468 P), (333, o470 P), (334, o471 P), (336, o473 P), (337, o474 P)]
noncomputable def vw : Program := { PG with main := { PG.main with body := [sa 0, sa 2, sa 3, sa 5, sa 6, sa 9, sa 10, sa 11, sa 12, sa 13, sa 14, sa 15, sa 16, sa 17, sa 19, sa 20, sa 21, sa 22, sa 23, sa 24, sa 25, sa 26, sa 27, sa 28, sa 29, sa 30, sa 31] } }
noncomputable abbrev cE : Code := .body (behindTheImports PG) env41
noncomputable abbrev q0 : Pos := ⟨0, 0, 0, 0⟩
noncomputable abbrev KAS : List Addr := [2, 3, 15, 17, 18, 20, 21, 22, 29, 31, 32, 34, 35, 36, 37, 38, 39, 42, 49, 51, 52, 54, 55, 56, 57, 58, 68, 69, 71, 72, 74, 75, 76, 78, 79, 81, 82, 83, 85, 86, 88, 89, 90, 92, 93, 95, 96, 97, 99, 100, 102, 103, 104, 106, 107, 109, 110, 111, 113, 114, 116, 117, 118, 120, 121, 123, 124, 125, 127, 128, 130, 131, 132, 134, 135, 137, 138, 139, 141, 142, 144, 145, 146, 148, 149, 151, 152, 153, 155, 156, 158, 159, 160, 162, 163, 165, 166, 167, 169, 170, 172, 173, 174, 175, 176, 177, 178, 181, 183, 184, 186, 187, 188, 189, 191, 192, 194, 195, 196, 197, 199, 200, 202, 203, 204, 206, 207, 209, 210, 218, 220, 221, 223, 224, 225, 227, 228, 230, 231, 232, 234, 235, 237, 238, 239, 240, 241, 242, 243, 246, 248, 249, 251, 252, 253, 255, 256, 258, 259, 260, 263, 264, 265, 267, 268, 270, 271, 272, 275, 276, 277, 279, 280, 282, 283, 284, 286, 287, 289, 290, 291, 293, 294, 296, 297, 298, 301, 302, 303, 305, 306, 308, 309, 310, 312, 313, 315, 316, 317, 319, 320, 322, 323, 324, 326, 327, 329, 330, 331, 333, 334, 336, 337]
noncomputable abbrev HK : Hook := kHook KF0 KAS (fun _ => by kernel_rfl)
theorem pc0 (w : World) (os : OsState) : topGo treeTable PG w 11 (some (.ref 6)) 12 ⟨boot_heap w.params, #[], boot_drawn, boot_toks, os⟩ (topStub PG) = some (⟨heap46 w.params, #[], {}, 187, os⟩, ⟨denote treeTable cE, cE, q0, [topFrame q0]⟩) := by kernel_rfl
theorem pcB (w : World) (os : OsState) : segRun treeTable PG w 11 (some (.ref 6)) 1 1 ⟨heap46 w.params, #[], {}, 187, os⟩ (blockOf (behindTheImports PG) env41 cE q0 [topFrame q0]) = some (.next, (⟨tree47 w.params, 15, {}, #[], {}, 187, os⟩ : SharedT).abs, cE, q0) := by kernel_rfl
theorem pcW (w : World) (os : OsState) : segRunT treeTable PG w 11 (some (.ref 6)) 1 2126 ⟨tree47 w.params, 15, {}, #[], {}, 187, os⟩ (piecesOf (behindTheImports PG) env41 cE q0 [topFrame q0]) = some (.next, ⟨tree474 w.params, 338, {}, #[], {}, 644, os⟩, cE, ⟨271, 0, 277, 35⟩) := by kernel_rfl
theorem pcF (w : World) (os : OsState) : topRun treeTable PG w 11 (some (.ref 6)) 2 (⟨tree474 w.params, 338, {}, #[], {}, 644, os⟩ : SharedT).abs ⟨doneF .next, cE, ⟨271, 0, 277, 35⟩, [topFrame q0]⟩ = some ⟨heap475 w.params, #[], {}, 644, os⟩ := by kernel_rfl
theorem run (w : World) (os : OsState) : topRun treeTable PG w 11 (some (.ref 6)) (12 + (1 + (2126 + 2))) ⟨boot_heap w.params, #[], boot_drawn, boot_toks, os⟩ (topStub PG) = some ⟨heap475 w.params, #[], {}, 644, os⟩ := by
  refine go_top (pc0 w os) (piece_block (pcB w os) ?_)
  have := piece_app (rest := []) (segRun_of (pcW w os)) (pcF w os)
  rw [List.append_nil] at this
  exact this
theorem sizeH (w : World) : ((boot_heap w.params).isNs mainGlobals && (#[] : Array GenState).size == 0, (boot_heap w.params).objs.size, (boot_heap w.params).nsMap mainGlobals "__annotations__") = (true, 11, some (.ref 6)) := by kernel_rfl
theorem openH : ∀ w : World, (fencedOpening treeTable PG w 4376).map (fun s => (s.heap, s.gens, s.drawn, s.toks)) = some (boot_heap w.params, Array.mk [], boot_drawn, boot_toks) := boot_open (by kernel_rfl) (by decide) (fun s => by kernel_rfl)
theorem looksH (w : World) : (fun os => ((staticsOk (importedModules PG.main.body) (boot_heap w.params) (heap475 w.params) && namesBound PG (heap475 w.params) && gensDone ⟨heap475 w.params, #[], {}, 644, os⟩ && laidKept (boot_heap w.params) (heap475 w.params)),
        openSeen vw [Str.ofString "text_of"] (importedModules PG.main.body) (fun s => xlAt vw [] s && recOk PySem.Challenge.rw_nm0120_01.row.records s) true ⟨heap475 w.params, #[], {}, 644, os⟩, HK.obs ⟨heap475 w.params, #[], {}, 644, os⟩)) = fun _ => (true, openGood vw [Str.ofString "text_of"], HK.val w) := by kernel_rfl
theorem wok : PySem.Challenge.rw_nm0120_01.wellSaid = true := by kernel_rfl
end Mine
end

section
open PySem PySem.W PyProof.Rows PySem.Calls
set_option maxRecDepth 100000
set_option maxHeartbeats 4000000
namespace Mine
noncomputable abbrev KK (P : PySem.Params) := KF0 P
variable (P : PySem.Params)
theorem fk_d82 : okD (KK P) 82 p82 w82 = true := by kernel_rfl
theorem fk_d89 : okD (KK P) 89 p89 w89 = true := by kernel_rfl
theorem fk_d96 : okD (KK P) 96 p96 w96 = true := by kernel_rfl
theorem fk_d103 : okD (KK P) 103 p103 w103 = true := by kernel_rfl
theorem fk_d110 : okD (KK P) 110 p110 w110 = true := by kernel_rfl
theorem fk_d117 : okD (KK P) 117 p117 w117 = true := by kernel_rfl
theorem fk_d124 : okD (KK P) 124 p124 w124 = true := by kernel_rfl
theorem fk_d138 : okD (KK P) 138 p138 w138 = true := by kernel_rfl
theorem fk_d173 : okD (KK P) 173 p173 w173 = true := by kernel_rfl
theorem fk_d187 : okD (KK P) 187 p187 w187 = true := by kernel_rfl
theorem fk_d203 : okD (KK P) 203 p203 w203 = true := by kernel_rfl
theorem fk_d210 : okD (KK P) 210 p210 w210 = true := by kernel_rfl
theorem fk_d224 : okD (KK P) 224 p224 w224 = true := by kernel_rfl
theorem fk_d231 : okD (KK P) 231 p231 w231 = true := by kernel_rfl
theorem fk_d238 : okD (KK P) 238 p238 w238 = true := by kernel_rfl
theorem fk_d252 : okD (KK P) 252 p252 w252 = true := by kernel_rfl
theorem fk_d259 : okD (KK P) 259 p259 w259 = true := by kernel_rfl
theorem fk_d264 : okD (KK P) 264 p264 w264 = true := by kernel_rfl
theorem fk_d271 : okD (KK P) 271 p271 w271 = true := by kernel_rfl
theorem fk_d276 : okD (KK P) 276 p276 w276 = true := by kernel_rfl
theorem fk_d283 : okD (KK P) 283 p283 w283 = true := by kernel_rfl
theorem fk_d290 : okD (KK P) 290 p290 w290 = true := by kernel_rfl
theorem fk_d297 : okD (KK P) 297 p297 w297 = true := by kernel_rfl
theorem fk_d302 : okD (KK P) 302 p302 w302 = true := by kernel_rfl
theorem fk_d309 : okD (KK P) 309 p309 w309 = true := by kernel_rfl
theorem fk_d316 : okD (KK P) 316 p316 w316 = true := by kernel_rfl
theorem fk_d323 : okD (KK P) 323 p323 w323 = true := by kernel_rfl
theorem fk_d330 : okD (KK P) 330 p330 w330 = true := by kernel_rfl
theorem fk_d75 : ok75 (KK P) = true := by kernel_rfl
theorem fk_d195 : ok195 (KK P) = true := by kernel_rfl
theorem fk_m176 : makesIn (KK P) 176 = true := by kernel_rfl
theorem fk_m241 : makesIn (KK P) 241 = true := by kernel_rfl
theorem fk_i176 : findIn (KK P) (.ref 176) "__init__" = some (some (.ref 75)) := by kernel_rfl
theorem fk_i241 : findIn (KK P) (.ref 241) "__init__" = some (some (.ref 224)) := by kernel_rfl
theorem fk_t75 : typeIn (KK P) (.ref 75) = some (.type "function") := by kernel_rfl
theorem fk_t224 : typeIn (KK P) (.ref 224) = some (.type "function") := by kernel_rfl
theorem kfK : KF (KK P) := by
  refine KF_of ?_ ?_ ?_ ?_ ?_ (fun f => ?_) (fun f => ?_) ?_ ?_ ?_ ?_ ?_ ?_ ?_ ?_ ?_ <;> kernel_rfl
theorem ef_35 : ∃ name qual prm body scope dV kV doc pm an cdv ct oc od osl, (KK P).lookup 35 = some ⟨oc, od, .func (fnOf name qual prm body scope dV kV doc pm an cdv ct), osl⟩ ∧ codeIn (KK P) cdv qual = true ∧ shapeI "Exception" "why" body ∧ scope.kind = .function ∧ scope.isCoroutine = false ∧ scope.isGenerator = false ∧
    (∀ x ∈ scope.names, x.2 ≠ .cell) ∧ scope.names.lookup (Str.ofString "self") = some .local ∧ scope.names.lookup (Str.ofString "why") = some .local ∧ scope.names.lookup (Str.ofString "Exception") = some .globalImplicit ∧
    ∀ s a b, BindsTo s (fnOf name qual prm body scope dV kV doc pm an cdv ct) ⟨[a, b], []⟩ [(("self" : Str), a), (("why" : Str), b)] := by
  refine ⟨_, _, _, _, _, _, _, _, _, _, _, _, _, _, _, rfl, ?_, ⟨_, _, _, _, _, _, _, _, _, _, rfl, rfl⟩, rfl, rfl, rfl, ?_, ?_, ?_, ?_, fun s a b => BindsTo.of_eq ?_⟩
  · kernel_rfl
  · decide +kernel
  · kernel_rfl
  · kernel_rfl
  · kernel_rfl
  · kernel_rfl
theorem ef_55 : ∃ name qual prm body scope dV kV doc pm an cdv ct oc od osl, (KK P).lookup 55 = some ⟨oc, od, .func (fnOf name qual prm body scope dV kV doc pm an cdv ct), osl⟩ ∧ codeIn (KK P) cdv qual = true ∧ shapeI "WasmFault" "at" body ∧ scope.kind = .function ∧ scope.isCoroutine = false ∧ scope.isGenerator = false ∧
    (∀ x ∈ scope.names, x.2 ≠ .cell) ∧ scope.names.lookup (Str.ofString "self") = some .local ∧ scope.names.lookup (Str.ofString "why") = some .local ∧ scope.names.lookup (Str.ofString "at") = some .local ∧ scope.names.lookup (Str.ofString "WasmFault") = some .globalImplicit ∧
    ∀ s a b c, BindsTo s (fnOf name qual prm body scope dV kV doc pm an cdv ct) ⟨[a, b, c], []⟩ [(("self" : Str), a), (("why" : Str), b), (("at" : Str), c)] := by
  refine ⟨_, _, _, _, _, _, _, _, _, _, _, _, _, _, _, rfl, ?_, ⟨_, _, _, _, _, _, _, _, _, _, rfl, rfl⟩, rfl, rfl, rfl, ?_, ?_, ?_, ?_, ?_, fun s a b c => BindsTo.of_eq ?_⟩
  · kernel_rfl
  · decide +kernel
  · kernel_rfl
  · kernel_rfl
  · kernel_rfl
  · kernel_rfl
  · kernel_rfl
theorem efK : EF (KK P) := by
  refine ⟨⟨_, _, _, _, _, _, _, _, _, _, _, _, _, _, rfl⟩, ?_, ?_, ?_, ?_, ?_, ?_, ?_, ?_, ?_, ?_, ?_, ?_, ?_, ?_, ?_, ef_35 P, ef_55 P⟩ <;> kernel_rfl
theorem factsK : Facts (KK P) := ⟨kfK P, efK P, fk_d82 P, fk_d89 P, fk_d96 P, fk_d103 P, fk_d110 P, fk_d117 P, fk_d124 P, fk_d138 P, fk_d173 P, fk_d187 P, fk_d203 P, fk_d210 P, fk_d224 P, fk_d231 P, fk_d238 P, fk_d252 P, fk_d259 P, fk_d264 P, fk_d271 P, fk_d276 P, fk_d283 P, fk_d290 P, fk_d297 P, fk_d302 P, fk_d309 P, fk_d316 P, fk_d323 P, fk_d330 P, fk_d75 P, fk_d195 P, fk_m176 P, fk_m241 P, fk_i176 P, fk_i241 P, fk_t75 P, fk_t224 P⟩
theorem gK1 : findIn (KK P) (.ref 58) "__getattribute__" = some (some (.builtin "BaseException.__getattribute__")) := by kernel_rfl
theorem gK2 : findIn (KK P) (.ref 58) "__getattr__" = some none := by kernel_rfl
theorem gK3 : hasDictIn (KK P) 58 = true := by kernel_rfl
end Mine
end

section
open PySem PySem.W PySem.Calls PyProof.Rows
set_option maxRecDepth 100000
set_option maxHeartbeats 8000000
namespace Mine
theorem IsList_listOf {P : PySem.Params} {h : Heap} {a : Addr} {vs : List Value} {xs : List WData} (w : Well P h (.ref a) (.list xs)) (hL : h.IsList a vs.toArray) : ∃ n, h.get? a = some (listOf vs.toArray n) := by
  cases w with
  | list hg _ =>
    obtain ⟨o, h1, h2, n, h3⟩ := hL
    rw [hg] at h1
    cases h1
    dsimp only at h3
    injection h3 with h3 h4
    exact ⟨_, by rw [hg, h3]⟩
noncomputable def noCell (p : Str × NameKind) : Bool := match p.2 with
  | .cell => false
  | _ => true
theorem nc_of {l : List (Str × NameKind)} (h : l.all noCell = true) (x : Str) : l.lookup x ≠ some .cell := fun e => by
  have := List.all_eq_true.mp h _ (mem_of_lookup e)
  cases this
theorem lawLoc {P : Kn} {env : Env} {a : Addr} {vs : List Value} {n : Nat} {ws : List Int} {m : Str → Option Value} (hP : P a (listOf vs.toArray n)) (hI : IntsAre vs ws) (hk : env.kindOf (nm 22) = some .local) (hm : m (nm 22) = some (.ref a)) : LocR env P [] [(22, sL ws)] m := fun k v e => by
  by_cases h : k = 22
  · subst h
    cases e
    exact ⟨by decide, _, .d (.il hP hI), .inl ⟨hk, hm⟩⟩
  · have : getN k [(22, sL ws)] = none := by
      show (match Nat.beq k 22 with | true => _ | false => none) = none
      have b1 : Nat.beq k 22 = false := by cases z : Nat.beq k 22 with | false => rfl | true => exact absurd (Nat.eq_of_beq_eq_true z) h
      rw [b1]
    rw [this] at e; cases e
theorem T2 : PySem.Challenge.rw_nm0120_01.Holds := by
  w_on
  refine holds_law wok fun said => ?_
  refine holds_open (q := vw) (loose := [Str.ofString "text_of"]) (Xt := fun s => xlAt vw [] s && recOk (RowW.records PySem.Challenge.rw_nm0120_01.row.toRowW) s) (XP := XL vw []) (Yf := Hook.obs HK) (Ya := Hook.val HK) (YP := Hook.says HK) (N := 4376) ?hl (Hook.of HK) (Hook.keeps HK) (fun s e => xl_of s (Bool.and_eq_true_iff.mp e).1) XL.keeps (by rfl) (by rfl) (by rfl) (fun s e => recFacts_of (Bool.and_eq_true_iff.mp e).2) (by rfl) (by first | assumption | decide +kernel) (by decide +kernel) ⟨rfl, rfl, rfl, rfl, rfl, by decide +kernel⟩ ?hw ?hc
  case hl => exact LeftO.of_pieces openH sizeH run (by decide) looksH
  case hw =>
    refine ⟨[WData.list []], ?_, ?_⟩ <;> decide +kernel
  case hc =>
    k_fill
    intro w s₀ s₁ mg mb G Y fa o0 pm cd doc dV kV ho hd hcd hD hmg hg args vals as hpre hlay hrd hwl hlo
    have KX := kIn_of Y
    have X := (Ground.X G).1
    refine Ground.open G ?_
    intro T B D TE TW
    (refine guard_noD D (by decide +kernel) ?_; clear D)
    obtain ⟨wA, wO, M⟩ := bmod_of_top T
    have TA := at_of_top T
    (obtain ⟨w7, w6, he, B0⟩ := based_of_top T rfl hmg ho hd; have he' : cd = _ := he; subst he'; clear he)
    clear hmg
    wrow_args hpre hlay hrd hwl hlo
    first | refine callC_kw (enter_call ?_) | refine enter_call ?_ | refine callC_kw (enter_callW ?_) | refine enter_callW ?_ | w_how
    w_top on
    try refine codeAny_mono ?_ (fun _ _ g => GoodW.toG g)
    have K0 := below_caller (Top.heap T)
    w_call any ho hd hcd hD T F
    clear hd TA
    k_drop
    rename_i ws hs hlay0 hLay hr1 hl2 w4 w3 w2 w1 w0 hL ra wel r0 hI hr hcond hc2 h₁ N0
    obtain ⟨n, hgl⟩ := Mine.IsList_listOf wel hL
    clear hcd hr1 hl2 hr K0 hD hs hlay0 hLay ra r0 wel Y X B TE TW M
    have hl : ws.length ≤ 1000 := by omega
    clear hcond
    refine Mine.law_walk (b0 := s₁.heap) (L := s₁.heap.objs.size) (fa := fa) (cd := .ref w7) (z := (s₁.os, s₁.gens)) (K := KF0 w.params) (mg := mg) (mb := mb) (ws := ws) (m := fun x => List.lookup x [(Str.ofString "script", Value.ref w2)].reverse) ⟨Mine.factsK _, Mine.gK1 _, Mine.gK2 _, Mine.gK3 _, rfl, ?_, ?_, ?_, ?_, ?_, KX, ⟨T.g, T.b, T.nolimit, T.builtins⟩, Nat.le_refl _⟩ ?_ ?_ ?_ ?_ ?_ (fun env => ?_) ?_ ?_ ⟨rfl, rfl, by show 1 + claimMargin + 1 + 4 * 33 + 8 < recursionLimit; decide, by show 4 + 3 + 200 * 33 + 100 < cLine; decide⟩ hl ?_ ⟨⟨F, [], ?_, ?_, .nil⟩, ?_, rfl⟩ ?_
    · exact Mine.nc_of (by kernel_rfl)
    · kernel_rfl
    · kernel_rfl
    · kernel_rfl
    · kernel_rfl
    · kernel_rfl
    · rfl
    · kernel_rfl
    · kernel_rfl
    · kernel_rfl
    · rfl
    · kernel_rfl
    · kernel_rfl
    · kernel_rfl
    · intro p hp
      cases hp
    · exact List.nodup_nil
    · exact Mine.lawLoc (.inl hgl) hI (by kernel_rfl) (by kernel_rfl)
    · intro s' hk hog
      have e1 : s'.os = s₁.os := congrArg Prod.fst hog
      have e2 : s'.gens = s₁.gens := congrArg Prod.snd hog
      refine ⟨.inl ⟨_, .bool true, [], rfl, fun cls => ?_, .bool true, ?_, fun _ => ⟨List.nodup_nil, fun a h => (by cases h)⟩⟩, hk, e1, e2.trans hg⟩
      · rfl
      · kernel_rfl
end Mine
end

theorem PySem.Challenge.cw_nm0120_01_holds : PySem.Challenge.rw_nm0120_01.Holds :=
  Mine.T2
