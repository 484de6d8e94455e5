import PyProof.Rows.All
import Wide.All
import OpenK.AllK
import Wide.FinOn
import HandS.ForMost
import HandS.IsInst
import HandS.Exc
import HandS.Wide
import HandS.CallSlots
import HandS.WordsExc
import HandS.Defaults
import HandS.HeadHook2
import HandS.HeadEnd
import HandS.Head0
import HandS.Head1
import HandS.Head2
import HandS.Head3
import PySem.Challenge.RW_middlehold_k02_amounts_and_their_words
set_option Elab.async false
set_option linter.all false
set_option maxRecDepth 100000
set_option maxHeartbeats 4000000
namespace EG
open PySem L2

/-! plain data, what a local holds, the store -/
inductive D where
  | non | bl (b : Bool) | int (i : Int) | str (s : Str)
  | lst (xs : List D) | tup (xs : List D)
  | obj (c : Nat) (fs : List (Str × D))
  | cell (n : Nat)
  | scr (ns : List Int)
  | dK (kvs : List (Key × D)) | dT (kvs : List (List Key × D))
  | err (c : Nat) (fs : List (Str × D)) | clo (n : Nat) (ds : List D) | cls (c : Nat)
instance : Inhabited D := ⟨.non⟩
inductive Own where
  | out | slot (i : Nat) | cell (n : Nat)
inductive Cell where
  | lst (xs : List D) | obj (c : Nat) (fs : List (Str × D)) | dK (kvs : List (Key × D)) | dT (kvs : List (List Key × D))
/-- what is owned, as data -/
def Cell.toD : Cell → D
  | .lst xs => .lst xs
  | .obj c fs => .obj c fs
  | .dK kvs => .dK kvs
  | .dT kvs => .dT kvs
abbrev Mu := List Cell
inductive Slot where
  | no | v (d : D) | own (c : Cell)
abbrev Env := List Slot

structure Wd where
  K : PySem.W.Frag
  ca : Nat → Addr
structure Ws where
  ρ : List Addr
  Ow : Addr → Option Own

def big : Nat := 16777216
theorem big_le : big ≤ sizeLine := by rw [sizeLine_eq]; decide

/-- the script: read alone -/
def LstK (K : PySem.W.Frag) (a : Addr) (xs : List V) : Prop := SqL K (fun _ => none) a xs
/-- a tuple of the written part -/
def TupK (K : PySem.W.Frag) (a : Addr) (xs : List V) : Prop := SqT K (fun _ => none) a xs
theorem LstK.seq {K : PySem.W.Frag} {a : Addr} {xs : List V} {H : Hp} (h : LstK K a xs) : SqL K H a xs := by
  rcases h with (h | ⟨o, h⟩) | h
  · cases h
  · cases h
  · exact .inr h
theorem TupK.seq {K : PySem.W.Frag} {a : Addr} {xs : List V} {H : Hp} (h : TupK K a xs) : SqT K H a xs := by
  rcases h with (h | ⟨o, h⟩) | h
  · cases h
  · cases h
  · exact .inr h
mutual
inductive RepV (W : Wd) (S : Ws) (H : Hp) : V → D → Prop where
  | non : RepV W S H .non .non
  | bl (b : Bool) : RepV W S H (.bl b) (.bl b)
  | int (i : Int) : RepV W S H (.int i) (.int i)
  | str (s : Str) : s.length ≤ big → RepV W S H (.str s) (.str s)
  | lst {a : Addr} {vs : List V} {ds : List D} : H a = some (.lst vs) → S.Ow a = none → vs.length ≤ big → RepVs W S H vs ds → RepV W S H (.ref a) (.lst ds)
  | tup {a : Addr} {vs : List V} {ds : List D} : H a = some (.tup vs) → S.Ow a = none → vs.length ≤ big → RepVs W S H vs ds → RepV W S H (.ref a) (.tup ds)
  | tupK {a : Addr} {vs : List V} {ds : List D} : TupK W.K a vs → vs.length ≤ big → RepVs W S H vs ds → RepV W S H (.ref a) (.tup ds)
  | obj {a dx : Addr} {c : Nat} {vs : List (Str × V)} {fs : List (Str × D)} : H a = some (.ins (W.ca c) dx vs) → S.Ow a = none → RepFs W S H vs fs → RepV W S H (.ref a) (.obj c fs)
  | cell {a : Addr} {n : Nat} : S.ρ[n]? = some a → S.Ow a = some (.cell n) → RepV W S H (.ref a) (.cell n)
  | scr {a : Addr} {u : HO} {ns : List Int} : H a = some u → S.Ow a = none → (u = .lst (ns.map V.int) ∨ ∃ o, u = .frz o (.lst (ns.map V.int))) → ns.length ≤ big → RepV W S H (.ref a) (.scr ns)
  | scrK {a : Addr} {ns : List Int} : LstK W.K a (ns.map V.int) → ns.length ≤ big → RepV W S H (.ref a) (.scr ns)
  | dK {a : Addr} {vs : List (Key × V)} {ds : List (Key × D)} : H a = some (.dK vs) → S.Ow a = none → vs.length ≤ big → RepKs W S H vs ds → RepV W S H (.ref a) (.dK ds)
  | dT {a : Addr} {vs : List (List Key × V)} {ds : List (List Key × D)} : H a = some (.dT vs) → S.Ow a = none → vs.length ≤ big → RepTs W S H vs ds → RepV W S H (.ref a) (.dT ds)
inductive RepVs (W : Wd) (S : Ws) (H : Hp) : List V → List D → Prop where
  | nil : RepVs W S H [] []
  | cons {v : V} {d : D} {vs : List V} {ds : List D} : RepV W S H v d → RepVs W S H vs ds → RepVs W S H (v :: vs) (d :: ds)
inductive RepFs (W : Wd) (S : Ws) (H : Hp) : List (Str × V) → List (Str × D) → Prop where
  | nil : RepFs W S H [] []
  | cons {f : Str} {v : V} {d : D} {vs : List (Str × V)} {fs : List (Str × D)} : RepV W S H v d → RepFs W S H vs fs → RepFs W S H ((f, v) :: vs) ((f, d) :: fs)
inductive RepKs (W : Wd) (S : Ws) (H : Hp) : List (Key × V) → List (Key × D) → Prop where
  | nil : RepKs W S H [] []
  | cons {f : Key} {v : V} {d : D} {vs : List (Key × V)} {fs : List (Key × D)} : RepV W S H v d → RepKs W S H vs fs → RepKs W S H ((f, v) :: vs) ((f, d) :: fs)
inductive RepTs (W : Wd) (S : Ws) (H : Hp) : List (List Key × V) → List (List Key × D) → Prop where
  | nil : RepTs W S H [] []
  | cons {f : List Key} {v : V} {d : D} {vs : List (List Key × V)} {fs : List (List Key × D)} : RepV W S H v d → RepTs W S H vs fs → RepTs W S H ((f, v) :: vs) ((f, d) :: fs)
end

/-- later: data stays, the owned of the kinds k stay, the cells stay cells -/
structure Lt (k : Own → Prop) (S : Ws) (H : Hp) (S' : Ws) (H' : Hp) : Prop where
  dat : ∀ a o, S.Ow a = none → H a = some o → S'.Ow a = none ∧ H' a = some o
  own : ∀ a w, S.Ow a = some w → k w → S'.Ow a = some w ∧ H' a = H a
  cel : ∀ (n : Nat) a, S.ρ[n]? = some a → S.Ow a = some (.cell n) → S'.ρ[n]? = some a ∧ S'.Ow a = some (.cell n)
  mem : ∀ a, H a ≠ none → H' a ≠ none
def kE : Own → Prop | .cell _ => False | _ => True
def kS : Own → Prop | .out => True | _ => False
abbrev LtE := Lt kE
abbrev LtS := Lt kS
theorem Lt.refl {k : Own → Prop} {S : Ws} {H : Hp} : Lt k S H S H := ⟨fun _ _ a b => ⟨a, b⟩, fun _ _ a _ => ⟨a, rfl⟩, fun _ _ a b => ⟨a, b⟩, fun _ a => a⟩
theorem Lt.trans {k : Own → Prop} {S S1 S2 : Ws} {H H1 H2 : Hp} (a : Lt k S H S1 H1) (b : Lt k S1 H1 S2 H2) : Lt k S H S2 H2 :=
  ⟨fun x o p q => let ⟨p1, q1⟩ := a.dat x o p q; b.dat x o p1 q1,
   fun x w p q => let ⟨p1, q1⟩ := a.own x w p q; let ⟨p2, q2⟩ := b.own x w p1 q; ⟨p2, q2.trans q1⟩,
   fun n x p q => let ⟨p1, q1⟩ := a.cel n x p q; b.cel n x p1 q1, fun x p => b.mem x (a.mem x p)⟩
theorem LtE.toS {S S1 : Ws} {H H1 : Hp} (a : LtE S H S1 H1) : LtS S H S1 H1 :=
  ⟨a.dat, fun x w p q => a.own x w p (by cases w <;> first | trivial | exact q.elim), a.cel, a.mem⟩

section
variable {W : Wd} {S S' : Ws} {H H' : Hp}
mutual
theorem RepV.mono (hd : ∀ a o, S.Ow a = none → H a = some o → S'.Ow a = none ∧ H' a = some o) (hc : ∀ (n : Nat) a, S.ρ[n]? = some a → S.Ow a = some (.cell n) → S'.ρ[n]? = some a ∧ S'.Ow a = some (.cell n)) :
    ∀ {v : V} {d : D}, RepV W S H v d → RepV W S' H' v d
  | _, _, .non => .non
  | _, _, .bl b => .bl b
  | _, _, .int i => .int i
  | _, _, .str s h => .str s h
  | _, _, .lst h1 h2 h3 h4 => .lst (hd _ _ h2 h1).2 (hd _ _ h2 h1).1 h3 (RepVs.mono hd hc h4)
  | _, _, .tup h1 h2 h3 h4 => .tup (hd _ _ h2 h1).2 (hd _ _ h2 h1).1 h3 (RepVs.mono hd hc h4)
  | _, _, .tupK h1 h3 h4 => .tupK h1 h3 (RepVs.mono hd hc h4)
  | _, _, .obj h1 h2 h3 => .obj (hd _ _ h2 h1).2 (hd _ _ h2 h1).1 (RepFs.mono hd hc h3)
  | _, _, .cell h1 h2 => .cell (hc _ _ h1 h2).1 (hc _ _ h1 h2).2
  | _, _, .scr h1 h2 h3 h4 => .scr (hd _ _ h2 h1).2 (hd _ _ h2 h1).1 h3 h4
  | _, _, .scrK h1 h2 => .scrK h1 h2
  | _, _, .dK h1 h2 h3 h4 => .dK (hd _ _ h2 h1).2 (hd _ _ h2 h1).1 h3 (RepKs.mono hd hc h4)
  | _, _, .dT h1 h2 h3 h4 => .dT (hd _ _ h2 h1).2 (hd _ _ h2 h1).1 h3 (RepTs.mono hd hc h4)
theorem RepVs.mono (hd : ∀ a o, S.Ow a = none → H a = some o → S'.Ow a = none ∧ H' a = some o) (hc : ∀ (n : Nat) a, S.ρ[n]? = some a → S.Ow a = some (.cell n) → S'.ρ[n]? = some a ∧ S'.Ow a = some (.cell n)) :
    ∀ {v : List V} {d : List D}, RepVs W S H v d → RepVs W S' H' v d
  | _, _, .nil => .nil
  | _, _, .cons h r => .cons (RepV.mono hd hc h) (RepVs.mono hd hc r)
theorem RepFs.mono (hd : ∀ a o, S.Ow a = none → H a = some o → S'.Ow a = none ∧ H' a = some o) (hc : ∀ (n : Nat) a, S.ρ[n]? = some a → S.Ow a = some (.cell n) → S'.ρ[n]? = some a ∧ S'.Ow a = some (.cell n)) :
    ∀ {v : List (Str × V)} {d : List (Str × D)}, RepFs W S H v d → RepFs W S' H' v d
  | _, _, .nil => .nil
  | _, _, .cons h r => .cons (RepV.mono hd hc h) (RepFs.mono hd hc r)
theorem RepKs.mono (hd : ∀ a o, S.Ow a = none → H a = some o → S'.Ow a = none ∧ H' a = some o) (hc : ∀ (n : Nat) a, S.ρ[n]? = some a → S.Ow a = some (.cell n) → S'.ρ[n]? = some a ∧ S'.Ow a = some (.cell n)) :
    ∀ {v : List (Key × V)} {d : List (Key × D)}, RepKs W S H v d → RepKs W S' H' v d
  | _, _, .nil => .nil
  | _, _, .cons h r => .cons (RepV.mono hd hc h) (RepKs.mono hd hc r)
theorem RepTs.mono (hd : ∀ a o, S.Ow a = none → H a = some o → S'.Ow a = none ∧ H' a = some o) (hc : ∀ (n : Nat) a, S.ρ[n]? = some a → S.Ow a = some (.cell n) → S'.ρ[n]? = some a ∧ S'.Ow a = some (.cell n)) :
    ∀ {v : List (List Key × V)} {d : List (List Key × D)}, RepTs W S H v d → RepTs W S' H' v d
  | _, _, .nil => .nil
  | _, _, .cons h r => .cons (RepV.mono hd hc h) (RepTs.mono hd hc r)
end
theorem RepV.later {k : Own → Prop} {v : V} {d : D} (h : RepV W S H v d) (l : Lt k S H S' H') : RepV W S' H' v d := h.mono l.dat l.cel
theorem RepVs.later {k : Own → Prop} {v : List V} {d : List D} (h : RepVs W S H v d) (l : Lt k S H S' H') : RepVs W S' H' v d := h.mono l.dat l.cel
theorem RepFs.later {k : Own → Prop} {v : List (Str × V)} {d : List (Str × D)} (h : RepFs W S H v d) (l : Lt k S H S' H') : RepFs W S' H' v d := h.mono l.dat l.cel
theorem RepKs.later {k : Own → Prop} {v : List (Key × V)} {d : List (Key × D)} (h : RepKs W S H v d) (l : Lt k S H S' H') : RepKs W S' H' v d := h.mono l.dat l.cel
theorem RepTs.later {k : Own → Prop} {v : List (List Key × V)} {d : List (List Key × D)} (h : RepTs W S H v d) (l : Lt k S H S' H') : RepTs W S' H' v d := h.mono l.dat l.cel
theorem RepVs.length {vs : List V} {ds : List D} (h : RepVs W S H vs ds) : vs.length = ds.length := by
  induction vs generalizing ds with
  | nil => cases h; rfl
  | cons v vs ih => cases h with | cons _ r => simp [ih r]
theorem RepVs.get : ∀ {vs : List V} {ds : List D} {i : Nat} {d : D}, RepVs W S H vs ds → ds[i]? = some d → ∃ v, vs[i]? = some v ∧ RepV W S H v d
  | _, _, _, _, .nil, e => by simp at e
  | _, _, 0, _, .cons r _, e => by simp at e; subst e; exact ⟨_, rfl, r⟩
  | _, _, i + 1, x, .cons _ t, e => by
    obtain ⟨u, h1, h2⟩ := RepVs.get (i := i) (d := x) t (by simpa using e)
    exact ⟨u, by simpa using h1, h2⟩
theorem RepVs.get' : ∀ {vs : List V} {ds : List D} {i : Nat} {v : V}, RepVs W S H vs ds → vs[i]? = some v → ∃ d, ds[i]? = some d ∧ RepV W S H v d
  | _, _, _, _, .nil, e => by simp at e
  | _, _, 0, _, .cons r _, e => by simp at e; subst e; exact ⟨_, rfl, r⟩
  | _, _, i + 1, x, .cons _ t, e => by
    obtain ⟨u, h1, h2⟩ := RepVs.get' (i := i) (v := x) t (by simpa using e)
    exact ⟨u, by simpa using h1, h2⟩
theorem RepVs.append : ∀ {vs ws : List V} {ds es : List D}, RepVs W S H vs ds → RepVs W S H ws es → RepVs W S H (vs ++ ws) (ds ++ es)
  | _, _, _, _, .nil, q => q
  | _, _, _, _, .cons r t, q => .cons r (RepVs.append t q)
theorem RepVs.one {v : V} {d : D} (h : RepV W S H v d) : RepVs W S H [v] [d] := .cons h .nil
theorem RepVs.take : ∀ {vs : List V} {ds : List D} (n : Nat), RepVs W S H vs ds → RepVs W S H (vs.take n) (ds.take n)
  | _, _, 0, _ => by simp; exact .nil
  | _, _, _ + 1, .nil => by simp; exact .nil
  | _, _, n + 1, .cons r t => .cons r (RepVs.take n t)
theorem RepVs.drop : ∀ {vs : List V} {ds : List D} (n : Nat), RepVs W S H vs ds → RepVs W S H (vs.drop n) (ds.drop n)
  | _, _, 0, h => h
  | _, _, _ + 1, .nil => by simp; exact .nil
  | _, _, n + 1, .cons r t => RepVs.drop n t
theorem RepVs.set {v : V} {d : D} (r : RepV W S H v d) : ∀ {vs : List V} {ds : List D} (i : Nat), RepVs W S H vs ds → RepVs W S H (vs.set i v) (ds.set i d)
  | _, _, _, .nil => .nil
  | _, _, 0, .cons _ t => .cons r t
  | _, _, i + 1, .cons q t => .cons q (RepVs.set r i t)
theorem RepFs.lookup : ∀ {vs : List (Str × V)} {fs : List (Str × D)} {f : Str} {d : D}, RepFs W S H vs fs → fs.lookup f = some d → ∃ v, vs.lookup f = some v ∧ RepV W S H v d
  | _, _, _, _, .nil, e => by simp at e
  | _, _, f, d, .cons (f := g) r t, e => by
    simp only [List.lookup_cons] at e ⊢
    split at e
    · cases e; exact ⟨_, rfl, r⟩
    · exact RepFs.lookup t e
theorem RepFs.lookup_none : ∀ {vs : List (Str × V)} {fs : List (Str × D)} {f : Str}, RepFs W S H vs fs → fs.lookup f = none → vs.lookup f = none
  | _, _, _, .nil, e => by simp
  | _, _, f, .cons (f := g) r t, e => by
    simp only [List.lookup_cons] at e ⊢
    split at e
    · cases e
    · exact RepFs.lookup_none t e
end

/-! the state -/
def CellRep (W : Wd) (S : Ws) (H : Hp) (a : Addr) : Cell → Prop
  | .lst ds => ∃ vs, H a = some (.lst vs) ∧ vs.length ≤ big ∧ RepVs W S H vs ds
  | .obj c fs => ∃ dx vs, H a = some (.ins (W.ca c) dx vs) ∧ RepFs W S H vs fs
  | .dK ds => ∃ vs, H a = some (.dK vs) ∧ vs.length ≤ big ∧ RepKs W S H vs ds
  | .dT ds => ∃ vs, H a = some (.dT vs) ∧ vs.length ≤ big ∧ RepTs W S H vs ds
structure Sg (W : Wd) (S : Ws) (H : Hp) (μ : Mu) : Prop where
  wf : ∀ a w, S.Ow a = some w → ∃ u, H a = some u
  len : S.ρ.length = μ.length
  cells : ∀ (n : Nat) c, μ[n]? = some c → ∃ a, S.ρ[n]? = some a ∧ S.Ow a = some (.cell n) ∧ CellRep W S H a c
def SlotRep (W : Wd) (S : Ws) (H : Hp) (i : Nat) (sv : Option (Option V)) : Slot → Prop
  | .no => True
  | .v d => ∃ v, sv = some (some v) ∧ RepV W S H v d
  | .own c => ∃ a, sv = some (some (.ref a)) ∧ S.Ow a = some (.slot i) ∧ CellRep W S H a c
structure EnvOk (W : Wd) (S : Ws) (H : Hp) (σ : St) (env : Env) : Prop where
  len : env.length = σ.length
  at_ : ∀ (i : Nat) sl, env[i]? = some sl → SlotRep W S H i σ[i]? sl
section
variable {W : Wd} {S S' : Ws} {H H' : Hp} {σ : St} {env : Env} {μ : Mu}
theorem CellRep.later {k : Own → Prop} {a : Addr} {c : Cell} (h : CellRep W S H a c) (l : Lt k S H S' H') (e : H' a = H a) : CellRep W S' H' a c := by
  cases c with
  | lst ds => obtain ⟨vs, e1, e2, r⟩ := h; exact ⟨vs, e.trans e1, e2, r.later l⟩
  | obj c fs => obtain ⟨dx, vs, e1, r⟩ := h; exact ⟨dx, vs, e.trans e1, r.later l⟩
  | dK ds => obtain ⟨vs, e1, e2, r⟩ := h; exact ⟨vs, e.trans e1, e2, r.later l⟩
  | dT ds => obtain ⟨vs, e1, e2, r⟩ := h; exact ⟨vs, e.trans e1, e2, r.later l⟩
theorem CellRep.mono {a : Addr} {c : Cell} (hd : ∀ a o, S.Ow a = none → H a = some o → S'.Ow a = none ∧ H' a = some o) (hc : ∀ (n : Nat) a, S.ρ[n]? = some a → S.Ow a = some (.cell n) → S'.ρ[n]? = some a ∧ S'.Ow a = some (.cell n)) (h : CellRep W S H a c) (e : H' a = H a) : CellRep W S' H' a c := by
  cases c with
  | lst ds => obtain ⟨vs, e1, e2, r⟩ := h; exact ⟨vs, e.trans e1, e2, r.mono hd hc⟩
  | obj c fs => obtain ⟨dx, vs, e1, r⟩ := h; exact ⟨dx, vs, e.trans e1, r.mono hd hc⟩
  | dK ds => obtain ⟨vs, e1, e2, r⟩ := h; exact ⟨vs, e.trans e1, e2, r.mono hd hc⟩
  | dT ds => obtain ⟨vs, e1, e2, r⟩ := h; exact ⟨vs, e.trans e1, e2, r.mono hd hc⟩
/-- what is owned becomes data -/
theorem CellRep.toV {a : Addr} {c : Cell} (h : CellRep W S H a c) (ho : S.Ow a = none) : RepV W S H (.ref a) c.toD := by
  cases c with
  | lst ds => obtain ⟨vs, e1, e2, r⟩ := h; exact .lst e1 ho e2 r
  | obj c fs => obtain ⟨dx, vs, e1, r⟩ := h; exact .obj e1 ho r
  | dK ds => obtain ⟨vs, e1, e2, r⟩ := h; exact .dK e1 ho e2 r
  | dT ds => obtain ⟨vs, e1, e2, r⟩ := h; exact .dT e1 ho e2 r
theorem SlotRep.later {k : Own → Prop} (hk : ∀ j, k (.slot j)) {i : Nat} {sv : Option (Option V)} {sl : Slot} (h : SlotRep W S H i sv sl) (l : Lt k S H S' H') : SlotRep W S' H' i sv sl := by
  cases sl with
  | no => trivial
  | v d => obtain ⟨v, e, r⟩ := h; exact ⟨v, e, r.later l⟩
  | own c =>
    obtain ⟨a, e, o, r⟩ := h
    obtain ⟨o', h'⟩ := l.own a _ o (hk i)
    exact ⟨a, e, o', r.later l h'⟩
theorem SlotRep.laterE {i : Nat} {sv : Option (Option V)} {sl : Slot} (h : SlotRep W S H i sv sl) (l : LtE S H S' H') : SlotRep W S' H' i sv sl := h.later (fun _ => trivial) l
theorem EnvOk.later {k : Own → Prop} (hk : ∀ j, k (.slot j)) (h : EnvOk W S H σ env) (l : Lt k S H S' H') : EnvOk W S' H' σ env := ⟨h.len, fun i sl e => (h.at_ i sl e).later hk l⟩
theorem EnvOk.laterE (h : EnvOk W S H σ env) (l : LtE S H S' H') : EnvOk W S' H' σ env := ⟨h.len, fun i sl e => (h.at_ i sl e).laterE l⟩
/-- what is fresh is nobody's -/
theorem Sg.fresh (g : Sg W S H μ) {p : Addr} (hp : H p = none) : S.Ow p = none := by
  cases e : S.Ow p with
  | none => rfl
  | some w => obtain ⟨u, q⟩ := g.wf p w e; rw [hp] at q; cases q
theorem upd_mem {H : Hp} {p : Addr} {o : HO} : ∀ a, H a ≠ none → upd H p o a ≠ none := fun a h => by
  by_cases e : a = p
  · subst e; rw [upd_same]; exact fun z => nomatch z
  · rw [upd_ne e]; exact h
theorem lt_upd {k : Own → Prop} {p : Addr} {o : HO} (hp : H p = none) (hw : ∀ a w, S.Ow a = some w → ∃ u, H a = some u) : Lt k S H S (upd H p o) :=
  ⟨fun a u q e => ⟨q, by rw [upd_ne (ne_of_none e hp)]; exact e⟩,
   fun a w q _ => by obtain ⟨u, e⟩ := hw a w q; exact ⟨q, by rw [upd_ne (ne_of_none e hp)]⟩, fun n a e q => ⟨e, q⟩, upd_mem⟩
theorem Sg.upd (g : Sg W S H μ) {p : Addr} {o : HO} (hp : H p = none) : Sg W S (upd H p o) μ where
  wf := fun a w e => by
    obtain ⟨u, q⟩ := g.wf a w e
    exact ⟨u, by rw [upd_ne (ne_of_none q hp)]; exact q⟩
  len := g.len
  cells := fun n c e => by
    obtain ⟨a, e1, e2, r⟩ := g.cells n c e
    obtain ⟨u, q⟩ := g.wf a _ e2
    exact ⟨a, e1, e2, r.later (lt_upd (k := kE) hp g.wf) (by rw [upd_ne (ne_of_none q hp)])⟩
/-- the owner of p changes from or to out, none, a slot -/
def Ws.set (S : Ws) (p : Addr) (w : Option Own) : Ws := { S with Ow := fun a => if a = p then w else S.Ow a }
theorem Ws.set_same {p : Addr} {w : Option Own} : (S.set p w).Ow p = w := by simp [Ws.set]
theorem Ws.set_ne {p a : Addr} {w : Option Own} (h : a ≠ p) : (S.set p w).Ow a = S.Ow a := by simp [Ws.set, h]
/-- p is owned (by no cell); its owner changes -/
theorem lt_set {k : Own → Prop} {p : Addr} {w0 : Own} {w : Option Own} (hp : S.Ow p = some w0) (hk : ¬ k w0) (hc : ∀ n, w0 ≠ .cell n) : Lt k S H (S.set p w) H where
  dat := fun a o e q => by
    have : a ≠ p := fun z => by rw [z, hp] at e; cases e
    rw [Ws.set_ne this]; exact ⟨e, q⟩
  own := fun a x e q => by
    have : a ≠ p := fun z => by rw [z, hp] at e; cases e; exact hk q
    rw [Ws.set_ne this]; exact ⟨e, rfl⟩
  cel := fun n a e q => by
    have : a ≠ p := fun z => by rw [z, hp] at q; cases q; exact hc n rfl
    rw [Ws.set_ne this]; exact ⟨e, q⟩
  mem := fun _ h => h
theorem Sg.set (g : Sg W S H μ) {p : Addr} {w0 : Own} {w : Option Own} (hp : S.Ow p = some w0) (hc : ∀ n, w0 ≠ .cell n) : Sg W (S.set p w) H μ where
  wf := fun a x e => by
    by_cases h : a = p
    · subst h; exact g.wf a _ hp
    · rw [Ws.set_ne h] at e; exact g.wf a x e
  len := g.len
  cells := fun n c e => by
    obtain ⟨a, e1, e2, r⟩ := g.cells n c e
    have : a ≠ p := fun z => by rw [z, hp] at e2; cases e2; exact hc n rfl
    exact ⟨a, e1, by rw [Ws.set_ne this]; exact e2, r.later (lt_set (k := fun _ => False) hp (fun x => x) hc) rfl⟩
/-- a fresh p gets an owner: nothing that stood before feels it -/
theorem lt_new {k : Own → Prop} {p : Addr} {o : HO} {w : Option Own} (hp : H p = none) (hw : ∀ a w, S.Ow a = some w → ∃ u, H a = some u) : Lt k S H (S.set p w) (L2.upd H p o) where
  dat := fun a u q e => by
    have : a ≠ p := ne_of_none e hp
    rw [Ws.set_ne this, upd_ne this]; exact ⟨q, e⟩
  own := fun a x q _ => by
    obtain ⟨u, e⟩ := hw a x q
    have : a ≠ p := ne_of_none e hp
    rw [Ws.set_ne this, upd_ne this]; exact ⟨q, rfl⟩
  cel := fun n a e q => by
    obtain ⟨u, e'⟩ := hw a _ q
    have : a ≠ p := ne_of_none e' hp
    rw [Ws.set_ne this]; exact ⟨e, q⟩
  mem := upd_mem
theorem Sg.new (g : Sg W S H μ) {p : Addr} {o : HO} {w : Option Own} (hp : H p = none) : Sg W (S.set p w) (L2.upd H p o) μ where
  wf := fun a x e => by
    by_cases h : a = p
    · subst h; exact ⟨o, upd_same⟩
    · rw [Ws.set_ne h] at e
      obtain ⟨u, q⟩ := g.wf a x e
      exact ⟨u, by rw [upd_ne h]; exact q⟩
  len := g.len
  cells := fun n c e => by
    obtain ⟨a, e1, e2, r⟩ := g.cells n c e
    obtain ⟨u, q⟩ := g.wf a _ e2
    have : a ≠ p := ne_of_none q hp
    exact ⟨a, e1, by rw [Ws.set_ne this]; exact e2, r.later (lt_new (k := kE) hp g.wf) (by rw [upd_ne this])⟩
end

/-! the monad of the evaluator -/
inductive Out (α : Type) where
  | ok (a : α) | exc (c : Nat) (fs : List (Str × D))
abbrev EM (α : Type) := Mu → Option (Out α × Mu)
def pureE {α : Type} (a : α) : EM α := fun μ => some (.ok a, μ)
def failE {α : Type} : EM α := fun _ => none
def bindE {α β : Type} (m : EM α) (f : α → EM β) : EM β := fun μ => match m μ with
  | none => none
  | some (.ok a, μ') => f a μ'
  | some (.exc c fs, μ') => some (.exc c fs, μ')
def optE {α : Type} (o : Option α) : EM α := fun μ => match o with
  | some a => some (.ok a, μ)
  | none => none
def guardE {α : Type} (b : Bool) (m : EM α) : EM α := fun μ => match b with
  | true => m μ
  | false => none
end EG
namespace EG
open PySem L2

section
variable (W : Wd)
/-- what is wanted of an evaluator's result -/
def KG (S : Ws) (H : Hp) (σ : St) (Wx : WX) {α : Type} (ok : α → Ws → Hp → Prop) : Out α × Mu → Prop
  | (.ok a, μ') => ∀ S' H', LtE S H S' H' → Sg W S' H' μ' → ok a S' H'
  | (.exc c fs, μ') => ∀ S' H' dd vs, LtE S H S' H' → Sg W S' H' μ' → H' dd = some (.xd vs) → S'.Ow dd = none → RepFs W S' H' vs fs → Wx (.ref (W.ca c)) (some dd) σ H'
def tG (Wx : WX) {α : Type} (f : Env → EM α) (ok : α → Ws → Hp → Prop) (σ : St) (H : Hp) : Prop :=
  ∃ S μ env r, Sg W S H μ ∧ EnvOk W S H σ env ∧ f env μ = some r ∧ KG W S H σ Wx ok r
/-- borrowed: data, or a thing that a local owns -/
def RepB (S : Ws) (H : Hp) (v : V) (d : D) : Prop := RepV W S H v d ∨ ∃ a w c, v = .ref a ∧ d = c.toD ∧ S.Ow a = some w ∧ kE w ∧ CellRep W S H a c
inductive RepBs (S : Ws) (H : Hp) : List V → List D → Prop where
  | nil : RepBs S H [] []
  | cons {v : V} {d : D} {vs : List V} {ds : List D} : RepB W S H v d → RepBs S H vs ds → RepBs S H (v :: vs) (d :: ds)
def okV (Q : VK) : D → Ws → Hp → Prop := fun d S' H' => ∀ v, RepV W S' H' v d → Q v H'
def okB (Q : VK) : D → Ws → Hp → Prop := fun d S' H' => ∀ v, RepB W S' H' v d → Q v H'
def okVs (Q : List V → Hp → Prop) : List D → Ws → Hp → Prop := fun ds S' H' => ∀ vs, RepVs W S' H' vs ds → Q vs H'
def okBs (Q : List V → Hp → Prop) : List D → Ws → Hp → Prop := fun ds S' H' => ∀ vs, RepBs W S' H' vs ds → Q vs H'
def okT (Q : Bool → Hp → Prop) : Bool → Ws → Hp → Prop := fun b _ H' => Q b H'
/-- a new list, owned by nobody yet -/
def okL (Q : VK) (H : Hp) : List D → Ws → Hp → Prop := fun xs S' H' => ∀ p vs, H p = none → S'.Ow p = some .out → H' p = some (.lst vs) → vs.length ≤ big → RepVs W S' H' vs xs → Q (.ref p) H'
def tEv (Wx : WX) (f : Env → EM D) : TE := fun σ H Q => tG W Wx f (okV W Q) σ H
def tEvB (Wx : WX) (f : Env → EM D) : TE := fun σ H Q => tG W Wx f (okB W Q) σ H
def tEvL (Wx : WX) (f : Env → EM (List D)) : TE := fun σ H Q => tG W Wx f (okL W Q H) σ H
def tEvs (Wx : WX) (f : Env → EM (List D)) : TA := fun σ H Q => tG W Wx f (okVs W Q) σ H
def tEvBs (Wx : WX) (f : Env → EM (List D)) : TA := fun σ H Q => tG W Wx f (okBs W Q) σ H
def tEvT (Wx : WX) (f : Env → EM Bool) : TT := fun σ H Q => tG W Wx f (okT Q) σ H
end
section
variable {W : Wd} {S S' S1 : Ws} {H H' H1 : Hp} {σ : St} {env : Env} {μ : Mu} {Wx : WX} {α β : Type}
theorem KG.later {ok : α → Ws → Hp → Prop} {r : Out α × Mu} (h : KG W S H σ Wx ok r) (l : LtE S H S1 H1) : KG W S1 H1 σ Wx ok r := by
  obtain ⟨o, μ'⟩ := r
  cases o with
  | ok a => exact fun S' H' l' g => h S' H' (l.trans l') g
  | exc c fs => exact fun S' H' dd vs l' g => h S' H' dd vs (l.trans l') g
theorem tG.bind {f : Env → EM α} {g : α → EM β} {okA : α → Ws → Hp → Prop} {okB : β → Ws → Hp → Prop} {r : Out β × Mu} (hS : Sg W S H μ) (hE : EnvOk W S H σ env) (hf : bindE (f env) g μ = some r) (hk : KG W S H σ Wx okB r)
    (hR : ∀ a μ1 S1 H1, LtE S H S1 H1 → Sg W S1 H1 μ1 → EnvOk W S1 H1 σ env → g a μ1 = some r → KG W S1 H1 σ Wx okB r → okA a S1 H1) : tG W Wx f okA σ H := by
  unfold bindE at hf
  cases e : f env μ with
  | none => rw [e] at hf; cases hf
  | some q =>
    obtain ⟨o, μ1⟩ := q
    rw [e] at hf
    cases o with
    | ok a =>
      refine ⟨S, μ, env, _, hS, hE, e, fun S' H' l g' => ?_⟩
      exact hR a μ1 S' H' l g' (hE.laterE l) hf (hk.later l)
    | exc c fs =>
      cases hf
      exact ⟨S, μ, env, _, hS, hE, e, hk⟩
theorem tG.pure {f : Env → EM α} {ok : α → Ws → Hp → Prop} {r : Out α × Mu} (hS : Sg W S H μ) (hE : EnvOk W S H σ env) (hf : f env μ = some r) (hk : KG W S H σ Wx ok r) : tG W Wx f ok σ H := ⟨S, μ, env, r, hS, hE, hf, hk⟩
theorem bindE_ok {f : EM α} {g : α → EM β} {μ μ1 : Mu} {a : α} (h : f μ = some (.ok a, μ1)) : bindE f g μ = g a μ1 := by
  unfold bindE; rw [h]
theorem bindE_exc {f : EM α} {g : α → EM β} {μ μ1 : Mu} {c : Nat} {fs : List (Str × D)} (h : f μ = some (.exc c fs, μ1)) : bindE f g μ = some (.exc c fs, μ1) := by
  unfold bindE; rw [h]
theorem bindE_none {f : EM α} {g : α → EM β} {μ : Mu} (h : f μ = none) : bindE f g μ = none := by
  unfold bindE; rw [h]
theorem bindE_pure {a : α} {g : α → EM β} {μ : Mu} : bindE (pureE a) g μ = g a μ := rfl
theorem optE_some {o : Option α} {μ : Mu} {r : Out α × Mu} (h : optE o μ = some r) : ∃ a, o = some a ∧ r = (.ok a, μ) := by
  cases o with
  | none => cases h
  | some a => cases h; exact ⟨a, rfl, rfl⟩
theorem guardE_some {b : Bool} {m : EM α} {μ : Mu} {r : Out α × Mu} (h : guardE b m μ = some r) : b = true ∧ m μ = some r := by
  cases b with
  | false => cases h
  | true => exact ⟨rfl, h⟩
/-- an answer that lays nothing -/
theorem KG.now {ok : α → Ws → Hp → Prop} {a : α} (hS : Sg W S H μ) (h : KG W S H σ Wx ok (.ok a, μ)) : ok a S H := h S H .refl hS
theorem RepB.laterE {v : V} {d : D} (h : RepB W S H v d) (l : LtE S H S1 H1) : RepB W S1 H1 v d := by
  rcases h with h | ⟨a, w, c, e1, e2, e3, e4, r⟩
  · exact .inl (h.later l)
  · obtain ⟨q1, q2⟩ := l.own a w e3 e4
    exact .inr ⟨a, w, c, e1, e2, q1, e4, r.later l q2⟩
theorem RepBs.laterE {v : List V} {d : List D} (h : RepBs W S H v d) (l : LtE S H S1 H1) : RepBs W S1 H1 v d := by
  induction h with
  | nil => exact .nil
  | cons r _ ih => exact .cons (r.laterE l) ih
theorem RepVs.toB {v : List V} {d : List D} (h : RepVs W S H v d) : RepBs W S H v d := by
  induction v generalizing d with
  | nil => cases h; exact .nil
  | cons v vs ih => cases h with | cons r q => exact .cons (.inl r) (ih q)
theorem PE.imp {X : Cx} {e : Expr} {t t' : TE} (h : PE X e t) (hi : ∀ σ H Q, t' σ H Q → t σ H Q) : PE X e t' := ⟨fun pins s σ H Q I hw => h.run pins s σ H Q I (hi _ _ _ hw)⟩
theorem PT.imp {X : Cx} {e : Expr} {t t' : TT} (h : PT X e t) (hi : ∀ σ H Q, t' σ H Q → t σ H Q) : PT X e t' := ⟨fun pins s σ H Q I hw => h.run pins s σ H Q I (hi _ _ _ hw)⟩
theorem PW.imp {X : Cx} {e : Expr} {t t' : TT} (h : PW X e t) (hi : ∀ σ H Q, t' σ H Q → t σ H Q) : PW X e t' := ⟨fun wh pins s σ H Q I hw => h.run wh pins s σ H Q I (hi _ _ _ hw)⟩
theorem PA.imp {X : Cx} {e : List Expr} {t t' : TA} (h : PA X e t) (hi : ∀ σ H Q, t' σ H Q → t σ H Q) : PA X e t' := ⟨fun po pins s σ H Q I hw => h.run po pins s σ H Q I (hi _ _ _ hw)⟩
/-- strict is borrowed -/
theorem toB {X : Cx} {e : Expr} {f : Env → EM D} (h : PE X e (tEv W Wx f)) : PE X e (tEvB W Wx f) := PE.imp h fun σ H Q ⟨S, μ, env, r, hS, hE, hf, hk⟩ => by
  refine ⟨S, μ, env, r, hS, hE, hf, ?_⟩
  obtain ⟨o, μ'⟩ := r
  cases o with
  | ok a => exact fun S' H' l g v rv => hk S' H' l g v (.inl rv)
  | exc c fs => exact hk

/-! names -/
def valS : Option Slot → Option D
  | some (.v d) => some d
  | _ => none
def valB : Option Slot → Option D
  | some (.v d) => some d
  | some (.own c) => some c.toD
  | _ => none
def fV (i : Nat) : Env → EM D := fun env => optE (valS env[i]?)
def fVB (i : Nat) : Env → EM D := fun env => optE (valB env[i]?)
theorem ev_var {X : Cx} {i : Nat} {x : Str} {pos : Pos} (h : PE X (.Name x pos) (tVar i)) : PE X (.Name x pos) (tEv W Wx (fV i)) :=
  PE.imp h fun σ H Q ⟨S, μ, env, r, hS, hE, hf, hk⟩ => by
    obtain ⟨d, e, rfl⟩ := optE_some hf
    cases q : env[i]? with
    | none => rw [q] at e; cases e
    | some sl =>
      rw [q] at e
      cases sl with
      | v d' =>
        cases e
        obtain ⟨v, e1, rv⟩ := hE.at_ i _ q
        exact ⟨v, e1, hk.now hS v rv⟩
      | no => cases e
      | own c => cases e
theorem ev_varB {X : Cx} {i : Nat} {x : Str} {pos : Pos} (h : PE X (.Name x pos) (tVar i)) : PE X (.Name x pos) (tEvB W Wx (fVB i)) :=
  PE.imp h fun σ H Q ⟨S, μ, env, r, hS, hE, hf, hk⟩ => by
    obtain ⟨d, e, rfl⟩ := optE_some hf
    cases q : env[i]? with
    | none => rw [q] at e; cases e
    | some sl =>
      rw [q] at e
      have w := hE.at_ i _ q
      cases sl with
      | v d' =>
        cases e
        obtain ⟨v, e1, rv⟩ := w
        exact ⟨v, e1, hk.now hS v (.inl rv)⟩
      | no => cases e
      | own c =>
        cases e
        obtain ⟨a, e1, e2, r⟩ := w
        exact ⟨_, e1, hk.now hS _ (.inr ⟨a, _, c, rfl, rfl, e2, trivial, r⟩)⟩

/-! constants -/
def fC (d : D) : Env → EM D := fun _ => pureE d
theorem ev_const {X : Cx} {e : Expr} {v : V} {d : D} (h : PE X e (tC v)) (hr : ∀ S H, RepV W S H v d) : PE X e (tEv W Wx (fC d)) :=
  PE.imp h fun σ H Q ⟨S, μ, env, r, hS, hE, hf, hk⟩ => by
    cases hf
    exact hk.now hS v (hr S H)

/-! operators by values -/
def OpSpec (W : Wd) (r : R2) (op : D → D → EM D) : Prop := ∀ (x y : V) (d e : D) (S : Ws) (H : Hp) (μ : Mu) (res : Out D × Mu) (σ : St) (Wx : WX) (Q : VK), Sg W S H μ → RepB W S H x d → RepB W S H y e → op d e μ = some res → KG W S H σ Wx (okV W Q) res → r x y H Q
def fOp2 (op : D → D → EM D) (f g : Env → EM D) : Env → EM D := fun env => bindE (f env) fun d => bindE (g env) fun e => op d e
theorem tOp_of {r : R2} {op : D → D → EM D} {f g : Env → EM D} (hs : OpSpec W r op) {σ : St} {H : Hp} {Q : VK} (h : tEv W Wx (fOp2 op f g) σ H Q) : tOp r (tEvB W Wx f) (tEvB W Wx g) σ H Q := by
  obtain ⟨S, μ, env, res, hS, hE, hf, hk⟩ := h
  refine tG.bind hS hE hf hk fun d μ1 S1 H1 l1 g1 e1 hf1 hk1 x rx => ?_
  refine tG.bind g1 e1 hf1 hk1 fun e μ2 S2 H2 l2 g2 e2 hf2 hk2 y ry => ?_
  exact hs x y d e S2 H2 μ2 res σ Wx Q g2 (rx.laterE l2) ry hf2 hk2
theorem ev_bin {X : Cx} {op : Operator} {r : R2} {a b : Expr} {pos : Pos} {opd : D → D → EM D} {f g : Env → EM D} (ho : OpR X (binaryOp op) r) (hs : OpSpec W r opd) (ha : PE X a (tEvB W Wx f)) (hb : PE X b (tEvB W Wx g)) :
    PE X (.BinOp a op b pos) (tEv W Wx (fOp2 opd f g)) := PE.imp (pe_op ho ha hb) fun σ H Q h => tOp_of hs h
theorem ev_cmp {X : Cx} {op : CmpOp} {r : R2} {a b : Expr} {pos : Pos} {opd : D → D → EM D} {f g : Env → EM D} (ho : OpR X (compareOp op) r) (hs : OpSpec W r opd) (ha : PE X a (tEvB W Wx f)) (hb : PE X b (tEvB W Wx g)) (hm : behindInMarks op b = false) :
    PE X (.Compare a [op] [b] pos) (tEv W Wx (fOp2 opd f g)) := PE.imp (pe_cmpR ho ha hb hm) fun σ H Q h => tOp_of hs h
def asB : D → Option Bool
  | .bl b => some b
  | _ => none
/-- the value is a bool: as a test -/
def fT (f : Env → EM D) : Env → EM Bool := fun env => bindE (f env) fun d => optE (asB d)
theorem tB_of {f : Env → EM D} {σ : St} {H : Hp} {Q : Bool → Hp → Prop} (h : tEvT W Wx (fT f) σ H Q) : tEv W Wx f σ H (fun x H1 => ∃ c, x = .bl c ∧ Q c H1) := by
  obtain ⟨S, μ, env, res, hS, hE, hf, hk⟩ := h
  refine tG.bind hS hE hf hk fun d μ1 S1 H1 l1 g1 e1 hf1 hk1 x rx => ?_
  obtain ⟨b, e, rfl⟩ := optE_some hf1
  cases d <;> first | cases e | skip
  cases rx
  exact ⟨b, rfl, hk1.now g1⟩
theorem et_cmp {X : Cx} {op : CmpOp} {r : R2} {a b : Expr} {pos : Pos} {opd : D → D → EM D} {f g : Env → EM D} (ho : OpR X (compareOp op) r) (hs : OpSpec W r opd) (ha : PE X a (tEvB W Wx f)) (hb : PE X b (tEvB W Wx g)) (hm : behindInMarks op b = false) :
    PT X (.Compare a [op] [b] pos) (tEvT W Wx (fT (fOp2 opd f g))) := PT.imp (pt_cmpR ho ha hb hm) fun σ H Q h => tOp_of hs (tB_of h)
/-- a < b < c -/
def fChain (op op' : D → D → EM D) (f g k : Env → EM D) : Env → EM D := fun env => bindE (f env) fun d => bindE (g env) fun e => bindE (op d e) fun z => match asB z with
  | some true => bindE (k env) fun z' => op' e z'
  | some false => pureE (.bl false)
  | none => failE
end
end EG
namespace EG
open PySem L2

section
variable {W : Wd} {S S' S1 : Ws} {H H' H1 : Hp} {σ : St} {env : Env} {μ : Mu} {Wx : WX} {α β : Type} {X : Cx}
theorem KG.mono {ok ok' : α → Ws → Hp → Prop} {r : Out α × Mu} (h : KG W S H σ Wx ok r) (m : ∀ a S' H', ok a S' H' → ok' a S' H') : KG W S H σ Wx ok' r := by
  obtain ⟨o, μ'⟩ := r
  cases o with
  | ok a => exact fun S' H' l g => m _ _ _ (h S' H' l g)
  | exc c fs => exact h
theorem KG.bind {m : EM α} {g : α → EM β} {ok : β → Ws → Hp → Prop} {r : Out β × Mu} (hf : bindE m g μ = some r) (hk : KG W S H σ Wx ok r) :
    ∃ res, m μ = some res ∧ KG W S H σ Wx (fun a S' H' => ∃ μ', Sg W S' H' μ' ∧ LtE S H S' H' ∧ g a μ' = some r ∧ KG W S' H' σ Wx ok r) res := by
  unfold bindE at hf
  cases e : m μ with
  | none => rw [e] at hf; cases hf
  | some q =>
    obtain ⟨o, μ1⟩ := q
    rw [e] at hf
    refine ⟨_, rfl, ?_⟩
    cases o with
    | ok a => exact fun S' H' l g' => ⟨μ1, g', l, hf, hk.later l⟩
    | exc c fs => cases hf; exact hk

theorem iT {c A B : Prop} [Decidable c] (hc : c) (h : A) : if c then A else B := by rw [if_pos hc]; exact h
theorem iF {c A B : Prop} [Decidable c] (hc : ¬ c) (h : B) : if c then A else B := by rw [if_neg hc]; exact h
theorem okT_mk {Q : Bool → Hp → Prop} {b : Bool} (h : Q b H') : okT Q b S' H' := h
/-! a < b < c -/
theorem tChain_of {r r' : R2} {op op' : D → D → EM D} {f g k : Env → EM D} (hs : OpSpec W r op) (hs' : OpSpec W r' op') {H : Hp} {Q : VK} (h : tEv W Wx (fChain op op' f g k) σ H Q) : tChain r r' (tEvB W Wx f) (tEvB W Wx g) (tEvB W Wx k) σ H Q := by
  obtain ⟨S, μ, env, res, hS, hE, hf, hk⟩ := h
  refine tG.bind hS hE hf hk fun d μ1 S1 H1 l1 g1 e1 hf1 hk1 x rx => ?_
  refine tG.bind g1 e1 hf1 hk1 fun e μ2 S2 H2 l2 g2 e2 hf2 hk2 y ry => ?_
  obtain ⟨res1, hr1, hk3⟩ := KG.bind hf2 hk2
  refine hs x y d e S2 H2 μ2 res1 σ Wx _ g2 (rx.laterE l2) ry hr1 (hk3.mono fun z S3 H3 ⟨μ3, g3, l3, hf3, hk4⟩ v rv => ?_)
  cases z with
  | bl b =>
    cases rv
    refine ⟨b, rfl, ?_⟩
    cases b with
    | true =>
      refine iT rfl ?_
      have hf3 : bindE (k env) (fun z' => op' e z') μ3 = some res := hf3
      refine tG.bind g3 (e2.laterE l3) hf3 hk4 fun z' μ4 S4 H4 l4 g4 e4 hf4 hk5 w rw' => ?_
      exact hs' y w e z' S4 H4 μ4 res σ Wx Q g4 ((ry.laterE l3).laterE l4) rw' hf4 hk5
    | false =>
      refine iF Bool.false_ne_true ?_
      cases hf3
      exact hk4.now g3 _ (.bl false)
  | _ => cases hf3
theorem ev_chain {op op' : CmpOp} {r r' : R2} {a b c : Expr} {pos : Pos} {opd opd' : D → D → EM D} {f g k : Env → EM D} (ho : OpR X (compareOp op) r) (ho' : OpR X (compareOp op') r') (hs : OpSpec W r opd) (hs' : OpSpec W r' opd')
    (ha : PE X a (tEvB W Wx f)) (hb : PE X b (tEvB W Wx g)) (hc : PE X c (tEvB W Wx k)) (hm : lastMarks [op, op'] [b, c] = false) : PE X (.Compare a [op, op'] [b, c] pos) (tEv W Wx (fChain opd opd' f g k)) :=
  PE.imp (pe_chain ho ho' ha hb hc hm) fun σ H Q h => tChain_of hs hs' h
theorem et_chain {op op' : CmpOp} {r r' : R2} {a b c : Expr} {pos : Pos} {opd opd' : D → D → EM D} {f g k : Env → EM D} (ho : OpR X (compareOp op) r) (ho' : OpR X (compareOp op') r') (hs : OpSpec W r opd) (hs' : OpSpec W r' opd')
    (ha : PE X a (tEvB W Wx f)) (hb : PE X b (tEvB W Wx g)) (hc : PE X c (tEvB W Wx k)) (hm : lastMarks [op, op'] [b, c] = false) : PT X (.Compare a [op, op'] [b, c] pos) (tEvT W Wx (fT (fChain opd opd' f g k))) :=
  PT.imp (pt_chain ho ho' ha hb hc hm) fun σ H Q h => tChain_of hs hs' (tB_of h)

/-! tests -/
def fAndT (f g : Env → EM Bool) : Env → EM Bool := fun env => bindE (f env) fun b => match b with
  | true => g env
  | false => pureE false
def fOrT (f g : Env → EM Bool) : Env → EM Bool := fun env => bindE (f env) fun b => match b with
  | true => pureE true
  | false => g env
def fNotT (f : Env → EM Bool) : Env → EM Bool := fun env => bindE (f env) fun b => pureE (!b)
theorem ew_and1 {a : Expr} {pos : Pos} {f : Env → EM Bool} (h : PT X a (tEvT W Wx f)) : PW X (.BoolOp .And [a] pos) (tEvT W Wx f) := pw_and1 h
theorem ew_or1 {a : Expr} {pos : Pos} {f : Env → EM Bool} (h : PT X a (tEvT W Wx f)) : PW X (.BoolOp .Or [a] pos) (tEvT W Wx f) := pw_or1 h
theorem ew_and {a b : Expr} {rest : List Expr} {pos : Pos} {f g : Env → EM Bool} (h : PT X a (tEvT W Wx f)) (h2 : PW X (.BoolOp .And (b :: rest) pos) (tEvT W Wx g)) : PW X (.BoolOp .And (a :: b :: rest) pos) (tEvT W Wx (fAndT f g)) :=
  PW.imp (pw_and h h2) fun σ H Q ⟨S, μ, env, res, hS, hE, hf, hk⟩ => by
    refine tG.bind hS hE hf hk fun b μ1 S1 H1 l1 g1 e1 hf1 hk1 => okT_mk ?_
    cases b with
    | true => exact iT rfl ⟨S1, μ1, env, res, g1, e1, hf1, hk1⟩
    | false => cases hf1; have z := hk1.now g1; exact iF Bool.false_ne_true z
theorem ew_or {a b : Expr} {rest : List Expr} {pos : Pos} {f g : Env → EM Bool} (h : PT X a (tEvT W Wx f)) (h2 : PW X (.BoolOp .Or (b :: rest) pos) (tEvT W Wx g)) : PW X (.BoolOp .Or (a :: b :: rest) pos) (tEvT W Wx (fOrT f g)) :=
  PW.imp (pw_or h h2) fun σ H Q ⟨S, μ, env, res, hS, hE, hf, hk⟩ => by
    refine tG.bind hS hE hf hk fun b μ1 S1 H1 l1 g1 e1 hf1 hk1 => okT_mk ?_
    cases b with
    | true => cases hf1; have z := hk1.now g1; exact iT rfl z
    | false => exact iF Bool.false_ne_true ⟨S1, μ1, env, res, g1, e1, hf1, hk1⟩
theorem et_not {a : Expr} {pos : Pos} {f : Env → EM Bool} (h : PT X a (tEvT W Wx f)) : PT X (.UnaryOp .Not a pos) (tEvT W Wx (fNotT f)) :=
  PT.imp (pt_not h) fun σ H Q ⟨S, μ, env, res, hS, hE, hf, hk⟩ => by
    refine tG.bind hS hE hf hk fun b μ1 S1 H1 l1 g1 e1 hf1 hk1 => ?_
    cases hf1; have z := hk1.now g1; exact z
/-- truth of a value -/
def truD : D → Option Bool
  | .non => some false
  | .bl b => some b
  | .int i => some (i != 0)
  | .str s => some (s.length != 0)
  | .lst xs => some (!xs.isEmpty)
  | .tup xs => some (!xs.isEmpty)
  | _ => none
def fTru (f : Env → EM D) : Env → EM Bool := fun env => bindE (f env) fun d => optE (truD d)
theorem RepVs.isEmpty {vs : List V} {ds : List D} (h : RepVs W S H vs ds) : ds.isEmpty = vs.isEmpty := by
  cases h <;> rfl
theorem RepB.strict {v : V} {d : D} (h : RepB W S H v d) (hd : ∀ c : Cell, d ≠ c.toD) : RepV W S H v d := by
  rcases h with h | ⟨a, w, c, e1, e2, _⟩
  · exact h
  · exact absurd e2 (hd c)
/-- a borrowed list -/
theorem RepB.lst {v : V} {xs : List D} (h : RepB W S H v (.lst xs)) : ∃ a vs, v = .ref a ∧ H a = some (.lst vs) ∧ vs.length ≤ big ∧ RepVs W S H vs xs := by
  rcases h with h | ⟨a, w, c, e1, e2, e3, e4, r⟩
  · cases h with
    | lst h1 h2 h3 h4 => exact ⟨_, _, rfl, h1, h3, h4⟩
  · cases c <;> cases e2
    obtain ⟨vs, q1, q2, q3⟩ := r
    exact ⟨a, vs, e1, q1, q2, q3⟩
theorem RepB.obj {v : V} {c : Nat} {fs : List (Str × D)} (h : RepB W S H v (.obj c fs)) : ∃ a dx vs, v = .ref a ∧ H a = some (.ins (W.ca c) dx vs) ∧ RepFs W S H vs fs := by
  rcases h with h | ⟨a, w, c, e1, e2, e3, e4, r⟩
  · cases h with | obj h1 h2 h3 => exact ⟨_, _, _, rfl, h1, h3⟩
  · cases c <;> cases e2
    obtain ⟨dx, vs, q1, q2⟩ := r
    exact ⟨a, dx, vs, e1, q1, q2⟩
theorem RepB.dK {v : V} {xs : List (Key × D)} (h : RepB W S H v (.dK xs)) : ∃ a vs, v = .ref a ∧ H a = some (.dK vs) ∧ vs.length ≤ big ∧ RepKs W S H vs xs := by
  rcases h with h | ⟨a, w, c, e1, e2, e3, e4, r⟩
  · cases h with | dK h1 h2 h3 h4 => exact ⟨_, _, rfl, h1, h3, h4⟩
  · cases c <;> cases e2
    obtain ⟨vs, q1, q2, q3⟩ := r
    exact ⟨a, vs, e1, q1, q2, q3⟩
theorem RepB.dT {v : V} {xs : List (List Key × D)} (h : RepB W S H v (.dT xs)) : ∃ a vs, v = .ref a ∧ H a = some (.dT vs) ∧ vs.length ≤ big ∧ RepTs W S H vs xs := by
  rcases h with h | ⟨a, w, c, e1, e2, e3, e4, r⟩
  · cases h with | dT h1 h2 h3 h4 => exact ⟨_, _, rfl, h1, h3, h4⟩
  · cases c <;> cases e2
    obtain ⟨vs, q1, q2, q3⟩ := r
    exact ⟨a, vs, e1, q1, q2, q3⟩
theorem RepB.tupV {v : V} {xs : List D} (h : RepB W S H v (.tup xs)) : RepV W S H v (.tup xs) := h.strict fun c => by cases c <;> exact fun z => nomatch z
theorem RepB.tup {v : V} {xs : List D} (h : RepB W S H v (.tup xs)) : ∃ a vs, v = .ref a ∧ SqT W.K H a vs ∧ vs.length ≤ big ∧ RepVs W S H vs xs := by
  cases h.tupV with
  | tup h1 h2 h3 h4 => exact ⟨_, _, rfl, SqT.of h1, h3, h4⟩
  | tupK h1 h2 h3 => exact ⟨_, _, rfl, h1.seq, h2, h3⟩
theorem RepB.int {v : V} {i : Int} (h : RepB W S H v (.int i)) : v = .int i := by
  cases h.strict fun c => by cases c <;> exact fun z => nomatch z
  rfl
theorem RepB.bl {v : V} {i : Bool} (h : RepB W S H v (.bl i)) : v = .bl i := by
  cases h.strict fun c => by cases c <;> exact fun z => nomatch z
  rfl
theorem RepB.non {v : V} (h : RepB W S H v .non) : v = .non := by
  cases h.strict fun c => by cases c <;> exact fun z => nomatch z
  rfl
theorem RepB.str {v : V} {s : Str} (h : RepB W S H v (.str s)) : v = .str s ∧ s.length ≤ big := by
  cases h.strict fun c => by cases c <;> exact fun z => nomatch z
  exact ⟨rfl, by assumption⟩
theorem RepB.cell {v : V} {n : Nat} (h : RepB W S H v (.cell n)) : ∃ a, v = .ref a ∧ S.ρ[n]? = some a ∧ S.Ow a = some (.cell n) := by
  cases h.strict fun c => by cases c <;> exact fun z => nomatch z
  exact ⟨_, rfl, by assumption, by assumption⟩
theorem RepV.scrS {a : Addr} {ns : List Int} (h : RepV W S H (.ref a) (.scr ns)) : SqL W.K H a (ns.map V.int) ∧ ns.length ≤ big := by
  cases h with
  | scr h1 h2 h3 h4 =>
    rcases h3 with rfl | ⟨o, rfl⟩
    · exact ⟨SqL.of h1, h4⟩
    · exact ⟨.inl (.inr ⟨o, h1⟩), h4⟩
  | scrK h1 h2 => exact ⟨h1.seq, h2⟩
theorem RepB.scr {v : V} {ns : List Int} (h : RepB W S H v (.scr ns)) : ∃ a, v = .ref a ∧ SqL W.K H a (ns.map V.int) ∧ ns.length ≤ big := by
  have q := h.strict fun c => by cases c <;> exact fun z => nomatch z
  cases v with
  | ref a => exact ⟨a, rfl, q.scrS⟩
  | _ => cases q
theorem truV_of {v : V} {d : D} {b : Bool} {K : PySem.W.Frag} (hK : K = W.K) (h : RepB W S H v d) (e : truD d = some b) : TruV K v H b := by
  subst hK
  cases d with
  | non => cases e; rw [h.non]; rfl
  | bl b => cases e; rw [h.bl]; rfl
  | int i => cases e; rw [h.int]; rfl
  | str s =>
    cases e; rw [h.str.1]
    exact ⟨Nat.le_trans h.str.2 big_le, by
      by_cases z : s.length = 0
      · rw [z]; rfl
      · have z' : ¬ ((s.length : Int) = 0) := by omega
        rw [bne_iff_ne.mpr z, bne_iff_ne.mpr z']⟩
  | lst xs =>
    cases e
    obtain ⟨a, vs, rfl, h1, h2, r⟩ := h.lst
    exact .inl ⟨vs, SqL.of h1, by rw [r.isEmpty]⟩
  | tup xs =>
    cases e
    obtain ⟨a, vs, rfl, h1, h2, r⟩ := h.tup
    exact .inr (.inl ⟨vs, h1, by rw [r.isEmpty]⟩)
  | _ => cases e
theorem et_truth (hK : X.K = W.K) {a : Expr} {f : Env → EM D} (ha : PE X a (tEvB W Wx f)) (he : ∀ whole, isTrue a X.env whole = (do let v ← whole; standAt a.pos; holding [v] (truthy v))) : PT X a (tEvT W Wx (fTru f)) :=
  PT.imp (pt_truth ha he) fun σ H Q ⟨S, μ, env, res, hS, hE, hf, hk⟩ => by
    refine tG.bind hS hE hf hk fun d μ1 S1 H1 l1 g1 e1 hf1 hk1 v rv => ?_
    obtain ⟨b, e, rfl⟩ := optE_some hf1
    exact ⟨b, truV_of hK rv e, hk1.now g1⟩
/-! and, or, not as values (of bools) -/
def fAndV (f g : Env → EM D) : Env → EM D := fun env => bindE (f env) fun d => match asB d with
  | some true => g env
  | some false => pureE (.bl false)
  | none => failE
def fOrV (f g : Env → EM D) : Env → EM D := fun env => bindE (f env) fun d => match asB d with
  | some true => pureE (.bl true)
  | some false => g env
  | none => failE
def fNotV (f : Env → EM D) : Env → EM D := fun env => bindE (f env) fun d => match asB d with
  | some b => pureE (.bl (!b))
  | none => failE
theorem asB_some {d : D} {b : Bool} (h : asB d = some b) : d = .bl b := by cases d <;> first | cases h; rfl | cases h
theorem ev_one {op} {a : Expr} {pos : Pos} {f : Env → EM D} (h : PE X a (tEv W Wx f)) : PE X (.BoolOp op [a] pos) (tEv W Wx f) := pe_one h
theorem ev_and {a b : Expr} {rest : List Expr} {pos : Pos} {f g : Env → EM D} (h : PE X a (tEv W Wx f)) (h2 : PE X (.BoolOp .And (b :: rest) pos) (tEv W Wx g)) : PE X (.BoolOp .And (a :: b :: rest) pos) (tEv W Wx (fAndV f g)) :=
  PE.imp (pe_and h h2) fun σ H Q ⟨S, μ, env, res, hS, hE, hf, hk⟩ => by
    refine tG.bind hS hE hf hk fun d μ1 S1 H1 l1 g1 e1 hf1 hk1 v rv => ?_
    cases e : asB d with
    | none => rw [e] at hf1; cases hf1
    | some b =>
      rw [e] at hf1
      cases asB_some e
      cases rv
      refine ⟨b, rfl, ?_⟩
      cases b with
      | true => exact iT rfl ⟨S1, μ1, env, res, g1, e1, hf1, hk1⟩
      | false => cases hf1; have z := hk1.now g1 _ (.bl false); exact iF Bool.false_ne_true z
theorem ev_or {a b : Expr} {rest : List Expr} {pos : Pos} {f g : Env → EM D} (h : PE X a (tEv W Wx f)) (h2 : PE X (.BoolOp .Or (b :: rest) pos) (tEv W Wx g)) : PE X (.BoolOp .Or (a :: b :: rest) pos) (tEv W Wx (fOrV f g)) :=
  PE.imp (pe_or h h2) fun σ H Q ⟨S, μ, env, res, hS, hE, hf, hk⟩ => by
    refine tG.bind hS hE hf hk fun d μ1 S1 H1 l1 g1 e1 hf1 hk1 v rv => ?_
    cases e : asB d with
    | none => rw [e] at hf1; cases hf1
    | some b =>
      rw [e] at hf1
      cases asB_some e
      cases rv
      refine ⟨b, rfl, ?_⟩
      cases b with
      | true => cases hf1; have z := hk1.now g1 _ (.bl true); exact iT rfl z
      | false => exact iF Bool.false_ne_true ⟨S1, μ1, env, res, g1, e1, hf1, hk1⟩
theorem ev_not {a : Expr} {pos : Pos} {f : Env → EM D} (h : PE X a (tEv W Wx f)) : PE X (.UnaryOp .Not a pos) (tEv W Wx (fNotV f)) :=
  PE.imp (pe_not h) fun σ H Q ⟨S, μ, env, res, hS, hE, hf, hk⟩ => by
    refine tG.bind hS hE hf hk fun d μ1 S1 H1 l1 g1 e1 hf1 hk1 v rv => ?_
    cases e : asB d with
    | none => rw [e] at hf1; cases hf1
    | some b =>
      rw [e] at hf1
      cases asB_some e
      cases rv
      cases hf1
      exact ⟨b, rfl, hk1.now g1 _ (.bl (!b))⟩
def fIf (c : Env → EM Bool) (f g : Env → EM D) : Env → EM D := fun env => bindE (c env) fun b => match b with
  | true => f env
  | false => g env
theorem ev_ife {c a b : Expr} {pos : Pos} {fc : Env → EM Bool} {f g : Env → EM D} (hc : PT X c (tEvT W Wx fc)) (ha : PE X a (tEv W Wx f)) (hb : PE X b (tEv W Wx g)) : PE X (.IfExp c a b pos) (tEv W Wx (fIf fc f g)) :=
  PE.imp (pe_ifExp hc ha hb) fun σ H Q ⟨S, μ, env, res, hS, hE, hf, hk⟩ => by
    refine tG.bind hS hE hf hk fun b μ1 S1 H1 l1 g1 e1 hf1 hk1 => okT_mk ?_
    cases b with
    | true => exact iT rfl ⟨S1, μ1, env, res, g1, e1, hf1, hk1⟩
    | false => exact iF Bool.false_ne_true ⟨S1, μ1, env, res, g1, e1, hf1, hk1⟩

/-! arguments -/
def fNil : Env → EM (List D) := fun _ => pureE []
def fCons (f : Env → EM D) (g : Env → EM (List D)) : Env → EM (List D) := fun env => bindE (f env) fun d => bindE (g env) fun ds => pureE (d :: ds)
theorem ea_nil : PA X [] (tEvs W Wx fNil) := PA.imp pa_nil fun σ H Q ⟨S, μ, env, res, hS, hE, hf, hk⟩ => by
  cases hf; exact hk.now hS _ .nil
theorem ea_cons {e : Expr} {es : List Expr} {f : Env → EM D} {g : Env → EM (List D)} (h : PE X e (tEv W Wx f)) (h2 : PA X es (tEvs W Wx g)) (hs : starEach (e :: es) X.env = (false, eval e X.env) :: starEach es X.env) : PA X (e :: es) (tEvs W Wx (fCons f g)) :=
  PA.imp (pa_cons h h2 hs) fun σ H Q ⟨S, μ, env, res, hS, hE, hf, hk⟩ => by
    refine tG.bind hS hE hf hk fun d μ1 S1 H1 l1 g1 e1 hf1 hk1 v rv => ?_
    refine tG.bind g1 e1 hf1 hk1 fun ds μ2 S2 H2 l2 g2 e2 hf2 hk2 vs rvs => ?_
    cases hf2
    exact hk2.now g2 _ (.cons (rv.later l2) rvs)
theorem eb_nil : PA X [] (tEvBs W Wx fNil) := PA.imp pa_nil fun σ H Q ⟨S, μ, env, res, hS, hE, hf, hk⟩ => by
  cases hf; exact hk.now hS _ .nil
theorem eb_cons {e : Expr} {es : List Expr} {f : Env → EM D} {g : Env → EM (List D)} (h : PE X e (tEvB W Wx f)) (h2 : PA X es (tEvBs W Wx g)) (hs : starEach (e :: es) X.env = (false, eval e X.env) :: starEach es X.env) : PA X (e :: es) (tEvBs W Wx (fCons f g)) :=
  PA.imp (pa_cons h h2 hs) fun σ H Q ⟨S, μ, env, res, hS, hE, hf, hk⟩ => by
    refine tG.bind hS hE hf hk fun d μ1 S1 H1 l1 g1 e1 hf1 hk1 v rv => ?_
    refine tG.bind g1 e1 hf1 hk1 fun ds μ2 S2 H2 l2 g2 e2 hf2 hk2 vs rvs => ?_
    cases hf2
    exact hk2.now g2 _ (.cons (rv.laterE l2) rvs)

/-! displays -/
def fTup (g : Env → EM (List D)) : Env → EM D := fun env => bindE (g env) fun ds => guardE (decide (ds.length ≤ big)) (pureE (.tup ds))
theorem ev_tup {es : List Expr} {k : Nat} {pos : Pos} {g : Env → EM (List D)} (h : PA X es (tEvs W Wx g)) : PE X (.Tuple es k pos) (tEv W Wx (fTup g)) :=
  PE.imp (pe_tup h) fun σ H Q ⟨S, μ, env, res, hS, hE, hf, hk⟩ => by
    refine tG.bind hS hE hf hk fun ds μ1 S1 H1 l1 g1 e1 hf1 hk1 vs rvs => ?_
    obtain ⟨hl, hf2⟩ := guardE_some hf1
    cases hf2
    have hl : ds.length ≤ big := of_decide_eq_true hl
    rw [← rvs.length] at hl
    refine ⟨Nat.le_trans hl big_le, fun p hp => ?_⟩
    have lt : LtE S1 H1 S1 (upd H1 p (.tup vs)) := lt_upd hp g1.wf
    exact hk1 S1 _ lt (g1.upd hp) _ (.tup upd_same (g1.fresh hp) hl (rvs.later lt))
def fLst (g : Env → EM (List D)) : Env → EM (List D) := fun env => bindE (g env) fun ds => guardE (decide (ds.length ≤ big)) (pureE ds)
/-- a list display: new -/
theorem el_lst {es : List Expr} {pos : Pos} {g : Env → EM (List D)} (h : PA X es (tEvs W Wx g)) : PE X (.List es pos) (tEvL W Wx (fLst g)) :=
  PE.imp (pe_lst h) fun σ H Q ⟨S, μ, env, res, hS, hE, hf, hk⟩ => by
    refine tG.bind hS hE hf hk fun ds μ1 S1 H1 l1 g1 e1 hf1 hk1 vs rvs => ?_
    obtain ⟨hl, hf2⟩ := guardE_some hf1
    cases hf2
    have hl : ds.length ≤ big := of_decide_eq_true hl
    rw [← rvs.length] at hl
    refine ⟨Nat.le_trans hl big_le, fun p hp => ?_⟩
    have lt : LtE S1 H1 (S1.set p (some .out)) (upd H1 p (.lst vs)) := lt_new hp g1.wf
    refine hk1 (S1.set p (some .out)) _ lt (g1.new hp) p vs ?_ Ws.set_same upd_same hl (rvs.later lt)
    cases e : H p with
    | none => rfl
    | some o => exact absurd hp (l1.mem p (by rw [e]; exact fun z => nomatch z))
/-- a new list as data -/
def fD (g : Env → EM (List D)) : Env → EM D := fun env => bindE (g env) fun ds => pureE (.lst ds)
theorem new_of {g : Env → EM (List D)} {Q : VK} (h : tEv W Wx (fD g) σ H Q) : tEvL W Wx g σ H Q := by
  obtain ⟨S, μ, env, res, hS, hE, hf, hk⟩ := h
  unfold fD bindE at hf
  cases e : g env μ with
  | none => rw [e] at hf; cases hf
  | some q =>
    obtain ⟨o, μ1⟩ := q
    rw [e] at hf
    cases o with
    | exc c fs => cases hf; exact ⟨S, μ, env, _, hS, hE, e, hk⟩
    | ok ds =>
      cases hf
      refine ⟨S, μ, env, _, hS, hE, e, fun S' H' l g' p vs hp ho hh hl r => ?_⟩
      have l2 : Lt kE S H (S'.set p none) H' := by
        refine ⟨fun a o q w => ?_, fun a w q k => ?_, fun n a q w => ?_, l.mem⟩
        · have : a ≠ p := fun z => by rw [z, hp] at w; cases w
          rw [Ws.set_ne this]; exact l.dat a o q w
        · have : a ≠ p := fun z => by obtain ⟨u, z'⟩ := hS.wf a w q; rw [z, hp] at z'; cases z'
          rw [Ws.set_ne this]; exact l.own a w q k
        · have : a ≠ p := fun z => by obtain ⟨u, z'⟩ := hS.wf a _ w; rw [z, hp] at z'; cases z'
          rw [Ws.set_ne this]; exact l.cel n a q w
      have l3 : Lt (fun _ => False) S' H' (S'.set p none) H' := lt_set ho (fun x => x) fun n z => nomatch z
      exact hk (S'.set p none) H' l2 (g'.set ho fun n z => nomatch z) _ (.lst hh Ws.set_same hl (r.later l3))
theorem ev_new {e : Expr} {g : Env → EM (List D)} (h : PE X e (tEvL W Wx g)) : PE X e (tEv W Wx (fD g)) := PE.imp h fun σ H Q h => new_of h

/-! built-in functions -/
def CallSpec (W : Wd) (r : List V → Hp → VK → Prop) (op : List D → EM D) : Prop := ∀ (vs : List V) (ds : List D) (S : Ws) (H : Hp) (μ : Mu) (res : Out D × Mu) (σ : St) (Wx : WX) (Q : VK), Sg W S H μ → RepBs W S H vs ds → op ds μ = some res → KG W S H σ Wx (okV W Q) res → r vs H Q
/-- .. that lays a new list -/
def CallSpecL (W : Wd) (r : List V → Hp → VK → Prop) (op : List D → EM (List D)) : Prop := ∀ (vs : List V) (ds : List D) (S : Ws) (H : Hp) (μ : Mu) (res : Out (List D) × Mu) (σ : St) (Wx : WX) (Q : VK) (H0 : Hp), Sg W S H μ → (∀ a, H0 a ≠ none → H a ≠ none) → RepBs W S H vs ds → op ds μ = some res → KG W S H σ Wx (okL W Q H0) res → r vs H Q
def fCB {α : Type} (op : List D → EM α) (g : Env → EM (List D)) : Env → EM α := fun env => bindE (g env) op
theorem tCB_of {r : List V → Hp → VK → Prop} {op : List D → EM D} {g : Env → EM (List D)} (hs : CallSpec W r op) {H : Hp} {Q : VK} (h : tEv W Wx (fCB op g) σ H Q) : tCB r (tEvBs W Wx g) σ H Q := by
  obtain ⟨S, μ, env, res, hS, hE, hf, hk⟩ := h
  exact tG.bind hS hE hf hk fun ds μ1 S1 H1 l1 g1 e1 hf1 hk1 vs rvs => hs vs ds S1 H1 μ1 res σ Wx Q g1 rvs hf1 hk1
theorem tCBL_of {r : List V → Hp → VK → Prop} {op : List D → EM (List D)} {g : Env → EM (List D)} (hs : CallSpecL W r op) {H : Hp} {Q : VK} (h : tEvL W Wx (fCB op g) σ H Q) : tCB r (tEvBs W Wx g) σ H Q := by
  obtain ⟨S, μ, env, res, hS, hE, hf, hk⟩ := h
  exact tG.bind hS hE hf hk fun ds μ1 S1 H1 l1 g1 e1 hf1 hk1 vs rvs => hs vs ds S1 H1 μ1 res σ Wx Q H g1 l1.mem rvs hf1 hk1
end
end EG
namespace EG
open PySem L2

/-! what the operators do to data -/
def okMul (i j : Int) : Bool := decide (-(2 ^ 64) < i ∧ i < 2 ^ 64) || decide (-(2 ^ 64) < j ∧ j < 2 ^ 64)
def addD : D → D → EM D
  | .int i, .int j => pureE (.int (i + j))
  | .str x, .str y => guardE (decide (x.length + y.length ≤ big)) (pureE (.str (x ++ y)))
  | .tup [], .tup _ => failE
  | .tup (x :: xs), .tup ys => guardE (decide ((x :: xs).length + ys.length ≤ big)) (pureE (.tup (x :: xs ++ ys)))
  | _, _ => failE
def subD : D → D → EM D
  | .int i, .int j => pureE (.int (i - j))
  | _, _ => failE
def mulD : D → D → EM D
  | .int i, .int j => guardE (okMul i j) (pureE (.int (i * j)))
  | _, _ => failE
def divD : D → D → EM D
  | .int i, .int j => guardE (decide (0 < j ∧ j < 2 ^ 64)) (pureE (.int (i / j)))
  | _, _ => failE
def modD : D → D → EM D
  | .int i, .int j => guardE (decide (0 < j)) (pureE (.int (i % j)))
  | _, _ => failE
def powD : D → D → EM D
  | .int i, .int j => guardE (decide (0 ≤ j ∧ j ≤ 1000000 ∧ i.natAbs < 2 ^ 64)) (pureE (.int (i ^ j.toNat)))
  | _, _ => failE
def cmpI (p : Int → Int → Bool) : D → D → EM D
  | .int i, .int j => pureE (.bl (p i j))
  | _, _ => failE
def scalD : D → D → Option Bool
  | .non, .non => some true | .non, .int _ => some false | .int _, .non => some false | .non, .bl _ => some false | .bl _, .non => some false
  | .non, .str _ => some false | .str _, .non => some false
  | .int i, .int j => some (decide (i = j)) | .bl a, .bl b => some (decide (a = b)) | .str x, .str y => some (decide (x = y))
  | .int _, .str _ => some false | .str _, .int _ => some false | .bl _, .str _ => some false | .str _, .bl _ => some false
  | _, _ => none
mutual
def layD : D → Option PyData
  | .non => some .none
  | .bl b => some (.bool b)
  | .int i => some (.int i)
  | .str s => if PyData.strOk s then some (.str s) else none
  | .lst xs => match layAll xs with
    | some ps => some (.list ps)
    | none => none
  | .tup xs => match layAll xs with
    | some ps => some (.tuple ps)
    | none => none
  | _ => none
def layAll : List D → Option (List PyData)
  | [] => some []
  | d :: ds => match layD d, layAll ds with
    | some p, some ps => some (p :: ps)
    | _, _ => none
end
def eqD (d e : D) : Option Bool := match scalD d e with
  | some b => some b
  | none => match layD d, layD e with
    | some p, some q => if p.depth ≤ 64 ∧ q.depth ≤ 64 then some (PyData.eqv p q) else none
    | _, _ => none
def eqDD : D → D → EM D := fun d e => optE ((eqD d e).map .bl)
def neDD : D → D → EM D := fun d e => optE ((eqD d e).map fun b => .bl (!b))
def isND : D → D → EM D
  | .non, .non => pureE (.bl true)
  | .cell _, .non => pureE (.bl false)
  | .bl _, .non => pureE (.bl false)
  | .int _, .non => pureE (.bl false)
  | .str _, .non => pureE (.bl false)
  | .lst _, .non => pureE (.bl false)
  | .tup _, .non => pureE (.bl false)
  | .obj _ _, .non => pureE (.bl false)
  | _, _ => failE
def notND : D → D → EM D := fun d e => bindE (isND d e) fun z => match z with
  | .bl b => pureE (.bl (!b))
  | _ => failE
def flatD : D → Bool
  | .non => true | .bl _ => true | .int _ => true | .str _ => true
  | _ => false
def eqF : D → D → Bool
  | .non, .non => true
  | .bl a, .bl b => a == b
  | .bl a, .int b => (if a then 1 else 0) == b
  | .int a, .bl b => a == (if b then 1 else 0)
  | .int a, .int b => a == b
  | .str a, .str b => a == b
  | _, _ => false
def inL (x : D) (xs : List D) : Option Bool := if flatD x && xs.all flatD then some (xs.any fun y => eqF y x) else none
/-- the items of a list, a tuple, a list that is a cell -/
def seqD (d : D) (μ : Mu) : Option (List D) := match d with
  | .lst xs => some xs
  | .tup xs => some xs
  | .cell n => match μ[n]? with
    | some (.lst xs) => some xs
    | _ => none
  | _ => none
def seqE (d : D) : EM (List D) := fun μ => match seqD d μ with
  | some xs => some (.ok xs, μ)
  | none => none
def inD : D → D → EM D := fun x y => match x, y with
  | .str a, .str z => match a.cps.toList with
    | [c] => pureE (.bl (decide (c ∈ z.cps.toList)))
    | _ => failE
  | x, y => bindE (seqE y) fun xs => optE ((inL x xs).map .bl)
def notInD : D → D → EM D := fun x y => bindE (inD x y) fun z => match z with
  | .bl b => pureE (.bl (!b))
  | _ => failE

section
variable {W : Wd} {S S' S1 : Ws} {H H' H1 : Hp} {σ : St} {env : Env} {μ : Mu} {Wx : WX} {α β : Type}
theorem KG.val {Q : VK} {d : D} {v : V} (hS : Sg W S H μ) (h : KG W S H σ Wx (okV W Q) (.ok d, μ)) (r : RepV W S H v d) : Q v H := h.now hS v r
/-- list or tuple -/
theorem seqD_rep {v : V} {d : D} {xs : List D} (hS : Sg W S H μ) (h : RepB W S H v d) (e : seqD d μ = some xs) : ∃ a vs, v = .ref a ∧ (SqL W.K H a vs ∨ SqT W.K H a vs) ∧ vs.length ≤ big ∧ RepVs W S H vs xs := by
  cases d with
  | lst ys =>
    cases e
    obtain ⟨a, vs, e, h1, h2, r⟩ := h.lst
    exact ⟨a, vs, e, .inl (SqL.of h1), h2, r⟩
  | tup ys =>
    cases e
    obtain ⟨a, vs, e, h1, h2, r⟩ := h.tup
    exact ⟨a, vs, e, .inr h1, h2, r⟩
  | cell n =>
    obtain ⟨a, e1, e2, e3⟩ := h.cell
    have e : (match μ[n]? with
      | some (.lst xs) => some xs
      | _ => none) = some xs := e
    cases q : μ[n]? with
    | none => rw [q] at e; cases e
    | some c =>
      rw [q] at e
      cases c with
      | obj c fs => cases e
      | dK _ => cases e
      | dT _ => cases e
      | lst ys =>
        cases e
        obtain ⟨a', h1, h2, vs, h3, h4, r⟩ := hS.cells n _ q
        rw [e2] at h1; cases h1
        exact ⟨a, vs, e1, .inl (SqL.of h3), h4, r⟩
  | _ => cases e
theorem seqE_some {d : D} {xs : List D} {r : Out (List D) × Mu} (h : seqE d μ = some r) : ∃ xs, seqD d μ = some xs ∧ r = (.ok xs, μ) := by
  unfold seqE at h
  cases e : seqD d μ with
  | none => rw [e] at h; cases h
  | some xs => rw [e] at h; cases h; exact ⟨xs, rfl, rfl⟩
def rOr (r r' : R2) : R2 := fun x y H Q => r x y H Q ∨ r' x y H Q
/-! + -/
abbrev rAddS : R2 := fun x y H Q => ∃ i j, x = .str i ∧ y = .str j ∧ i.length + j.length ≤ sizeLine ∧ Q (.str (i ++ j)) H
def rAddAll (K : PySem.W.Frag) : R2 := fun x y H Q => (rI0 fun i j => .int (i + j)) x y H Q ∨ (rAddS x y H Q ∨ rCatT K x y H Q)
theorem opr_add {X : Cx} (hK : X.K = W.K) : OpR X (binaryOp .Add) (rAddAll W.K) := by
  rw [← hK]; exact OpR.or op_add (OpR.or op_add_str op_catT)
theorem str_len (x y : Str) : (x ++ y).length = x.length + y.length := by
  have := congrArg List.length (TL.tl_append x y)
  rw [List.length_append, ← TL.len_tl, ← TL.len_tl, ← TL.len_tl] at this
  exact this
theorem os_add : OpSpec W (rAddAll W.K) addD := by
  intro x y d e S H μ res σ Wx Q hS rx ry hf hk
  unfold addD at hf
  split at hf
  · cases rx.int; cases ry.int; cases hf
    exact .inl ⟨_, _, rfl, rfl, hk.val hS (.int _)⟩
  · obtain ⟨hl, hf⟩ := guardE_some hf
    cases hf
    have hl := of_decide_eq_true hl
    obtain ⟨rfl, _⟩ := rx.str
    obtain ⟨rfl, _⟩ := ry.str
    exact .inr (.inl ⟨_, _, rfl, rfl, Nat.le_trans hl big_le, hk.val hS (.str _ (by rw [str_len]; exact hl))⟩)
  · cases hf
  · rename_i z zs ys
    obtain ⟨hl, hf⟩ := guardE_some hf
    cases hf
    have hl := of_decide_eq_true hl
    obtain ⟨a, vs, rfl, h1, h2, r1⟩ := rx.tup
    obtain ⟨b, ws, rfl, h3, h4, r2⟩ := ry.tup
    have hne : vs ≠ [] := by intro q; subst q; cases r1
    have hlen : vs.length + ws.length ≤ big := by rw [r1.length, r2.length]; exact hl
    refine .inr (.inr ⟨a, b, vs, ws, rfl, rfl, h1, h3, hne, Nat.le_trans hlen big_le, fun q => ?_, fun q p hp => ?_⟩)
    · subst q
      cases r2
      rw [List.append_nil] at hk
      exact hk.val hS rx.tupV
    · have lt : LtE S H S (upd H p (.tup (vs ++ ws))) := lt_upd hp hS.wf
      exact hk S _ lt (hS.upd hp) _ (.tup upd_same (hS.fresh hp) (by rw [List.length_append]; exact hlen) ((r1.append r2).later lt))
  · cases hf
theorem os_int {C : Int → Int → Prop} {g : Int → Int → Int} {op : D → D → EM D} (h : ∀ d e r, op d e μ = some r → True) : True := trivial
theorem os_sub : OpSpec W (rI0 fun i j => .int (i - j)) subD := by
  intro x y d e S H μ res σ Wx Q hS rx ry hf hk
  unfold subD at hf
  split at hf
  · cases rx.int; cases ry.int; cases hf
    exact ⟨_, _, rfl, rfl, hk.val hS (.int _)⟩
  · cases hf
theorem os_mul : OpSpec W (rI CMul fun i j => .int (i * j)) mulD := by
  intro x y d e S H μ res σ Wx Q hS rx ry hf hk
  unfold mulD at hf
  split at hf
  · obtain ⟨hl, hf⟩ := guardE_some hf
    cases hf
    cases rx.int; cases ry.int
    refine ⟨_, _, rfl, rfl, ?_, hk.val hS (.int _)⟩
    unfold okMul at hl
    rcases (Bool.or_eq_true _ _).mp hl with hl | hl
    · exact .inl (of_decide_eq_true hl)
    · exact .inr (of_decide_eq_true hl)
  · cases hf
theorem os_div : OpSpec W (rI CDivW fun i j => .int (i / j)) divD := by
  intro x y d e S H μ res σ Wx Q hS rx ry hf hk
  unfold divD at hf
  split at hf
  · obtain ⟨hl, hf⟩ := guardE_some hf
    cases hf
    cases rx.int; cases ry.int
    have hl := of_decide_eq_true hl
    exact ⟨_, _, rfl, rfl, wide_div (b := 64) hl.1 (by omega) (by decide) (by decide), hk.val hS (.int _)⟩
  · cases hf
theorem os_mod : OpSpec W (rI (fun _ j => 0 < j) fun i j => .int (i % j)) modD := by
  intro x y d e S H μ res σ Wx Q hS rx ry hf hk
  unfold modD at hf
  split at hf
  · obtain ⟨hl, hf⟩ := guardE_some hf
    cases hf
    cases rx.int; cases ry.int
    exact ⟨_, _, rfl, rfl, of_decide_eq_true hl, hk.val hS (.int _)⟩
  · cases hf
theorem os_pow : OpSpec W (rI CPow fun i j => .int (i ^ j.toNat)) powD := by
  intro x y d e S H μ res σ Wx Q hS rx ry hf hk
  unfold powD at hf
  split at hf
  · obtain ⟨hl, hf⟩ := guardE_some hf
    cases hf
    cases rx.int; cases ry.int
    have hl := of_decide_eq_true hl
    exact ⟨_, _, rfl, rfl, hl, hk.val hS (.int _)⟩
  · cases hf
theorem os_cmp (p : Int → Int → Bool) : OpSpec W (rI0 fun i j => .bl (p i j)) (cmpI p) := by
  intro x y d e S H μ res σ Wx Q hS rx ry hf hk
  unfold cmpI at hf
  split at hf
  · cases rx.int; cases ry.int; cases hf
    exact ⟨_, _, rfl, rfl, hk.val hS (.bl _)⟩
  · cases hf
/-! == -/
mutual
theorem lay_dp : ∀ {v : V} {d : D} {p : PyData}, RepV W S H v d → layD d = some p → Dp W.K H v p ∧ p.canLay0 = true
  | _, _, _, .non, e => by cases e; exact ⟨.non, rfl⟩
  | _, _, _, .bl b, e => by cases e; exact ⟨.bl b, rfl⟩
  | _, _, _, .int i, e => by cases e; exact ⟨.int i, rfl⟩
  | _, _, _, .str s h, e => by
    unfold layD at e
    split at e
    · cases e; rename_i q; exact ⟨.str s, by simpa [PyData.canLay0] using q⟩
    · cases e
  | _, _, _, .lst (ds := ds) h1 h2 h3 h4, e => by
    unfold layD at e
    cases q : layAll ds with
    | none => rw [q] at e; cases e
    | some ps =>
      rw [q] at e; cases e
      obtain ⟨r, z⟩ := lay_dps h4 q
      exact ⟨.lst (SqL.of h1) r, by simpa [PyData.canLay0] using z⟩
  | _, _, _, .tup (ds := ds) h1 h2 h3 h4, e => by
    unfold layD at e
    cases q : layAll ds with
    | none => rw [q] at e; cases e
    | some ps =>
      rw [q] at e; cases e
      obtain ⟨r, z⟩ := lay_dps h4 q
      exact ⟨.tup (SqT.of h1) r, by simpa [PyData.canLay0] using z⟩
  | _, _, _, .tupK (ds := ds) h1 h3 h4, e => by
    unfold layD at e
    cases q : layAll ds with
    | none => rw [q] at e; cases e
    | some ps =>
      rw [q] at e; cases e
      obtain ⟨r, z⟩ := lay_dps h4 q
      exact ⟨.tup h1.seq r, by simpa [PyData.canLay0] using z⟩
  | _, _, _, .obj _ _ _, e => by unfold layD at e; cases e
  | _, _, _, .cell _ _, e => by unfold layD at e; cases e
  | _, _, _, .scr _ _ _ _, e => by unfold layD at e; cases e
  | _, _, _, .scrK _ _, e => by unfold layD at e; cases e
  | _, _, _, .dK _ _ _ _, e => by unfold layD at e; cases e
  | _, _, _, .dT _ _ _ _, e => by unfold layD at e; cases e
theorem lay_dps : ∀ {vs : List V} {ds : List D} {ps : List PyData}, RepVs W S H vs ds → layAll ds = some ps → DpAll W.K H vs ps ∧ PyData.canLayAll0 ps = true
  | _, _, _, .nil, e => by unfold layAll at e; cases e; exact ⟨.nil, rfl⟩
  | _, _, _, .cons (d := d) (ds := ds) r t, e => by
    unfold layAll at e
    cases q1 : layD d with
    | none => rw [q1] at e; cases e
    | some p =>
      cases q2 : layAll ds with
      | none => rw [q1, q2] at e; cases e
      | some ps =>
        rw [q1, q2] at e
        cases e
        obtain ⟨a, x⟩ := lay_dp r q1
        obtain ⟨b, y⟩ := lay_dps t q2
        exact ⟨.cons a b, by simp [PyData.canLayAll0, x, y]⟩
end
theorem lay_B {v : V} {d : D} {p : PyData} (h : RepB W S H v d) (e : layD d = some p) : Dp W.K H v p ∧ p.canLay0 = true := by
  rcases h with h | ⟨a, w, c, e1, e2, e3, e4, r⟩
  · exact lay_dp h e
  · subst e1 e2
    cases c with
    | lst xs =>
      obtain ⟨vs, h1, h2, h3⟩ := r
      unfold Cell.toD layD at e
      cases q : layAll xs with
      | none => rw [q] at e; cases e
      | some ps =>
        rw [q] at e; cases e
        obtain ⟨r, z⟩ := lay_dps h3 q
        exact ⟨.lst (SqL.of h1) r, by simpa [PyData.canLay0] using z⟩
    | obj c fs => unfold Cell.toD layD at e; cases e
    | dK _ => unfold Cell.toD layD at e; cases e
    | dT _ => unfold Cell.toD layD at e; cases e
theorem scal_rep {x y : V} {d e : D} {b : Bool} (rx : RepB W S H x d) (ry : RepB W S H y e) (h : scalD d e = some b) : scal x y = true ∧ decide (x = y) = b := by
  unfold scalD at h
  split at h <;> first
    | (cases h; done)
    | (cases h; cases rx.non; cases ry.non; exact ⟨rfl, by decide⟩)
    | (cases h; cases rx.non; cases ry.int; exact ⟨rfl, by simp⟩)
    | (cases h; cases rx.int; cases ry.non; exact ⟨rfl, by simp⟩)
    | (cases h; cases rx.non; cases ry.bl; exact ⟨rfl, by simp⟩)
    | (cases h; cases rx.bl; cases ry.non; exact ⟨rfl, by simp⟩)
    | (cases h; cases rx.non; cases ry.str.1; exact ⟨rfl, by simp⟩)
    | (cases h; cases rx.str.1; cases ry.non; exact ⟨rfl, by simp⟩)
    | (cases h; cases rx.int; cases ry.int; exact ⟨rfl, by simp⟩)
    | (cases h; cases rx.bl; cases ry.bl; exact ⟨rfl, by simp⟩)
    | (cases h; cases rx.str.1; cases ry.str.1; exact ⟨rfl, by simp⟩)
    | (cases h; cases rx.int; cases ry.str.1; exact ⟨rfl, by simp⟩)
    | (cases h; cases rx.str.1; cases ry.int; exact ⟨rfl, by simp⟩)
    | (cases h; cases rx.bl; cases ry.str.1; exact ⟨rfl, by simp⟩)
    | (cases h; cases rx.str.1; cases ry.bl; exact ⟨rfl, by simp⟩)
def rEqAll (K : PySem.W.Frag) : R2 := fun x y H Q => rEq x y H Q ∨ rEqD K x y H Q
def rNeAll (K : PySem.W.Frag) : R2 := fun x y H Q => rNe x y H Q ∨ rNeD K x y H Q
theorem opr_eq {X : Cx} (hK : X.K = W.K) (hu : X.A.units + 64 < cLine) : OpR X (compareOp .Eq) (rEqAll W.K) := by
  rw [← hK]; exact OpR.or op_eq (op_eqD hu)
theorem opr_ne {X : Cx} (hK : X.K = W.K) (hu : X.A.units + 64 < cLine) : OpR X (compareOp .NotEq) (rNeAll W.K) := by
  rw [← hK]; exact OpR.or op_ne (op_neD hu)
theorem eqD_rep {x y : V} {d e : D} {b : Bool} (rx : RepB W S H x d) (ry : RepB W S H y e) (h : eqD d e = some b) :
    (scal x y = true ∧ decide (x = y) = b) ∨ ∃ p q, Dp W.K H x p ∧ Dp W.K H y q ∧ SeqAt.shaped p = true ∧ SeqAt.shaped q = true ∧ PyData.eqv p q = b := by
  unfold eqD at h
  cases q : scalD d e with
  | some c => rw [q] at h; cases h; exact .inl (scal_rep rx ry q)
  | none =>
    rw [q] at h
    cases q1 : layD d with
    | none => rw [q1] at h; cases h
    | some p =>
      cases q2 : layD e with
      | none => rw [q1, q2] at h; cases h
      | some p' =>
        rw [q1, q2] at h
        simp only at h
        split at h
        · cases h
          rename_i hd
          obtain ⟨a, x⟩ := lay_B rx q1
          obtain ⟨b, y⟩ := lay_B ry q2
          exact .inr ⟨p, p', a, b, by simp [SeqAt.shaped, x, hd.1], by simp [SeqAt.shaped, y, hd.2], rfl⟩
        · cases h
theorem map_some {α β : Type} {o : Option α} {f : α → β} {b : β} (h : o.map f = some b) : ∃ a, o = some a ∧ f a = b := by
  cases o with
  | none => cases h
  | some a => cases h; exact ⟨a, rfl, rfl⟩
theorem os_eq : OpSpec W (rEqAll W.K) eqDD := by
  intro x y d e S H μ res σ Wx Q hS rx ry hf hk
  obtain ⟨z, hz, rfl⟩ := optE_some hf
  obtain ⟨b, hb, rfl⟩ := map_some hz
  have q := hk.val hS (.bl _)
  rcases eqD_rep rx ry hb with ⟨h1, h2⟩ | ⟨p, p', h1, h2, h3, h4, h5⟩
  · exact .inl ⟨h1, by rw [h2]; exact q⟩
  · exact .inr ⟨p, p', h1, h2, h3, h4, by rw [h5]; exact q⟩
theorem os_ne : OpSpec W (rNeAll W.K) neDD := by
  intro x y d e S H μ res σ Wx Q hS rx ry hf hk
  obtain ⟨z, hz, rfl⟩ := optE_some hf
  obtain ⟨b, hb, rfl⟩ := map_some hz
  have q := hk.val hS (.bl _)
  rcases eqD_rep rx ry hb with ⟨h1, h2⟩ | ⟨p, p', h1, h2, h3, h4, h5⟩
  · exact .inl ⟨h1, by rw [h2]; exact q⟩
  · exact .inr ⟨p, p', h1, h2, h3, h4, by rw [h5]; exact q⟩
/-! is None -/
theorem isN_rep {x y : V} {d e : D} {res : Out D × Mu} (rx : RepB W S H x d) (ry : RepB W S H y e) (h : isND d e μ = some res) : y = .non ∧ res = (.ok (.bl (decide (x = .non))), μ) := by
  unfold isND at h
  split at h <;> first
    | (cases h; done)
    | (cases h; cases rx.non; cases ry.non; exact ⟨rfl, rfl⟩)
    | (cases h; obtain ⟨a, rfl, _⟩ := rx.cell; cases ry.non; exact ⟨rfl, by simp⟩)
    | (cases h; cases rx.bl; cases ry.non; exact ⟨rfl, by simp⟩)
    | (cases h; cases rx.int; cases ry.non; exact ⟨rfl, by simp⟩)
    | (cases h; cases rx.str.1; cases ry.non; exact ⟨rfl, by simp⟩)
    | (cases h; obtain ⟨a, vs, rfl, _⟩ := rx.lst; cases ry.non; exact ⟨rfl, by simp⟩)
    | (cases h; obtain ⟨a, vs, rfl, _⟩ := rx.tup; cases ry.non; exact ⟨rfl, by simp⟩)
    | (cases h; obtain ⟨a, dx, vs, rfl, _⟩ := rx.obj; cases ry.non; exact ⟨rfl, by simp⟩)
abbrev rIsN : R2 := fun x y H Q => y = .non ∧ Q (.bl (decide (x = .non))) H
abbrev rNotN : R2 := fun x y H Q => y = .non ∧ Q (.bl (!decide (x = .non))) H
theorem os_isN : OpSpec W rIsN isND := by
  intro x y d e S H μ res σ Wx Q hS rx ry hf hk
  obtain ⟨h1, h2⟩ := isN_rep rx ry hf
  subst h2
  exact ⟨h1, hk.val hS (.bl _)⟩
theorem os_notN : OpSpec W rNotN notND := by
  intro x y d e S H μ res σ Wx Q hS rx ry hf hk
  obtain ⟨r1, hr1, hk1⟩ := KG.bind hf hk
  obtain ⟨h1, h2⟩ := isN_rep rx ry hr1
  subst h2
  obtain ⟨μ', g', l', hf', hk'⟩ := hk1.now hS
  cases hf'
  exact ⟨h1, hk'.now g' _ (.bl _)⟩
/-! in -/
theorem flat_rep {v : V} {d : D} (h : RepB W S H v d) (f : flatD d = true) : flatV v = true := by
  cases d with
  | non => rw [h.non]; rfl
  | bl b => rw [h.bl]; rfl
  | int i => rw [h.int]; rfl
  | str s => rw [h.str.1]; rfl
  | _ => cases f
theorem eqF_rep {x y : V} {d e : D} (hx : RepB W S H x d) (hy : RepB W S H y e) (fx : flatD d = true) (fy : flatD e = true) : eqV y x = eqF e d := by
  cases d <;> first
    | (cases fx; done)
    | skip
  all_goals cases e <;> first
    | (cases fy; done)
    | skip
  all_goals
    first | cases hx.non | cases hx.bl | cases hx.int | cases hx.str.1
    first | cases hy.non | cases hy.bl | cases hy.int | cases hy.str.1
    rfl
theorem flats_rep {vs : List V} {ds : List D} (h : RepVs W S H vs ds) (f : ds.all flatD = true) : vs.all flatV = true := by
  induction vs generalizing ds with
  | nil => rfl
  | cons v vs ih =>
    cases h with
    | cons r t =>
      simp only [List.all_cons, Bool.and_eq_true] at f ⊢
      exact ⟨flat_rep (.inl r) f.1, ih t f.2⟩
theorem any_rep {x : V} {d : D} (hx : RepB W S H x d) (fx : flatD d = true) {vs : List V} {ds : List D} (h : RepVs W S H vs ds) (f : ds.all flatD = true) : inV x vs = ds.any fun y => eqF y d := by
  induction vs generalizing ds with
  | nil => cases h; rfl
  | cons v vs ih =>
    cases h with
    | cons r t =>
      simp only [List.all_cons, Bool.and_eq_true] at f
      have := ih t f.2
      unfold inV at this ⊢
      rw [List.any_cons, List.any_cons, this, eqF_rep hx (.inl r) fx f.1]
abbrev rInSg : R2 := fun x y H Q => ∃ (c : Nat) (z : Str), x = .str ⟨#[c]⟩ ∧ y = .str z ∧ Q (.bl (decide (c ∈ z.cps.toList))) H
abbrev rNotInSg : R2 := fun x y H Q => ∃ (c : Nat) (z : Str), x = .str ⟨#[c]⟩ ∧ y = .str z ∧ Q (.bl (!decide (c ∈ z.cps.toList))) H
def rInAll (K : PySem.W.Frag) : R2 := fun x y H Q => rInSg x y H Q ∨ rIn K false x y H Q
def rNotInAll (K : PySem.W.Frag) : R2 := fun x y H Q => rNotInSg x y H Q ∨ rIn K true x y H Q
theorem opr_in {X : Cx} (hK : X.K = W.K) : OpR X (compareOp .In) (rInAll W.K) := by
  rw [← hK]; exact OpR.or op_in_sign op_in_seq
theorem opr_notIn {X : Cx} (hK : X.K = W.K) : OpR X (compareOp .NotIn) (rNotInAll W.K) := by
  rw [← hK]; exact OpR.or op_notIn_sign op_notIn_seq
theorem in_rep {x y : V} {d e : D} {res : Out D × Mu} (hS : Sg W S H μ) (rx : RepB W S H x d) (ry : RepB W S H y e) (h : inD d e μ = some res) :
    (∃ (c : Nat) (z : Str), x = .str ⟨#[c]⟩ ∧ y = .str z ∧ res = (.ok (.bl (decide (c ∈ z.cps.toList))), μ)) ∨
    ∃ p xs, y = .ref p ∧ (SqL W.K H p xs ∨ SqT W.K H p xs) ∧ flatV x = true ∧ xs.all flatV = true ∧ res = (.ok (.bl (inV x xs)), μ) := by
  unfold inD at h
  split at h
  · rename_i a z
    cases q : a.cps.toList with
    | nil => rw [q] at h; cases h
    | cons c t =>
      cases t with
      | cons c' t => rw [q] at h; cases h
      | nil =>
        rw [q] at h
        cases h
        obtain ⟨rfl, _⟩ := rx.str
        obtain ⟨rfl, _⟩ := ry.str
        refine .inl ⟨c, z, ?_, rfl, rfl⟩
        have : a = ⟨#[c]⟩ := Str.ext' (Array.toList_inj.mp (by rw [q]))
        rw [this]
  · unfold bindE at h
    cases q : seqE e μ with
    | none => rw [q] at h; cases h
    | some r =>
      obtain ⟨ds, hds, rfl⟩ := seqE_some (xs := []) q
      rw [q] at h
      obtain ⟨z, hz, rfl⟩ := optE_some h
      obtain ⟨b, hb, rfl⟩ := map_some hz
      unfold inL at hb
      split at hb
      · cases hb
        rename_i hfl
        rw [Bool.and_eq_true] at hfl
        obtain ⟨p, vs, rfl, hs, hl, rv⟩ := seqD_rep hS ry hds
        exact .inr ⟨p, vs, rfl, hs, flat_rep rx hfl.1, flats_rep rv hfl.2, by rw [any_rep rx hfl.1 rv hfl.2]⟩
      · cases hb
theorem os_in : OpSpec W (rInAll W.K) inD := by
  intro x y d e S H μ res σ Wx Q hS rx ry hf hk
  rcases in_rep hS rx ry hf with ⟨c, z, h1, h2, rfl⟩ | ⟨p, xs, h1, h2, h3, h4, rfl⟩
  · exact .inl ⟨c, z, h1, h2, hk.val hS (.bl _)⟩
  · exact .inr ⟨p, xs, h1, h2, h3, h4, by rw [if_neg Bool.false_ne_true]; exact hk.val hS (.bl _)⟩
theorem os_notIn : OpSpec W (rNotInAll W.K) notInD := by
  intro x y d e S H μ res σ Wx Q hS rx ry hf hk
  obtain ⟨r1, hr1, hk1⟩ := KG.bind hf hk
  rcases in_rep hS rx ry hr1 with ⟨c, z, h1, h2, rfl⟩ | ⟨p, xs, h1, h2, h3, h4, rfl⟩
  · obtain ⟨μ', g', l', hf', hk'⟩ := hk1.now hS
    cases hf'
    exact .inl ⟨c, z, h1, h2, hk'.now g' _ (.bl _)⟩
  · obtain ⟨μ', g', l', hf', hk'⟩ := hk1.now hS
    cases hf'
    exact .inr ⟨p, xs, h1, h2, h3, h4, by rw [if_pos rfl]; exact hk'.now g' _ (.bl _)⟩
end
end EG
namespace EG
open PySem L2

/-! built-in functions on data -/
def lenD : List D → EM D
  | [.str s] => pureE (.int s.length)
  | [d] => bindE (seqE d) fun xs => pureE (.int xs.length)
  | _ => failE
def absD : List D → EM D
  | [.int i] => pureE (.int (if i < 0 then -i else i))
  | _ => failE
def intD : List D → EM D
  | [.int i] => pureE (.int i)
  | [.bl b] => pureE (.int (if b then 1 else 0))
  | [.str s] => guardE (decide (s.length ≤ 640)) (optE ((PySem.intText? s).map .int))
  | _ => failE
def strD : List D → EM D
  | [.int i] => guardE (decide (i.natAbs.log2 < 1920) && decide ((Str.ofString (toString i)).length ≤ big)) (pureE (.str (toString i)))
  | _ => failE
def boolD : List D → EM D
  | [.int i] => pureE (.bl (i != 0))
  | [.bl b] => pureE (.bl b)
  | _ => failE
def boolsD : List D → Option (List Bool)
  | [] => some []
  | .bl b :: r => (boolsD r).map (b :: ·)
  | _ => none
def intsD : List D → Option (List Int)
  | [] => some []
  | .int i :: r => (intsD r).map (i :: ·)
  | _ => none
def strsD : List D → Option (List Str)
  | [] => some []
  | .str i :: r => (strsD r).map (i :: ·)
  | _ => none
/-- a list (no tuple): its items -/
def lstD (d : D) (μ : Mu) : Option (List D) := match d with
  | .lst xs => some xs
  | .cell n => match μ[n]? with
    | some (.lst xs) => some xs
    | _ => none
  | _ => none
def lstE (d : D) : EM (List D) := fun μ => match lstD d μ with
  | some xs => some (.ok xs, μ)
  | none => none
def allD : List D → EM D
  | [d] => bindE (lstE d) fun xs => optE ((boolsD xs).map fun bs => .bl (bs.all id))
  | _ => failE
def anyD : List D → EM D
  | [d] => bindE (lstE d) fun xs => optE ((boolsD xs).map fun bs => .bl (bs.any id))
  | _ => failE
def sumD : List D → EM D
  | [d] => bindE (lstE d) fun xs => optE ((intsD xs).map fun ns => .int ns.sum)
  | _ => failE
def maxL : List Int → Int
  | [] => 0
  | [x] => x
  | x :: r => max x (maxL r)
def minL : List Int → Int
  | [] => 0
  | [x] => x
  | x :: r => min x (minL r)
def maxD : List D → EM D
  | [d] => bindE (lstE d) fun xs => optE (match intsD xs with
    | some (n :: ns) => some (.int (maxL (n :: ns)))
    | _ => none)
  | [.int i, .int j] => pureE (.int (max i j))
  | _ => failE
def minD : List D → EM D
  | [d] => bindE (lstE d) fun xs => optE (match intsD xs with
    | some (n :: ns) => some (.int (minL (n :: ns)))
    | _ => none)
  | [.int i, .int j] => pureE (.int (min i j))
  | _ => failE
def sortI (ns : List Int) : List Int := ns.mergeSort fun a b => decide (a ≤ b)
def sortedD : List D → EM (List D)
  | [d] => bindE (lstE d) fun xs => match intsD xs with
    | some ns => guardE (decide (ns.length < 64)) (pureE ((sortI ns).map .int))
    | none => failE
  | _ => failE
def listD : List D → EM (List D)
  | [d] => seqE d
  | _ => failE
def tupleD : List D → EM D
  | [d] => bindE (seqE d) fun xs => pureE (.tup xs)
  | _ => failE
inductive Tag where
  | ty (n : String) | cls (c : Nat)
def tagD (d : D) (μ : Mu) : Option Tag := match d with
  | .non => some (.ty "NoneType") | .bl _ => some (.ty "bool") | .int _ => some (.ty "int") | .str _ => some (.ty "str")
  | .lst _ => some (.ty "list") | .tup _ => some (.ty "tuple") | .obj c _ => some (.cls c)
  | .cell n => match μ[n]? with
    | some (.lst _) => some (.ty "list")
    | some (.obj c _) => some (.cls c)
    | _ => none
  | _ => none
/-- the built-in classes met -/
def tyTab (a b : String) : Option Bool :=
  if a = "bool" ∧ b = "int" then some true else
  if ["NoneType", "bool", "int", "str", "list", "tuple"].contains a && ["bool", "int", "str", "list", "tuple"].contains b then some (a == b) else none
abbrev Isi := Tag → Tag → Option Bool
def isi1 (T : Isi) (t c : Tag) : Option Bool := match t, c with
  | .ty a, .ty b => tyTab a b
  | t, c => T t c
def isiAny (T : Isi) (t : Tag) : List Tag → Option Bool
  | [] => some false
  | c :: r => match isi1 T t c with
    | some true => some true
    | some false => isiAny T t r
    | none => none
def isiE (T : Isi) (cs : List Tag) (d : D) : EM D := fun μ => match tagD d μ with
  | some t => match isiAny T t cs with
    | some b => some (.ok (.bl b), μ)
    | none => none
  | none => none

section
variable {W : Wd} {S S' S1 : Ws} {H H' H1 : Hp} {σ : St} {env : Env} {μ : Mu} {Wx : WX} {α β : Type}
theorem RepBs.one {vs : List V} {d : D} (h : RepBs W S H vs [d]) : ∃ v, vs = [v] ∧ RepB W S H v d := by
  cases h with | cons r t => cases t; exact ⟨_, rfl, r⟩
theorem RepBs.two {vs : List V} {d e : D} (h : RepBs W S H vs [d, e]) : ∃ v w, vs = [v, w] ∧ RepB W S H v d ∧ RepB W S H w e := by
  cases h with | cons r t => cases t with | cons r2 t => cases t; exact ⟨_, _, rfl, r, r2⟩
theorem seqE_now {d : D} {g : List D → EM α} {ok : α → Ws → Hp → Prop} {r : Out α × Mu} (h : bindE (seqE d) g μ = some r) : ∃ xs, seqD d μ = some xs ∧ g xs μ = some r := by
  unfold bindE at h
  cases q : seqE d μ with
  | none => rw [q] at h; cases h
  | some z =>
    obtain ⟨xs, e, rfl⟩ := seqE_some (xs := []) q
    rw [q] at h
    exact ⟨xs, e, h⟩
theorem lstE_now {d : D} {g : List D → EM α} {r : Out α × Mu} (h : bindE (lstE d) g μ = some r) : ∃ xs, lstD d μ = some xs ∧ g xs μ = some r := by
  unfold bindE lstE at h
  cases q : lstD d μ with
  | none => rw [q] at h; cases h
  | some xs => rw [q] at h; exact ⟨xs, rfl, h⟩
theorem lstD_rep {v : V} {d : D} {xs : List D} (hS : Sg W S H μ) (h : RepB W S H v d) (e : lstD d μ = some xs) : ∃ a vs, v = .ref a ∧ H a = some (.lst vs) ∧ vs.length ≤ big ∧ RepVs W S H vs xs := by
  cases d with
  | lst ys =>
    cases e
    exact h.lst
  | cell n =>
    obtain ⟨a, e1, e2, e3⟩ := h.cell
    have e : (match μ[n]? with
      | some (.lst xs) => some xs
      | _ => none) = some xs := e
    cases q : μ[n]? with
    | none => rw [q] at e; cases e
    | some c =>
      rw [q] at e
      cases c with
      | obj c fs => cases e
      | dK _ => cases e
      | dT _ => cases e
      | lst ys =>
        cases e
        obtain ⟨a', h1, h2, vs, h3, h4, r⟩ := hS.cells n _ q
        rw [e2] at h1; cases h1
        exact ⟨a, vs, e1, h3, h4, r⟩
  | _ => cases e
theorem cs_len {X : Cx} (hK : X.K = W.K) : CallSpec W (fun xs H Q => ∃ x n, xs = [x] ∧ LenV X.K x H n ∧ Q (.int n) H) lenD := by
  intro vs ds S H μ res σ Wx Q hS r hf hk
  rw [hK]
  unfold lenD at hf
  split at hf
  · obtain ⟨v, rfl, rv⟩ := r.one
    cases hf
    obtain ⟨rfl, h2⟩ := rv.str
    exact ⟨_, _, rfl, ⟨Nat.le_trans h2 big_le, rfl⟩, hk.val hS (.int _)⟩
  · obtain ⟨v, rfl, rv⟩ := r.one
    obtain ⟨xs, e, hf⟩ := seqE_now (ok := okV W Q) hf
    cases hf
    obtain ⟨a, ws, rfl, h1, h2, h3⟩ := seqD_rep hS rv e
    refine ⟨_, ws.length, rfl, ?_, ?_⟩
    · rcases h1 with h1 | h1
      · exact .inl ⟨ws, h1, rfl⟩
      · exact .inr ⟨ws, h1, rfl⟩
    · rw [h3.length]; exact hk.val hS (.int _)
  · cases hf
theorem cs_abs : CallSpec W (fun xs H Q => ∃ i, xs = [.int i] ∧ Q (.int (if i < 0 then -i else i)) H) absD := by
  intro vs ds S H μ res σ Wx Q hS r hf hk
  unfold absD at hf
  split at hf
  · obtain ⟨v, rfl, rv⟩ := r.one
    cases hf; cases rv.int
    exact ⟨_, rfl, hk.val hS (.int _)⟩
  · cases hf
def rIntAll : List V → Hp → VK → Prop := fun xs H Q => ((∃ i, xs = [.int i] ∧ Q (.int i) H) ∨ ∃ k, xs = [.bl k] ∧ Q (.int (if k then 1 else 0)) H) ∨ ∃ a n, xs = [.str a] ∧ PySem.intText? a = some n ∧ a.length ≤ 640 ∧ Q (.int n) H
theorem cr_int {X : Cx} : CallR X (.type "int") rIntAll := CallR.or call_int1 call_int_str
theorem cs_int : CallSpec W rIntAll intD := by
  intro vs ds S H μ res σ Wx Q hS r hf hk
  unfold intD at hf
  split at hf
  · obtain ⟨v, rfl, rv⟩ := r.one
    cases hf; cases rv.int
    exact .inl (.inl ⟨_, rfl, hk.val hS (.int _)⟩)
  · obtain ⟨v, rfl, rv⟩ := r.one
    cases hf; cases rv.bl
    exact .inl (.inr ⟨_, rfl, hk.val hS (.int _)⟩)
  · obtain ⟨v, rfl, rv⟩ := r.one
    obtain ⟨hl, hf⟩ := guardE_some hf
    obtain ⟨z, hz, rfl⟩ := optE_some hf
    obtain ⟨n, hn, rfl⟩ := map_some hz
    obtain ⟨rfl, _⟩ := rv.str
    exact .inr ⟨_, n, rfl, hn, of_decide_eq_true hl, hk.val hS (.int _)⟩
  · cases hf
theorem cs_str : CallSpec W (fun xs H Q => ∃ i, xs = [.int i] ∧ i.natAbs.log2 < 1920 ∧ Q (.str (toString i)) H) strD := by
  intro vs ds S H μ res σ Wx Q hS r hf hk
  unfold strD at hf
  split at hf
  · obtain ⟨v, rfl, rv⟩ := r.one
    obtain ⟨hl, hf⟩ := guardE_some hf
    cases hf; cases rv.int
    rw [Bool.and_eq_true] at hl
    exact ⟨_, rfl, of_decide_eq_true hl.1, hk.val hS (.str _ (of_decide_eq_true hl.2))⟩
  · cases hf
theorem cs_bool : CallSpec W (fun xs H Q => (∃ i, xs = [.int i] ∧ Q (.bl (i != 0)) H) ∨ ∃ k, xs = [.bl k] ∧ Q (.bl k) H) boolD := by
  intro vs ds S H μ res σ Wx Q hS r hf hk
  unfold boolD at hf
  split at hf
  · obtain ⟨v, rfl, rv⟩ := r.one
    cases hf; cases rv.int
    exact .inl ⟨_, rfl, hk.val hS (.bl _)⟩
  · obtain ⟨v, rfl, rv⟩ := r.one
    cases hf; cases rv.bl
    exact .inr ⟨_, rfl, hk.val hS (.bl _)⟩
  · cases hf
theorem bools_rep : ∀ {vs : List V} {ds : List D} {bs : List Bool}, RepVs W S H vs ds → boolsD ds = some bs → vs = bs.map V.bl
  | _, _, _, .nil, e => by cases e; rfl
  | _, _, _, .cons (d := d) (ds := ds) r t, e => by
    cases d with
    | bl b =>
      obtain ⟨q, hq, rfl⟩ := map_some e
      cases r
      rw [List.map_cons, bools_rep t hq]
    | _ => cases e
theorem ints_rep : ∀ {vs : List V} {ds : List D} {bs : List Int}, RepVs W S H vs ds → intsD ds = some bs → vs = bs.map V.int
  | _, _, _, .nil, e => by cases e; rfl
  | _, _, _, .cons (d := d) (ds := ds) r t, e => by
    cases d with
    | int b =>
      obtain ⟨q, hq, rfl⟩ := map_some e
      cases r
      rw [List.map_cons, ints_rep t hq]
    | _ => cases e
theorem strs_rep : ∀ {vs : List V} {ds : List D} {bs : List Str}, RepVs W S H vs ds → strsD ds = some bs → vs = bs.map V.str ∧ ∀ b ∈ bs, b.length ≤ big
  | _, _, _, .nil, e => by cases e; exact ⟨rfl, fun _ h => nomatch h⟩
  | _, _, _, .cons (d := d) (ds := ds) r t, e => by
    cases d with
    | str b =>
      obtain ⟨q, hq, rfl⟩ := map_some e
      cases r with
      | str _ hb =>
        obtain ⟨h1, h2⟩ := strs_rep t hq
        exact ⟨by rw [List.map_cons, h1], fun x hx => by
          rcases List.mem_cons.mp hx with rfl | hx
          · exact hb
          · exact h2 x hx⟩
    | _ => cases e
theorem cs_all : CallSpec W (rAll W.K) allD := by
  intro vs ds S H μ res σ Wx Q hS r hf hk
  unfold allD at hf
  split at hf
  · obtain ⟨v, rfl, rv⟩ := r.one
    obtain ⟨xs, e, hf⟩ := lstE_now hf
    obtain ⟨z, hz, rfl⟩ := optE_some hf
    obtain ⟨bs, hb, rfl⟩ := map_some hz
    obtain ⟨a, ws, rfl, h1, h2, h3⟩ := lstD_rep hS rv e
    cases bools_rep h3 hb
    exact ⟨a, bs, rfl, SqL.of h1, hk.val hS (.bl _)⟩
  · cases hf
theorem cs_any : CallSpec W (rAny W.K) anyD := by
  intro vs ds S H μ res σ Wx Q hS r hf hk
  unfold anyD at hf
  split at hf
  · obtain ⟨v, rfl, rv⟩ := r.one
    obtain ⟨xs, e, hf⟩ := lstE_now hf
    obtain ⟨z, hz, rfl⟩ := optE_some hf
    obtain ⟨bs, hb, rfl⟩ := map_some hz
    obtain ⟨a, ws, rfl, h1, h2, h3⟩ := lstD_rep hS rv e
    cases bools_rep h3 hb
    exact ⟨a, bs, rfl, SqL.of h1, hk.val hS (.bl _)⟩
  · cases hf
theorem cs_sum : CallSpec W (rSum W.K) sumD := by
  intro vs ds S H μ res σ Wx Q hS r hf hk
  unfold sumD at hf
  split at hf
  · obtain ⟨v, rfl, rv⟩ := r.one
    obtain ⟨xs, e, hf⟩ := lstE_now hf
    obtain ⟨z, hz, rfl⟩ := optE_some hf
    obtain ⟨bs, hb, rfl⟩ := map_some hz
    obtain ⟨a, ws, rfl, h1, h2, h3⟩ := lstD_rep hS rv e
    cases ints_rep h3 hb
    exact ⟨a, bs, rfl, SqL.of h1, hk.val hS (.int _)⟩
  · cases hf
theorem maxL_mem : ∀ (ns : List Int), ns ≠ [] → maxL ns ∈ ns
  | [], h => (h rfl).elim
  | [x], _ => by simp [maxL]
  | x :: y :: r, _ => by
    have ih := maxL_mem (y :: r) (by simp)
    show max x (maxL (y :: r)) ∈ _
    by_cases h : x ≤ maxL (y :: r)
    · rw [Int.max_eq_right h]; exact List.mem_cons_of_mem _ ih
    · rw [Int.max_eq_left (by omega)]; exact List.mem_cons_self
theorem le_maxL : ∀ (ns : List Int) (y : Int), y ∈ ns → y ≤ maxL ns
  | [x], y, h => by simp at h; subst h; exact Int.le_refl _
  | x :: z :: r, y, h => by
    show y ≤ max x (maxL (z :: r))
    rcases List.mem_cons.mp h with rfl | h
    · exact Int.le_max_left _ _
    · exact Int.le_trans (le_maxL (z :: r) y h) (Int.le_max_right _ _)
theorem minL_mem : ∀ (ns : List Int), ns ≠ [] → minL ns ∈ ns
  | [], h => (h rfl).elim
  | [x], _ => by simp [minL]
  | x :: y :: r, _ => by
    have ih := minL_mem (y :: r) (by simp)
    show min x (minL (y :: r)) ∈ _
    by_cases h : x ≤ minL (y :: r)
    · rw [Int.min_eq_left h]; exact List.mem_cons_self
    · rw [Int.min_eq_right (by omega)]; exact List.mem_cons_of_mem _ ih
theorem minL_le : ∀ (ns : List Int) (y : Int), y ∈ ns → minL ns ≤ y
  | [x], y, h => by simp at h; subst h; exact Int.le_refl _
  | x :: z :: r, y, h => by
    show min x (minL (z :: r)) ≤ y
    rcases List.mem_cons.mp h with rfl | h
    · exact Int.min_le_left _ _
    · exact Int.le_trans (Int.min_le_right _ _) (minL_le (z :: r) y h)
def rMaxAll (K : PySem.W.Frag) : List V → Hp → VK → Prop := fun vs H Q => rMax K vs H Q ∨ ∃ i j, vs = [.int i, .int j] ∧ Q (.int (if j > i then j else i)) H
def rMinAll (K : PySem.W.Frag) : List V → Hp → VK → Prop := fun vs H Q => rMin K vs H Q ∨ ∃ i j, vs = [.int i, .int j] ∧ Q (.int (if j < i then j else i)) H
theorem cr_max' {X : Cx} (hc : X.calm = true) : CallR X (.builtin "max") (rMaxAll X.K) := CallR.or (cr_max hc) (call_max2 hc)
theorem cr_min' {X : Cx} (hc : X.calm = true) : CallR X (.builtin "min") (rMinAll X.K) := CallR.or (cr_min hc) (call_min2 hc)
theorem cs_max : CallSpec W (rMaxAll W.K) maxD := by
  intro vs ds S H μ res σ Wx Q hS r hf hk
  unfold maxD at hf
  split at hf
  · obtain ⟨v, rfl, rv⟩ := r.one
    obtain ⟨xs, e, hf⟩ := lstE_now hf
    obtain ⟨z, hz, rfl⟩ := optE_some hf
    obtain ⟨a, ws, rfl, h1, h2, h3⟩ := lstD_rep hS rv e
    split at hz
    · rename_i n ns hb
      cases hz
      cases ints_rep h3 hb
      refine .inl ⟨a, n :: ns, rfl, SqL.of h1, by simp, fun m hm hy => ?_⟩
      have e : m = maxL (n :: ns) := Int.le_antisymm (le_maxL _ _ hm) (hy _ (maxL_mem _ (by simp)))
      rw [e]
      exact hk.val hS (.int _)
    · cases hz
  · obtain ⟨v, w, rfl, r1, r2⟩ := r.two
    cases hf; cases r1.int; cases r2.int
    rename_i i j
    refine .inr ⟨i, j, rfl, ?_⟩
    have e : (if j > i then j else i) = max i j := by
      rw [Int.max_def]; split <;> split <;> omega
    rw [e]
    exact hk.val hS (.int _)
  · cases hf
theorem cs_min : CallSpec W (rMinAll W.K) minD := by
  intro vs ds S H μ res σ Wx Q hS r hf hk
  unfold minD at hf
  split at hf
  · obtain ⟨v, rfl, rv⟩ := r.one
    obtain ⟨xs, e, hf⟩ := lstE_now hf
    obtain ⟨z, hz, rfl⟩ := optE_some hf
    obtain ⟨a, ws, rfl, h1, h2, h3⟩ := lstD_rep hS rv e
    split at hz
    · rename_i n ns hb
      cases hz
      cases ints_rep h3 hb
      refine .inl ⟨a, n :: ns, rfl, SqL.of h1, by simp, fun m hm hy => ?_⟩
      have e : m = minL (n :: ns) := Int.le_antisymm (hy _ (minL_mem _ (by simp))) (minL_le _ _ hm)
      rw [e]
      exact hk.val hS (.int _)
    · cases hz
  · obtain ⟨v, w, rfl, r1, r2⟩ := r.two
    cases hf; cases r1.int; cases r2.int
    rename_i i j
    refine .inr ⟨i, j, rfl, ?_⟩
    have e : (if j < i then j else i) = min i j := by
      rw [Int.min_def]; split <;> split <;> omega
    rw [e]
    exact hk.val hS (.int _)
  · cases hf
/-- a new list laid: what okL wants -/
theorem okL_new {Q : VK} {H0 : Hp} {xs : List D} {vs : List V} {p : Addr} (hS : Sg W S H μ) (hm : ∀ a, H0 a ≠ none → H a ≠ none) (hk : KG W S H σ Wx (okL W Q H0) (.ok xs, μ)) (hp : H p = none) (hl : vs.length ≤ big) (r : RepVs W S H vs xs) : Q (.ref p) (upd H p (.lst vs)) := by
  have lt : LtE S H (S.set p (some .out)) (upd H p (.lst vs)) := lt_new hp hS.wf
  refine hk (S.set p (some .out)) _ lt (hS.new hp) p vs ?_ Ws.set_same upd_same hl (r.later lt)
  cases e : H0 p with
  | none => rfl
  | some o => exact absurd hp (hm p (by rw [e]; exact fun z => nomatch z))
theorem reps_ints (ns : List Int) : RepVs W S H (ns.map V.int) (ns.map D.int) := by
  induction ns with
  | nil => exact .nil
  | cons n ns ih => exact .cons (.int n) ih
theorem cs_sorted : CallSpecL W (rSorted W.K) sortedD := by
  intro vs ds S H μ res σ Wx Q H0 hS hm r hf hk
  unfold sortedD at hf
  split at hf
  · obtain ⟨v, rfl, rv⟩ := r.one
    obtain ⟨xs, e, hf⟩ := lstE_now hf
    obtain ⟨a, ws, rfl, h1, h2, h3⟩ := lstD_rep hS rv e
    cases hb : intsD xs with
    | none => rw [hb] at hf; cases hf
    | some ns =>
      rw [hb] at hf
      obtain ⟨hl, hf⟩ := guardE_some hf
      cases hf
      cases ints_rep h3 hb
      refine ⟨a, ns, rfl, SqL.of h1, of_decide_eq_true hl, fun ns' p hp hs hn => ?_⟩
      have e : ns' = sortI ns := by
        refine PySem.W.ksm_same (hp.trans (List.mergeSort_perm _ _).symm) hs ?_
        have := List.pairwise_mergeSort (le := fun a b : Int => decide (a ≤ b)) (by intro a b c h1 h2; simp at *; omega) (by intro a b; simp; omega) ns
        exact this.imp fun h => by simpa using h
      subst e
      refine okL_new hS hm hk hn ?_ (reps_ints _)
      rw [List.length_map, show (sortI ns).length = ns.length from List.length_mergeSort _]
      rw [List.length_map] at h2
      exact h2
  · cases hf
theorem cs_list : CallSpecL W (fun xs H Q => ∃ p ys, xs = [.ref p] ∧ (SqL W.K H p ys ∨ SqT W.K H p ys) ∧ ∀ l, H l = none → Q (.ref l) (upd H l (.lst ys))) listD := by
  intro vs ds S H μ res σ Wx Q H0 hS hm r hf hk
  unfold listD at hf
  split at hf
  · obtain ⟨v, rfl, rv⟩ := r.one
    obtain ⟨xs, e, rfl⟩ := seqE_some (xs := []) hf
    obtain ⟨a, ws, rfl, h1, h2, h3⟩ := seqD_rep hS rv e
    exact ⟨a, ws, rfl, h1, fun l hl => okL_new hS hm hk hl h2 h3⟩
  · cases hf
theorem cs_tuple : CallSpec W (fun xs H Q => ∃ p ys, xs = [.ref p] ∧ ((SqL W.K H p ys ∧ ∀ l, H l = none → Q (.ref l) (upd H l (.tup ys))) ∨ (SqT W.K H p ys ∧ Q (.ref p) H))) tupleD := by
  intro vs ds S H μ res σ Wx Q hS r hf hk
  unfold tupleD at hf
  split at hf
  · obtain ⟨v, rfl, rv⟩ := r.one
    obtain ⟨xs, e, hf⟩ := seqE_now (ok := okV W Q) hf
    cases hf
    rename_i d
    cases d with
    | tup ys =>
      cases e
      obtain ⟨a, ws, e1, h1, h2, h3⟩ := rv.tup
      subst e1
      exact ⟨a, ws, rfl, .inr ⟨h1, hk.val hS rv.tupV⟩⟩
    | _ =>
      first
        | (obtain ⟨a, ws, rfl, h1, h2, h3⟩ := lstD_rep (xs := xs) hS rv e
           refine ⟨a, ws, rfl, .inl ⟨SqL.of h1, fun l hl => ?_⟩⟩
           have lt : LtE S H S (upd H l (.tup ws)) := lt_upd hl hS.wf
           exact hk S _ lt (hS.upd hl) _ (.tup upd_same (hS.fresh hl) h2 (h3.later lt)))
        | cases e
  · cases hf
end
end EG
namespace EG
open PySem L2

/-! isinstance -/
structure ClsOk (W : Wd) (c : Nat) : Prop where
  cl : Cls W.K (W.ca c)
  ha : PySem.W.findIn W.K (.ref (W.ca c)) "__class__" = some (some (.builtin "object.__class__"))
  hn : PySem.W.specialIn W.K (.builtin "object.__class__") "__get__" = some (some (.builtin "getset_descriptor.__get__"))
  htk : PySem.W.takesIn W.K (.builtin "object.__class__") = some true
  hob : PySem.W.mroIn W.K (W.ca c) (.type "object") = some true
def tagV (W : Wd) : Tag → Value
  | .ty n => .type n
  | .cls c => .ref (W.ca c)
def tagC (W : Wd) : Tag → V
  | .ty n => .ty n
  | .cls c => .ref (W.ca c)
structure IsiOk (W : Wd) (T : Isi) : Prop where
  one : ∀ t c b, T t c = some b → PySem.W.kitOne W.K (tagV W t) (tagV W c) = some b
  cls : ∀ k c b, T (.cls k) c = some b → ClsOk W k
theorem clsV_of (W : Wd) (t : Tag) : ClsV (tagC W t) (tagV W t) := by
  cases t with
  | ty n => exact .ty n
  | cls c => exact .own _
theorem tyTab_ok {a b : String} {r : Bool} (h : tyTab a b = some r) : kitB a b = some r := by
  unfold tyTab at h
  split at h
  · rename_i e
    obtain ⟨rfl, rfl⟩ := e
    cases h
    decide +kernel
  · split at h
    · rename_i e1 e
      rw [Bool.and_eq_true] at e
      obtain ⟨ha, hb⟩ := e
      have ha : a ∈ ["NoneType", "bool", "int", "str", "list", "tuple"] := by simpa using ha
      have hb : b ∈ ["bool", "int", "str", "list", "tuple"] := by simpa using hb
      simp only [List.mem_cons, List.not_mem_nil, or_false] at ha hb
      cases h
      rcases ha with rfl | rfl | rfl | rfl | rfl | rfl <;> rcases hb with rfl | rfl | rfl | rfl | rfl <;> first
        | decide +kernel
        | exact absurd ⟨rfl, rfl⟩ e1
    · cases h
section
variable {W : Wd} {S S' S1 : Ws} {H H' H1 : Hp} {σ : St} {env : Env} {μ : Mu} {Wx : WX} {α β : Type} {T : Isi}
theorem isi1_ok (hT : IsiOk W T) {t c : Tag} {b : Bool} (h : isi1 T t c = some b) : PySem.W.kitOne W.K (tagV W t) (tagV W c) = some b := by
  unfold isi1 at h
  split at h
  · exact kit_ty (tyTab_ok h)
  · exact hT.one _ _ _ h
theorem isiAny_ok (hT : IsiOk W T) {t : Tag} : ∀ {cs : List Tag} {b : Bool}, isiAny T t cs = some b → PySem.W.kitAny W.K (tagV W t) (cs.map (tagV W)) = some b
  | [], b, h => h
  | c :: r, b, h => by
    unfold isiAny at h
    show (match PySem.W.kitOne W.K (tagV W t) (tagV W c) with
      | some true => some true
      | some false => PySem.W.kitAny W.K (tagV W t) (r.map (tagV W))
      | none => none) = some b
    cases q : isi1 T t c with
    | none => rw [q] at h; cases h
    | some b' =>
      rw [q] at h
      rw [isi1_ok hT q]
      cases b' with
      | true => exact h
      | false => exact isiAny_ok hT h
theorem tag_rep {v : V} {d : D} {t : Tag} (hS : Sg W S H μ) (r : RepB W S H v d) (h : tagD d μ = some t) (hc : ∀ c, t = .cls c → ClsOk W c) : TyX W.K H v (tagV W t) := by
  unfold tagD at h
  split at h
  · cases h; rw [r.non]; exact .base .non
  · cases h; rw [r.bl]; exact .base (.bl _)
  · cases h; rw [r.int]; exact .base (.int _)
  · cases h; rw [r.str.1]; exact .base (.str _)
  · cases h; obtain ⟨a, vs, rfl, h1, _⟩ := r.lst; exact .base (.lst h1)
  · cases h
    cases r.tupV with
    | tup h1 h2 h3 h4 => exact .base (.tup h1)
    | tupK h1 h2 h3 =>
      obtain (h1 | ⟨_, h1⟩) | ⟨o, its, n, k1, k2, _⟩ := h1
      · cases h1
      · cases h1
      exact .kTuple k1 k2
  · cases h
    obtain ⟨a, dx, vs, rfl, h1, _⟩ := r.obj
    have C := hc _ rfl
    exact .base (.ins h1 C.cl C.ha C.hn C.htk C.hob)
  · obtain ⟨a, rfl, e1, e2⟩ := r.cell
    split at h
    · rename_i q
      cases h
      obtain ⟨a', h1, h2, vs, h3, h4, _⟩ := hS.cells _ _ q
      rw [e1] at h1; cases h1
      exact .base (.lst h3)
    · rename_i q
      cases h
      obtain ⟨a', h1, h2, dx, vs, h3, _⟩ := hS.cells _ _ q
      rw [e1] at h1; cases h1
      have C := hc _ rfl
      exact .base (.ins h3 C.cl C.ha C.hn C.htk C.hob)
    · cases h
  · cases h
def fIsi (T : Isi) (cs : List Tag) (f : Env → EM D) : Env → EM D := fun env => bindE (f env) (isiE T cs)
theorem isiE_some {cs : List Tag} {d : D} {r : Out D × Mu} (h : isiE T cs d μ = some r) : ∃ t b, tagD d μ = some t ∧ isiAny T t cs = some b ∧ r = (.ok (.bl b), μ) := by
  unfold isiE at h
  cases q : tagD d μ with
  | none => rw [q] at h; cases h
  | some t =>
    rw [q] at h
    simp only at h
    cases q2 : isiAny T t cs with
    | none => rw [q2] at h; cases h
    | some b => rw [q2] at h; cases h; exact ⟨t, b, rfl, q2, rfl⟩
theorem isi_cls {t c : Tag} {cs : List Tag} {b : Bool} (hT : IsiOk W T) (h : isiAny T t (c :: cs) = some b) : ∀ k, t = .cls k → ClsOk W k := by
  intro k e
  subst e
  unfold isiAny at h
  cases q : isi1 T (.cls k) c with
  | none => rw [q] at h; cases h
  | some b' => exact hT.cls k c b' (by unfold isi1 at q; exact q)
/-- isinstance(a, T) -/
theorem ev_isi {X : Cx} (hK : X.K = W.K) (hT : IsiOk W T) {a cls : Expr} {p pos : Pos} {c : Tag} {f : Env → EM D} (hg : Gl X "isinstance") (hm : X.mg "isinstance" = none) (ha : PE X a (tEvB W Wx f)) (hc : PE X cls (tC (tagC W c)))
    (h1 : starEach [a, cls] X.env = (false, eval a X.env) :: starEach [cls] X.env) (h2 : starEach [cls] X.env = [(false, eval cls X.env)]) : PE X (.Call (.Name "isinstance" p) [a, cls] [] pos) (tEv W Wx (fIsi T [c] f)) := by
  refine PE.imp (pe_callB call_isi hg hm PyProof.Rows.boot_isinstance (pa_cons ha (pa_cons hc pa_nil h2) h1) (he := h1) (hpl := by rw [h2]; rfl)) fun σ H Q ⟨S, μ, env, res, hS, hE, hf, hk⟩ => ?_
  refine tG.bind hS hE hf hk fun d μ1 S1 H1 l1 g1 e1 hf1 hk1 v rv => ?_
  obtain ⟨t, b, q1, q2, rfl⟩ := isiE_some hf1
  refine ⟨v, _, tagV W t, tagV W c, b, rfl, clsV_of W c, ?_, ?_, hk1.val g1 (.bl b)⟩
  · rw [hK]; exact tag_rep g1 rv q1 (isi_cls hT q2)
  · rw [hK]
    have := isiAny_ok hT q2
    simp only [List.map_cons, List.map_nil, PySem.W.kitAny] at this
    cases z : PySem.W.kitOne W.K (tagV W t) (tagV W c) with
    | none => rw [z] at this; cases this
    | some b' => rw [z] at this; cases b' <;> exact this
/-- the classes of a tuple display -/
inductive ClsEs (W : Wd) (X : Cx) : List Expr → List Tag → Prop where
  | nil : ClsEs W X [] []
  | cons {e : Expr} {es : List Expr} {t : Tag} {ts : List Tag} : PE X e (tC (tagC W t)) → starEach (e :: es) X.env = (false, eval e X.env) :: starEach es X.env → ClsEs W X es ts → ClsEs W X (e :: es) (t :: ts)
def tConst (vs : List V) : TA := fun _ H Q => Q vs H
theorem clsEs_pa {X : Cx} {es : List Expr} {ts : List Tag} (h : ClsEs W X es ts) : PA X es (tConst (ts.map (tagC W))) := by
  induction h with
  | nil => exact PA.imp pa_nil fun σ H Q h => h
  | cons h1 h2 _ ih => exact PA.imp (pa_cons h1 ih h2) fun σ H Q h => h
theorem clsV_all (W : Wd) : ∀ ts : List Tag, Paired ClsV (ts.map (tagC W)) (ts.map (tagV W))
  | [] => .nil
  | t :: ts => .cons (clsV_of W t) (clsV_all W ts)
/-- isinstance(a, (T1, T2, ..)) -/
theorem ev_isiT {X : Cx} (hK : X.K = W.K) (hT : IsiOk W T) {a : Expr} {es : List Expr} {kk : Nat} {tp p pos : Pos} {cs : List Tag} {f : Env → EM D} (hg : Gl X "isinstance") (hm : X.mg "isinstance" = none) (ha : PE X a (tEvB W Wx f)) (hc : ClsEs W X es cs)
    (hne : cs ≠ []) (hlen : cs.length ≤ 100)
    (h1 : starEach [a, .Tuple es kk tp] X.env = (false, eval a X.env) :: starEach [.Tuple es kk tp] X.env) : PE X (.Call (.Name "isinstance" p) [a, .Tuple es kk tp] [] pos) (tEv W Wx (fIsi T cs f)) := by
  have h2 : starEach [.Tuple es kk tp] X.env = [(false, eval (.Tuple es kk tp) X.env)] := rfl
  refine PE.imp (pe_callB call_isiT hg hm PyProof.Rows.boot_isinstance (pa_cons ha (pa_cons (pe_tup (clsEs_pa hc)) pa_nil h2) h1) (he := h1) (hpl := by rw [h2]; rfl)) fun σ H Q ⟨S, μ, env, res, hS, hE, hf, hk⟩ => ?_
  refine tG.bind hS hE hf hk fun d μ1 S1 H1 l1 g1 e1 hf1 hk1 v rv => ?_
  obtain ⟨t, b, q1, q2, rfl⟩ := isiE_some hf1
  refine ⟨by rw [List.length_map]; exact Nat.le_trans hlen (by rw [sizeLine_eq]; decide), fun tp hp => ?_⟩
  have lt : LtE S1 H1 S1 (upd H1 tp (.tup (cs.map (tagC W)))) := lt_upd hp g1.wf
  refine ⟨v, tp, _, tagV W t, cs.map (tagV W), b, rfl, upd_same, clsV_all W cs, ?_, ?_, hk1 S1 _ lt (g1.upd hp) _ (.bl b)⟩
  · rw [hK]
    cases cs with
    | nil => exact absurd rfl hne
    | cons c cs => exact tag_rep (g1.upd hp) (rv.laterE lt) q1 (isi_cls hT q2)
  · rw [hK]; exact isiAny_ok hT q2

/-! built-in functions of one or more arguments -/
theorem ev_callB {X : Cx} {id : String} {x : Str} {p pos : Pos} {e : Expr} {es : List Expr} {r : List V → Hp → VK → Prop} {op : List D → EM D} {g : Env → EM (List D)} (hc : CallR X (.builtin id) r) (hs : CallSpec W r op) (hg : Gl X x) (hm : X.mg x = none) (hv : bootBuiltins x = some (.builtin id))
    (ha : PA X (e :: es) (tEvBs W Wx g)) (hn : x ≠ "__name__") (hdb : (x == ("__debug__" : Str)) = false) (he : starEach (e :: es) X.env = (false, eval e X.env) :: starEach es X.env) (hpl : (backTo pos (starEach es X.env)).any (·.1) = false) :
    PE X (.Call (.Name x p) (e :: es) [] pos) (tEv W Wx (fCB op g)) := PE.imp (pe_callB hc hg hm hv ha hn hdb he hpl) fun σ H Q h => tCB_of hs h
theorem ev_callTy {X : Cx} {ty : String} {x : Str} {p pos : Pos} {e : Expr} {es : List Expr} {r : List V → Hp → VK → Prop} {op : List D → EM D} {g : Env → EM (List D)} (hc : CallR X (.type ty) r) (hs : CallSpec W r op) (hg : Gl X x) (hm : X.mg x = none) (hv : bootBuiltins x = some (.type ty))
    (ha : PA X (e :: es) (tEvBs W Wx g)) (hn : x ≠ "__name__") (hdb : (x == ("__debug__" : Str)) = false) (he : starEach (e :: es) X.env = (false, eval e X.env) :: starEach es X.env) (hpl : (backTo pos (starEach es X.env)).any (·.1) = false) :
    PE X (.Call (.Name x p) (e :: es) [] pos) (tEv W Wx (fCB op g)) := PE.imp (pe_callTy hc hg hm hv ha hn hdb he hpl) fun σ H Q h => tCB_of hs h
theorem el_callB {X : Cx} {id : String} {x : Str} {p pos : Pos} {e : Expr} {es : List Expr} {r : List V → Hp → VK → Prop} {op : List D → EM (List D)} {g : Env → EM (List D)} (hc : CallR X (.builtin id) r) (hs : CallSpecL W r op) (hg : Gl X x) (hm : X.mg x = none) (hv : bootBuiltins x = some (.builtin id))
    (ha : PA X (e :: es) (tEvBs W Wx g)) (hn : x ≠ "__name__") (hdb : (x == ("__debug__" : Str)) = false) (he : starEach (e :: es) X.env = (false, eval e X.env) :: starEach es X.env) (hpl : (backTo pos (starEach es X.env)).any (·.1) = false) :
    PE X (.Call (.Name x p) (e :: es) [] pos) (tEvL W Wx (fCB op g)) := PE.imp (pe_callB hc hg hm hv ha hn hdb he hpl) fun σ H Q h => tCBL_of hs h
theorem el_callTy {X : Cx} {ty : String} {x : Str} {p pos : Pos} {e : Expr} {es : List Expr} {r : List V → Hp → VK → Prop} {op : List D → EM (List D)} {g : Env → EM (List D)} (hc : CallR X (.type ty) r) (hs : CallSpecL W r op) (hg : Gl X x) (hm : X.mg x = none) (hv : bootBuiltins x = some (.type ty))
    (ha : PA X (e :: es) (tEvBs W Wx g)) (hn : x ≠ "__name__") (hdb : (x == ("__debug__" : Str)) = false) (he : starEach (e :: es) X.env = (false, eval e X.env) :: starEach es X.env) (hpl : (backTo pos (starEach es X.env)).any (·.1) = false) :
    PE X (.Call (.Name x p) (e :: es) [] pos) (tEvL W Wx (fCB op g)) := PE.imp (pe_callTy hc hg hm hv ha hn hdb he hpl) fun σ H Q h => tCBL_of hs h

/-! subscripts -/
def ixD : D → D → EM D := fun x y => match x, y with
  | .str s, .int i => match atI s.cps.toList i with
    | some c => pureE (.str ⟨#[c]⟩)
    | none => failE
  | x, .int i => bindE (seqE x) fun xs => optE (atI xs i)
  | _, _ => failE
theorem atI_rep {vs : List V} {ds : List D} {i : Int} {d : D} (h : RepVs W S H vs ds) (e : atI ds i = some d) : ∃ v, atI vs i = some v ∧ RepV W S H v d := by
  unfold atI at e ⊢
  rw [h.length]
  cases q : ixN ds.length i with
  | none => rw [q] at e; cases e
  | some j =>
    rw [q] at e
    exact h.get e
theorem os_ix : OpSpec W (rIx W.K) ixD := by
  intro x y d e S H μ res σ Wx Q hS rx ry hf hk
  unfold ixD at hf
  split at hf
  · rename_i s i
    obtain ⟨rfl, hl⟩ := rx.str
    cases ry.int
    cases q : atI s.cps.toList i with
    | none => rw [q] at hf; cases hf
    | some c =>
      rw [q] at hf
      cases hf
      exact .inr (.inr ⟨s, i, c, rfl, rfl, Nat.le_trans hl big_le, q, hk.val hS (.str _ (by show 1 ≤ big; decide))⟩)
  · rename_i i _
    cases ry.int
    obtain ⟨xs, e1, hf⟩ := seqE_now (ok := okV W Q) hf
    obtain ⟨z, hz, rfl⟩ := optE_some hf
    obtain ⟨a, ws, rfl, h1, h2, h3⟩ := seqD_rep hS rx e1
    obtain ⟨v, hv, rv⟩ := atI_rep h3 hz
    rcases h1 with h1 | h1
    · exact .inl ⟨a, ws, i, v, rfl, rfl, h1, hv, hk.val hS rv⟩
    · exact .inr (.inl ⟨a, ws, i, v, rfl, rfl, h1, hv, hk.val hS rv⟩)
  · cases hf
theorem ev_ix {X : Cx} (hK : X.K = W.K) {a b : Expr} {pos : Pos} {f g : Env → EM D} (ha : PE X a (tEvB W Wx f)) (hb : PE X b (tEvB W Wx g)) (hs : PlainIx b) : PE X (.Subscript a b pos) (tEv W Wx (fOp2 ixD f g)) := by
  have h : IxR X (rIx W.K) := by rw [← hK]; exact ix_seq
  exact PE.imp (pe_ix h ha hb hs) fun σ H Q h => tOp_of os_ix h
/-! slices -/
structure POe (W : Wd) (Wx : WX) (X : Cx) (e : Option Expr) (f : Env → EM (Option Int)) : Prop where
  po : PO X e (fun σ H Q => tG W Wx f (fun o _ H' => Q o H') σ H)
def fNoP : Env → EM (Option Int) := fun _ => pureE none
def fP (f : Env → EM D) : Env → EM (Option Int) := fun env => bindE (f env) fun d => match d with
  | .int i => pureE (some i)
  | _ => failE
theorem PO.imp {X : Cx} {e : Option Expr} {t t' : TO} (h : PO X e t) (hi : ∀ σ H Q, t' σ H Q → t σ H Q) : PO X e t' := ⟨fun pins s σ H Q I hw => h.run pins s σ H Q I (hi _ _ _ hw)⟩
theorem eo_none {X : Cx} : POe W Wx X none fNoP := ⟨PO.imp po_none fun σ H Q ⟨S, μ, env, res, hS, hE, hf, hk⟩ => by
  cases hf
  exact hk.now hS⟩
theorem eo_some {X : Cx} {e : Expr} {f : Env → EM D} (h : PE X e (tEvB W Wx f)) : POe W Wx X (some e) (fP f) := ⟨PO.imp (po_some h) fun σ H Q ⟨S, μ, env, res, hS, hE, hf, hk⟩ => by
  refine tG.bind hS hE hf hk fun d μ1 S1 H1 l1 g1 e1 hf1 hk1 v rv => ?_
  cases d <;> first
    | (cases hf1; done)
    | skip
  cases rv.int
  cases hf1
  have z := hk1.now g1
  exact ⟨_, rfl, z⟩⟩
def cutL {α : Type} (xs : List α) (lo hi : Option Int) : List α := (xs.drop (HT.sIx xs.length 0 lo)).take (HT.sIx xs.length xs.length hi - HT.sIx xs.length 0 lo)
/-- a slice of a text or a tuple -/
def slD (lo hi : Option Int) : D → EM D
  | .str s => pureE (.str (cutS s lo hi))
  | .tup xs => guardE (decide (¬ (HT.sIx xs.length 0 lo = 0 ∧ HT.sIx xs.length xs.length hi = xs.length))) (pureE (.tup (cutL xs lo hi)))
  | _ => failE
def slL (lo hi : Option Int) : D → EM (List D) := fun d => match d with
  | .scr ns => pureE (cutL (ns.map D.int) lo hi)
  | d => bindE (lstE d) fun xs => pureE (cutL xs lo hi)
def fSl {α : Type} (op : Option Int → Option Int → D → EM α) (f : Env → EM D) (l h : Env → EM (Option Int)) : Env → EM α := fun env => bindE (f env) fun d => bindE (l env) fun lo => bindE (h env) fun hi => op lo hi d
theorem cutV_rep {vs : List V} {ds : List D} (h : RepVs W S H vs ds) (lo hi : Option Int) : RepVs W S H (cutV vs lo hi) (cutL ds lo hi) := by
  unfold cutV cutL
  rw [h.length]
  exact (h.drop _).take _
theorem ev_sl {X : Cx} (hK : X.K = W.K) {a : Expr} {lo hi : Option Expr} {p2 pos : Pos} {f : Env → EM D} {l h : Env → EM (Option Int)} (ha : PE X a (tEvB W Wx f)) (hl : POe W Wx X lo l) (hh : POe W Wx X hi h) : PE X (.Subscript a (.Slice lo hi none p2) pos) (tEv W Wx (fSl slD f l h)) :=
  PE.imp (pe_slice (SlR.or sl_str sl_tup) ha hl.po hh.po) fun σ H Q ⟨S, μ, env, res, hS, hE, hf, hk⟩ => by
    refine tG.bind hS hE hf hk fun d μ1 S1 H1 l1 g1 e1 hf1 hk1 v rv => ?_
    refine tG.bind g1 e1 hf1 hk1 fun lo μ2 S2 H2 l2 g2 e2 hf2 hk2 => ?_
    refine tG.bind g2 e2 hf2 hk2 fun hi μ3 S3 H3 l3 g3 e3 hf3 hk3 => ?_
    have rv := (rv.laterE l2).laterE l3
    unfold slD at hf3
    split at hf3
    · cases hf3
      obtain ⟨rfl, hl⟩ := rv.str
      exact .inl ⟨_, rfl, Nat.le_trans hl big_le, hk3.val g3 (.str _ (Nat.le_trans (cutS_length _ _ _) hl))⟩
    · obtain ⟨hw, hf3⟩ := guardE_some hf3
      cases hf3
      have hw := of_decide_eq_true hw
      obtain ⟨b, vs, rfl, h1, h2, r⟩ := rv.tup
      rw [hK]
      refine .inr ⟨b, vs, rfl, h1, by rw [r.length]; exact hw, fun p hp => ?_⟩
      have lt : LtE S3 H3 S3 (upd H3 p (.tup (cutV vs lo hi))) := lt_upd hp g3.wf
      exact hk3 S3 _ lt (g3.upd hp) _ (.tup upd_same (g3.fresh hp) (Nat.le_trans (cutV_length _ _ _) h2) ((cutV_rep r lo hi).later lt))
    · cases hf3
theorem el_sl {X : Cx} (hK : X.K = W.K) {a : Expr} {lo hi : Option Expr} {p2 pos : Pos} {f : Env → EM D} {l h : Env → EM (Option Int)} (ha : PE X a (tEvB W Wx f)) (hl : POe W Wx X lo l) (hh : POe W Wx X hi h) : PE X (.Subscript a (.Slice lo hi none p2) pos) (tEvL W Wx (fSl slL f l h)) :=
  PE.imp (pe_slice sl_list ha hl.po hh.po) fun σ H Q ⟨S, μ, env, res, hS, hE, hf, hk⟩ => by
    refine tG.bind hS hE hf hk fun d μ1 S1 H1 l1 g1 e1 hf1 hk1 v rv => ?_
    refine tG.bind g1 e1 hf1 hk1 fun lo μ2 S2 H2 l2 g2 e2 hf2 hk2 => ?_
    refine tG.bind g2 e2 hf2 hk2 fun hi μ3 S3 H3 l3 g3 e3 hf3 hk3 => ?_
    have rv := (rv.laterE l2).laterE l3
    unfold slL at hf3
    split at hf3
    · cases hf3
      obtain ⟨a, rfl, h1, h2⟩ := rv.scr
      rw [hK]
      refine ⟨a, _, rfl, h1, fun p hp => okL_new g3 (fun a h => l3.mem a (l2.mem a (l1.mem a h))) hk3 hp (Nat.le_trans (cutV_length _ _ _) (by rw [List.length_map]; exact h2)) (cutV_rep (reps_ints _) lo hi)⟩
    obtain ⟨xs, e, hf3⟩ := lstE_now hf3
    cases hf3
    obtain ⟨b, vs, rfl, h1, h2, r⟩ := lstD_rep g3 rv e
    rw [hK]
    exact ⟨b, vs, rfl, SqL.of h1, fun p hp => okL_new g3 (fun a h => l3.mem a (l2.mem a (l1.mem a h))) hk3 hp (Nat.le_trans (cutV_length _ _ _) h2) (cutV_rep r lo hi)⟩
/-! lists: +, * -/
def OpSpecL (W : Wd) (r : R2) (op : D → D → EM (List D)) : Prop := ∀ (x y : V) (d e : D) (S : Ws) (H : Hp) (μ : Mu) (res : Out (List D) × Mu) (σ : St) (Wx : WX) (Q : VK) (H0 : Hp), Sg W S H μ → (∀ a, H0 a ≠ none → H a ≠ none) → RepB W S H x d → RepB W S H y e → op d e μ = some res → KG W S H σ Wx (okL W Q H0) res → r x y H Q
def fOp2L (op : D → D → EM (List D)) (f g : Env → EM D) : Env → EM (List D) := fun env => bindE (f env) fun d => bindE (g env) fun e => op d e
theorem el_bin {X : Cx} {op : Operator} {r : R2} {a b : Expr} {pos : Pos} {opd : D → D → EM (List D)} {f g : Env → EM D} (ho : OpR X (binaryOp op) r) (hs : OpSpecL W r opd) (ha : PE X a (tEvB W Wx f)) (hb : PE X b (tEvB W Wx g)) :
    PE X (.BinOp a op b pos) (tEvL W Wx (fOp2L opd f g)) := PE.imp (pe_op ho ha hb) fun σ H Q ⟨S, μ, env, res, hS, hE, hf, hk⟩ => by
  refine tG.bind hS hE hf hk fun d μ1 S1 H1 l1 g1 e1 hf1 hk1 x rx => ?_
  refine tG.bind g1 e1 hf1 hk1 fun e μ2 S2 H2 l2 g2 e2 hf2 hk2 y ry => ?_
  exact hs x y d e S2 H2 μ2 res σ Wx Q H g2 (fun a h => l2.mem a (l1.mem a h)) (rx.laterE l2) ry hf2 hk2
def catD (x y : D) : EM (List D) := bindE (lstE x) fun xs => bindE (lstE y) fun ys => guardE (decide (xs.length + ys.length ≤ big)) (pureE (xs ++ ys))
theorem os_cat : OpSpecL W rCat catD := by
  intro x y d e S H μ res σ Wx Q H0 hS hm rx ry hf hk
  obtain ⟨xs, e1, hf⟩ := lstE_now hf
  obtain ⟨ys, e2, hf⟩ := lstE_now hf
  obtain ⟨hl, hf⟩ := guardE_some hf
  cases hf
  have hl := of_decide_eq_true hl
  obtain ⟨a, vs, rfl, h1, h2, r1⟩ := lstD_rep hS rx e1
  obtain ⟨b, ws, rfl, h3, h4, r2⟩ := lstD_rep hS ry e2
  have hlen : (vs ++ ws).length ≤ big := by rw [List.length_append, r1.length, r2.length]; exact hl
  exact ⟨a, b, vs, ws, rfl, rfl, h1, h3, by rw [← List.length_append]; exact Nat.le_trans hlen big_le, fun p hp => okL_new hS hm hk hp hlen (r1.append r2)⟩
def repL (k : Nat) (xs : List D) : List D := (List.replicate k xs).flatten
def repD (x y : D) : EM (List D) := match y with
  | .int k => bindE (lstE x) fun xs => guardE (decide (-(2 ^ 63) ≤ k ∧ k < 2 ^ 63 ∧ xs.length * k.toNat ≤ big)) (pureE (repL k.toNat xs))
  | _ => failE
theorem rep_repL {vs : List V} {ds : List D} (h : RepVs W S H vs ds) : ∀ k : Nat, RepVs W S H (List.replicate k vs).flatten (repL k ds)
  | 0 => .nil
  | k + 1 => by
    unfold repL
    rw [List.replicate_succ, List.replicate_succ, List.flatten_cons, List.flatten_cons]
    exact h.append (rep_repL h k)
theorem len_rep (vs : List V) : ∀ k : Nat, ((List.replicate k vs).flatten).length = vs.length * k
  | 0 => by simp
  | k + 1 => by rw [List.replicate_succ, List.flatten_cons, List.length_append, len_rep vs k, Nat.mul_succ]; omega
theorem os_rep : OpSpecL W rRep repD := by
  intro x y d e S H μ res σ Wx Q H0 hS hm rx ry hf hk
  unfold repD at hf
  split at hf
  · rename_i k
    cases ry.int
    obtain ⟨xs, e1, hf⟩ := lstE_now hf
    obtain ⟨hl, hf⟩ := guardE_some hf
    cases hf
    have hl := of_decide_eq_true hl
    obtain ⟨a, vs, rfl, h1, h2, r1⟩ := lstD_rep hS rx e1
    have hlen : vs.length * k.toNat ≤ big := by rw [r1.length]; exact hl.2.2
    exact ⟨a, k, vs, rfl, rfl, h1, hl.1, hl.2.1, Nat.le_trans hlen big_le, fun p hp => okL_new hS hm hk hp (by rw [len_rep]; exact hlen) (rep_repL r1 _)⟩
  · cases hf
end
end EG
namespace EG
open PySem L2

abbrev Fn := List D → EM D
section
variable {W : Wd} {S S' S1 : Ws} {H H' H1 : Hp} {σ : St} {env : Env} {μ : Mu} {Wx : WX} {α β : Type}
/-- what a caller of a def is promised -/
def KF (W : Wd) (S : Ws) (H : Hp) (Q : VK) (E : XK) : Out D × Mu → Prop
  | (.ok d, μ') => ∀ S' H' v, LtE S H S' H' → Sg W S' H' μ' → RepV W S' H' v d → Q v H'
  | (.exc c fs, μ') => ∀ S' H' dd vs, LtE S H S' H' → Sg W S' H' μ' → H' dd = some (.xd vs) → S'.Ow dd = none → RepFs W S' H' vs fs → E (.ref (W.ca c)) (some dd) H'
def spF (W : Wd) (n : Nat) (F : Fn) : Sp := fun vs H Q E => vs.length = n ∧ ∃ S μ ds res, Sg W S H μ ∧ RepVs W S H vs ds ∧ F ds μ = some res ∧ KF W S H Q E res
/-- the owners as a callee sees them -/
def hand (S : Ws) : Ws := { S with Ow := fun a => match S.Ow a with
  | some (.slot _) => some .out
  | w => w }
/-- .. and as the caller sees them behind the call -/
def back (S Se : Ws) : Ws := { ρ := Se.ρ, Ow := fun a => match S.Ow a with
  | some (.slot i) => some (.slot i)
  | some .out => some .out
  | _ => match Se.Ow a with
    | some (.cell n) => some (.cell n)
    | _ => none }
theorem hand_none {a : Addr} (h : S.Ow a = none) : (hand S).Ow a = none := by simp [hand, h]
theorem hand_cell {a : Addr} {n : Nat} (h : S.Ow a = some (.cell n)) : (hand S).Ow a = some (.cell n) := by simp [hand, h]
theorem hand_out {a : Addr} {w : Own} (h : S.Ow a = some w) (k : kE w) : (hand S).Ow a = some .out := by
  cases w with
  | out => simp [hand, h]
  | slot i => simp [hand, h]
  | cell n => exact k.elim
theorem lt_hand {k : Own → Prop} (hk : ∀ w, k w → w = .out) : Lt k S H (hand S) H where
  dat := fun a o e q => ⟨hand_none e, q⟩
  own := fun a w e q => by
    rw [hk w q] at e ⊢
    exact ⟨by simp [hand, e], rfl⟩
  cel := fun n a e q => ⟨e, hand_cell q⟩
  mem := fun _ h => h
theorem Sg.hand (g : Sg W S H μ) : Sg W (hand S) H μ where
  wf := fun a w e => by
    cases q : S.Ow a with
    | none => simp [EG.hand, q] at e
    | some w' => exact g.wf a w' q
  len := g.len
  cells := fun n c e => by
    obtain ⟨a, e1, e2, r⟩ := g.cells n c e
    exact ⟨a, e1, hand_cell e2, r.later (lt_hand (k := fun _ => False) fun _ h => h.elim) rfl⟩
theorem back_none {Se : Ws} {a : Addr} (h : S.Ow a = none) (h' : Se.Ow a = none) : (back S Se).Ow a = none := by simp [back, h, h']
theorem back_own {Se : Ws} {a : Addr} {w : Own} (h : S.Ow a = some w) (k : kE w) : (back S Se).Ow a = some w := by
  cases w with
  | out => simp [back, h]
  | slot i => simp [back, h]
  | cell n => exact k.elim
theorem back_cell {Se : Ws} {a : Addr} {n : Nat} (h : Se.Ow a = some (.cell n)) (hs : ∀ w, S.Ow a = some w → ¬ kE w) : (back S Se).Ow a = some (.cell n) := by
  cases q : S.Ow a with
  | none => simp [back, q, h]
  | some w =>
    cases w with
    | out => exact absurd trivial (hs _ q)
    | slot i => exact absurd trivial (hs _ q)
    | cell m => simp [back, q, h]
theorem back_lt {Se : Ws} {He : Hp} (g : Sg W S H μ) (l : LtS (hand S) H Se He) : LtE S H (back S Se) He where
  dat := fun a o e q => by
    obtain ⟨h1, h2⟩ := l.dat a o (hand_none e) q
    exact ⟨back_none e h1, h2⟩
  own := fun a w e k => ⟨back_own e k, (l.own a _ (hand_out e k) trivial).2⟩
  cel := fun n a e q => by
    obtain ⟨h1, h2⟩ := l.cel n a e (hand_cell q)
    exact ⟨h1, back_cell h2 fun w e' k => by rw [q] at e'; cases e'; exact k⟩
  mem := l.mem
/-- what the callee knows holds for the caller too -/
theorem back_mono {Se : Ws} {He : Hp} (g : Sg W S H μ) (l : LtS (hand S) H Se He) : (∀ a o, Se.Ow a = none → He a = some o → (back S Se).Ow a = none ∧ He a = some o) ∧ (∀ (n : Nat) a, Se.ρ[n]? = some a → Se.Ow a = some (.cell n) → (back S Se).ρ[n]? = some a ∧ (back S Se).Ow a = some (.cell n)) := by
  have no : ∀ a w, S.Ow a = some w → kE w → Se.Ow a = some .out := fun a w e k => (l.own a _ (hand_out e k) trivial).1
  refine ⟨fun a o e q => ⟨?_, q⟩, fun n a e q => ⟨e, back_cell q fun w e' k => ?_⟩⟩
  · cases z : S.Ow a with
    | none => exact back_none z e
    | some w =>
      cases w with
      | out => rw [no a _ z trivial] at e; cases e
      | slot i => rw [no a _ z trivial] at e; cases e
      | cell n => simp [back, z, e]
  · rw [no a w e' k] at q; cases q
theorem back_sg {Se : Ws} {He : Hp} {μ' : Mu} (g : Sg W S H μ) (l : LtS (hand S) H Se He) (ge : Sg W Se He μ') : Sg W (back S Se) He μ' where
  wf := fun a w e => by
    cases z : S.Ow a with
    | some w' =>
      obtain ⟨u, q⟩ := g.wf a w' z
      have := l.mem a (by rw [q]; exact fun z => nomatch z)
      cases y : He a with
      | none => exact absurd y this
      | some u => exact ⟨u, rfl⟩
    | none =>
      cases y : Se.Ow a with
      | none => rw [back_none z y] at e; cases e
      | some w' => exact ge.wf a w' y
  len := ge.len
  cells := fun n c e => by
    obtain ⟨a, e1, e2, r⟩ := ge.cells n c e
    obtain ⟨m1, m2⟩ := back_mono g l
    exact ⟨a, e1, (m2 n a e1 e2).2, r.mono m1 m2 rfl⟩

/-! calls -/
def fCall (n : Nat) (F : Fn) (dds : List D) (g : Env → EM (List D)) : Env → EM D := fun env => bindE (g env) fun ds => guardE (decide (ds.length + dds.length = n)) (F (ds ++ dds))
theorem spF_of {n : Nat} {F : Fn} {vs : List V} {ds : List D} {res : Out D × Mu} {Q : VK} (hS : Sg W S H μ) (hl : ds.length = n) (r : RepVs W S H vs ds) (hf : F ds μ = some res) (hk : KG W S H σ Wx (okV W Q) res) : spF W n F vs H Q (fun cls dd H' => Wx cls dd σ H') := by
  refine ⟨r.length.trans hl, S, μ, ds, res, hS, r, hf, ?_⟩
  obtain ⟨o, μ'⟩ := res
  cases o with
  | ok d => exact fun S' H' v l g rv => hk S' H' l g v rv
  | exc c fs => exact fun S' H' dd vs l g h1 h2 h3 => hk S' H' dd vs l g h1 h2 h3
theorem passAt' {X : Cx} (tk : Takes X Wx) (σ : St) : PassesAt (L2.CX X.prog X.w) X σ (fun cls dd H' => Wx cls dd σ H') := passAt tk σ
theorem ev_call {X : Cx} {k n : Nat} {f : Addr} {fd : FuncData} {ps : List Str} {x : Str} {p pos : Pos} {e : Expr} {es : List Expr} {F : Fn} {g : Env → EM (List D)} {dds : List D} {dvs : List V} {dus : List Value}
    (G : FnOk X.prog X.w X.K X.mg X.base (L2.CX X.prog X.w) k f fd ps (spF W n F)) (tk : Takes X Wx) (hr : Room k X.A) (hg : Gl X x) (hm : X.mg x = some (.ref f)) (hk : PySem.W.keepIn X.K (.ref f) = true) (hb : Binds X.K fd ps dus) (hd : Vals dvs dus)
    (hdd : ∀ S H, RepVs W S H dvs dds) (ha : PA X (e :: es) (tEvs W Wx g)) (hdb : (x == ("__debug__" : Str)) = false) (he : starEach (e :: es) X.env = (false, eval e X.env) :: starEach es X.env) (hpl : (backTo pos (starEach es X.env)).any (·.1) = false) :
    PE X (.Call (.Name x p) (e :: es) [] pos) (tEv W Wx (fCall n F dds g)) :=
  PE.imp (pe_callSD (E := fun σ cls dd H' => Wx cls dd σ H') G hr hg hm hk hb hd (fun σ => passAt' tk σ) ha hdb he hpl) fun σ H Q ⟨S, μ, env, res, hS, hE, hf, hk⟩ => by
    refine tG.bind hS hE hf hk fun ds μ1 S1 H1 l1 g1 e1 hf1 hk1 vs rvs => ?_
    obtain ⟨hl, hf1⟩ := guardE_some hf1
    exact spF_of g1 (by rw [List.length_append]; exact of_decide_eq_true hl) (rvs.append (hdd S1 H1)) hf1 hk1
end
end EG
namespace EG
open PySem L2

inductive SO where
  | nx (env : Env) | rt (d : D) | br (env : Env) | ct (env : Env) | exc (c : Nat) (fs : List (Str × D)) (env : Env)
abbrev SM := Env → Mu → Option (SO × Mu)
def KS (W : Wd) (S : Ws) (H : Hp) (Wx : WX) (Dn : Ends) : SO × Mu → Prop
  | (.nx env', μ') => ∀ S' H' σ', LtS S H S' H' → Sg W S' H' μ' → EnvOk W S' H' σ' env' → Dn.nx σ' H'
  | (.rt d, μ') => ∀ S' H' v, LtS S H S' H' → Sg W S' H' μ' → RepV W S' H' v d → Dn.rt v H'
  | (.br env', μ') => ∀ S' H' σ', LtS S H S' H' → Sg W S' H' μ' → EnvOk W S' H' σ' env' → Dn.bk σ' H'
  | (.ct env', μ') => ∀ S' H' σ', LtS S H S' H' → Sg W S' H' μ' → EnvOk W S' H' σ' env' → Dn.ct σ' H'
  | (.exc c fs env', μ') => ∀ S' H' σ' dd vs, LtS S H S' H' → Sg W S' H' μ' → EnvOk W S' H' σ' env' → H' dd = some (.xd vs) → S'.Ow dd = none → RepFs W S' H' vs fs → Wx (.ref (W.ca c)) (some dd) σ' H'
def tSt (W : Wd) (Wx : WX) (F : SM) : TS := fun Dn σ H => ∃ S μ env r, Sg W S H μ ∧ EnvOk W S H σ env ∧ F env μ = some r ∧ KS W S H Wx Dn r
section
variable {W : Wd} {S S' S1 : Ws} {H H' H1 : Hp} {σ : St} {env : Env} {μ : Mu} {Wx : WX} {α β : Type} {X : Cx} {Dn : Ends}
theorem KS.later {r : SO × Mu} (h : KS W S H Wx Dn r) (l : LtS S H S1 H1) : KS W S1 H1 Wx Dn r := by
  obtain ⟨o, μ'⟩ := r
  cases o with
  | nx e => exact fun S' H' σ' l' => h S' H' σ' (l.trans l')
  | rt d => exact fun S' H' v l' => h S' H' v (l.trans l')
  | br e => exact fun S' H' σ' l' => h S' H' σ' (l.trans l')
  | ct e => exact fun S' H' σ' l' => h S' H' σ' (l.trans l')
  | exc c fs e => exact fun S' H' σ' dd vs l' => h S' H' σ' dd vs (l.trans l')
theorem PS.imp {st : Stmt} {t t' : TS} (h : PS X st t) (hi : ∀ D σ H, t' D σ H → t D σ H) : PS X st t' := ⟨fun pins s σ H D I hw => h.run pins s σ H D I (hi _ _ _ hw)⟩
theorem PSs.imp {st : List Stmt} {t t' : TS} (h : PSs X st t) (hi : ∀ D σ H, t' D σ H → t D σ H) : PSs X st t' := ⟨fun pins s σ H D I hw => h.run pins s σ H D I (hi _ _ _ hw)⟩
/-! blocks -/
def fSkip : SM := fun env μ => some (.nx env, μ)
def fSeq (F G : SM) : SM := fun env μ => match F env μ with
  | some (.nx env', μ') => G env' μ'
  | r => r
theorem seq_of {F G : SM} (h : tSt W Wx (fSeq F G) Dn σ H) : tSeq (tSt W Wx F) (tSt W Wx G) Dn σ H := by
  obtain ⟨S, μ, env, r, hS, hE, hf, hk⟩ := h
  unfold fSeq at hf
  cases e : F env μ with
  | none => rw [e] at hf; cases hf
  | some q =>
    obtain ⟨o, μ1⟩ := q
    rw [e] at hf
    refine ⟨S, μ, env, _, hS, hE, e, ?_⟩
    cases o with
    | nx env' => exact fun S' H' σ' l g e' => ⟨S', μ1, env', r, g, e', hf, hk.later l⟩
    | rt d => cases hf; exact hk
    | br e => cases hf; exact hk
    | ct e => cases hf; exact hk
    | exc c fs e => cases hf; exact hk
theorem skip_of {Wx : WX} (h : tSt W Wx fSkip Dn σ H) : Dn.nx σ H := by
  obtain ⟨S, μ, env, r, hS, hE, hf, hk⟩ := h
  cases hf
  exact hk S H σ .refl hS hE
theorem es_nil : PSs X [] (tSt W Wx fSkip) := PSs.imp pss_nil fun D σ H h => skip_of h
theorem es_cons {st : Stmt} {rest : List Stmt} {F G : SM} (h1 : PS X st (tSt W Wx F)) (h2 : PSs X rest (tSt W Wx G)) : PSs X (st :: rest) (tSt W Wx (fSeq F G)) := PSs.imp (pss_cons h1 h2) fun D σ H h => seq_of h
theorem es_pass {pos : Pos} : PS X (.Pass pos) (tSt W Wx fSkip) := PS.imp ps_pass fun D σ H h => skip_of h
theorem es_doc {x : Str} {j : Nat} {pos pos' : Pos} : PS X (.Expr (.Constant (.str x) j pos) pos') (tSt W Wx fSkip) := PS.imp ps_doc fun D σ H h => skip_of h
def fBreak : SM := fun env μ => some (.br env, μ)
def fCont : SM := fun env μ => some (.ct env, μ)
theorem es_break {pos : Pos} : PS X (.Break pos) (tSt W Wx fBreak) := PS.imp ps_break fun D σ H ⟨S, μ, env, r, hS, hE, hf, hk⟩ => by
  cases hf; exact hk S H σ .refl hS hE
theorem es_cont {pos : Pos} : PS X (.Continue pos) (tSt W Wx fCont) := PS.imp ps_continue fun D σ H ⟨S, μ, env, r, hS, hE, hf, hk⟩ => by
  cases hf; exact hk S H σ .refl hS hE
/-- code that is never reached -/
def fNever : SM := fun _ _ => none
theorem es_never {st : Stmt} : PS X st (tSt W Wx fNever) := PS.imp ps_never fun D σ H ⟨S, μ, env, r, hS, hE, hf, hk⟩ => by cases hf

/-! an expression, then k -/
def liftE {α : Type} (f : Env → EM α) (k : α → SM) : SM := fun env μ => match f env μ with
  | some (.ok a, μ') => k a env μ'
  | some (.exc c fs, μ') => some (.exc c fs env, μ')
  | none => none
theorem tG.lift {f : Env → EM α} {k : α → SM} {ok : α → Ws → Hp → Prop} (h : tSt W Wx (liftE f k) Dn σ H)
    (hR : ∀ S μ env a μ1 S1 H1 r, Sg W S H μ → LtE S H S1 H1 → Sg W S1 H1 μ1 → EnvOk W S1 H1 σ env → k a env μ1 = some r → KS W S H Wx Dn r → ok a S1 H1) : tG W Wx f ok σ H := by
  obtain ⟨S, μ, env, r, hS, hE, hf, hk⟩ := h
  unfold liftE at hf
  cases e : f env μ with
  | none => rw [e] at hf; cases hf
  | some q =>
    obtain ⟨o, μ1⟩ := q
    rw [e] at hf
    refine ⟨S, μ, env, _, hS, hE, e, ?_⟩
    cases o with
    | ok a => exact fun S' H' l g => hR S μ env a μ1 S' H' r hS l g (hE.laterE l) hf hk
    | exc c fs =>
      cases hf
      exact fun S' H' dd vs l g h1 h2 h3 => hk S' H' σ dd vs l.toS g (hE.laterE l) h1 h2 h3
theorem EnvOk.set {i : Nat} {v : V} {sl : Slot} (h : EnvOk W S H σ env) (hr : SlotRep W S H i (some (some v)) sl) : EnvOk W S H (σ.set i (some v)) (env.set i sl) where
  len := by rw [List.length_set, List.length_set]; exact h.len
  at_ := fun j sl' e => by
    by_cases hj : j = i
    · subst hj
      by_cases hl : j < env.length
      · rw [List.getElem?_set_self hl] at e
        cases e
        rw [List.getElem?_set_self (by rw [← h.len]; exact hl)]
        exact hr
      · rw [List.getElem?_eq_none (by rw [List.length_set]; omega)] at e
        cases e
    · rw [List.getElem?_set_ne (Ne.symm hj)] at e ⊢
      exact h.at_ j sl' e
/-! x = e -/
def fSet (i : Nat) (f : Env → EM D) : SM := liftE f fun d env μ => some (.nx (env.set i (.v d)), μ)
theorem es_set {i : Nat} {x : Str} {e : Expr} {pos pos' : Pos} {f : Env → EM D} (h : PS X (.Assign [.Name x pos'] e pos) (tAsg (tEv W Wx f) (gName i))) : PS X (.Assign [.Name x pos'] e pos) (tSt W Wx (fSet i f)) :=
  PS.imp h fun D σ H h => tG.lift h fun S μ env d μ1 S1 H1 r hS l g hE hf hk v rv => by
    cases hf
    exact hk S1 H1 (σ.set i (some v)) l.toS g (hE.set ⟨v, rfl, rv⟩)
/-- x = a new list, x's own -/
def fSetOwn (i : Nat) (f : Env → EM (List D)) : SM := liftE f fun xs env μ => some (.nx (env.set i (.own (.lst xs))), μ)
theorem lt_own {p : Addr} {w : Own} {μ : Mu} (hS : Sg W S H μ) (hp : H p = none) (l : LtE S H S1 H1) (ho : S1.Ow p = some .out) : LtE S H (S1.set p (some w)) H1 where
  dat := fun a o e q => by
    have : a ≠ p := fun z => by rw [z, hp] at q; cases q
    rw [Ws.set_ne this]; exact l.dat a o e q
  own := fun a x e k => by
    have : a ≠ p := fun z => by obtain ⟨u, z'⟩ := hS.wf a x e; rw [z, hp] at z'; cases z'
    rw [Ws.set_ne this]; exact l.own a x e k
  cel := fun n a e q => by
    have : a ≠ p := fun z => by obtain ⟨u, z'⟩ := hS.wf a _ q; rw [z, hp] at z'; cases z'
    rw [Ws.set_ne this]; exact l.cel n a e q
  mem := l.mem
theorem es_setOwn {i : Nat} {x : Str} {e : Expr} {pos pos' : Pos} {f : Env → EM (List D)} (h : PS X (.Assign [.Name x pos'] e pos) (tAsg (tEvL W Wx f) (gName i))) : PS X (.Assign [.Name x pos'] e pos) (tSt W Wx (fSetOwn i f)) :=
  PS.imp h fun D σ H h => tG.lift h fun S μ env xs μ1 S1 H1 r hS l g hE hf hk p vs hp ho hh hl rv => by
    cases hf
    have ls : Lt (fun w => w ≠ .out) S1 H1 (S1.set p (some (.slot i))) H1 := lt_set ho (fun z => z rfl) fun n z => nomatch z
    exact hk (S1.set p (some (.slot i))) H1 (σ.set i (some (.ref p))) (lt_own hS hp l ho).toS (g.set ho fun n z => nomatch z) ((hE.later (fun j z => nomatch z) ls).set (sl := .own (.lst xs)) ⟨p, rfl, Ws.set_same, vs, hh, hl, rv.later ls⟩)
/-- ghost: x's own list is data from here on -/
def fFreeze (i : Nat) : SM := fun env μ => match env[i]? with
  | some (.own c) => some (.nx (env.set i (.v c.toD)), μ)
  | some (.v d) => some (.nx (env.set i (.v d)), μ)
  | _ => none
theorem set_self {α : Type} : ∀ (l : List α) (i : Nat) (a : α), l[i]? = some a → l.set i a = l
  | [], _, _, h => by simp at h
  | x :: r, 0, a, h => by simp at h; subst h; rfl
  | x :: r, i + 1, a, h => by
    rw [List.set_cons_succ, set_self r i a (by simpa using h)]
theorem EnvOk.set' {i : Nat} {v : V} {sl : Slot} (h : EnvOk W S H σ env) (hv : σ[i]? = some (some v)) (hr : SlotRep W S H i (some (some v)) sl) : EnvOk W S H σ (env.set i sl) := by
  have := h.set hr
  rw [set_self σ i _ hv] at this
  exact this
/-- the slot i changes alone, its list's owner with it -/
theorem EnvOk.turn {i : Nat} {p : Addr} {w : Option Own} {sl sl0 : Slot} (h : EnvOk W S H σ env) (h0 : env[i]? = some sl0) (hp : S.Ow p = some (.slot i)) (hv : σ[i]? = some (some (.ref p))) (hr : SlotRep W (S.set p w) H i (some (some (.ref p))) sl) : EnvOk W (S.set p w) H σ (env.set i sl) where
  len := by rw [List.length_set]; exact h.len
  at_ := fun j sl' e => by
    by_cases hj : j = i
    · subst hj
      have hl : j < env.length := (List.getElem?_eq_some_iff.mp h0).1
      rw [List.getElem?_set_self hl] at e
      cases e
      rw [hv]
      exact hr
    · rw [List.getElem?_set_ne (Ne.symm hj)] at e
      have z := h.at_ j sl' e
      have lt : Lt (fun w => w ≠ .slot i) S H (S.set p w) H := lt_set hp (fun z => z rfl) fun n z => nomatch z
      cases sl' with
      | no => trivial
      | v d => obtain ⟨v, e, r⟩ := z; exact ⟨v, e, r.later lt⟩
      | own c =>
        obtain ⟨a, e, o, r⟩ := z
        obtain ⟨o', h'⟩ := lt.own a _ o (fun z => hj (by cases z; rfl))
        exact ⟨a, e, o', r.later lt h'⟩
theorem es_freeze {i : Nat} {sts : List Stmt} {G : SM} (h : PSs X sts (tSt W Wx G)) : PSs X sts (tSt W Wx (fSeq (fFreeze i) G)) :=
  PSs.imp h fun D σ H ⟨S, μ, env, r, hS, hE, hf, hk⟩ => by
    unfold fSeq fFreeze at hf
    cases e : env[i]? with
    | none => rw [e] at hf; cases hf
    | some sl =>
      rw [e] at hf
      have z := hE.at_ i _ e
      cases sl with
      | no => cases hf
      | v d =>
        have : env.set i (.v d) = env := set_self env i _ e
        simp only [this] at hf
        exact ⟨S, μ, env, r, hS, hE, hf, hk⟩
      | own c =>
        obtain ⟨a, e1, o, rv⟩ := z
        have lt : Lt (fun w => w ≠ .slot i) S H (S.set a none) H := lt_set o (fun z => z rfl) fun n z => nomatch z
        have lS : LtS S H (S.set a none) H := ⟨lt.dat, fun b w q k => lt.own b w q (by rintro rfl; exact k), lt.cel, lt.mem⟩
        exact ⟨S.set a none, μ, _, r, hS.set o (fun n z => nomatch z), hE.turn (sl := .v c.toD) e o e1 ⟨_, rfl, (rv.later lt rfl).toV Ws.set_same⟩, hf, hk.later lS⟩
/-! return, expression, if -/
def fRet (f : Env → EM D) : SM := liftE f fun d _ μ => some (.rt d, μ)
theorem es_ret {e : Expr} {pos : Pos} {f : Env → EM D} (he : PE X e (tEv W Wx f)) : PS X (.Return (some e) pos) (tSt W Wx (fRet f)) :=
  PS.imp (ps_ret he) fun D σ H h => tG.lift h fun S μ env d μ1 S1 H1 r hS l g hE hf hk v rv => by
    cases hf
    exact hk S1 H1 v l.toS g rv
def fRetN : SM := fun _ μ => some (.rt .non, μ)
theorem es_retN {pos : Pos} : PS X (.Return none pos) (tSt W Wx fRetN) := PS.imp ps_retN fun D σ H ⟨S, μ, env, r, hS, hE, hf, hk⟩ => by
  cases hf; exact hk S H .non .refl hS .non
def fDrop (f : Env → EM D) : SM := liftE f fun _ env μ => some (.nx env, μ)
theorem es_expr {e : Expr} {pos : Pos} {f : Env → EM D} (he : PE X e (tEv W Wx f)) (hs : swapsWith e none pos.line X.env = pure false) : PS X (.Expr e pos) (tSt W Wx (fDrop f)) :=
  PS.imp (ps_expr he hs) fun D σ H h => tG.lift h fun S μ env d μ1 S1 H1 r hS l g hE hf hk v rv => by
    cases hf
    exact hk S1 H1 σ l.toS g hE
def fIfS (c : Env → EM Bool) (F G : SM) : SM := liftE c fun b env μ => match b with
  | true => F env μ
  | false => G env μ
theorem es_if {c : Expr} {a b : List Stmt} {pos : Pos} {fc : Env → EM Bool} {F G : SM} (hc : PT X c (tEvT W Wx fc)) (ha : PSs X a (tSt W Wx F)) (hb : PSs X b (tSt W Wx G)) : PS X (.If c a b pos) (tSt W Wx (fIfS fc F G)) :=
  PS.imp (ps_if hc ha hb) fun D σ H h => tG.lift h fun S μ env b μ1 S1 H1 r hS l g hE hf hk => by
    refine okT_mk ?_
    cases b with
    | true => exact iT rfl ⟨S1, μ1, env, r, g, hE, hf, hk.later l.toS⟩
    | false => exact iF Bool.false_ne_true ⟨S1, μ1, env, r, g, hE, hf, hk.later l.toS⟩

/-! targets -/
mutual
inductive Pat where
  | nm (i : Nat) | tp (ps : Pats)
inductive Pats where
  | nil | cons (p : Pat) (r : Pats)
end
def Pats.len : Pats → Nat
  | .nil => 0
  | .cons _ r => r.len + 1
mutual
def bindP : Pat → D → Env → Option Env
  | .nm i, d, env => some (env.set i (.v d))
  | .tp ps, d, env => match d with
    | .tup ds => bindPs ps ds env
    | _ => none
def bindPs : Pats → List D → Env → Option Env
  | .nil, ds, env => match ds with
    | [] => some env
    | _ :: _ => none
  | .cons p r, ds, env => match ds with
    | [] => none
    | d :: ds => match bindP p d env with
      | some env' => bindPs r ds env'
      | none => none
end
mutual
def Pat.slots : Pat → List Nat
  | .nm i => [i]
  | .tp ps => ps.slots
def Pats.slots : Pats → List Nat
  | .nil => []
  | .cons p r => p.slots ++ r.slots
end
/-- the slots but ps are as they were -/
def Agree (ps : List Nat) (σ σ' : St) : Prop := σ'.length = σ.length ∧ ∀ j, j ∉ ps → σ'[j]? = σ[j]?
theorem Agree.refl {ps : List Nat} {σ : St} : Agree ps σ σ := ⟨rfl, fun _ _ => rfl⟩
theorem Agree.set {i : Nat} {σ : St} {v : Option V} : Agree [i] σ (σ.set i v) := ⟨by rw [List.length_set], fun j h => by rw [List.getElem?_set_ne (by simp at h; omega)]⟩
theorem Agree.trans {ps qs : List Nat} {σ σ1 σ2 : St} (a : Agree ps σ σ1) (b : Agree qs σ1 σ2) : Agree (ps ++ qs) σ σ2 := ⟨b.1.trans a.1, fun j h => by
  rw [List.mem_append, not_or] at h
  exact (b.2 j h.2).trans (a.2 j h.1)⟩
def tTg (W : Wd) (p : Pat) : TG := fun v σ H Q => ∃ S μ env env' d, Sg W S H μ ∧ EnvOk W S H σ env ∧ RepV W S H v d ∧ bindP p d env = some env' ∧ ∀ σ', EnvOk W S H σ' env' → Agree p.slots σ σ' → Q σ' H
def tTgs (W : Wd) (p : Pats) : TGs := fun vs σ H Q => ∃ S μ env env' ds, Sg W S H μ ∧ EnvOk W S H σ env ∧ RepVs W S H vs ds ∧ bindPs p ds env = some env' ∧ ∀ σ', EnvOk W S H σ' env' → Agree p.slots σ σ' → Q σ' H
theorem PG.imp {e : Expr} {t t' : TG} (h : PG X e t) (hi : ∀ v σ H Q, t' v σ H Q → t v σ H Q) : PG X e t' := ⟨fun pins s σ H v u Q I r hw => h.run pins s σ H v u Q I r (hi _ _ _ _ hw)⟩
theorem PGs.imp {e : List Expr} {t t' : TGs} (h : PGs X e t) (hi : ∀ v σ H Q, t' v σ H Q → t v σ H Q) : PGs X e t' := ⟨fun pins s σ H v u Q I r hw => h.run pins s σ H v u Q I r (hi _ _ _ _ hw)⟩
theorem eg_name {e : Expr} {i : Nat} (h : PG X e (gName i)) : PG X e (tTg W (.nm i)) := PG.imp h fun v σ H Q ⟨S, μ, env, env', d, hS, hE, rv, hb, hq⟩ => by
  cases hb
  exact hq _ (hE.set ⟨v, rfl, rv⟩) .set
theorem eg_nil : PGs X [] (tTgs W .nil) := PGs.imp pgs_nil fun v σ H Q ⟨S, μ, env, env', ds, hS, hE, rv, hb, hq⟩ => by
  unfold bindPs at hb
  cases ds with
  | nil => cases hb; cases rv; exact ⟨rfl, hq σ hE .refl⟩
  | cons d ds => cases hb
theorem eg_cons {e : Expr} {es : List Expr} {p : Pat} {r : Pats} (h1 : PG X e (tTg W p)) (h2 : PGs X es (tTgs W r)) (hs : (assignEach (e :: es) X.env).map (·.2) = assign e X.env :: (assignEach es X.env).map (·.2)) : PGs X (e :: es) (tTgs W (.cons p r)) :=
  PGs.imp (pgs_cons h1 h2 hs) fun vs σ H Q ⟨S, μ, env, env', ds, hS, hE, rv, hb, hq⟩ => by
    unfold bindPs at hb
    cases ds with
    | nil => cases hb
    | cons d ds =>
      cases rv with
      | cons r1 r2 =>
        simp only at hb
        cases z : bindP p d env with
        | none => rw [z] at hb; cases hb
        | some env1 =>
          rw [z] at hb
          exact ⟨_, _, rfl, S, μ, env, env1, d, hS, hE, r1, z, fun σ' e' ag => ⟨S, μ, env1, env', ds, hS, e', r2, hb, fun σ2 e2 ag2 => hq σ2 e2 (ag.trans ag2)⟩⟩
theorem bindPs_len : ∀ (p : Pats) (ds : List D) (env env' : Env), bindPs p ds env = some env' → ds.length = p.len
  | .nil, ds, env, env', h => by
    unfold bindPs at h
    cases ds with
    | nil => rfl
    | cons d ds => cases h
  | .cons p r, ds, env, env', h => by
    unfold bindPs at h
    cases ds with
    | nil => cases h
    | cons d ds =>
      simp only at h
      cases z : bindP p d env with
      | none => rw [z] at h; cases h
      | some env1 =>
        rw [z] at h
        have := bindPs_len r ds env1 env' h
        simp [Pats.len, this]
theorem eg_tup (hK : X.K = W.K) {es : List Expr} {k n : Nat} {pos : Pos} {ps : Pats} (hc : X.calm = true) (h : PGs X es (tTgs W ps)) (hn : (assignEach es X.env).length = n) (hp : ps.len = n) (hst : (assignEach es X.env).findIdx? (·.1) = none) : PG X (.Tuple es k pos) (tTg W (.tp ps)) :=
  PG.imp (pg_tup hc h hn hst) fun v σ H Q ⟨S, μ, env, env', d, hS, hE, rv, hb, hq⟩ => by
    unfold bindP at hb
    split at hb
    · rename_i ds
      obtain ⟨a, vs, rfl, h1, h2, r⟩ := RepB.tup (.inl rv)
      refine ⟨a, vs, rfl, by rw [hK]; exact h1, ?_, S, μ, env, env', ds, hS, hE, r, hb, hq⟩
      rw [r.length, bindPs_len _ _ _ _ hb, hp]
    · cases hb
/-- pattern = e -/
def fAsg (p : Pat) (f : Env → EM D) : SM := liftE f fun d env μ => match bindP p d env with
  | some env' => some (.nx env', μ)
  | none => none
theorem es_asg {tg e : Expr} {pos : Pos} {p : Pat} {f : Env → EM D} (h : PS X (.Assign [tg] e pos) (tAsg (tEv W Wx f) (tTg W p))) : PS X (.Assign [tg] e pos) (tSt W Wx (fAsg p f)) :=
  PS.imp h fun D σ H h => tG.lift h fun S μ env d μ1 S1 H1 r hS l g hE hf hk v rv => by
    cases z : bindP p d env with
    | none => rw [z] at hf; cases hf
    | some env' =>
      rw [z] at hf
      cases hf
      exact ⟨S1, μ1, env, env', d, g, hE, rv, z, fun σ' e' _ => hk S1 H1 σ' l.toS g e'⟩
end
end EG
namespace EG
open PySem L2

/-- an iterator that yields the items ds, whatever happens to the locals' own (k) meanwhile -/
def JOk (W : Wd) (k : Own → Prop) (S : Ws) (H : Hp) (J : It) (ds : List D) : Prop := ∀ S' H', Lt k S H S' H' → (∀ a w, S'.Ow a = some w → ∃ u, H' a = some u) →
  (∀ (i : Nat) d, ds[i]? = some d → J.go i H' ∧ ∀ x H'', J.yld i H' x H'' → LtE S' H' S' H'' ∧ (∀ μ, Sg W S' H' μ → Sg W S' H'' μ) ∧ RepV W S' H'' x d) ∧ J.stop ds.length H'
def tSrc (W : Wd) (Wx : WX) (k : Own → Prop) (f : Env → EM (List D)) : TI := fun σ H R => tG W Wx f (fun ds S' H' => ds.length ≤ big ∧ ∀ J, JOk W k S' H' J ds → R J H') σ H
/-- .. without the bound's being asked: the sources tell it -/
def tSrc' (W : Wd) (Wx : WX) (k : Own → Prop) (f : Env → EM (List D)) : TI := fun σ H R => tG W Wx f (fun ds S' H' => ds.length ≤ big → ∀ J, JOk W k S' H' J ds → R J H') σ H
section
variable {W : Wd} {S S' S1 : Ws} {H H' H1 : Hp} {σ : St} {env : Env} {μ : Mu} {Wx : WX} {α β : Type} {X : Cx} {Dn : Ends} {k : Own → Prop} {tg : Expr}
theorem PI.imp {e : Expr} {t t' : TI} (h : PI X tg e t) (hi : ∀ σ H Q, t' σ H Q → t σ H Q) : PI X tg e t' := ⟨fun pins s σ H Q I hw => h.run pins s σ H Q I (hi _ _ _ hw)⟩
theorem PI.or {e : Expr} {t t' : TI} (h : PI X tg e t) (h' : PI X tg e t') : PI X tg e (fun σ H Q => t σ H Q ∨ t' σ H Q) := ⟨fun pins s σ H Q I hw => hw.elim (h.run pins s σ H Q I) (h'.run pins s σ H Q I)⟩
/-- a list or a tuple that is data -/
def itemsD : D → Option (List D)
  | .lst xs => some xs
  | .tup xs => some xs
  | _ => none
def fItems (f : Env → EM D) : Env → EM (List D) := fun env => bindE (f env) fun d => optE (itemsD d)
theorem jok_list {a : Addr} {vs : List V} {ds : List D} (h1 : H a = some (.lst vs)) (ho : S.Ow a = none ∨ ∃ w, S.Ow a = some w ∧ k w) (r : RepVs W S H vs ds) : JOk W k S H (Itl W.K a) ds := by
  intro S' H' l hw
  have h2 : H' a = some (.lst vs) := by
    rcases ho with ho | ⟨w, ho, hk⟩
    · exact (l.dat a _ ho h1).2
    · rw [(l.own a w ho hk).2]; exact h1
  have r2 := r.later l
  refine ⟨fun i d e => ?_, vs, SqL.of h2, by rw [r2.length]; exact Nat.le_refl _⟩
  obtain ⟨v, hv, rv⟩ := r2.get e
  refine ⟨⟨vs, v, SqL.of h2, hv⟩, fun x H'' ⟨e1, e2⟩ => ?_⟩
  subst e1
  have := e2 vs (SqL.of h2)
  rw [hv] at this
  cases this
  exact ⟨.refl, fun _ g => g, rv⟩
theorem SqT.later {a : Addr} {vs : List V} (h : (H a = some (.tup vs) ∧ S.Ow a = none) ∨ TupK W.K a vs) (l : Lt k S H S' H') : SqT W.K H' a vs := by
  rcases h with ⟨h, o⟩ | h
  · exact SqT.of (l.dat a _ o h).2
  · exact h.seq
theorem jok_tup {a : Addr} {vs : List V} {ds : List D} (h : (H a = some (.tup vs) ∧ S.Ow a = none) ∨ TupK W.K a vs) (r : RepVs W S H vs ds) : JOk W k S H (Itt W.K a) ds := by
  intro S' H' l hw
  have h2 : SqT W.K H' a vs := SqT.later h l
  have r2 := r.later l
  refine ⟨fun i d e => ?_, vs, h2, by rw [r2.length]; exact Nat.le_refl _⟩
  obtain ⟨v, hv, rv⟩ := r2.get e
  refine ⟨⟨vs, v, h2, hv⟩, fun x H'' ⟨e1, e2⟩ => ?_⟩
  subst e1
  have := e2 vs h2
  rw [hv] at this
  cases this
  exact ⟨.refl, fun _ g => g, rv⟩
theorem RepV.tupH {v : V} {ds : List D} (h : RepV W S H v (.tup ds)) : ∃ a vs, v = .ref a ∧ ((H a = some (.tup vs) ∧ S.Ow a = none) ∨ TupK W.K a vs) ∧ vs.length ≤ big ∧ RepVs W S H vs ds := by
  cases h with
  | tup h1 h2 h3 h4 => exact ⟨_, _, rfl, .inl ⟨h1, h2⟩, h3, h4⟩
  | tupK h1 h2 h3 => exact ⟨_, _, rfl, .inr h1, h2, h3⟩
theorem src_seq (hK : X.K = W.K) {l : Expr} {f : Env → EM D} (hl : PE X l (tEv W Wx f)) : PI X tg l (tSrc' W Wx k (fItems f)) :=
  PI.imp (PI.or (pi_list hl) (pi_tup hl)) fun σ H R ⟨S, μ, env, res, hS, hE, hf, hk⟩ => by
    unfold fItems bindE at hf
    cases e : f env μ with
    | none => rw [e] at hf; cases hf
    | some q =>
      obtain ⟨o, μ1⟩ := q
      rw [e] at hf
      cases o with
      | exc c fs => cases hf; exact .inl ⟨S, μ, env, _, hS, hE, e, hk⟩
      | ok d =>
        obtain ⟨ds, hd, rfl⟩ := optE_some hf
        cases d with
        | lst xs =>
          cases hd
          refine .inl ⟨S, μ, env, _, hS, hE, e, fun S' H' l g v rv => ?_⟩
          cases rv with
          | lst h1 h2 h3 h4 =>
            rw [hK]
            exact ⟨_, rfl, ⟨_, SqL.of h1⟩, hk S' H' l g (by rw [← h4.length]; exact h3) _ (jok_list h1 (.inl h2) h4)⟩
        | tup xs =>
          cases hd
          refine .inr ⟨S, μ, env, _, hS, hE, e, fun S' H' l g v rv => ?_⟩
          obtain ⟨a, vs, rfl, h1, h2, r⟩ := rv.tupH
          rw [hK]
          exact ⟨_, rfl, ⟨vs, SqT.later (W := W) h1 (Lt.refl (k := k))⟩, hk S' H' l g (by rw [← r.length]; exact h2) _ (jok_tup h1 r)⟩
        | _ => cases hd
/-- a list that a local owns, walked by a comprehension -/
theorem src_own (hK : X.K = W.K) {l : Expr} {f : Env → EM D} (hl : PE X l (tEvB W Wx f)) : PI X tg l (tSrc' W Wx kE (fItems f)) :=
  PI.imp (PI.or (pi_list hl) (pi_tup hl)) fun σ H R ⟨S, μ, env, res, hS, hE, hf, hk⟩ => by
    unfold fItems bindE at hf
    cases e : f env μ with
    | none => rw [e] at hf; cases hf
    | some q =>
      obtain ⟨o, μ1⟩ := q
      rw [e] at hf
      cases o with
      | exc c fs => cases hf; exact .inl ⟨S, μ, env, _, hS, hE, e, hk⟩
      | ok d =>
        obtain ⟨ds, hd, rfl⟩ := optE_some hf
        cases d with
        | lst xs =>
          cases hd
          refine .inl ⟨S, μ, env, _, hS, hE, e, fun S' H' l g v rv => ?_⟩
          rw [hK]
          rcases rv with rv | ⟨a, w, c, e1, e2, e3, e4, r⟩
          · cases rv with
            | lst h1 h2 h3 h4 => exact ⟨_, rfl, ⟨_, SqL.of h1⟩, hk S' H' l g (by rw [← h4.length]; exact h3) _ (jok_list h1 (.inl h2) h4)⟩
          · cases c <;> cases e2
            obtain ⟨vs, q1, q2, r⟩ := r
            exact ⟨_, e1, ⟨_, SqL.of q1⟩, hk S' H' l g (by rw [← r.length]; exact q2) _ (jok_list q1 (.inr ⟨w, e3, e4⟩) r)⟩
        | tup xs =>
          cases hd
          refine .inr ⟨S, μ, env, _, hS, hE, e, fun S' H' l g v rv => ?_⟩
          have rv : RepV W S' H' v (.tup ds) := rv.tupV
          obtain ⟨a, vs, rfl, h1, h2, r⟩ := rv.tupH
          rw [hK]
          exact ⟨_, rfl, ⟨vs, SqT.later (W := W) h1 (Lt.refl (k := kE))⟩, hk S' H' l g (by rw [← r.length]; exact h2) _ (jok_tup h1 r)⟩
        | _ => cases hd
/-! range -/
def rangeL (lo : Int) (n : Nat) : List D := (List.range n).map fun (i : Nat) => D.int (lo + (i : Int))
def rangeD1 : List D → EM (List D)
  | [.int j] => guardE (decide (-(2 ^ 62) ≤ j ∧ j < 2 ^ 62 ∧ j.toNat ≤ big)) (pureE (rangeL 0 j.toNat))
  | _ => failE
def rangeD2 : List D → EM (List D)
  | [.int i, .int j] => guardE (decide (-(2 ^ 62) ≤ i ∧ i < 2 ^ 62 ∧ -(2 ^ 62) ≤ j ∧ j < 2 ^ 62 ∧ (j - i).toNat ≤ big)) (pureE (rangeL i (j - i).toNat))
  | _ => failE
theorem jok_range {lo : Int} {n : Nat} : JOk W k S H (Itr lo n) (rangeL lo n) := by
  intro S' H' l hw
  refine ⟨fun i d e => ?_, by show n ≤ (rangeL lo n).length; simp [rangeL]⟩
  unfold rangeL at e
  rw [List.getElem?_map] at e
  obtain ⟨j, hj, rfl⟩ := map_some e
  obtain ⟨hl, hj⟩ := List.getElem?_eq_some_iff.mp hj
  simp at hj hl
  subst hj
  refine ⟨hl, fun x H'' ⟨e1, e2⟩ => ?_⟩
  subst e1 e2
  exact ⟨.refl, fun _ g => g, .int _⟩
theorem rangeL_len {lo : Int} {n : Nat} : (rangeL lo n).length = n := by simp [rangeL]
theorem src_range1 {a : Expr} {p pos : Pos} {g : Env → EM (List D)} (hg : Gl X "range") (hm : X.mg "range" = none) (ha : PA X [a] (tEvBs W Wx g)) (hs : starEach [a] X.env = [(false, eval a X.env)]) : PI X tg (.Call (.Name "range" p) [a] [] pos) (tSrc' W Wx k (fCB rangeD1 g)) :=
  PI.imp (pi_range1 hg hm ha hs) fun σ H R ⟨S, μ, env, res, hS, hE, hf, hk⟩ => by
    refine tG.bind hS hE hf hk fun ds μ1 S1 H1 l1 g1 e1 hf1 hk1 vs rvs => ?_
    unfold rangeD1 at hf1
    split at hf1
    · obtain ⟨hl, hf1⟩ := guardE_some hf1
      cases hf1
      have hl := of_decide_eq_true hl
      obtain ⟨v, rfl, rv⟩ := rvs.one
      cases rv.int
      exact ⟨_, rfl, hl.1, hl.2.1, hk1.now g1 (by rw [rangeL_len]; exact hl.2.2) _ jok_range⟩
    · cases hf1
theorem src_range2 {a b : Expr} {p pos : Pos} {g : Env → EM (List D)} (hg : Gl X "range") (hm : X.mg "range" = none) (ha : PA X [a, b] (tEvBs W Wx g)) (hs : starEach [a, b] X.env = [(false, eval a X.env), (false, eval b X.env)]) (hs2 : starEach [b] X.env = [(false, eval b X.env)]) :
    PI X tg (.Call (.Name "range" p) [a, b] [] pos) (tSrc' W Wx k (fCB rangeD2 g)) :=
  PI.imp (pi_range2 hg hm ha hs hs2) fun σ H R ⟨S, μ, env, res, hS, hE, hf, hk⟩ => by
    refine tG.bind hS hE hf hk fun ds μ1 S1 H1 l1 g1 e1 hf1 hk1 vs rvs => ?_
    unfold rangeD2 at hf1
    split at hf1
    · obtain ⟨hl, hf1⟩ := guardE_some hf1
      cases hf1
      have hl := of_decide_eq_true hl
      obtain ⟨v, w, rfl, rv, rw'⟩ := rvs.two
      cases rv.int; cases rw'.int
      exact ⟨_, _, rfl, ⟨hl.1, hl.2.1, hl.2.2.1, hl.2.2.2.1⟩, hk1.now g1 (by rw [rangeL_len]; exact hl.2.2.2.2) _ jok_range⟩
    · cases hf1
/-! a text, sign by sign -/
def signs (s : Str) : List D := s.cps.toList.map fun c => D.str ⟨#[c]⟩
def fSigns (f : Env → EM D) : Env → EM (List D) := fun env => bindE (f env) fun d => match d with
  | .str s => pureE (signs s)
  | _ => failE
theorem src_str {l : Expr} {f : Env → EM D} (hl : PE X l (tEvB W Wx f)) : PI X tg l (tSrc' W Wx k (fSigns f)) :=
  PI.imp (pi_str hl) fun σ H R ⟨S, μ, env, res, hS, hE, hf, hk⟩ => by
    refine tG.bind hS hE hf hk fun d μ1 S1 H1 l1 g1 e1 hf1 hk1 v rv => ?_
    cases d <;> first
      | (cases hf1; done)
      | skip
    rename_i s
    cases hf1
    obtain ⟨rfl, hl⟩ := rv.str
    refine ⟨s, rfl, hk1.now g1 (by unfold signs; rw [List.length_map]; exact hl) _ fun S' H' l hw => ⟨fun i d e => ?_, by show s.cps.size ≤ (signs s).length; simp [signs]⟩⟩
    unfold signs at e
    rw [List.getElem?_map] at e
    obtain ⟨c, hc, rfl⟩ := map_some e
    rw [Array.getElem?_toList] at hc
    refine ⟨(Array.getElem?_eq_some_iff.mp hc).1, fun x H'' ⟨e1, c', e2, e3⟩ => ?_⟩
    subst e1
    rw [hc] at e2; cases e2
    subst e3
    exact ⟨.refl, fun _ g => g, .str _ (by show 1 ≤ big; decide)⟩
/-! enumerate, zip -/
def enumL (n : Nat) : List D → List D
  | [] => []
  | d :: r => .tup [.int (n : Int), d] :: enumL (n + 1) r
theorem enumL_get : ∀ (ds : List D) (n i : Nat) (d : D), (enumL n ds)[i]? = some d → ∃ e, ds[i]? = some e ∧ d = .tup [.int ((n + i : Nat) : Int), e]
  | [], n, i, d, h => by simp [enumL] at h
  | x :: r, n, 0, d, h => by simp [enumL] at h; exact ⟨x, rfl, by simp [h]⟩
  | x :: r, n, i + 1, d, h => by
    obtain ⟨e, h1, h2⟩ := enumL_get r (n + 1) i d (by simpa [enumL] using h)
    exact ⟨e, by simpa using h1, by rw [h2]; congr 3; omega⟩
theorem enumL_len : ∀ (ds : List D) (n : Nat), (enumL n ds).length = ds.length
  | [], _ => rfl
  | x :: r, n => by simp [enumL, enumL_len r (n + 1)]
def enumD : List D → EM (List D)
  | [.lst xs] => pureE (enumL 0 xs)
  | _ => failE
theorem jok_enum {a : Addr} {vs : List V} {ds : List D} (h1 : H a = some (.lst vs)) (ho : S.Ow a = none ∨ ∃ w, S.Ow a = some w ∧ k w) (r : RepVs W S H vs ds) : JOk W k S H (Ite W.K a) (enumL 0 ds) := by
  intro S' H' l hw
  have h2 : H' a = some (.lst vs) := by
    rcases ho with ho | ⟨w, ho, hk⟩
    · exact (l.dat a _ ho h1).2
    · rw [(l.own a w ho hk).2]; exact h1
  have r2 := r.later l
  refine ⟨fun i d e => ?_, vs, SqL.of h2, by rw [enumL_len, r2.length]; exact Nat.le_refl _⟩
  obtain ⟨e', he, rfl⟩ := enumL_get ds 0 i d e
  obtain ⟨v, hv, rv⟩ := r2.get he
  refine ⟨⟨vs, v, SqL.of h2, hv⟩, fun x H'' ⟨T, y, e1, e2, e3, e4⟩ => ?_⟩
  have := e4 vs (SqL.of h2)
  rw [hv] at this
  cases this
  subst e1 e3
  have lt : LtE S' H' S' (upd H' T (.tup [.int (i : Nat), v])) := lt_upd e2 hw
  have hT : S'.Ow T = none := by
    cases z : S'.Ow T with
    | none => rfl
    | some w => obtain ⟨u, q⟩ := hw T w z; rw [e2] at q; cases q
  exact ⟨lt, fun μ g => g.upd e2, .tup upd_same hT (by show 2 ≤ big; decide) (.cons (by rw [Nat.zero_add]; exact .int _) (.cons (rv.later lt) .nil))⟩
theorem src_enum (hK : X.K = W.K) {e : Expr} {p pos tpos : Pos} {elts : List Expr} {kk : Nat} {g : Env → EM (List D)} (hg : Gl X "enumerate") (hm : X.mg "enumerate" = none) (ha : PA X [e] (tEvs W Wx g)) (hs : starEach [e] X.env = [(false, eval e X.env)]) :
    PI X (.Tuple elts kk tpos) (.Call (.Name "enumerate" p) [e] [] pos) (tSrc' W Wx k (fCB enumD g)) :=
  PI.imp (pi_enum hg hm ha hs) fun σ H R ⟨S, μ, env, res, hS, hE, hf, hk⟩ => by
    refine tG.bind hS hE hf hk fun ds μ1 S1 H1 l1 g1 e1 hf1 hk1 vs rvs => ?_
    unfold enumD at hf1
    split at hf1
    · cases hf1
      cases rvs with
      | cons rv t =>
        cases t
        cases rv with
        | lst h1 h2 h3 h4 =>
          rw [hK]
          exact ⟨_, _, rfl, SqL.of h1, hk1.now g1 (by rw [enumL_len, ← h4.length]; exact h3) _ (jok_enum h1 (.inl h2) h4)⟩
    · cases hf1
def zipL : List D → List D → List D
  | a :: r, b :: s => .tup [a, b] :: zipL r s
  | _, _ => []
theorem zipL_get : ∀ (xs ys : List D) (i : Nat) (d : D), (zipL xs ys)[i]? = some d → ∃ a b, xs[i]? = some a ∧ ys[i]? = some b ∧ d = .tup [a, b]
  | [], ys, i, d, h => by simp [zipL] at h
  | x :: r, [], i, d, h => by simp [zipL] at h
  | x :: r, y :: s, 0, d, h => by simp [zipL] at h; exact ⟨x, y, rfl, rfl, h.symm⟩
  | x :: r, y :: s, i + 1, d, h => by
    obtain ⟨a, b, h1, h2, h3⟩ := zipL_get r s i d (by simpa [zipL] using h)
    exact ⟨a, b, by simpa using h1, by simpa using h2, h3⟩
theorem zipL_len : ∀ (xs ys : List D), (zipL xs ys).length = min xs.length ys.length
  | [], ys => by simp [zipL]
  | x :: r, [] => by simp [zipL]
  | x :: r, y :: s => by simp [zipL, zipL_len r s]
def zipD : List D → EM (List D)
  | [.lst xs, .lst ys] => pureE (zipL xs ys)
  | _ => failE
theorem jok_zip {a b : Addr} {vs ws : List V} {ds es : List D} (h1 : H a = some (.lst vs)) (ho : S.Ow a = none) (r : RepVs W S H vs ds) (h1' : H b = some (.lst ws)) (ho' : S.Ow b = none) (r' : RepVs W S H ws es) : JOk W k S H (Itz W.K a b) (zipL ds es) := by
  intro S' H' l hw
  have h2 := (l.dat a _ ho h1).2
  have h2' := (l.dat b _ ho' h1').2
  have r2 := r.later l
  have r2' := r'.later l
  refine ⟨fun i d e => ?_, vs, ws, SqL.of h2, SqL.of h2', by rw [zipL_len, r2.length, r2'.length]; first | omega | (simp; omega) | skip⟩
  obtain ⟨x, y, hx, hy, rfl⟩ := zipL_get ds es i d e
  obtain ⟨v, hv, rv⟩ := r2.get hx
  obtain ⟨w, hw', rw'⟩ := r2'.get hy
  refine ⟨⟨vs, ws, v, w, SqL.of h2, SqL.of h2', hv, hw'⟩, fun x H'' ⟨T, p, q, e1, e2, e3, e4, e5⟩ => ?_⟩
  have z1 := e4 vs (SqL.of h2)
  rw [hv] at z1
  cases z1
  have z2 := e5 ws (SqL.of h2')
  rw [hw'] at z2
  cases z2
  subst e1 e3
  have lt : LtE S' H' S' (upd H' T (.tup [v, w])) := lt_upd e2 hw
  have hT : S'.Ow T = none := by
    cases z : S'.Ow T with
    | none => rfl
    | some w => obtain ⟨u, q⟩ := hw T w z; rw [e2] at q; cases q
  exact ⟨lt, fun μ g => g.upd e2, .tup upd_same hT (by show 2 ≤ big; decide) (.cons (rv.later lt) (.cons (rw'.later lt) .nil))⟩
theorem src_zip (hK : X.K = W.K) {e e2 : Expr} {p pos tpos : Pos} {elts : List Expr} {kk : Nat} {g : Env → EM (List D)} (hg : Gl X "zip") (hm : X.mg "zip" = none) (ha : PA X [e, e2] (tEvs W Wx g)) (hs : starEach [e, e2] X.env = (false, eval e X.env) :: starEach [e2] X.env) (hpl : (backTo pos (starEach [e2] X.env)).any (·.1) = false) :
    PI X (.Tuple elts kk tpos) (.Call (.Name "zip" p) [e, e2] [] pos) (tSrc' W Wx k (fCB zipD g)) :=
  PI.imp (pi_zip hg hm ha hs hpl) fun σ H R ⟨S, μ, env, res, hS, hE, hf, hk⟩ => by
    refine tG.bind hS hE hf hk fun ds μ1 S1 H1 l1 g1 e1 hf1 hk1 vs rvs => ?_
    unfold zipD at hf1
    split at hf1
    · cases hf1
      cases rvs with
      | cons rv t =>
        cases t with
        | cons rw' t =>
          cases t
          cases rv with
          | lst h1 h2 h3 h4 =>
            cases rw' with
            | lst h1' h2' h3' h4' =>
              rw [hK]
              exact ⟨_, _, _, _, rfl, SqL.of h1, SqL.of h1', hk1.now g1 (by rw [zipL_len, ← h4.length, ← h4'.length]; omega) _ (jok_zip h1 h2 h4 h1' h2' h4')⟩
    · cases hf1

/-! for -/
def loopF (p : Pat) (body : SM) : List D → SM
  | [], env, μ => some (.nx env, μ)
  | d :: r, env, μ => match bindP p d env with
    | none => none
    | some env1 => match body env1 μ with
      | some (.nx env2, μ2) => loopF p body r env2 μ2
      | some (.ct env2, μ2) => loopF p body r env2 μ2
      | some (.br env2, μ2) => some (.nx env2, μ2)
      | r => r
def fFor (p : Pat) (src : Env → EM (List D)) (body : SM) : SM := liftE src fun ds => loopF p body ds
theorem loop_of {p : Pat} {body : SM} {J : It} {ds : List D} {S0 : Ws} {H0 : Hp} (hJ : JOk W kS S0 H0 J ds) {r : SO × Mu} (hS : Sg W S0 H0 μ) (hE : EnvOk W S0 H0 σ env) (hf : loopF p body ds env μ = some r) (hk : KS W S0 H0 Wx Dn r) :
    ∃ Wv : Nat → Nat → St → Hp → Prop, (∃ m, Wv 0 m σ H0) ∧ ∀ i m σ H, Wv i m σ H →
      (J.stop i H ∧ Dn.nx σ H) ∨ (J.go i H ∧ ∃ N : St → Hp → Prop, (∀ σ' H', N σ' H' → ∃ m', m' < m ∧ Wv (i + 1) m' σ' H') ∧ ∀ x H', J.yld i H x H' → tTg W p x σ H' fun σ2 H2 => tSt W Wx body { Dn with nx := N, ct := N, bk := Dn.nx } σ2 H2) := by
  let Wv : Nat → Nat → St → Hp → Prop := fun i m σ H => m = ds.length - i ∧ i ≤ ds.length ∧ ∃ S env μ, LtS S0 H0 S H ∧ Sg W S H μ ∧ EnvOk W S H σ env ∧ loopF p body (ds.drop i) env μ = some r
  refine ⟨Wv, ⟨ds.length, by simp, Nat.zero_le _, S0, env, μ, .refl, hS, hE, by simpa using hf⟩, ?_⟩
  rintro i m σ' H' ⟨rfl, hi, S, env', μ', l, g, e, hf'⟩
  obtain ⟨hgo, hstop⟩ := hJ S H' l g.wf
  by_cases hlt : i < ds.length
  · have hd : ds.drop i = ds[i] :: ds.drop (i + 1) := List.drop_eq_getElem_cons hlt
    rw [hd] at hf'
    have hget : ds[i]? = some ds[i] := List.getElem?_eq_getElem hlt
    obtain ⟨h1, h2⟩ := hgo i _ hget
    refine .inr ⟨h1, fun σ2 H2 => Wv (i + 1) (ds.length - (i + 1)) σ2 H2, fun σ2 H2 q => ⟨_, by omega, q⟩, fun x H'' y => ?_⟩
    obtain ⟨lt, gk, rx⟩ := h2 x H'' y
    unfold loopF at hf'
    cases z : bindP p ds[i] env' with
    | none => rw [z] at hf'; cases hf'
    | some env1 =>
      rw [z] at hf'
      have hf' : (match body env1 μ' with
        | some (.nx env2, μ2) => loopF p body (ds.drop (i + 1)) env2 μ2
        | some (.ct env2, μ2) => loopF p body (ds.drop (i + 1)) env2 μ2
        | some (.br env2, μ2) => some (.nx env2, μ2)
        | r => r) = some r := hf'
      refine ⟨S, μ', env', env1, ds[i], gk _ g, e.laterE lt, rx, z, fun σ3 e3 _ => ?_⟩
      cases q : body env1 μ' with
      | none => rw [q] at hf'; cases hf'
      | some r1 =>
        rw [q] at hf'
        obtain ⟨o, μ2⟩ := r1
        have lS : LtS S0 H0 S H'' := l.trans lt.toS
        have nxt : ∀ env2, loopF p body (ds.drop (i + 1)) env2 μ2 = some r → ∀ S2 H2 σ2, LtS S H'' S2 H2 → Sg W S2 H2 μ2 → EnvOk W S2 H2 σ2 env2 → Wv (i + 1) (ds.length - (i + 1)) σ2 H2 := fun env2 hq S2 H2 σ2 l2 g2 e2 => ⟨rfl, hlt, S2, env2, μ2, lS.trans l2, g2, e2, hq⟩
        refine ⟨S, μ', env1, _, gk _ g, e3, q, ?_⟩
        cases o with
        | nx env2 => exact nxt env2 hf'
        | ct env2 => exact nxt env2 hf'
        | br env2 => cases hf'; exact fun S2 H2 σ2 l2 g2 e2 => hk S2 H2 σ2 (lS.trans l2) g2 e2
        | rt d => cases hf'; exact fun S2 H2 v l2 => hk S2 H2 v (lS.trans l2)
        | exc c fs env2 => cases hf'; exact fun S2 H2 σ2 dd vs l2 => hk S2 H2 σ2 dd vs (lS.trans l2)
  · have hi' : i = ds.length := by omega
    subst hi'
    rw [List.drop_length] at hf'
    cases hf'
    exact .inl ⟨hstop, hk S H' σ' l g e⟩
theorem es_for {iter : Expr} {body : List Stmt} {pos : Pos} {p : Pat} {f : Env → EM (List D)} {F : SM} (hp : PassesOwn (model X.prog X.w) X.A X.env X.xe) (hc : X.calm = true) (hi : PI X tg iter (tSrc' W Wx kS f)) (hg : PG X tg (tTg W p)) (hb : PSs X body (tSt W Wx F))
    (hs : ∀ x, foldedSetIterable iter X.env x = pure x) : PS X (.For tg iter body [] pos) (tSt W Wx (fFor p f F)) :=
  PS.imp (ps_for hp hc hi hg hb hs) fun D σ H h => tG.lift h fun S μ env ds μ1 S1 H1 r hS l g hE hf hk hl J hJ => by
    exact loop_of hJ g hE hf (hk.later l.toS)
end
end EG
namespace EG
open PySem L2

/-! list comprehensions -/
def wipeE (env : Env) : List Nat → Env
  | [] => env
  | v :: vs => (wipeE env vs).set v .no
/-- nothing may be raised -/
def noX {α : Type} (m : EM α) : EM α := fun μ => match m μ with
  | some (.exc _ _, _) => none
  | r => r
def compL (p : Pat) (cond : Env → EM Bool) (elt : Env → EM D) (env : Env) : List D → EM (List D)
  | [] => pureE []
  | d :: r => match bindP p d env with
    | none => failE
    | some env1 => bindE (noX (cond env1)) fun b => match b with
      | true => bindE (noX (elt env1)) fun x => bindE (compL p cond elt env r) fun xs => pureE (x :: xs)
      | false => compL p cond elt env r
def fComp (vs : List Nat) (p : Pat) (src : Env → EM (List D)) (cond : Env → EM Bool) (elt : Env → EM D) : Env → EM (List D) := fun env => bindE (src env) fun ds => compL p cond elt (wipeE env vs) ds
def fYes : Env → EM Bool := fun _ => pureE true
abbrev Wx0 : WX := fun _ _ _ _ => False
section
variable {W : Wd} {S S' S1 : Ws} {H H' H1 : Hp} {σ : St} {env : Env} {μ : Mu} {Wx : WX} {α β : Type} {X : Cx} {Dn : Ends} {k : Own → Prop} {tg : Expr}
theorem wipeE_length (env : Env) : ∀ vs : List Nat, (wipeE env vs).length = env.length
  | [] => rfl
  | v :: vs => by unfold wipeE; rw [List.length_set, wipeE_length env vs]
theorem EnvOk.wipe (h : EnvOk W S H σ env) : ∀ vs : List Nat, EnvOk W S H (wipe σ vs) (wipeE env vs)
  | [] => h
  | v :: vs => by
    have ih := EnvOk.wipe h vs
    refine ⟨by rw [wipe_length, wipeE_length]; exact h.len, fun j sl e => ?_⟩
    unfold wipeE at e
    unfold L2.wipe
    by_cases hj : j = v
    · subst hj
      by_cases hl : j < (wipeE env vs).length
      · rw [List.getElem?_set_self hl] at e
        cases e
        trivial
      · rw [List.getElem?_eq_none (by rw [List.length_set]; omega)] at e
        cases e
    · rw [List.getElem?_set_ne (Ne.symm hj)] at e ⊢
      exact ih.at_ j sl e
theorem wipe_get (σ : St) : ∀ (vs : List Nat) (j : Nat), j ∈ vs → j < σ.length → (wipe σ vs)[j]? = some none
  | [], j, h, _ => by simp at h
  | v :: vs, j, h, hl => by
    unfold wipe
    by_cases e : j = v
    · subst e
      rw [List.getElem?_set_self (by rw [wipe_length]; exact hl)]
    · rw [List.getElem?_set_ne (Ne.symm e)]
      exact wipe_get σ vs j (by simpa [e] using h) hl
theorem wipe_get_ne (σ : St) : ∀ (vs : List Nat) (j : Nat), j ∉ vs → (wipe σ vs)[j]? = σ[j]?
  | [], j, _ => rfl
  | v :: vs, j, h => by
    unfold wipe
    simp only [List.mem_cons, not_or] at h
    rw [List.getElem?_set_ne (Ne.symm h.1)]
    exact wipe_get_ne σ vs j h.2
theorem wipe_agree {vs ps : List Nat} {σ σ' : St} (hp : ∀ i ∈ ps, i ∈ vs) (a : Agree ps (wipe σ vs) σ') : wipe σ' vs = wipe σ vs := by
  have hl : σ'.length = σ.length := a.1.trans (wipe_length σ vs)
  refine List.ext_getElem? fun j => ?_
  by_cases h : j ∈ vs
  · by_cases hj : j < σ.length
    · rw [wipe_get _ _ _ h hj, wipe_get _ _ _ h (by rw [hl]; exact hj)]
    · rw [List.getElem?_eq_none (by rw [wipe_length, hl]; omega), List.getElem?_eq_none (by rw [wipe_length]; omega)]
  · rw [wipe_get_ne _ _ _ h, a.2 j (fun z => h (hp j z))]
theorem noX_some {m : EM α} {r : Out α × Mu} (h : noX m μ = some r) : ∃ a μ', m μ = some (.ok a, μ') ∧ r = (.ok a, μ') := by
  unfold noX at h
  cases e : m μ with
  | none => rw [e] at h; cases h
  | some q =>
    obtain ⟨o, μ'⟩ := q
    rw [e] at h
    cases o with
    | ok a => cases h; exact ⟨a, μ', rfl, rfl⟩
    | exc c fs => cases h
theorem bind_noX {m : EM α} {g : α → EM β} {r : Out β × Mu} (h : bindE (noX m) g μ = some r) : ∃ a μ', m μ = some (.ok a, μ') ∧ g a μ' = some r := by
  unfold bindE at h
  cases e : noX m μ with
  | none => rw [e] at h; cases h
  | some q =>
    obtain ⟨a, μ', e1, rfl⟩ := noX_some e
    rw [e] at h
    exact ⟨a, μ', e1, h⟩
theorem compL_ok {p : Pat} {cond : Env → EM Bool} {elt : Env → EM D} {env : Env} : ∀ {ds : List D} {μ : Mu} {r : Out (List D) × Mu}, compL p cond elt env ds μ = some r → ∃ xs μ', r = (.ok xs, μ')
  | [], μ, r, h => by cases h; exact ⟨_, _, rfl⟩
  | d :: ds, μ, r, h => by
    unfold compL at h
    cases z : bindP p d env with
    | none => rw [z] at h; cases h
    | some env1 =>
      rw [z] at h
      obtain ⟨b, μ1, h1, h⟩ := bind_noX h
      cases b with
      | false => exact compL_ok h
      | true =>
        obtain ⟨x, μ2, h2, h⟩ := bind_noX h
        unfold bindE at h
        cases q : compL p cond elt env ds μ2 with
        | none => rw [q] at h; cases h
        | some r2 =>
          obtain ⟨xs, μ', rfl⟩ := compL_ok q
          rw [q] at h
          cases h
          exact ⟨_, _, rfl⟩
/-- a write at what is owned: data does not feel it -/
theorem lt_own_write {p : Addr} {o : HO} {w : Own} (hp : S.Ow p = some w) (hc : ∀ n, w ≠ .cell n) : Lt (fun _ => False) S H S (upd H p o) where
  dat := fun a u e q => by
    have : a ≠ p := fun z => by rw [z, hp] at e; cases e
    rw [upd_ne this]; exact ⟨e, q⟩
  own := fun _ _ _ h => h.elim
  cel := fun n a e q => ⟨e, q⟩
  mem := upd_mem
theorem Sg.own_write (g : Sg W S H μ) {p : Addr} {o : HO} {w : Own} (hp : S.Ow p = some w) (hc : ∀ n, w ≠ .cell n) : Sg W S (L2.upd H p o) μ where
  wf := fun a x e => by
    obtain ⟨u, q⟩ := g.wf a x e
    by_cases h : a = p
    · subst h; exact ⟨o, upd_same⟩
    · exact ⟨u, by rw [upd_ne h]; exact q⟩
  len := g.len
  cells := fun n c e => by
    obtain ⟨a, e1, e2, r⟩ := g.cells n c e
    have : a ≠ p := fun z => by rw [z, hp] at e2; cases e2; exact hc n rfl
    exact ⟨a, e1, e2, r.later (lt_own_write hp hc) (by rw [upd_ne this])⟩
/-- a write at what was not there -/
theorem lt_write {p : Addr} {o : HO} (hS : ∀ a w, S.Ow a = some w → ∃ u, H a = some u) (hp : H p = none) (l : LtE S H S1 H1) : LtE S H S1 (upd H1 p o) where
  dat := fun a u e q => by
    have : a ≠ p := ne_of_none q hp
    rw [upd_ne this]; exact l.dat a u e q
  own := fun a w e k => by
    obtain ⟨u, q⟩ := hS a w e
    have : a ≠ p := ne_of_none q hp
    rw [upd_ne this]; exact l.own a w e k
  cel := l.cel
  mem := fun a h => upd_mem a (l.mem a h)
theorem big_lt {n m : Nat} (h : n < m) (hm : m ≤ big) : n < sizeLine := Nat.lt_of_lt_of_le (Nat.lt_of_lt_of_le h hm) big_le
theorem lc_of {vs : List Nat} {p : Pat} {src : Env → EM (List D)} {cond : Env → EM Bool} {elt : Env → EM D} {Q : VK} (hp : ∀ i ∈ p.slots, i ∈ vs) (h : tEvL W Wx (fComp vs p src cond elt) σ H Q) :
    tLc (tSrc' W Wx kE src) (tTg W p) (tEvT W Wx0 cond) (tEv W Wx0 elt) vs σ H Q := by
  obtain ⟨S, μ, env, res, hS, hE, hf, hk⟩ := h
  refine tG.bind hS hE hf hk fun ds μ1 S1 H1 l1 g1 e1 hf1 hk1 hlen J hJ D0 hD => ?_
  obtain ⟨tot, μ9, rfl⟩ := compL_ok hf1
  have hD0 : H D0 = none := by
    cases z : H D0 with
    | none => rfl
    | some o => exact absurd hD (l1.mem D0 (by rw [z]; exact fun z => nomatch z))
  let Wv : Nat → Nat → Hp → Prop := fun i m H2 => m = ds.length - i ∧ i ≤ ds.length ∧ ∃ S2 μ2 acc accD rest, LtE S1 H1 S2 H2 ∧ Sg W S2 H2 μ2 ∧ S2.Ow D0 = some .out ∧ H2 D0 = some (.lst acc) ∧ acc.length ≤ i ∧ RepVs W S2 H2 acc accD ∧
    compL p cond elt (wipeE env vs) (ds.drop i) μ2 = some (.ok rest, μ9) ∧ tot = accD ++ rest
  refine ⟨Wv, ⟨ds.length, by simp, Nat.zero_le _, S1.set D0 (some .out), μ1, [], [], tot, lt_new hD g1.wf, g1.new hD, Ws.set_same, upd_same, Nat.le_refl _, .nil, by simpa using hf1, rfl⟩, ?_⟩
  rintro i m H2 ⟨rfl, hi, S2, μ2, acc, accD, rest, l2, g2, o2, h2, n2, r2, c2, t2⟩
  obtain ⟨hgo, hstop⟩ := hJ S2 H2 l2 g2.wf
  by_cases hlt : i < ds.length
  · have hd : ds.drop i = ds[i] :: ds.drop (i + 1) := List.drop_eq_getElem_cons hlt
    rw [hd] at c2
    have hget : ds[i]? = some ds[i] := List.getElem?_eq_getElem hlt
    obtain ⟨q1, q2⟩ := hgo i _ hget
    refine .inr ⟨q1, fun H3 => Wv (i + 1) (ds.length - (i + 1)) H3, fun H3 q => ⟨_, by omega, q⟩, fun x H3 y => ?_⟩
    obtain ⟨lt, gk, rx⟩ := q2 x H3 y
    unfold compL at c2
    cases z : bindP p ds[i] (wipeE env vs) with
    | none => rw [z] at c2; cases c2
    | some env1 =>
      rw [z] at c2
      obtain ⟨b, μ3, k1, c3⟩ := bind_noX c2
      have e3 : EnvOk W S2 H3 (wipe σ vs) (wipeE env vs) := (((e1.laterE l2).laterE lt).wipe vs)
      refine ⟨S2, μ2, wipeE env vs, env1, ds[i], gk _ g2, e3, rx, z, fun σ3 e4 ag => ⟨wipe_agree hp ag, ?_⟩⟩
      refine ⟨S2, μ2, env1, _, gk _ g2, e4, k1, fun S4 H4 l4 g4 => okT_mk ?_⟩
      have lb : LtE S1 H1 S4 H4 := (l2.trans lt).trans l4
      have o4 := (lt.trans l4).own D0 _ o2 trivial
      have h4 : H4 D0 = some (.lst acc) := o4.2.trans h2
      have r4 : RepVs W S4 H4 acc accD := r2.later (lt.trans l4)
      cases b with
      | false =>
        refine iF Bool.false_ne_true ⟨rfl, hlt, S4, μ3, acc, accD, rest, lb, g4, o4.1, h4, by omega, r4, c3, t2⟩
      | true =>
        obtain ⟨d5, μ5, k5, c5⟩ := bind_noX c3
        refine iT rfl ⟨S4, μ3, env1, _, g4, e4.laterE l4, k5, fun S5 H5 l5 g5 v rv => ?_⟩
        unfold bindE at c5
        cases q : compL p cond elt (wipeE env vs) (ds.drop (i + 1)) μ5 with
        | none => rw [q] at c5; cases c5
        | some rr =>
          obtain ⟨xs, μ', rfl⟩ := compL_ok q
          rw [q] at c5
          cases c5
          have o5 := l5.own D0 _ o4.1 trivial
          have h5 : H5 D0 = some (.lst acc) := o5.2.trans h4
          have lw : Lt (fun _ => False) S5 H5 S5 (upd H5 D0 (.lst (acc ++ [v]))) := lt_own_write o5.1 fun n z => nomatch z
          refine ⟨acc, h5, big_lt (by omega) hlen, rfl, hlt, S5, μ5, acc ++ [v], accD ++ [d5], xs, lt_write g1.wf hD (lb.trans l5), g5.own_write o5.1 (fun n z => nomatch z), o5.1, upd_same, by rw [List.length_append]; simp; omega, ?_, q, by rw [t2]; simp⟩
          exact ((r4.later l5).append (.one rv)).later lw
  · have hi' : i = ds.length := by omega
    subst hi'
    rw [List.drop_length] at c2
    cases c2
    refine .inl ⟨hstop, ?_⟩
    rw [List.append_nil] at t2
    subst t2
    exact hk1 S2 H2 l2 g2 D0 acc hD0 o2 h2 (Nat.le_trans n2 hlen) r2
theorem ets_nil : PTs X [] (tEvT W Wx fYes) := ⟨fun pins s σ H Q I h => pts_nil.run pins s σ H Q I (by
  obtain ⟨S, μ, env, res, hS, hE, hf, hk⟩ := h
  cases hf
  have z := hk.now hS
  exact z)⟩
theorem ets_one {c : Expr} {f : Env → EM Bool} (h : PT X c (tEvT W Wx f)) : PTs X [c] (tEvT W Wx f) := pts_one h
theorem el_comp {elt tg iter : Expr} {ifs : List Expr} {scope : Scope} {own : List (Str × Nat)} {pos : Pos} {p : Pat} {src : Env → EM (List D)} {cond : Env → EM Bool} {fe : Env → EM D} (hc : X.calm = true) (hN : X.N.Nodup) (hi : PI X tg iter (tSrc' W Wx kE src)) (ok : BlkOk X.N X.env.scope scope own)
    (hp : ∀ i ∈ p.slots, i ∈ own.map (·.2))
    (hg : ∀ (s : Shared) (H : Hp) (C : Addr) (cl : List (Str × Addr)) (fp : List Addr), PG (X.blk s H scope (compEnvC scope cl C X.env) fp) tg (tTg W p))
    (ht : ∀ (s : Shared) (H : Hp) (C : Addr) (cl : List (Str × Addr)) (fp : List Addr), PTs (X.blk s H scope (compEnvC scope cl C X.env) fp) ifs (tEvT W Wx0 cond))
    (he : ∀ (s : Shared) (H : Hp) (C : Addr) (cl : List (Str × Addr)) (fp : List Addr), PE (X.blk s H scope (compEnvC scope cl C X.env) fp) elt (tEv W Wx0 fe)) (hs : ∀ x, foldedSetIterable iter X.env x = pure x) :
    PE X (.ListComp elt [⟨tg, iter, ifs, 0⟩] scope pos) (tEvL W Wx (fComp (own.map (·.2)) p src cond fe)) :=
  PE.imp (pe_lc hc hN hi ok hg ht he hs) fun σ H Q h => lc_of hp h
end
end EG
namespace EG
open PySem L2

/-! side conditions by the syntax -/
def notStar : Expr → Bool
  | .Starred _ _ => false
  | _ => true
theorem starEach_of {e : Expr} {es : List Expr} {env : PySem.Env} (h : notStar e = true) : starEach (e :: es) env = (false, eval e env) :: starEach es env := by
  cases e <;> first | rfl | cases h
theorem noStars {es : List Expr} {env : PySem.Env} {pos : Pos} (h : es.all notStar = true) : (backTo pos (starEach es env)).any (·.1) = false := by
  induction es with
  | nil => rfl
  | cons e es ih =>
    rw [List.all_cons, Bool.and_eq_true] at h
    rw [starEach_of h.1]
    have := ih h.2
    simp only [backTo, List.map_cons, List.any_cons, Bool.false_or] at this ⊢
    exact this
theorem assignEach_of {e : Expr} {es : List Expr} {env : PySem.Env} (h : notStar e = true) : assignEach (e :: es) env = (false, assign e env) :: assignEach es env := by
  cases e <;> first | rfl | cases h
theorem assignEach_len : ∀ {es : List Expr} {env : PySem.Env}, (assignEach es env).length = es.length
  | [], _ => rfl
  | e :: es, env => by cases e <;> simp [assignEach, assignEach_len (es := es)]
theorem assignEach_no {es : List Expr} {env : PySem.Env} (h : es.all notStar = true) : (assignEach es env).findIdx? (·.1) = none := by
  induction es with
  | nil => rfl
  | cons e es ih =>
    rw [List.all_cons, Bool.and_eq_true] at h
    rw [assignEach_of h.1]
    simp [List.findIdx?_cons, ih h.2]
def notComp : Expr → Bool
  | .ListComp .. => false
  | .SetComp .. => false
  | .DictComp .. => false
  | _ => true
theorem swaps_of {e : Expr} {t : Option Expr} {l : Nat} {env : PySem.Env} (h : notComp e = true) : swapsWith e t l env = pure false := by
  cases e <;> first | rfl | cases h
def notTuple : Expr → Bool
  | .Tuple .. => false
  | _ => true
def notTL : Expr → Bool
  | .Tuple .. => false
  | .List .. => false
  | _ => true
theorem swapped_of {t e : Expr} {env : PySem.Env} (h : (notTL t || notTuple e) = true) : swappedStores [t] e env = pure none := by
  cases t <;> cases e <;> first | rfl | simp [notTuple, notTL] at h
def notSet : Expr → Bool
  | .Set .. => false
  | _ => true
theorem folded_of {e : Expr} {env : PySem.Env} (h : notSet e = true) : ∀ x, foldedSetIterable e env x = pure x := by
  cases e <;> first | (intro x; rfl) | cases h
def notSlice : Expr → Bool
  | .Slice .. => false
  | _ => true
theorem plainIx_of {e : Expr} (h : notSlice e = true) : PlainIx e := by
  cases e <;> first | (intro o i; rfl) | cases h
/-- isTrue has no arm of its own -/
def plainT : Expr → Bool
  | .UnaryOp .Not _ _ => false
  | .BoolOp .. => false
  | .IfExp .. => false
  | .Compare .. => false
  | _ => true
theorem plainT_of {e : Expr} {env : PySem.Env} (h : plainT e = true) : ∀ whole, isTrue e env whole = (do let v ← whole; standAt e.pos; holding [v] (truthy v)) := by
  cases e <;> first
    | (intro w; rfl)
    | (cases h; done)
    | (rename_i op x p; cases op <;> first | (intro w; rfl) | cases h)
theorem pt_ifExp {X : Cx} {c a b : Expr} {pos : Pos} {tc ta tb : TT} (hc : PT X c tc) (ha : PT X a ta) (hb : PT X b tb) : PT X (.IfExp c a b pos) (fun σ H Q => tc σ H fun k H1 => if k = true then ta σ H1 Q else tb σ H1 Q) := by
  refine ⟨fun pins s σ H Q I h => ?_⟩
  refine PyProof.Rows.isTrue_IfExp (thn (hc.run pins s σ H _ I h) fun d s1 ⟨H1, I1, q1⟩ => ?_)
  cases d with
  | true => exact ha.run pins s1 σ H1 Q I1 q1
  | false => exact hb.run pins s1 σ H1 Q I1 q1

/-! the small syntax -/
inductive BOp where | add | sub | mul | div | mod | pow
  deriving DecidableEq
inductive COp where | eq | ne | lt | le | gt | ge | isN | notN | in_ | notIn
  deriving DecidableEq
inductive Blt where | len | abs | int | str | bool | all | any | sum | max | min | tuple
  deriving DecidableEq
inductive LBlt where | sorted | list
  deriving DecidableEq
mutual
inductive E where
  | v (i : Nat) | non | bl (b : Bool) | int (i : Int) | str (s : Str) | gc (i : Nat)
  | bin (o : BOp) (a b : E) | neg (a : E)
  | cmp (o : COp) (a b : E) | chain (o p : COp) (a b c : E)
  | ban (as : Es) | bor (as : Es) | nt (a : E) | ife (c a b : E)
  | call (f : Nat) (as : Es) | blt (b : Blt) (as : Es) | isi (t : Tag) (a : E) | isiT (ts : List Tag) (a : E)
  | ix (a b : E) | sl (a : E) (lo hi : Oe) | tup (as : Es)
  | lst (as : Es) | lblt (b : LBlt) (as : Es) | lsl (a : E) (lo hi : Oe) | cat (a b : E) | rep (a b : E)
  | comp (own : List (Str × Nat)) (p : Pat) (s : Sr) (c : Oe) (e : E)
inductive Es where
  | nil | cons (e : E) (r : Es)
inductive Oe where
  | none | some (e : E)
inductive Sr where
  | seq (e : E) | own (e : E) | rng1 (a : E) | rng2 (a b : E) | str (e : E) | enum (a : E) | zip (a b : E)
end
def Es.len : Es → Nat
  | .nil => 0
  | .cons _ r => r.len + 1

/-- what the text's own names stand for -/
structure GFn where
  name : Str
  n : Nat
  F : Fn
  lvl : Nat
  dds : List D
structure GC where
  name : Str
  d : D
structure Gam where
  fns : List GFn
  consts : List GC
  clss : List (Str × Nat)
  frees : List Str
  isi : Isi

def bopF : BOp → D → D → EM D
  | .add => addD | .sub => subD | .mul => mulD | .div => divD | .mod => modD | .pow => powD
def bopO : BOp → Operator
  | .add => .Add | .sub => .Sub | .mul => .Mult | .div => .FloorDiv | .mod => .Mod | .pow => .Pow
def copF : COp → D → D → EM D
  | .eq => eqDD | .ne => neDD | .lt => cmpI fun i j => decide (i < j) | .le => cmpI fun i j => decide (i ≤ j) | .gt => cmpI fun i j => decide (j < i) | .ge => cmpI fun i j => decide (j ≤ i)
  | .isN => isND | .notN => notND | .in_ => inD | .notIn => notInD
def copO : COp → CmpOp
  | .eq => .Eq | .ne => .NotEq | .lt => .Lt | .le => .LtE | .gt => .Gt | .ge => .GtE | .isN => .Is | .notN => .IsNot | .in_ => .In | .notIn => .NotIn
def bltF : Blt → List D → EM D
  | .len => lenD | .abs => absD | .int => intD | .str => strD | .bool => boolD | .all => allD | .any => anyD | .sum => sumD | .max => maxD | .min => minD | .tuple => tupleD
def bltN : Blt → Str
  | .len => "len" | .abs => "abs" | .int => "int" | .str => "str" | .bool => "bool" | .all => "all" | .any => "any" | .sum => "sum" | .max => "max" | .min => "min" | .tuple => "tuple"
def lbltF : LBlt → List D → EM (List D)
  | .sorted => sortedD | .list => listD
def lbltN : LBlt → Str
  | .sorted => "sorted" | .list => "list"
def negD : D → EM D
  | .int i => pureE (.int (-i))
  | _ => failE
def fNeg (f : Env → EM D) : Env → EM D := fun env => bindE (f env) negD

/-- the readings of a piece: as data, borrowed, as a new list, as a test -/
structure Bn where
  e : Env → EM D
  b : Env → EM D
  l : Env → EM (List D)
  t : Env → EM Bool
def failL : Env → EM (List D) := fun _ => failE
def mkE (f : Env → EM D) : Bn := ⟨f, f, failL, fTru f⟩
def mkL (g : Env → EM (List D)) : Bn := ⟨fD g, fD g, g, fTru (fD g)⟩
structure Bs where
  s : Env → EM (List D)
  b : Env → EM (List D)
  an : Env → EM D
  anT : Env → EM Bool
  or : Env → EM D
  orT : Env → EM Bool
def fFail : Env → EM D := fun _ => failE
def fFailT : Env → EM Bool := fun _ => failE
mutual
def ev (Γ : Gam) : E → Bn
  | .v i => ⟨fV i, fVB i, failL, fTru (fVB i)⟩
  | .non => mkE (fC .non)
  | .bl b => mkE (fC (.bl b))
  | .int i => mkE (fC (.int i))
  | .str s => mkE (fC (.str s))
  | .gc i => match Γ.consts[i]? with
    | some c => mkE (fC c.d)
    | none => mkE fFail
  | .bin o a b => mkE (fOp2 (bopF o) (ev Γ a).b (ev Γ b).b)
  | .neg a => mkE (fNeg (ev Γ a).b)
  | .cmp o a b => ⟨fOp2 (copF o) (ev Γ a).b (ev Γ b).b, fOp2 (copF o) (ev Γ a).b (ev Γ b).b, failL, fT (fOp2 (copF o) (ev Γ a).b (ev Γ b).b)⟩
  | .chain o p a b c => ⟨fChain (copF o) (copF p) (ev Γ a).b (ev Γ b).b (ev Γ c).b, fChain (copF o) (copF p) (ev Γ a).b (ev Γ b).b (ev Γ c).b, failL, fT (fChain (copF o) (copF p) (ev Γ a).b (ev Γ b).b (ev Γ c).b)⟩
  | .ban as => ⟨(evs Γ as).an, (evs Γ as).an, failL, (evs Γ as).anT⟩
  | .bor as => ⟨(evs Γ as).or, (evs Γ as).or, failL, (evs Γ as).orT⟩
  | .nt a => ⟨fNotV (ev Γ a).e, fNotV (ev Γ a).e, failL, fNotT (ev Γ a).t⟩
  | .ife c a b => ⟨fIf (ev Γ c).t (ev Γ a).e (ev Γ b).e, fIf (ev Γ c).t (ev Γ a).e (ev Γ b).e, failL, fun env => bindE ((ev Γ c).t env) fun k => match k with
    | true => (ev Γ a).t env
    | false => (ev Γ b).t env⟩
  | .call f as => match Γ.fns[f]? with
    | some g => mkE (fCall g.n g.F g.dds (evs Γ as).s)
    | none => mkE fFail
  | .blt b as => mkE (fCB (bltF b) (evs Γ as).b)
  | .isi t a => mkE (fIsi Γ.isi [t] (ev Γ a).b)
  | .isiT ts a => mkE (fIsi Γ.isi ts (ev Γ a).b)
  | .ix a b => mkE (fOp2 ixD (ev Γ a).b (ev Γ b).b)
  | .sl a lo hi => mkE (fSl slD (ev Γ a).b (evo Γ lo).1 (evo Γ hi).1)
  | .tup as => mkE (fTup (evs Γ as).s)
  | .lst as => mkL (fLst (evs Γ as).s)
  | .lblt b as => mkL (fCB (lbltF b) (evs Γ as).b)
  | .lsl a lo hi => mkL (fSl slL (ev Γ a).b (evo Γ lo).1 (evo Γ hi).1)
  | .cat a b => mkL (fOp2L catD (ev Γ a).b (ev Γ b).b)
  | .rep a b => mkL (fOp2L repD (ev Γ a).b (ev Γ b).b)
  | .comp own p s c e => mkL (fComp (own.map (·.2)) p (evr Γ s) (evo Γ c).2 (ev Γ e).e)
def evs (Γ : Gam) : Es → Bs
  | .nil => ⟨fNil, fNil, fFail, fFailT, fFail, fFailT⟩
  | .cons e r => ⟨fCons (ev Γ e).e (evs Γ r).s, fCons (ev Γ e).b (evs Γ r).b,
      (match r with | .nil => (ev Γ e).e | .cons _ _ => fAndV (ev Γ e).e (evs Γ r).an), (match r with | .nil => (ev Γ e).t | .cons _ _ => fAndT (ev Γ e).t (evs Γ r).anT),
      (match r with | .nil => (ev Γ e).e | .cons _ _ => fOrV (ev Γ e).e (evs Γ r).or), (match r with | .nil => (ev Γ e).t | .cons _ _ => fOrT (ev Γ e).t (evs Γ r).orT)⟩
def evo (Γ : Gam) : Oe → (Env → EM (Option Int)) × (Env → EM Bool)
  | .none => (fNoP, fYes)
  | .some e => (fP (ev Γ e).b, (ev Γ e).t)
def evr (Γ : Gam) : Sr → Env → EM (List D)
  | .seq e => fItems (ev Γ e).e
  | .own e => fItems (ev Γ e).b
  | .rng1 a => fCB rangeD1 (fCons (ev Γ a).b fNil)
  | .rng2 a b => fCB rangeD2 (fCons (ev Γ a).b (fCons (ev Γ b).b fNil))
  | .str e => fSigns (ev Γ e).b
  | .enum a => fCB enumD (fCons (ev Γ a).e fNil)
  | .zip a b => fCB zipD (fCons (ev Γ a).e (fCons (ev Γ b).e fNil))
end

/-! the check that a term reads a piece of the text -/
def seen (sc : Scope) (x : Str) : Bool := match sc.names.lookup x with
  | some .local => true
  | some .cell => true
  | some .free => true
  | _ => false
def isLoc (sc : Scope) (x : Str) : Bool := match sc.names.lookup x with
  | some .local => true
  | some .cell => true
  | _ => false
def isGl (sc : Scope) (x : Str) : Bool := decide (sc.names.lookup x = some .globalImplicit) && !(x == ("__debug__" : Str)) && !(x == ("__name__" : Str))
def chkV (N : List Str) (sc : Scope) (i : Nat) (x : Str) : Bool := decide (N[i]? = some x) && seen sc x && !(x == ("__debug__" : Str)) && !(x == ("__classdict__" : Str))
def chkFree (Γ : Gam) (sc : Scope) (x : Str) : Bool := isGl sc x && Γ.frees.contains x
mutual
def chkP (N : List Str) (sc : Scope) : Pat → Expr → Bool
  | .nm i, e => match e with
    | .Name x _ => decide (N[i]? = some x) && isLoc sc x
    | _ => false
  | .tp ps, e => match e with
    | .Tuple es _ _ => chkPs N sc ps es && es.all notStar
    | _ => false
def chkPs (N : List Str) (sc : Scope) : Pats → List Expr → Bool
  | .nil, es => es.isEmpty
  | .cons p r, es => match es with
    | [] => false
    | e :: es => chkP N sc p e && chkPs N sc r es && notStar e
end
def chkTag (Γ : Gam) (sc : Scope) (t : Tag) (e : Expr) : Bool := match e with
  | .Name x _ => match t with
    | .ty n => decide (x = Str.ofString n) && chkFree Γ sc x && ["int", "bool", "str", "list", "tuple"].contains n
    | .cls c => isGl sc x && decide ((x, c) ∈ Γ.clss)
  | _ => false
def chkTags (Γ : Gam) (sc : Scope) : List Tag → List Expr → Bool
  | [], es => es.isEmpty
  | t :: ts, es => match es with
    | [] => false
    | e :: es => chkTag Γ sc t e && chkTags Γ sc ts es && notStar e
mutual
def chk (Γ : Gam) (N : List Str) (sc : Scope) : E → Expr → Bool
  | .v i, e => match e with
    | .Name x _ => chkV N sc i x
    | _ => false
  | .non, e => match e with
    | .Constant .none _ _ => true
    | _ => false
  | .bl b, e => match e with
    | .Constant (.bool c) _ _ => b == c
    | _ => false
  | .int i, e => match e with
    | .Constant (.int j) _ _ => i == j
    | _ => false
  | .str s, e => match e with
    | .Constant (.str t) _ _ => decide (s = t) && decide (s.length ≤ big)
    | _ => false
  | .gc i, e => match e with
    | .Name x _ => isGl sc x && (match Γ.consts[i]? with
      | some c => decide (c.name = x)
      | none => false)
    | _ => false
  | .bin o a b, e => match e with
    | .BinOp x op y _ => decide (op = bopO o) && chk Γ N sc a x && chk Γ N sc b y
    | _ => false
  | .neg a, e => match e with
    | .UnaryOp .USub x _ => chk Γ N sc a x
    | _ => false
  | .cmp o a b, e => match e with
    | .Compare x [op] [y] _ => decide (op = copO o) && chk Γ N sc a x && chk Γ N sc b y && !(behindInMarks op y)
    | _ => false
  | .chain o p a b c, e => match e with
    | .Compare x [op, oq] [y, z] _ => decide (op = copO o) && decide (oq = copO p) && chk Γ N sc a x && chk Γ N sc b y && chk Γ N sc c z && !(lastMarks [op, oq] [y, z])
    | _ => false
  | .ban as, e => match e with
    | .BoolOp .And (x :: y :: r) _ => chks Γ N sc as (x :: y :: r)
    | _ => false
  | .bor as, e => match e with
    | .BoolOp .Or (x :: y :: r) _ => chks Γ N sc as (x :: y :: r)
    | _ => false
  | .nt a, e => match e with
    | .UnaryOp .Not x _ => chk Γ N sc a x
    | _ => false
  | .ife c a b, e => match e with
    | .IfExp x y z _ => chk Γ N sc c x && chk Γ N sc a y && chk Γ N sc b z
    | _ => false
  | .call f as, e => match e with
    | .Call (.Name x _) (y :: r) [] _ => isGl sc x && chks Γ N sc as (y :: r) && (match Γ.fns[f]? with
      | some g => decide (g.name = x)
      | none => false)
    | _ => false
  | .blt b as, e => match e with
    | .Call (.Name x _) (y :: r) [] _ => decide (x = bltN b) && chkFree Γ sc x && chks Γ N sc as (y :: r)
    | _ => false
  | .isi t a, e => match e with
    | .Call (.Name x _) [y, z] [] _ => decide (x = "isinstance") && chkFree Γ sc x && chk Γ N sc a y && chkTag Γ sc t z && notStar y
    | _ => false
  | .isiT ts a, e => match e with
    | .Call (.Name x _) [y, .Tuple es _ _] [] _ => decide (x = "isinstance") && chkFree Γ sc x && chk Γ N sc a y && chkTags Γ sc ts es && notStar y && decide (ts ≠ []) && decide (ts.length ≤ 100)
    | _ => false
  | .ix a b, e => match e with
    | .Subscript x y _ => chk Γ N sc a x && chk Γ N sc b y && notSlice y
    | _ => false
  | .sl a lo hi, e => match e with
    | .Subscript x (.Slice l h none _) _ => chk Γ N sc a x && chko Γ N sc lo l && chko Γ N sc hi h
    | _ => false
  | .tup as, e => match e with
    | .Tuple es _ _ => chks Γ N sc as es
    | _ => false
  | .lst as, e => match e with
    | .List es _ => chks Γ N sc as es
    | _ => false
  | .lblt b as, e => match e with
    | .Call (.Name x _) (y :: r) [] _ => decide (x = lbltN b) && chkFree Γ sc x && chks Γ N sc as (y :: r)
    | _ => false
  | .lsl a lo hi, e => match e with
    | .Subscript x (.Slice l h none _) _ => chk Γ N sc a x && chko Γ N sc lo l && chko Γ N sc hi h
    | _ => false
  | .cat a b, e => match e with
    | .BinOp x .Add y _ => chk Γ N sc a x && chk Γ N sc b y
    | _ => false
  | .rep a b, e => match e with
    | .BinOp x .Mult y _ => chk Γ N sc a x && chk Γ N sc b y
    | _ => false
  | .comp own p s c el, e => match e with
    | .ListComp x [⟨tg, iter, ifs, 0⟩] scope _ => chkr Γ N sc s tg iter && blkC N sc scope own && p.slots.all (fun i => (own.map (·.2)).contains i) && chkP N scope p tg && chkc Γ N scope c ifs && chk Γ N scope el x && notSet iter
    | _ => false
def chks (Γ : Gam) (N : List Str) (sc : Scope) : Es → List Expr → Bool
  | .nil, es => es.isEmpty
  | .cons a r, es => match es with
    | [] => false
    | e :: es => chk Γ N sc a e && chks Γ N sc r es && notStar e
def chko (Γ : Gam) (N : List Str) (sc : Scope) : Oe → Option Expr → Bool
  | .none, o => o.isNone
  | .some a, o => match o with
    | none => false
    | some e => chk Γ N sc a e
def chkc (Γ : Gam) (N : List Str) (sc : Scope) : Oe → List Expr → Bool
  | .none, es => es.isEmpty
  | .some a, es => match es with
    | [e] => chk Γ N sc a e
    | _ => false
def chkr (Γ : Gam) (N : List Str) (sc : Scope) : Sr → Expr → Expr → Bool
  | .seq a, _, e => chk Γ N sc a e
  | .own a, _, e => chk Γ N sc a e
  | .rng1 a, _, e => match e with
    | .Call (.Name x _) [y] [] _ => decide (x = "range") && chkFree Γ sc x && chk Γ N sc a y && notStar y
    | _ => false
  | .rng2 a b, _, e => match e with
    | .Call (.Name x _) [y, z] [] _ => decide (x = "range") && chkFree Γ sc x && chk Γ N sc a y && chk Γ N sc b z && notStar y && notStar z
    | _ => false
  | .str a, _, e => chk Γ N sc a e
  | .enum a, tg, e => match tg, e with
    | .Tuple _ _ _, .Call (.Name x _) [y] [] _ => decide (x = "enumerate") && chkFree Γ sc x && chk Γ N sc a y && notStar y
    | _, _ => false
  | .zip a b, tg, e => match tg, e with
    | .Tuple _ _ _, .Call (.Name x _) [y, z] [] _ => decide (x = "zip") && chkFree Γ sc x && chk Γ N sc a y && chk Γ N sc b z && notStar y && notStar z
    | _, _ => false
end
end EG
namespace EG
open PySem L2

structure GFnOk (W : Wd) (X : Cx) (g : GFn) : Prop where
  ok : ∃ f fd ps dvs dus, FnOk X.prog X.w X.K X.mg X.base (L2.CX X.prog X.w) g.lvl f fd ps (spF W g.n g.F) ∧ X.mg g.name = some (.ref f) ∧ PySem.W.keepIn X.K (.ref f) = true ∧ Binds X.K fd ps dus ∧ Vals dvs dus ∧ ∀ S H, RepVs W S H dvs g.dds
structure GCOk (W : Wd) (X : Cx) (c : GC) : Prop where
  ok : ∃ v u, X.mg c.name = some u ∧ RelV v u ∧ ∀ S H, RepV W S H v c.d
/-- what the text's scope tells, the running one tells too (a free name may be a cell there) -/
def Scopes (sc sc' : Scope) : Prop := ∀ x k, sc.names.lookup x = some k → ∃ k', sc'.names.lookup x = some k' ∧ (k' = k ∨ (k = NameKind.free ∧ k' = NameKind.cell))
theorem Scopes.refl {sc : Scope} : Scopes sc sc := fun x k h => ⟨k, h, .inl rfl⟩
theorem relabel_look {p : Str → NameKind → Bool} (hp : ∀ n k, p n k = true → k = NameKind.free) : ∀ (names : List (Str × NameKind)) (x : Str) (k : NameKind), names.lookup x = some k →
    ∃ k', (names.map fun (n, k) => if p n k then (n, NameKind.cell) else (n, k)).lookup x = some k' ∧ (k' = k ∨ (k = NameKind.free ∧ k' = NameKind.cell))
  | [], x, k, h => by simp at h
  | (n, kk) :: r, x, k, h => by
    rw [List.lookup_cons] at h
    rw [List.map_cons]
    by_cases q : p n kk = true
    · simp only [q, if_true]
      rw [List.lookup_cons]
      split at h
      · cases h
        rename_i e
        exact ⟨_, rfl, .inr ⟨hp _ _ q, rfl⟩⟩
      · rename_i e
        exact relabel_look hp r x k h
    · simp only [q, if_false, Bool.false_eq_true]
      rw [List.lookup_cons]
      split at h
      · cases h
        rename_i e
        exact ⟨_, rfl, .inl rfl⟩
      · rename_i e
        exact relabel_look hp r x k h
theorem scopes_relabel {sc : Scope} {env : PySem.Env} : Scopes sc (relabel sc env) := fun x k h => relabel_look (p := fun n k => (k == NameKind.free && env.scope.kind == .function && env.kindOf n == some .cell)) (fun n k h => by
  simp only [Bool.and_eq_true, beq_iff_eq] at h
  exact h.1.1) sc.names x k h
theorem blkOk_scopes {N : List Str} {sc sc' scope : Scope} {own : List (Str × Nat)} (h : BlkOk N sc scope own) (s : Scopes sc sc') : BlkOk N sc' scope own where
  kind := h.kind
  uniq := h.uniq
  ix := h.ix
  free := fun y hy e => by
    rcases h.free y hy e with q | q
    · obtain ⟨k', e1, e2⟩ := s _ _ q
      rcases e2 with rfl | ⟨e2, _⟩
      · exact .inl e1
      · cases e2
    · obtain ⟨k', e1, e2⟩ := s _ _ q
      rcases e2 with rfl | ⟨_, rfl⟩
      · exact .inr e1
      · exact .inl e1
  own := h.own
structure XOk (Γ : Gam) (N : List Str) (sc : Scope) (W : Wd) (Wx : WX) (k : Nat) (X : Cx) : Prop where
  hN : X.N = N
  nd : N.Nodup
  hlk : Scopes sc X.env.scope
  hK : X.K = W.K
  calm : X.calm = true
  tk : Takes X Wx
  room : Room k X.A
  fn : ∀ x, sc.names.lookup x = some .cell → X.fn x = true
  fns : ∀ (i : Nat) g, Γ.fns[i]? = some g → GFnOk W X g ∧ g.lvl ≤ k
  consts : ∀ (i : Nat) c, Γ.consts[i]? = some c → GCOk W X c
  clss : ∀ x c, (x, c) ∈ Γ.clss → X.mg x = some (.ref (W.ca c))
  frees : ∀ x, x ∈ Γ.frees → X.mg x = none
  isi : IsiOk W Γ.isi
section
variable {Γ : Gam} {N : List Str} {sc : Scope} {W : Wd} {Wx : WX} {k : Nat} {X : Cx}
theorem XOk.blk (h : XOk Γ N sc W Wx k X) (s : Shared) (H : Hp) (scope : Scope) (C : Addr) (cl : List (Str × Addr)) (fp : List Addr) : XOk Γ N scope W Wx0 k (X.blk s H scope (compEnvC scope cl C X.env) fp) where
  hN := h.hN
  nd := h.nd
  hlk := scopes_relabel
  hK := h.hK
  calm := h.calm
  tk := L2.takes0
  room := h.room
  fn := fun x e => by
    show (scope.names.lookup x == some .cell) = true
    rw [e]; rfl
  fns := fun i g e => let ⟨⟨q⟩, l⟩ := h.fns i g e; ⟨⟨q⟩, l⟩
  consts := fun i c e => let ⟨q⟩ := h.consts i c e; ⟨q⟩
  clss := h.clss
  frees := h.frees
  isi := h.isi
structure PB (W : Wd) (Wx : WX) (X : Cx) (e : Expr) (bn : Bn) : Prop where
  pe : PE X e (tEv W Wx bn.e)
  pb : PE X e (tEvB W Wx bn.b)
  pl : PE X e (tEvL W Wx bn.l)
  pt : PT X e (tEvT W Wx bn.t)
structure PBs (W : Wd) (Wx : WX) (X : Cx) (es : List Expr) (bs : Bs) : Prop where
  ps : PA X es (tEvs W Wx bs.s)
  pb : PA X es (tEvBs W Wx bs.b)
  pan : ∀ pos, es ≠ [] → PE X (.BoolOp .And es pos) (tEv W Wx bs.an)
  panT : ∀ pos, es ≠ [] → PW X (.BoolOp .And es pos) (tEvT W Wx bs.anT)
  por : ∀ pos, es ≠ [] → PE X (.BoolOp .Or es pos) (tEv W Wx bs.or)
  porT : ∀ pos, es ≠ [] → PW X (.BoolOp .Or es pos) (tEvT W Wx bs.orT)
theorem failL_of {e : Expr} {t : TE} (h : PE X e t) : PE X e (tEvL W Wx failL) := PE.imp h fun σ H Q ⟨S, μ, env, r, hS, hE, hf, hk⟩ => by cases hf
theorem mkE_ok (hK : X.K = W.K) {e : Expr} {f : Env → EM D} (hp : plainT e = true) (h : PE X e (tEv W Wx f)) : PB W Wx X e (mkE f) :=
  ⟨h, toB h, failL_of h, et_truth hK (toB h) (plainT_of hp)⟩
theorem mkL_ok (hK : X.K = W.K) {e : Expr} {g : Env → EM (List D)} (hp : plainT e = true) (h : PE X e (tEvL W Wx g)) : PB W Wx X e (mkL g) :=
  ⟨ev_new h, toB (ev_new h), h, et_truth hK (toB (ev_new h)) (plainT_of hp)⟩
theorem fail_any {e : Expr} {t : TE} (h : PE X e t) : PE X e (tEv W Wx fFail) := PE.imp h fun σ H Q ⟨S, μ, env, r, hS, hE, hf, hk⟩ => by cases hf
theorem seen_vis {sc' : Scope} (s : Scopes sc sc') {x : Str} (h : seen sc x = true) : Vis sc' x := by
  unfold seen at h
  split at h <;> first
    | (cases h; done)
    | (rename_i e
       obtain ⟨k', e1, e2⟩ := s _ _ e
       rcases e2 with rfl | ⟨_, rfl⟩ <;> first | exact .inl e1 | exact .inr (.inl e1) | exact .inr (.inr e1))
theorem isLoc_loc {x : Str} (h : isLoc sc x = true) : Loc sc x := by
  unfold isLoc at h
  split at h <;> first | exact .inl (by assumption) | exact .inr (by assumption) | cases h
theorem loc_scopes {sc' : Scope} (s : Scopes sc sc') {x : Str} (h : Loc sc x) : Loc sc' x := by
  rcases h with h | h
  · obtain ⟨k', e1, e2⟩ := s _ _ h
    rcases e2 with rfl | ⟨e2, _⟩
    · exact .inl e1
    · cases e2
  · obtain ⟨k', e1, e2⟩ := s _ _ h
    rcases e2 with rfl | ⟨e2, _⟩
    · exact .inr e1
    · cases e2
theorem isGl_of (h : XOk Γ N sc W Wx k X) {x : Str} (hg : isGl sc x = true) : Gl X x ∧ (x == ("__debug__" : Str)) = false ∧ x ≠ "__name__" := by
  unfold isGl at hg
  simp only [Bool.and_eq_true, Bool.not_eq_true', decide_eq_true_eq] at hg
  obtain ⟨⟨h1, h2⟩, h3⟩ := hg
  refine ⟨?_, h2, fun z => ?_⟩
  · obtain ⟨k', e1, e2⟩ := h.hlk _ _ h1
    rcases e2 with rfl | ⟨e2, _⟩
    · exact e1
    · cases e2
  · rw [z] at h3; exact absurd h3 (by decide)
theorem free_of (h : XOk Γ N sc W Wx k X) {x : Str} (hg : chkFree Γ sc x = true) : Gl X x ∧ (x == ("__debug__" : Str)) = false ∧ x ≠ "__name__" ∧ X.mg x = none := by
  unfold chkFree at hg
  rw [Bool.and_eq_true] at hg
  obtain ⟨a, b, c⟩ := isGl_of h hg.1
  exact ⟨a, b, c, h.frees x (by simpa using hg.2)⟩
theorem var_of (h : XOk Γ N sc W Wx k X) {i : Nat} {x : Str} {pos : Pos} (hc : chkV N sc i x = true) : PE X (.Name x pos) (tVar i) := by
  unfold chkV at hc
  simp only [Bool.and_eq_true, Bool.not_eq_true', decide_eq_true_eq] at hc
  obtain ⟨⟨⟨h1, h2⟩, h3⟩, h4⟩ := hc
  exact pe_var (by rw [h.hN]; exact h1) (seen_vis h.hlk h2) h3 h4
theorem store_of (h : XOk Γ N sc W Wx k X) {i : Nat} {x : Str} {pos : Pos} (h1 : N[i]? = some x) (h2 : isLoc sc x = true) : PG X (.Name x pos) (gName i) := by
  have l := isLoc_loc h2
  refine pg_name (by rw [h.hN]; exact h.nd) (by rw [h.hN]; exact h1) (loc_scopes h.hlk l) ?_
  rcases l with l | l
  · obtain ⟨k', e1, e2⟩ := h.hlk _ _ l
    rcases e2 with rfl | ⟨e2, _⟩
    · exact .inr e1
    · cases e2
  · exact .inl (h.fn x l)
mutual
theorem pat_of (h : XOk Γ N sc W Wx k X) : ∀ (p : Pat) (e : Expr), chkP N sc p e = true → PG X e (tTg W p)
  | .nm i, e, hc => by
    unfold chkP at hc
    split at hc
    · rw [Bool.and_eq_true] at hc
      exact eg_name (store_of h (of_decide_eq_true hc.1) hc.2)
    · cases hc
  | .tp ps, e, hc => by
    unfold chkP at hc
    split at hc
    · rw [Bool.and_eq_true] at hc
      obtain ⟨h1, h2⟩ := pats_of h ps _ hc.1
      exact eg_tup h.hK h.calm h1 assignEach_len h2 (assignEach_no hc.2)
    · cases hc
theorem pats_of (h : XOk Γ N sc W Wx k X) : ∀ (p : Pats) (es : List Expr), chkPs N sc p es = true → PGs X es (tTgs W p) ∧ p.len = es.length
  | .nil, es, hc => by
    unfold chkPs at hc
    cases es with
    | nil => exact ⟨eg_nil, rfl⟩
    | cons e es => cases hc
  | .cons p r, es, hc => by
    unfold chkPs at hc
    cases es with
    | nil => cases hc
    | cons e es =>
      simp only [Bool.and_eq_true] at hc
      obtain ⟨⟨h1, h2⟩, h3⟩ := hc
      obtain ⟨q1, q2⟩ := pats_of h r es h2
      exact ⟨eg_cons (pat_of h p e h1) q1 (by rw [assignEach_of h3]; rfl), by simp [Pats.len, q2]⟩
end
theorem tag_of (h : XOk Γ N sc W Wx k X) {t : Tag} {e : Expr} (hc : chkTag Γ sc t e = true) : PE X e (tC (tagC W t)) := by
  unfold chkTag at hc
  split at hc
  · split at hc
    · rename_i n
      simp only [Bool.and_eq_true, decide_eq_true_eq] at hc
      obtain ⟨⟨h1, h2⟩, h3⟩ := hc
      obtain ⟨a, b, c, d⟩ := free_of h h2
      have hb : bootBuiltins (Str.ofString n) = some (.type n) := by
        have h3 : n ∈ ["int", "bool", "str", "list", "tuple"] := by simpa using h3
        simp only [List.mem_cons, List.not_mem_nil, or_false] at h3
        rcases h3 with rfl | rfl | rfl | rfl | rfl
        · exact PyProof.Rows.boot_int
        · exact PyProof.Rows.boot_bool
        · exact PyProof.Rows.boot_str
        · exact PyProof.Rows.boot_list
        · exact PyProof.Rows.boot_tuple
      subst h1
      exact pe_bltn a d hb rfl c b
    · rename_i c
      simp only [Bool.and_eq_true, decide_eq_true_eq] at hc
      obtain ⟨a, b, _⟩ := isGl_of h hc.1
      exact pe_glob a (h.clss _ _ hc.2) rfl b
  · cases hc
theorem tags_of (h : XOk Γ N sc W Wx k X) : ∀ {ts : List Tag} {es : List Expr}, chkTags Γ sc ts es = true → ClsEs W X es ts
  | [], es, hc => by
    unfold chkTags at hc
    cases es with
    | nil => exact .nil
    | cons e es => cases hc
  | t :: ts, es, hc => by
    unfold chkTags at hc
    cases es with
    | nil => cases hc
    | cons e es =>
      simp only [Bool.and_eq_true] at hc
      exact .cons (tag_of h hc.1.1) (starEach_of hc.2) (tags_of h hc.1.2)
theorem bop_ok (hK : X.K = W.K) (o : BOp) : ∃ r, OpR X (binaryOp (bopO o)) r ∧ OpSpec W r (bopF o) := by
  cases o with
  | add => exact ⟨_, opr_add hK, os_add⟩
  | sub => exact ⟨_, op_sub, os_sub⟩
  | mul => exact ⟨_, op_mul, os_mul⟩
  | div => exact ⟨_, op_fdivW, os_div⟩
  | mod => exact ⟨_, op_mod, os_mod⟩
  | pow => exact ⟨_, op_pow, os_pow⟩
theorem cop_ok (hK : X.K = W.K) (hu : X.A.units + 64 < cLine) (o : COp) : ∃ r, OpR X (compareOp (copO o)) r ∧ OpSpec W r (copF o) := by
  cases o with
  | eq => exact ⟨_, opr_eq hK hu, os_eq⟩
  | ne => exact ⟨_, opr_ne hK hu, os_ne⟩
  | lt => exact ⟨_, op_lt, os_cmp _⟩
  | le => exact ⟨_, op_le, os_cmp _⟩
  | gt => exact ⟨_, op_gt, os_cmp _⟩
  | ge => exact ⟨_, op_ge, os_cmp _⟩
  | isN => exact ⟨_, op_isN, os_isN⟩
  | notN => exact ⟨_, op_notN, os_notN⟩
  | in_ => exact ⟨_, opr_in hK, os_in⟩
  | notIn => exact ⟨_, opr_notIn hK, os_notIn⟩
theorem blt_call (h : XOk Γ N sc W Wx k X) (b : Blt) {x : Str} {p pos : Pos} {e : Expr} {es : List Expr} {g : Env → EM (List D)} (hx : x = bltN b) (hf : chkFree Γ sc x = true) (ha : PA X (e :: es) (tEvBs W Wx g)) (he : starEach (e :: es) X.env = (false, eval e X.env) :: starEach es X.env) (hpl : (backTo pos (starEach es X.env)).any (·.1) = false) :
    PE X (.Call (.Name x p) (e :: es) [] pos) (tEv W Wx (fCB (bltF b) g)) := by
  obtain ⟨a, b', c, d⟩ := free_of h hf
  have hK := h.hK
  subst hx
  cases b with
  | len => exact ev_callB call_len (cs_len hK) a d PySem.boot_len ha c b' he hpl
  | abs => exact ev_callB call_abs cs_abs a d (by decide +kernel) ha c b' he hpl
  | int => exact ev_callTy cr_int cs_int a d PyProof.Rows.boot_int ha c b' he hpl
  | str => exact ev_callTy call_str_int cs_str a d PyProof.Rows.boot_str ha c b' he hpl
  | bool => exact ev_callTy call_bool1 cs_bool a d PyProof.Rows.boot_bool ha c b' he hpl
  | all => exact ev_callB (cr_all h.calm) (by rw [hK]; exact cs_all) a d PyProof.Rows.boot_all ha c b' he hpl
  | any => exact ev_callB (cr_any h.calm) (by rw [hK]; exact cs_any) a d PyProof.Rows.boot_any ha c b' he hpl
  | sum => exact ev_callB (cr_sum h.calm) (by rw [hK]; exact cs_sum) a d PyProof.Rows.boot_sum ha c b' he hpl
  | max => exact ev_callB (cr_max' h.calm) (by rw [hK]; exact cs_max) a d PyProof.Rows.boot_max ha c b' he hpl
  | min => exact ev_callB (cr_min' h.calm) (by rw [hK]; exact cs_min) a d PyProof.Rows.boot_min ha c b' he hpl
  | tuple => exact ev_callTy call_tuple_of (by rw [hK]; exact cs_tuple) a d PyProof.Rows.boot_tuple ha c b' he hpl
theorem lblt_call (h : XOk Γ N sc W Wx k X) (b : LBlt) {x : Str} {p pos : Pos} {e : Expr} {es : List Expr} {g : Env → EM (List D)} (hx : x = lbltN b) (hf : chkFree Γ sc x = true) (ha : PA X (e :: es) (tEvBs W Wx g)) (he : starEach (e :: es) X.env = (false, eval e X.env) :: starEach es X.env) (hpl : (backTo pos (starEach es X.env)).any (·.1) = false) :
    PE X (.Call (.Name x p) (e :: es) [] pos) (tEvL W Wx (fCB (lbltF b) g)) := by
  obtain ⟨a, b', c, d⟩ := free_of h hf
  have hK := h.hK
  subst hx
  cases b with
  | sorted => exact el_callB cr_sorted (by rw [hK]; exact cs_sorted) a d PyProof.Rows.boot_sorted ha c b' he hpl
  | list => exact el_callTy call_list_of (by rw [hK]; exact cs_list) a d PyProof.Rows.boot_list ha c b' he hpl
theorem ev_neg {a : Expr} {pos : Pos} {f : Env → EM D} (ha : PE X a (tEvB W Wx f)) : PE X (.UnaryOp .USub a pos) (tEv W Wx (fNeg f)) :=
  PE.imp (pe_un un_neg ha) fun σ H Q ⟨S, μ, env, res, hS, hE, hf, hk⟩ => by
    refine tG.bind hS hE hf hk fun d μ1 S1 H1 l1 g1 e1 hf1 hk1 v rv => ?_
    cases d <;> first
      | (cases hf1; done)
      | skip
    cases hf1
    cases rv.int
    exact ⟨_, rfl, hk1.val g1 (.int _)⟩
theorem et_ife {c a b : Expr} {pos : Pos} {fc f g : Env → EM Bool} (hc : PT X c (tEvT W Wx fc)) (ha : PT X a (tEvT W Wx f)) (hb : PT X b (tEvT W Wx g)) : PT X (.IfExp c a b pos) (tEvT W Wx fun env => bindE (fc env) fun k => match k with
    | true => f env
    | false => g env) :=
  PT.imp (pt_ifExp hc ha hb) fun σ H Q ⟨S, μ, env, res, hS, hE, hf, hk⟩ => by
    refine tG.bind hS hE hf hk fun b μ1 S1 H1 l1 g1 e1 hf1 hk1 => okT_mk ?_
    cases b with
    | true => exact iT rfl ⟨S1, μ1, env, res, g1, e1, hf1, hk1⟩
    | false => exact iF Bool.false_ne_true ⟨S1, μ1, env, res, g1, e1, hf1, hk1⟩
end
end EG
namespace EG
open PySem L2
section
variable {Γ : Gam} {N : List Str} {W : Wd} {k : Nat}
theorem er_seq {X : Cx} (hK : X.K = W.K) {tg l : Expr} {Wx : WX} {f : Env → EM D} {kk : Own → Prop} (hl : PE X l (tEv W Wx f)) : PI X tg l (tSrc' W Wx kk (fItems f)) := src_seq hK hl
theorem chks_stars : ∀ (as : Es) (es : List Expr) {sc : Scope}, chks Γ N sc as es = true → es.all notStar = true
  | .nil, es, sc, h => by
    unfold chks at h
    cases es with
    | nil => rfl
    | cons e es => cases h
  | .cons a r, es, sc, h => by
    unfold chks at h
    cases es with
    | nil => cases h
    | cons e es =>
      simp only [Bool.and_eq_true] at h
      rw [List.all_cons, Bool.and_eq_true]
      exact ⟨h.2, chks_stars r es h.1.2⟩
theorem chkTag_star {sc : Scope} {t : Tag} {e : Expr} (h : chkTag Γ sc t e = true) : notStar e = true := by
  unfold chkTag at h
  split at h
  · rfl
  · cases h
def notOwn : Sr → Bool
  | .own _ => false
  | _ => true
mutual
theorem snd : ∀ (a : E) (e : Expr) (sc : Scope) (Wx : WX) (X : Cx), chk Γ N sc a e = true → XOk Γ N sc W Wx k X → PB W Wx X e (ev Γ a)
  | .v i, e, sc, Wx, X, h, hX => by
    unfold chk at h
    split at h
    · have q := var_of hX (pos := ‹Pos›) h
      have hb : PE X _ (tEvB W Wx (fVB i)) := ev_varB q
      exact ⟨ev_var q, hb, failL_of q, et_truth hX.hK hb (plainT_of rfl)⟩
    · cases h
  | .non, e, sc, Wx, X, h, hX => by
    unfold chk at h
    split at h
    · exact mkE_ok hX.hK rfl (ev_const pe_non fun _ _ => .non)
    · cases h
  | .bl b, e, sc, Wx, X, h, hX => by
    unfold chk at h
    split at h
    · rename_i c _ _
      have e : b = c := by simpa using h
      subst e
      exact mkE_ok hX.hK rfl (ev_const pe_bl fun _ _ => .bl _)
    · cases h
  | .int i, e, sc, Wx, X, h, hX => by
    unfold chk at h
    split at h
    · rename_i c _ _
      have e : i = c := by simpa using h
      subst e
      exact mkE_ok hX.hK rfl (ev_const pe_int fun _ _ => .int _)
    · cases h
  | .str s, e, sc, Wx, X, h, hX => by
    unfold chk at h
    split at h
    · simp only [Bool.and_eq_true, decide_eq_true_eq] at h
      obtain ⟨rfl, h2⟩ := h
      exact mkE_ok hX.hK rfl (ev_const pe_str fun _ _ => .str _ h2)
    · cases h
  | .gc i, e, sc, Wx, X, h, hX => by
    unfold chk at h
    split at h
    · rename_i x pos
      rw [Bool.and_eq_true] at h
      obtain ⟨a, b, _⟩ := isGl_of hX h.1
      unfold ev
      cases q : Γ.consts[i]? with
      | none => rw [q] at h; exact absurd h.2 (by simp)
      | some c =>
        rw [q] at h
        have e : c.name = x := of_decide_eq_true h.2
        subst e
        obtain ⟨v, u, h1, h2, h3⟩ := (hX.consts i c q).ok
        exact mkE_ok hX.hK rfl (ev_const (pe_glob a h1 h2 b) h3)
    · cases h
  | .bin o a b, e, sc, Wx, X, h, hX => by
    unfold chk at h
    split at h
    · simp only [Bool.and_eq_true, decide_eq_true_eq] at h
      obtain ⟨⟨rfl, h2⟩, h3⟩ := h
      obtain ⟨r, r1, r2⟩ := bop_ok hX.hK o
      exact mkE_ok hX.hK rfl (ev_bin r1 r2 (snd a _ sc Wx X h2 hX).pb (snd b _ sc Wx X h3 hX).pb)
    · cases h
  | .neg a, e, sc, Wx, X, h, hX => by
    unfold chk at h
    split at h
    · exact mkE_ok hX.hK rfl (ev_neg (snd a _ sc Wx X h hX).pb)
    · cases h
  | .cmp o a b, e, sc, Wx, X, h, hX => by
    unfold chk at h
    split at h
    · simp only [Bool.and_eq_true, decide_eq_true_eq, Bool.not_eq_true'] at h
      obtain ⟨⟨⟨rfl, h2⟩, h3⟩, h4⟩ := h
      obtain ⟨r, r1, r2⟩ := cop_ok hX.hK hX.room.units o
      have pa := (snd a _ sc Wx X h2 hX).pb
      have pb := (snd b _ sc Wx X h3 hX).pb
      have q := ev_cmp (pos := ‹Pos›) r1 r2 pa pb h4
      exact ⟨q, toB q, failL_of q, et_cmp r1 r2 pa pb h4⟩
    · cases h
  | .chain o p a b c, e, sc, Wx, X, h, hX => by
    unfold chk at h
    split at h
    · simp only [Bool.and_eq_true, decide_eq_true_eq, Bool.not_eq_true'] at h
      obtain ⟨⟨⟨⟨⟨rfl, rfl⟩, h2⟩, h3⟩, h4⟩, h5⟩ := h
      obtain ⟨r, r1, r2⟩ := cop_ok hX.hK hX.room.units o
      obtain ⟨r', r1', r2'⟩ := cop_ok hX.hK hX.room.units p
      have pa := (snd a _ sc Wx X h2 hX).pb
      have pb := (snd b _ sc Wx X h3 hX).pb
      have pc := (snd c _ sc Wx X h4 hX).pb
      have q := ev_chain (pos := ‹Pos›) r1 r1' r2 r2' pa pb pc h5
      exact ⟨q, toB q, failL_of q, et_chain r1 r1' r2 r2' pa pb pc h5⟩
    · cases h
  | .ban as, e, sc, Wx, X, h, hX => by
    unfold chk at h
    split at h
    · have q := snds as _ sc Wx X h hX
      have z := q.pan ‹Pos› (by simp)
      exact ⟨z, toB z, failL_of z, (q.panT _ (by simp)).pt⟩
    · cases h
  | .bor as, e, sc, Wx, X, h, hX => by
    unfold chk at h
    split at h
    · have q := snds as _ sc Wx X h hX
      have z := q.por ‹Pos› (by simp)
      exact ⟨z, toB z, failL_of z, (q.porT _ (by simp)).pt⟩
    · cases h
  | .nt a, e, sc, Wx, X, h, hX => by
    unfold chk at h
    split at h
    · have q := snd a _ sc Wx X h hX
      have z := ev_not (pos := ‹Pos›) q.pe
      exact ⟨z, toB z, failL_of z, et_not q.pt⟩
    · cases h
  | .ife c a b, e, sc, Wx, X, h, hX => by
    unfold chk at h
    split at h
    · simp only [Bool.and_eq_true] at h
      obtain ⟨⟨h1, h2⟩, h3⟩ := h
      have pc := snd c _ sc Wx X h1 hX
      have pa := snd a _ sc Wx X h2 hX
      have pb := snd b _ sc Wx X h3 hX
      have z := ev_ife (pos := ‹Pos›) pc.pt pa.pe pb.pe
      exact ⟨z, toB z, failL_of z, et_ife pc.pt pa.pt pb.pt⟩
    · cases h
  | .call f as, e, sc, Wx, X, h, hX => by
    unfold chk at h
    split at h
    · rename_i x p y r pos
      simp only [Bool.and_eq_true] at h
      obtain ⟨⟨h1, h2⟩, h3⟩ := h
      obtain ⟨a, b, _⟩ := isGl_of hX h1
      have hs := chks_stars as _ h2
      unfold ev
      cases q : Γ.fns[f]? with
      | none => rw [q] at h3; exact absurd h3 (by simp)
      | some g =>
        rw [q] at h3
        have e : g.name = x := of_decide_eq_true h3
        subst e
        obtain ⟨⟨f', fd, ps, dvs, dus, g1, g2, g3, g4, g5, g6⟩, hl⟩ := hX.fns f g q
        rw [List.all_cons, Bool.and_eq_true] at hs
        exact mkE_ok hX.hK rfl (ev_call g1 hX.tk (hX.room.mono hl) a g2 g3 g4 g5 g6 (snds as _ sc Wx X h2 hX).ps b (starEach_of hs.1) (noStars hs.2))
    · cases h
  | .blt b as, e, sc, Wx, X, h, hX => by
    unfold chk at h
    split at h
    · simp only [Bool.and_eq_true, decide_eq_true_eq] at h
      obtain ⟨⟨h1, h2⟩, h3⟩ := h
      have hs := chks_stars as _ h3
      rw [List.all_cons, Bool.and_eq_true] at hs
      exact mkE_ok hX.hK rfl (blt_call hX b h1 h2 (snds as _ sc Wx X h3 hX).pb (starEach_of hs.1) (noStars hs.2))
    · cases h
  | .isi t a, e, sc, Wx, X, h, hX => by
    unfold chk at h
    split at h
    · simp only [Bool.and_eq_true, decide_eq_true_eq] at h
      obtain ⟨⟨⟨⟨rfl, h2⟩, h3⟩, h4⟩, h5⟩ := h
      obtain ⟨a', b', _, d'⟩ := free_of hX h2
      have hz : notStar _ = true := chkTag_star h4
      exact mkE_ok hX.hK rfl (ev_isi hX.hK hX.isi a' d' (snd a _ sc Wx X h3 hX).pb (tag_of hX h4) (starEach_of h5) (starEach_of hz))
    · cases h
  | .isiT ts a, e, sc, Wx, X, h, hX => by
    unfold chk at h
    split at h
    · simp only [Bool.and_eq_true, decide_eq_true_eq] at h
      obtain ⟨⟨⟨⟨⟨⟨rfl, h2⟩, h3⟩, h4⟩, h5⟩, h6⟩, h7⟩ := h
      obtain ⟨a', b', _, d'⟩ := free_of hX h2
      exact mkE_ok hX.hK rfl (ev_isiT hX.hK hX.isi a' d' (snd a _ sc Wx X h3 hX).pb (tags_of hX h4) h6 h7 (starEach_of h5))
    · cases h
  | .ix a b, e, sc, Wx, X, h, hX => by
    unfold chk at h
    split at h
    · simp only [Bool.and_eq_true] at h
      obtain ⟨⟨h1, h2⟩, h3⟩ := h
      exact mkE_ok hX.hK rfl (ev_ix hX.hK (snd a _ sc Wx X h1 hX).pb (snd b _ sc Wx X h2 hX).pb (plainIx_of h3))
    · cases h
  | .sl a lo hi, e, sc, Wx, X, h, hX => by
    unfold chk at h
    split at h
    · simp only [Bool.and_eq_true] at h
      obtain ⟨⟨h1, h2⟩, h3⟩ := h
      exact mkE_ok hX.hK rfl (ev_sl hX.hK (snd a _ sc Wx X h1 hX).pb (sndo lo _ sc Wx X h2 hX) (sndo hi _ sc Wx X h3 hX))
    · cases h
  | .tup as, e, sc, Wx, X, h, hX => by
    unfold chk at h
    split at h
    · exact mkE_ok hX.hK rfl (ev_tup (snds as _ sc Wx X h hX).ps)
    · cases h
  | .lst as, e, sc, Wx, X, h, hX => by
    unfold chk at h
    split at h
    · exact mkL_ok hX.hK rfl (el_lst (snds as _ sc Wx X h hX).ps)
    · cases h
  | .lblt b as, e, sc, Wx, X, h, hX => by
    unfold chk at h
    split at h
    · simp only [Bool.and_eq_true, decide_eq_true_eq] at h
      obtain ⟨⟨h1, h2⟩, h3⟩ := h
      have hs := chks_stars as _ h3
      rw [List.all_cons, Bool.and_eq_true] at hs
      exact mkL_ok hX.hK rfl (lblt_call hX b h1 h2 (snds as _ sc Wx X h3 hX).pb (starEach_of hs.1) (noStars hs.2))
    · cases h
  | .lsl a lo hi, e, sc, Wx, X, h, hX => by
    unfold chk at h
    split at h
    · simp only [Bool.and_eq_true] at h
      obtain ⟨⟨h1, h2⟩, h3⟩ := h
      exact mkL_ok hX.hK rfl (el_sl hX.hK (snd a _ sc Wx X h1 hX).pb (sndo lo _ sc Wx X h2 hX) (sndo hi _ sc Wx X h3 hX))
    · cases h
  | .cat a b, e, sc, Wx, X, h, hX => by
    unfold chk at h
    split at h
    · simp only [Bool.and_eq_true] at h
      exact mkL_ok hX.hK rfl (el_bin op_cat os_cat (snd a _ sc Wx X h.1 hX).pb (snd b _ sc Wx X h.2 hX).pb)
    · cases h
  | .rep a b, e, sc, Wx, X, h, hX => by
    unfold chk at h
    split at h
    · simp only [Bool.and_eq_true] at h
      exact mkL_ok hX.hK rfl (el_bin op_rep os_rep (snd a _ sc Wx X h.1 hX).pb (snd b _ sc Wx X h.2 hX).pb)
    · cases h
  | .comp own p s c el, e, sc, Wx, X, h, hX => by
    unfold chk at h
    split at h
    · rename_i x tg iter ifs scope pos
      simp only [Bool.and_eq_true] at h
      obtain ⟨⟨⟨⟨⟨⟨h1, h2⟩, h3⟩, h4⟩, h5⟩, h6⟩, h7⟩ := h
      have bk : BlkOk X.N X.env.scope scope own := by rw [hX.hN]; exact blkOk_scopes (blkOk_by h2) hX.hlk
      refine mkL_ok hX.hK rfl (el_comp hX.calm (by rw [hX.hN]; exact hX.nd) (sndr s _ _ sc Wx X h1 hX) bk (fun i hi => ?_) (fun s H C cl fp => pat_of (hX.blk s H _ C cl fp) p _ h4) (fun s H C cl fp => sndc c _ _ Wx0 _ h5 (hX.blk s H _ C cl fp)) (fun s H C cl fp => (snd el _ _ Wx0 _ h6 (hX.blk s H _ C cl fp)).pe) (folded_of h7))
      have := List.all_eq_true.mp h3 i hi
      simpa using this
    · cases h
theorem snds : ∀ (as : Es) (es : List Expr) (sc : Scope) (Wx : WX) (X : Cx), chks Γ N sc as es = true → XOk Γ N sc W Wx k X → PBs W Wx X es (evs Γ as)
  | .nil, es, sc, Wx, X, h, hX => by
    unfold chks at h
    cases es with
    | cons e es => cases h
    | nil => exact ⟨ea_nil, eb_nil, fun _ z => absurd rfl z, fun _ z => absurd rfl z, fun _ z => absurd rfl z, fun _ z => absurd rfl z⟩
  | .cons a r, es, sc, Wx, X, h, hX => by
    unfold chks at h
    cases es with
    | nil => cases h
    | cons e es =>
      simp only [Bool.and_eq_true] at h
      obtain ⟨⟨h1, h2⟩, h3⟩ := h
      have pa := snd a e sc Wx X h1 hX
      have pr := snds r es sc Wx X h2 hX
      refine ⟨ea_cons pa.pe pr.ps (starEach_of h3), eb_cons pa.pb pr.pb (starEach_of h3), fun pos _ => ?_, fun pos _ => ?_, fun pos _ => ?_, fun pos _ => ?_⟩
      all_goals
        cases r with
        | nil =>
          cases es with
          | nil => first | exact ev_one pa.pe | exact ew_and1 pa.pt | exact ew_or1 pa.pt
          | cons e' es => unfold chks at h2; cases h2
        | cons a' r' =>
          cases es with
          | nil => unfold chks at h2; cases h2
          | cons e' es => first | exact ev_and pa.pe (pr.pan pos (by simp)) | exact ew_and pa.pt (pr.panT pos (by simp)) | exact ev_or pa.pe (pr.por pos (by simp)) | exact ew_or pa.pt (pr.porT pos (by simp))
theorem sndo : ∀ (o : Oe) (e : Option Expr) (sc : Scope) (Wx : WX) (X : Cx), chko Γ N sc o e = true → XOk Γ N sc W Wx k X → POe W Wx X e (evo Γ o).1
  | .none, e, sc, Wx, X, h, hX => by
    unfold chko at h
    cases e with
    | none => exact eo_none
    | some e => cases h
  | .some a, e, sc, Wx, X, h, hX => by
    unfold chko at h
    cases e with
    | none => cases h
    | some e => exact eo_some (snd a e sc Wx X h hX).pb
theorem sndc : ∀ (o : Oe) (es : List Expr) (sc : Scope) (Wx : WX) (X : Cx), chkc Γ N sc o es = true → XOk Γ N sc W Wx k X → PTs X es (tEvT W Wx (evo Γ o).2)
  | .none, es, sc, Wx, X, h, hX => by
    unfold chkc at h
    cases es with
    | nil => exact ets_nil
    | cons e es => cases h
  | .some a, es, sc, Wx, X, h, hX => by
    unfold chkc at h
    split at h
    · exact ets_one (snd a _ sc Wx X h hX).pt
    · cases h
theorem sndr : ∀ (s : Sr) (tg e : Expr) (sc : Scope) (Wx : WX) (X : Cx), chkr Γ N sc s tg e = true → XOk Γ N sc W Wx k X → PI X tg e (tSrc' W Wx kE (evr Γ s))
  | .seq a, tg, e, sc, Wx, X, h, hX => by
    unfold chkr at h
    exact src_seq hX.hK (snd a e sc Wx X h hX).pe
  | .own a, tg, e, sc, Wx, X, h, hX => by
    unfold chkr at h
    exact src_own hX.hK (snd a e sc Wx X h hX).pb
  | .rng1 a, tg, e, sc, Wx, X, h, hX => by
    unfold chkr at h
    split at h
    · simp only [Bool.and_eq_true, decide_eq_true_eq] at h
      obtain ⟨⟨⟨rfl, h2⟩, h3⟩, h4⟩ := h
      obtain ⟨a', b', _, d'⟩ := free_of hX h2
      exact src_range1 a' d' (eb_cons (snd a _ sc Wx X h3 hX).pb eb_nil (starEach_of h4)) (starEach_of h4)
    · cases h
  | .rng2 a b, tg, e, sc, Wx, X, h, hX => by
    unfold chkr at h
    split at h
    · simp only [Bool.and_eq_true, decide_eq_true_eq] at h
      obtain ⟨⟨⟨⟨⟨rfl, h2⟩, h3⟩, h4⟩, h5⟩, h6⟩ := h
      obtain ⟨a', b', _, d'⟩ := free_of hX h2
      exact src_range2 a' d' (eb_cons (snd a _ sc Wx X h3 hX).pb (eb_cons (snd b _ sc Wx X h4 hX).pb eb_nil (starEach_of h6)) (starEach_of h5)) (by rw [starEach_of h5, starEach_of h6]; rfl) (starEach_of h6)
    · cases h
  | .str a, tg, e, sc, Wx, X, h, hX => by
    unfold chkr at h
    exact src_str (snd a e sc Wx X h hX).pb
  | .enum a, tg, e, sc, Wx, X, h, hX => by
    unfold chkr at h
    split at h
    · simp only [Bool.and_eq_true, decide_eq_true_eq] at h
      obtain ⟨⟨⟨rfl, h2⟩, h3⟩, h4⟩ := h
      obtain ⟨a', b', _, d'⟩ := free_of hX h2
      exact src_enum hX.hK a' d' (ea_cons (snd a _ sc Wx X h3 hX).pe ea_nil (starEach_of h4)) (starEach_of h4)
    · cases h
  | .zip a b, tg, e, sc, Wx, X, h, hX => by
    unfold chkr at h
    split at h
    · simp only [Bool.and_eq_true, decide_eq_true_eq] at h
      obtain ⟨⟨⟨⟨⟨rfl, h2⟩, h3⟩, h4⟩, h5⟩, h6⟩ := h
      obtain ⟨a', b', _, d'⟩ := free_of hX h2
      exact src_zip hX.hK a' d' (ea_cons (snd a _ sc Wx X h3 hX).pe (ea_cons (snd b _ sc Wx X h4 hX).pe ea_nil (starEach_of h6)) (starEach_of h5)) (starEach_of h5) (by rw [starEach_of h6]; rfl)
    · cases h
end
theorem sndrS {kk : Own → Prop} : ∀ (s : Sr) (tg e : Expr) (sc : Scope) (Wx : WX) (X : Cx), chkr Γ N sc s tg e = true → notOwn s = true → XOk Γ N sc W Wx k X → PI X tg e (tSrc' W Wx kk (evr Γ s))
  | .seq a, tg, e, sc, Wx, X, h, ho, hX => by
    unfold chkr at h
    exact src_seq hX.hK (snd a e sc Wx X h hX).pe
  | .own a, tg, e, sc, Wx, X, h, ho, hX => by
    cases ho
  | .rng1 a, tg, e, sc, Wx, X, h, ho, hX => by
    unfold chkr at h
    split at h
    · simp only [Bool.and_eq_true, decide_eq_true_eq] at h
      obtain ⟨⟨⟨rfl, h2⟩, h3⟩, h4⟩ := h
      obtain ⟨a', b', _, d'⟩ := free_of hX h2
      exact src_range1 a' d' (eb_cons (snd a _ sc Wx X h3 hX).pb eb_nil (starEach_of h4)) (starEach_of h4)
    · cases h
  | .rng2 a b, tg, e, sc, Wx, X, h, ho, hX => by
    unfold chkr at h
    split at h
    · simp only [Bool.and_eq_true, decide_eq_true_eq] at h
      obtain ⟨⟨⟨⟨⟨rfl, h2⟩, h3⟩, h4⟩, h5⟩, h6⟩ := h
      obtain ⟨a', b', _, d'⟩ := free_of hX h2
      exact src_range2 a' d' (eb_cons (snd a _ sc Wx X h3 hX).pb (eb_cons (snd b _ sc Wx X h4 hX).pb eb_nil (starEach_of h6)) (starEach_of h5)) (by rw [starEach_of h5, starEach_of h6]; rfl) (starEach_of h6)
    · cases h
  | .str a, tg, e, sc, Wx, X, h, ho, hX => by
    unfold chkr at h
    exact src_str (snd a e sc Wx X h hX).pb
  | .enum a, tg, e, sc, Wx, X, h, ho, hX => by
    unfold chkr at h
    split at h
    · simp only [Bool.and_eq_true, decide_eq_true_eq] at h
      obtain ⟨⟨⟨rfl, h2⟩, h3⟩, h4⟩ := h
      obtain ⟨a', b', _, d'⟩ := free_of hX h2
      exact src_enum hX.hK a' d' (ea_cons (snd a _ sc Wx X h3 hX).pe ea_nil (starEach_of h4)) (starEach_of h4)
    · cases h
  | .zip a b, tg, e, sc, Wx, X, h, ho, hX => by
    unfold chkr at h
    split at h
    · simp only [Bool.and_eq_true, decide_eq_true_eq] at h
      obtain ⟨⟨⟨⟨⟨rfl, h2⟩, h3⟩, h4⟩, h5⟩, h6⟩ := h
      obtain ⟨a', b', _, d'⟩ := free_of hX h2
      exact src_zip hX.hK a' d' (ea_cons (snd a _ sc Wx X h3 hX).pe (ea_cons (snd b _ sc Wx X h4 hX).pe ea_nil (starEach_of h6)) (starEach_of h5)) (starEach_of h5) (by rw [starEach_of h6]; rfl)
    · cases h
end
end EG
namespace EG
open PySem L2

/-! new cells, writes -/
def newC (c : Cell) : EM D := fun μ => some (.ok (.cell μ.length), μ ++ [c])
def fNewc (g : Env → EM (List D)) : Env → EM D := fun env => bindE (g env) fun xs => newC (.lst xs)
def attrOk : Expr → Bool
  | .Call (.Name _ _) [] [] _ => false
  | _ => true
theorem attrBase_of {o : Expr} {a : Str} {env : PySem.Env} {whole : Sem Value} (h : attrOk o = true) : attributeBase o a env whole = whole := by
  cases o with
  | Call f as ks p =>
    cases f <;> first
      | rfl
      | (cases as <;> first
          | rfl
          | (cases ks <;> first | rfl | cases h))
  | _ => rfl
section
variable {W : Wd} {S S' S1 : Ws} {H H' H1 : Hp} {σ : St} {env : Env} {μ : Mu} {Wx : WX} {α β : Type} {X : Cx} {Dn : Ends}
/-- p, owned by out and new, becomes the next cell -/
theorem cell_new' {p : Addr} {c : Cell} {μ1 : Mu} (hS : Sg W S H μ) (hp : H p = none) (l : LtE S H S1 H1) (g1 : Sg W S1 H1 μ1) (ho : S1.Ow p = some .out) (r : CellRep W S1 H1 p c) :
    ∃ S2, LtE S H S2 H1 ∧ Sg W S2 H1 (μ1 ++ [c]) ∧ RepV W S2 H1 (.ref p) (.cell μ1.length) := by
  refine ⟨{ ρ := S1.ρ ++ [p], Ow := fun a => if a = p then some (.cell μ1.length) else S1.Ow a }, ?_, ?_, ?_⟩
  · refine ⟨fun a o e q => ?_, fun a w e k => ?_, fun n a e q => ?_, l.mem⟩
    · have : a ≠ p := fun z => by rw [z, hp] at q; cases q
      obtain ⟨h1, h2⟩ := l.dat a o e q
      exact ⟨by simp [this, h1], h2⟩
    · have : a ≠ p := fun z => by obtain ⟨u, z'⟩ := hS.wf a w e; rw [z, hp] at z'; cases z'
      obtain ⟨h1, h2⟩ := l.own a w e k
      exact ⟨by simp [this, h1], h2⟩
    · have : a ≠ p := fun z => by obtain ⟨u, z'⟩ := hS.wf a _ q; rw [z, hp] at z'; cases z'
      obtain ⟨h1, h2⟩ := l.cel n a e q
      refine ⟨?_, by simp [this, h2]⟩
      have hl := (List.getElem?_eq_some_iff.mp h1).1
      rw [List.getElem?_append_left hl]; exact h1
  · have md : ∀ a o, S1.Ow a = none → H1 a = some o → (if a = p then some (Own.cell μ1.length) else S1.Ow a) = none ∧ H1 a = some o := fun a o e q => by
      have : a ≠ p := fun z => by rw [z, ho] at e; cases e
      exact ⟨by simp [this, e], q⟩
    have mc : ∀ (n : Nat) a, S1.ρ[n]? = some a → S1.Ow a = some (.cell n) → (S1.ρ ++ [p])[n]? = some a ∧ (if a = p then some (Own.cell μ1.length) else S1.Ow a) = some (.cell n) := fun n a e q => by
      have : a ≠ p := fun z => by rw [z, ho] at q; cases q
      have hl := (List.getElem?_eq_some_iff.mp e).1
      exact ⟨by rw [List.getElem?_append_left hl]; exact e, by simp [this, q]⟩
    refine ⟨fun a w e => ?_, by simp [g1.len], fun n c' e => ?_⟩
    · by_cases h : a = p
      · subst h; exact g1.wf a _ ho
      · simp [h] at e; exact g1.wf a w e
    · by_cases hn : n < μ1.length
      · rw [List.getElem?_append_left hn] at e
        obtain ⟨a, e1, e2, r'⟩ := g1.cells n c' e
        obtain ⟨m1, m2⟩ := mc n a e1 e2
        exact ⟨a, m1, m2, r'.mono md mc rfl⟩
      · have hn' : n = μ1.length := by
          have := (List.getElem?_eq_some_iff.mp e).1
          simp at this; omega
        subst hn'
        rw [List.getElem?_append_right (Nat.le_refl _)] at e
        simp at e
        subst e
        refine ⟨p, ?_, by simp, r.mono md mc rfl⟩
        rw [← g1.len, List.getElem?_append_right (Nat.le_refl _)]
        simp
  · refine .cell ?_ (by simp)
    show (S1.ρ ++ [p])[μ1.length]? = some p
    rw [← g1.len, List.getElem?_append_right (Nat.le_refl _)]
    simp
theorem ev_newc {e : Expr} {g : Env → EM (List D)} (h : PE X e (tEvL W Wx g)) : PE X e (tEv W Wx (fNewc g)) :=
  PE.imp h fun σ H Q ⟨S, μ, env, res, hS, hE, hf, hk⟩ => by
    unfold fNewc bindE at hf
    cases e : g env μ with
    | none => rw [e] at hf; cases hf
    | some q =>
      obtain ⟨o, μ1⟩ := q
      rw [e] at hf
      cases o with
      | exc c fs => cases hf; exact ⟨S, μ, env, _, hS, hE, e, hk⟩
      | ok ds =>
        cases hf
        refine ⟨S, μ, env, _, hS, hE, e, fun S' H' l g' p vs hp ho hh hl r => ?_⟩
        obtain ⟨S2, l2, g2, r2⟩ := cell_new' (c := .lst ds) hS hp l g' ho ⟨vs, hh, hl, r⟩
        exact hk S2 H' l2 g2 _ r2
/-- a cell is written -/
theorem cell_write {n : Nat} {a : Addr} {c : Cell} {o : HO} (g : Sg W S H μ) (e1 : S.ρ[n]? = some a) (e2 : S.Ow a = some (.cell n)) (hn : n < μ.length) (r : CellRep W S (upd H a o) a c) : LtE S H S (upd H a o) ∧ Sg W S (upd H a o) (μ.set n c) := by
  have lt : LtE S H S (upd H a o) := by
    refine ⟨fun b u e q => ?_, fun b w e k => ?_, fun m b e q => ⟨e, q⟩, upd_mem⟩
    · have : b ≠ a := fun z => by rw [z, e2] at e; cases e
      rw [upd_ne this]; exact ⟨e, q⟩
    · have : b ≠ a := fun z => by rw [z, e2] at e; cases e; exact k
      rw [upd_ne this]; exact ⟨e, rfl⟩
  refine ⟨lt, fun b w e => ?_, by rw [List.length_set]; exact g.len, fun m c' e => ?_⟩
  · by_cases h : b = a
    · subst h; exact ⟨o, upd_same⟩
    · obtain ⟨u, q⟩ := g.wf b w e
      exact ⟨u, by rw [upd_ne h]; exact q⟩
  · by_cases hm : m = n
    · subst hm
      rw [List.getElem?_set_self hn] at e
      cases e
      exact ⟨a, e1, e2, r⟩
    · rw [List.getElem?_set_ne (Ne.symm hm)] at e
      obtain ⟨b, h1, h2, r'⟩ := g.cells m c' e
      have hb : b ≠ a := fun z => by rw [z, e2] at h2; cases h2; exact hm rfl
      exact ⟨b, h1, h2, r'.later lt (by rw [upd_ne hb])⟩
/-- an own thing of a local is written -/
theorem own_write {i : Nat} {a : Addr} {c c0 : Cell} {o : HO} (g : Sg W S H μ) (hE : EnvOk W S H σ env) (h0 : env[i]? = some (.own c0)) (hv : σ[i]? = some (some (.ref a))) (ho : S.Ow a = some (.slot i)) (r : CellRep W S (upd H a o) a c) :
    LtS S H S (upd H a o) ∧ Sg W S (upd H a o) μ ∧ EnvOk W S (upd H a o) σ (env.set i (.own c)) := by
  have lt : Lt (fun w => w ≠ .slot i) S H S (upd H a o) := by
    refine ⟨fun b u e q => ?_, fun b w e k => ?_, fun m b e q => ⟨e, q⟩, upd_mem⟩
    · have : b ≠ a := fun z => by rw [z, ho] at e; cases e
      rw [upd_ne this]; exact ⟨e, q⟩
    · have : b ≠ a := fun z => by rw [z, ho] at e; cases e; exact k rfl
      rw [upd_ne this]; exact ⟨e, rfl⟩
  refine ⟨⟨lt.dat, fun b w q k => lt.own b w q (by rintro rfl; exact k), lt.cel, lt.mem⟩, g.own_write ho (fun n z => nomatch z), by rw [List.length_set]; exact hE.len, fun j sl e => ?_⟩
  by_cases hj : j = i
  · subst hj
    have hl : j < env.length := (List.getElem?_eq_some_iff.mp h0).1
    rw [List.getElem?_set_self hl] at e
    cases e
    exact ⟨a, hv, ho, r⟩
  · rw [List.getElem?_set_ne (Ne.symm hj)] at e
    have z := hE.at_ j sl e
    cases sl with
    | no => trivial
    | v d => obtain ⟨v, e, r⟩ := z; exact ⟨v, e, r.later lt⟩
    | own c =>
      obtain ⟨b, e, o', r⟩ := z
      obtain ⟨q1, q2⟩ := lt.own b _ o' (fun z => hj (by cases z; rfl))
      exact ⟨b, e, q1, r.later lt q2⟩
/-! o[i] = e -/
def setAt (xs : List D) (i : D) (d : D) : Option (List D) := match i with
  | .int k => (ixN xs.length k).map fun j => xs.set j d
  | _ => none
/-- o a cell -/
def fSetC (o i e : Env → EM D) : SM := liftE e fun d => liftE o fun x => liftE i fun y => fun env μ => match x with
  | .cell n => match μ[n]? with
    | some (.lst xs) => match setAt xs y d with
      | some ys => some (.nx env, μ.set n (.lst ys))
      | none => none
    | _ => none
  | _ => none
theorem setAt_rep {vs : List V} {xs ys : List D} {y d : D} {v : V} {iv : V} (h : RepVs W S H vs xs) (rd : RepV W S H v d) (ri : RepB W S H iv y) (e : setAt xs y d = some ys) : ∃ k j, iv = .int k ∧ ixN vs.length k = some j ∧ RepVs W S H (vs.set j v) ys := by
  unfold setAt at e
  split at e
  · rename_i k
    obtain ⟨j, hj, rfl⟩ := map_some e
    exact ⟨k, j, ri.int, by rw [h.length]; exact hj, h.set rd j⟩
  · cases e
theorem asgSub_of {o i : Expr} {p : Pos} {env : PySem.Env} (h : notSlice i = true) : ∀ v, assign (.Subscript o i p) env v = (holding [v] (eval o env) >>= fun a => holding [v, a] (eval i env) >>= fun b => standAt p >>= fun _ => holding [v, a, b] (setItem a b v) >>= fun _ => release [v, a, b] []) := by
  cases i <;> first | (intro v; rfl) | cases h
theorem swapsSole_of {t e : Expr} {l : Nat} {env : PySem.Env} (h : notComp e = true) : swapsWithSole [t] e l env = pure false := swaps_of h
theorem tG.lift' {f : Env → EM α} {k : α → SM} {ok : α → Ws → Hp → Prop} {r : SO × Mu} (hS : Sg W S H μ) (hE : EnvOk W S H σ env) (hf : liftE f k env μ = some r) (hk : KS W S H Wx Dn r)
    (hR : ∀ a μ1 S1 H1, LtE S H S1 H1 → Sg W S1 H1 μ1 → EnvOk W S1 H1 σ env → k a env μ1 = some r → KS W S1 H1 Wx Dn r → ok a S1 H1) : tG W Wx f ok σ H := by
  unfold liftE at hf
  cases e : f env μ with
  | none => rw [e] at hf; cases hf
  | some q =>
    obtain ⟨o, μ1⟩ := q
    rw [e] at hf
    refine ⟨S, μ, env, _, hS, hE, e, ?_⟩
    cases o with
    | ok a => exact fun S' H' l g => hR a μ1 S' H' l g (hE.laterE l) hf (hk.later l.toS)
    | exc c fs =>
      cases hf
      exact fun S' H' dd vs l g h1 h2 h3 => hk S' H' σ dd vs l.toS g (hE.laterE l) h1 h2 h3
theorem es_setC {o i e : Expr} {p pos : Pos} {fo fi fe : Env → EM D} (he : PE X e (tEv W Wx fe)) (ho : PE X o (tEvB W Wx fo)) (hi : PE X i (tEvB W Wx fi)) (hns : notSlice i = true) (hc : notComp e = true) :
    PS X (.Assign [.Subscript o i p] e pos) (tSt W Wx (fSetC fo fi fe)) :=
  PS.imp (ps_asg he (pg_sub ho hi set_list (asgSub_of hns)) (swapsSole_of hc) (swapped_of rfl)) fun D σ H ⟨S, μ, env, r, hS, hE, hf, hk⟩ => by
    refine tG.lift' hS hE hf hk fun d μ1 S1 H1 l1 g1 e1 hf1 hk1 v rv => ?_
    refine tG.lift' g1 e1 hf1 hk1 fun x μ2 S2 H2 l2 g2 e2 hf2 hk2 ov ro => ?_
    refine tG.lift' g2 e2 hf2 hk2 fun y μ3 S3 H3 l3 g3 e3 hf3 hk3 iv ri => ?_
    have rv := (rv.later l2).later l3
    have ro := ro.laterE l3
    cases x with
    | cell n =>
      simp only at hf3
      cases q : μ3[n]? with
      | none => rw [q] at hf3; cases hf3
      | some c =>
        rw [q] at hf3
        cases c with
        | lst xs =>
          simp only at hf3
          cases z : setAt xs y d with
          | none => rw [z] at hf3; cases hf3
          | some ys =>
            rw [z] at hf3
            cases hf3
            obtain ⟨a, rfl, a1, a2⟩ := ro.cell
            obtain ⟨a', b1, b2, vs, b3, b4, b5⟩ := g3.cells n _ q
            rw [a1] at b1; cases b1
            obtain ⟨k, j, rfl, hj, rys⟩ := setAt_rep b5 rv ri z
            refine ⟨a, vs, k, j, rfl, rfl, b3, hj, ?_⟩
            have hn : n < μ3.length := (List.getElem?_eq_some_iff.mp q).1
            have lw : Lt (fun _ => False) S3 H3 S3 (upd H3 a (.lst (vs.set j v))) := by
              refine ⟨fun b u e q => ?_, fun _ _ _ h => h.elim, fun m b e q => ⟨e, q⟩, upd_mem⟩
              have : b ≠ a := fun z => by rw [z, a2] at e; cases e
              rw [upd_ne this]; exact ⟨e, q⟩
            obtain ⟨lt, gw⟩ := cell_write (c := .lst ys) (o := .lst (vs.set j v)) g3 a1 a2 hn ⟨_, upd_same, by rw [List.length_set]; exact b4, rys.later lw⟩
            exact hk3 S3 _ σ lt.toS gw (e3.laterE lt)
        | obj _ _ => cases hf3
        | dK _ => cases hf3
        | dT _ => cases hf3
    | _ => cases hf3
/-- x's own list: x[i] = e -/
def ownL (n : Nat) (k : List D → SM) : SM := fun env μ => match env[n]? with
  | some (.own (.lst xs)) => k xs env μ
  | _ => none
theorem ownL_some {n : Nat} {k : List D → SM} {r : SO × Mu} (hE : EnvOk W S H σ env) (h : ownL n k env μ = some r) : ∃ xs a vs, env[n]? = some (.own (.lst xs)) ∧ σ[n]? = some (some (.ref a)) ∧ S.Ow a = some (.slot n) ∧ H a = some (.lst vs) ∧ vs.length ≤ big ∧ RepVs W S H vs xs ∧ k xs env μ = some r := by
  unfold ownL at h
  cases e : env[n]? with
  | none => rw [e] at h; cases h
  | some sl =>
    rw [e] at h
    cases sl with
    | no => cases h
    | v d => cases h
    | own c =>
      cases c with
      | lst xs =>
        obtain ⟨a, e1, o, vs, h1, h2, h3⟩ := hE.at_ n _ e
        exact ⟨xs, a, vs, rfl, e1, o, h1, h2, h3, h⟩
      | obj _ _ => cases h
      | dK _ => cases h
      | dT _ => cases h
theorem lt_noneOwned {a : Addr} {o : HO} {w : Own} (ho : S.Ow a = some w) : Lt (fun _ => False) S H S (upd H a o) := by
  refine ⟨fun b u e q => ?_, fun _ _ _ h => h.elim, fun m b e q => ⟨e, q⟩, upd_mem⟩
  have : b ≠ a := fun z => by rw [z, ho] at e; cases e
  rw [upd_ne this]; exact ⟨e, q⟩
def fSetI (n : Nat) (i e : Env → EM D) : SM := liftE e fun d => ownL n fun xs => liftE i fun y => fun env μ => match setAt xs y d with
    | some ys => some (.nx (env.set n (.own (.lst ys))), μ)
    | none => none
theorem es_setI {n : Nat} {x : Str} {i e : Expr} {px p pos : Pos} {fi fe : Env → EM D} (he : PE X e (tEv W Wx fe)) (ho : PE X (.Name x px) (tVar n)) (hi : PE X i (tEvB W Wx fi)) (hns : notSlice i = true) (hc : notComp e = true) :
    PS X (.Assign [.Subscript (.Name x px) i p] e pos) (tSt W Wx (fSetI n fi fe)) :=
  PS.imp (ps_asg he (pg_sub ho hi set_list (asgSub_of hns)) (swapsSole_of hc) (swapped_of rfl)) fun D σ H ⟨S, μ, env, r, hS, hE, hf, hk⟩ => by
    refine tG.lift' hS hE hf hk fun d μ1 S1 H1 l1 g1 e1 hf1 hk1 v rv => ?_
    obtain ⟨xs, a, vs, q1, q2, q3, q4, q5, q6, hf2⟩ := ownL_some e1 hf1
    refine ⟨_, q2, tG.lift' g1 e1 hf2 hk1 fun y μ3 S3 H3 l3 g3 e3 hf3 hk3 iv ri => ?_⟩
    obtain ⟨o1, o2⟩ := l3.own a _ q3 trivial
    cases z : setAt xs y d with
    | none => rw [z] at hf3; cases hf3
    | some ys =>
      rw [z] at hf3
      cases hf3
      obtain ⟨k, j, rfl, hj, rys⟩ := setAt_rep (q6.later l3) (rv.later l3) ri z
      have h3 : H3 a = some (.lst vs) := o2.trans q4
      refine ⟨a, vs, k, j, rfl, rfl, h3, hj, ?_⟩
      obtain ⟨lt, gw, ew⟩ := own_write (c := .lst ys) (o := .lst (vs.set j v)) g3 e3 q1 q2 o1 ⟨_, upd_same, by rw [List.length_set]; exact q5, rys.later (lt_noneOwned o1)⟩
      exact hk3 S3 _ σ lt gw ew
/-! x.append(e), x.extend(e) -/
def fApp (n : Nat) (e : Env → EM D) : SM := ownL n fun xs => liftE e fun d => fun env μ => if xs.length < big then some (.nx (env.set n (.own (.lst (xs ++ [d])))), μ) else none
theorem few1 {e : Expr} {pos : Pos} {env : PySem.Env} (h : notStar e = true) : ((backTo pos (starEach [e] env)).all (fun x => !x.1) && (backToKw pos (keywordEach [] env)).all (fun x => x.1.isSome)
      && decide (([e] : List Expr).length + ([] : List Keyword).length + (if ([] : List Keyword).isEmpty then 0 else 1) < 30)) = true := by
  rw [starEach_of h]; rfl
theorem es_app {n : Nat} {x : Str} {e : Expr} {px ap cp pos : Pos} {fe : Env → EM D} (he : PE X e (tEv W Wx fe)) (ho : PE X (.Name x px) (tVar n)) (hs : notStar e = true) (hl : (ap.endLine == cp.line) = true) :
    PS X (.Expr (.Call (.Attribute (.Name x px) "append" ap) [e] [] cp) pos) (tSt W Wx (fApp n fe)) :=
  PS.imp (ps_expr (pe_bm PySem.F.plainAttrs_list PySem.F.slot_list_append PySem.F.type_list_append mt_append ho (pa_cons he pa_nil (starEach_of hs)) (attrBase_of rfl) (few1 hs) hl (starEach_of hs) rfl) rfl) fun D σ H ⟨S, μ, env, r, hS, hE, hf, hk⟩ => by
    obtain ⟨xs, a, vs, q1, q2, q3, q4, q5, q6, hf2⟩ := ownL_some hE hf
    refine ⟨_, q2, .inl ⟨rfl, vs, SqL.of q4⟩, tG.lift' hS hE hf2 hk fun d μ3 S3 H3 l3 g3 e3 hf3 hk3 v rv => ?_⟩
    obtain ⟨o1, o2⟩ := l3.own a _ q3 trivial
    have hf3 : (if xs.length < big then some (SO.nx (env.set n (.own (.lst (xs ++ [d])))), μ3) else none) = some r := hf3
    split at hf3
    · rename_i hlt
      cases hf3
      have h3 : H3 a = some (.lst vs) := o2.trans q4
      have hlen : vs.length < big := by rw [q6.length]; exact hlt
      refine ⟨a, vs, v, rfl, rfl, h3, Nat.lt_of_lt_of_le hlen big_le, ?_⟩
      obtain ⟨lt, gw, ew⟩ := own_write (c := .lst (xs ++ [d])) (o := .lst (vs ++ [v])) g3 e3 q1 q2 o1 ⟨_, upd_same, by rw [List.length_append]; simp; omega, ((q6.later l3).append (.one rv)).later (lt_noneOwned o1)⟩
      exact hk3 S3 _ σ lt gw ew
    · cases hf3
def fExt (n : Nat) (e : Env → EM D) : SM := ownL n fun xs => liftE e fun d => fun env μ => match lstD d μ with
  | some ys => if xs.length + ys.length ≤ big then some (.nx (env.set n (.own (.lst (xs ++ ys)))), μ) else none
  | none => none
theorem es_ext {n : Nat} {x : Str} {e : Expr} {px ap cp pos : Pos} {fe : Env → EM D} (he : PE X e (tEv W Wx fe)) (ho : PE X (.Name x px) (tVar n)) (hs : notStar e = true) (hl : (ap.endLine == cp.line) = true) :
    PS X (.Expr (.Call (.Attribute (.Name x px) "extend" ap) [e] [] cp) pos) (tSt W Wx (fExt n fe)) :=
  PS.imp (ps_expr (pe_bm PySem.F.plainAttrs_list PySem.F.slot_list_extend PySem.F.type_list_extend mt_extend ho (pa_cons he pa_nil (starEach_of hs)) (attrBase_of rfl) (few1 hs) hl (starEach_of hs) rfl) rfl) fun D σ H ⟨S, μ, env, r, hS, hE, hf, hk⟩ => by
    obtain ⟨xs, a, vs, q1, q2, q3, q4, q5, q6, hf2⟩ := ownL_some hE hf
    refine ⟨_, q2, .inl ⟨rfl, vs, SqL.of q4⟩, tG.lift' hS hE hf2 hk fun d μ3 S3 H3 l3 g3 e3 hf3 hk3 v rv => ?_⟩
    obtain ⟨o1, o2⟩ := l3.own a _ q3 trivial
    cases z : lstD d μ3 with
    | none => rw [z] at hf3; cases hf3
    | some ys =>
      rw [z] at hf3
      have hf3 : (if xs.length + ys.length ≤ big then some (SO.nx (env.set n (.own (.lst (xs ++ ys)))), μ3) else none) = some r := hf3
      obtain ⟨b, ws, rfl, b1, b2, b3⟩ := lstD_rep g3 (.inl rv) z
      split at hf3
      · rename_i hlt
        cases hf3
        have h3 : H3 a = some (.lst vs) := o2.trans q4
        have hlen : vs.length + ws.length ≤ big := by rw [q6.length, b3.length]; exact hlt
        refine ⟨a, b, vs, ws, rfl, rfl, h3, b1, Nat.le_trans hlen big_le, ?_⟩
        obtain ⟨lt, gw, ew⟩ := own_write (c := .lst (xs ++ ys)) (o := .lst (vs ++ ws)) g3 e3 q1 q2 o1 ⟨_, upd_same, by rw [List.length_append]; exact hlen, ((q6.later l3).append b3).later (lt_noneOwned o1)⟩
        exact hk3 S3 _ σ lt gw ew
      · cases hf3
/-! a, b = e, f (two plain names: no tuple) -/
def fPar (i j : Nat) (e f : Env → EM D) : SM := liftE e fun d => liftE f fun d' => fun env μ => some (.nx ((env.set i (.v d)).set j (.v d')), μ)
theorem es_par {i j : Nat} {x y : Str} {a b : Expr} {px py pt pt2 pos : Pos} {kt k2 : Nat} {fa fb : Env → EM D} (hc : X.calm = true) (hN : X.N.Nodup) (hi : X.N[i]? = some x) (hj : X.N[j]? = some y) (hij : i ≠ j)
    (hx : X.env.scope.names.lookup x = some .local) (hy : X.env.scope.names.lookup y = some .local) (ha : PE X a (tEv W Wx fa)) (hb : PE X b (tEv W Wx fb)) (s1 : notStar a = true) (s2 : notStar b = true)
    (hw : swappedStores [.Tuple [.Name x px, .Name y py] kt pt] (.Tuple [a, b] k2 pt2) X.env = pure (some [x, y])) :
    PS X (.Assign [.Tuple [.Name x px, .Name y py] kt pt] (.Tuple [a, b] k2 pt2) pos) (tSt W Wx (fPar i j fa fb)) :=
  PS.imp (ps_par hc hN hi hj hij hx hy (pa_cons ha (pa_cons hb pa_nil (starEach_of s2)) (starEach_of s1)) hw (swapsSole_of rfl)) fun D σ H ⟨S, μ, env, r, hS, hE, hf, hk⟩ => by
    refine tG.lift' hS hE hf hk fun d μ1 S1 H1 l1 g1 e1 hf1 hk1 v rv => ?_
    refine tG.lift' g1 e1 hf1 hk1 fun d' μ2 S2 H2 l2 g2 e2 hf2 hk2 v' rv' => ?_
    cases hf2
    exact ⟨v, v', rfl, hk2 S2 H2 _ .refl g2 ((e2.set (sl := .v d) ⟨v, rfl, rv.later l2⟩).set (sl := .v d') ⟨v', rfl, rv'⟩)⟩
end
end EG
namespace EG
open PySem L2

/-! commands -/
mutual
inductive C where
  | pass | doc | nev | brk | cnt | retN
  | set (i : Nat) (e : E) | own (i : Nat) (e : E) | cell (i : Nat) (e : E) | asg (p : Pat) (e : E) | par (i j : Nat) (e f : E)
  | ret (e : E) | retC (e : E) | expr (e : E)
  | iff (c : E) (a b : Cs) | forr (p : Pat) (s : Sr) (b : Cs)
  | setC (o i e : E) | setI (n : Nat) (i e : E) | app (n : Nat) (e : E) | ext (n : Nat) (e : E)
inductive Cs where
  | nil | cons (c : C) (r : Cs) | ghost (i : Nat) (r : Cs)
end
mutual
def run (Γ : Gam) : C → SM
  | .pass => fSkip
  | .doc => fSkip
  | .nev => fNever
  | .brk => fBreak
  | .cnt => fCont
  | .retN => fRetN
  | .set i e => fSet i (ev Γ e).e
  | .own i e => fSetOwn i (ev Γ e).l
  | .cell i e => fSet i (fNewc (ev Γ e).l)
  | .asg p e => fAsg p (ev Γ e).e
  | .par i j e f => fPar i j (ev Γ e).e (ev Γ f).e
  | .ret e => fRet (ev Γ e).e
  | .retC e => fRet (fNewc (ev Γ e).l)
  | .expr e => fDrop (ev Γ e).e
  | .iff c a b => fIfS (ev Γ c).t (runs Γ a) (runs Γ b)
  | .forr p s b => fFor p (evr Γ s) (runs Γ b)
  | .setC o i e => fSetC (ev Γ o).b (ev Γ i).b (ev Γ e).e
  | .setI n i e => fSetI n (ev Γ i).b (ev Γ e).e
  | .app n e => fApp n (ev Γ e).e
  | .ext n e => fExt n (ev Γ e).e
def runs (Γ : Gam) : Cs → SM
  | .nil => fSkip
  | .cons c r => fSeq (run Γ c) (runs Γ r)
  | .ghost i r => fSeq (fFreeze i) (runs Γ r)
end
/-- what swapsWith says of a name and a value, in a def -/
def swB (sc : Scope) (t : Str) (tl : Nat) (v : Expr) : Bool := match v with
  | .ListComp _ _ s p => decide (sc.names.lookup t = some .local) && tl == p.line && !(s.names.any fun (n, k) => n == t && (k == .local || k == .cell))
  | _ => false
def okStore (N : List Str) (sc : Scope) (i : Nat) (x : Str) : Bool := decide (N[i]? = some x) && isLoc sc x
def swPar (x y : Str) (px py : Pos) (a b : Expr) : Bool := px.line == py.line && decide (x ≠ y) && !([a, b].all (foldedForSure 8)) && !([a, b].all (constantsAlone 8))
def isListComp : Expr → Bool
  | .ListComp .. => true
  | _ => false
mutual
def chkC (Γ : Gam) (N : List Str) (sc : Scope) : C → Stmt → Bool
  | .pass, s => match s with
    | .Pass _ => true
    | _ => false
  | .doc, s => match s with
    | .Expr (.Constant (.str _) _ _) _ => true
    | _ => false
  | .nev, _ => true
  | .brk, s => match s with
    | .Break _ => true
    | _ => false
  | .cnt, s => match s with
    | .Continue _ => true
    | _ => false
  | .retN, s => match s with
    | .Return none _ => true
    | _ => false
  | .set i e, s => match s with
    | .Assign [.Name x p] v _ => okStore N sc i x && chk Γ N sc e v && (notComp v || isListComp v && (!(swB sc x p.line v) || decide (sc.names.lookup x = some .local)))
    | _ => false
  | .own i e, s => match s with
    | .Assign [.Name x p] v _ => okStore N sc i x && chk Γ N sc e v && (notComp v || isListComp v && (!(swB sc x p.line v) || decide (sc.names.lookup x = some .local)))
    | _ => false
  | .cell i e, s => match s with
    | .Assign [.Name x p] v _ => okStore N sc i x && chk Γ N sc e v && notComp v
    | _ => false
  | .asg p e, s => match s with
    | .Assign [t] v _ => chkP N sc p t && chk Γ N sc e v && notComp v && (notTL t || notTuple v) && notStar t
    | _ => false
  | .par i j e f, s => match s with
    | .Assign [.Tuple [.Name x px, .Name y py] _ _] (.Tuple [a, b] _ _) _ => decide (N[i]? = some x) && decide (N[j]? = some y) && decide (i ≠ j) && decide (sc.names.lookup x = some .local) && decide (sc.names.lookup y = some .local) && chk Γ N sc e a && chk Γ N sc f b && notStar a && notStar b && swPar x y px py a b
    | _ => false
  | .ret e, s => match s with
    | .Return (some v) _ => chk Γ N sc e v
    | _ => false
  | .retC e, s => match s with
    | .Return (some v) _ => chk Γ N sc e v
    | _ => false
  | .expr e, s => match s with
    | .Expr v _ => chk Γ N sc e v && notComp v
    | _ => false
  | .iff c a b, s => match s with
    | .If x y z _ => chk Γ N sc c x && chkCs Γ N sc a y && chkCs Γ N sc b z
    | _ => false
  | .forr p r b, s => match s with
    | .For tg it body [] _ => chkP N sc p tg && chkr Γ N sc r tg it && chkCs Γ N sc b body && notSet it && notOwn r
    | _ => false
  | .setC o i e, s => match s with
    | .Assign [.Subscript x y _] v _ => chk Γ N sc o x && chk Γ N sc i y && chk Γ N sc e v && notSlice y && notComp v
    | _ => false
  | .setI n i e, s => match s with
    | .Assign [.Subscript (.Name x _) y _] v _ => chkV N sc n x && chk Γ N sc i y && chk Γ N sc e v && notSlice y && notComp v
    | _ => false
  | .app n e, s => match s with
    | .Expr (.Call (.Attribute (.Name x _) m ap) [v] [] cp) _ => decide (m = "append") && chkV N sc n x && chk Γ N sc e v && notStar v && ap.endLine == cp.line
    | _ => false
  | .ext n e, s => match s with
    | .Expr (.Call (.Attribute (.Name x _) m ap) [v] [] cp) _ => decide (m = "extend") && chkV N sc n x && chk Γ N sc e v && notStar v && ap.endLine == cp.line
    | _ => false
def chkCs (Γ : Gam) (N : List Str) (sc : Scope) : Cs → List Stmt → Bool
  | .nil, ss => ss.isEmpty
  | .cons c r, ss => match ss with
    | [] => false
    | s :: ss => chkC Γ N sc c s && chkCs Γ N sc r ss
  | .ghost _ r, ss => chkCs Γ N sc r ss
end
structure XSt (Γ : Gam) (N : List Str) (sc : Scope) (W : Wd) (Wx : WX) (k : Nat) (X : Cx) : Prop extends XOk Γ N sc W Wx k X where
  hsc : X.env.scope = sc
  hkind : sc.kind = .function
  po : PassesOwn (model X.prog X.w) X.A X.env X.xe
section
variable {Γ : Gam} {N : List Str} {W : Wd} {k : Nat} {X : Cx} {sc : Scope} {Wx : WX}
theorem PS.asgImp {st : Stmt} {te te' : TE} {g : TG} (h : PS X st (tAsg te g)) (hi : ∀ σ H Q, te' σ H Q → te σ H Q) : PS X st (tAsg te' g) := PS.imp h fun D σ H q => hi _ _ _ q
theorem swB_of (hX : XSt Γ N sc W Wx k X) {x : Str} {p pos : Pos} {v : Expr} {b : Bool} (hl : isListComp v = true) (h : swB sc x p.line v = b) : swapsWith v (some (.Name x p)) pos.line X.env = pure b := by
  cases v <;> first
    | (cases hl; done)
    | skip
  subst h
  rename_i el gs s pp
  have hk : X.env.blockKind = .function := by
    show (if X.env.scope.kind.isAnnotationScope then ScopeKind.function else X.env.scope.kind) = _
    rw [hX.hsc, hX.hkind]; rfl
  have hn : X.env.kindOf x = sc.names.lookup x := by
    show X.env.scope.names.lookup x = _
    rw [hX.hsc]
  show (pure (X.env.blockKind == .function && X.env.kindOf x == some .local && p.line == pp.line && !(s.names.any fun (n, k) => n == x && (k == .local || k == .cell))) : Sem Bool) = _
  rw [hk, hn]
  unfold swB
  congr 1
  have : (some NameKind.local == sc.names.lookup x) = decide (sc.names.lookup x = some .local) := by
    by_cases q : sc.names.lookup x = some .local
    · rw [q]; rfl
    · rw [decide_eq_false q]
      exact beq_eq_false_iff_ne.mpr fun z => q z.symm
  have this2 : (sc.names.lookup x == some NameKind.local) = decide (sc.names.lookup x = some .local) := by
    by_cases q : sc.names.lookup x = some .local
    · rw [q]; rfl
    · rw [decide_eq_false q]
      exact beq_eq_false_iff_ne.mpr q
  rw [this2]
  rfl
theorem anyStar {a b : Expr} (h1 : notStar a = true) (h2 : notStar b = true) : ([a, b].any fun | .Starred .. => true | _ => false) = false := by
  cases a <;> first
    | (cases h1; done)
    | (cases b <;> first
        | (cases h2; done)
        | rfl)
theorem swapped_par (hX : XSt Γ N sc W Wx k X) {x y : Str} {a b : Expr} {px py pt pt2 : Pos} {kt k2 : Nat} (h : swPar x y px py a b = true) (hx : sc.names.lookup x = some .local) (hy : sc.names.lookup y = some .local) (s1 : notStar a = true) (s2 : notStar b = true) :
    swappedStores [.Tuple [.Name x px, .Name y py] kt pt] (.Tuple [a, b] k2 pt2) X.env = pure (some [x, y]) := by
  have hk : X.env.blockKind = .function := by
    show (if X.env.scope.kind.isAnnotationScope then ScopeKind.function else X.env.scope.kind) = _
    rw [hX.hsc, hX.hkind]; rfl
  have nx : X.env.kindOf x = some .local := by
    show X.env.scope.names.lookup x = _
    rw [hX.hsc]; exact hx
  have ny : X.env.kindOf y = some .local := by
    show X.env.scope.names.lookup y = _
    rw [hX.hsc]; exact hy
  unfold swPar at h
  simp only [Bool.and_eq_true, Bool.not_eq_true', decide_eq_true_eq, beq_iff_eq] at h
  obtain ⟨⟨⟨h1, h2⟩, h3⟩, h4⟩ := h
  have hn : ([Expr.Name x px, Expr.Name y py].filterMap fun
    | .Name id pos => if X.env.kindOf id == some .local && pos.line == px.line then some id else none
    | _ => none) = [x, y] := by
    simp [List.filterMap_cons, nx, ny, h1]
  have he : ([x, y] : List Str).eraseDups.length = 2 := by
    have : (y == x) = false := beq_eq_false_iff_ne.mpr fun z => h2 z.symm
    simp [List.eraseDups_cons, this]
  show (do
    if !(2 == 2 || 2 == 3) || 2 != 2 || X.env.blockKind != .function then return none
    if [a, b].any fun | .Starred .. => true | _ => false then return none
    let names := [Expr.Name x px, Expr.Name y py].filterMap fun
      | .Name id pos => if X.env.kindOf id == some .local && pos.line == px.line then some id else none
      | _ => none
    if names.length != 2 || names.eraseDups.length != names.length then return none
    if [a, b].all (foldedForSure 8) then return none
    if [a, b].all (constantsAlone 8) then unsupported "assign.tuple-of-constant-expressions:order-of-the-stores"
    return some names : Sem (Option (List Str))) = _
  rw [hn]
  simp only [hk, anyStar s1 s2, he, h3, h4]
  rfl
/-! comprehensions given to a name on one line -/
theorem comp_lc (hX : XSt Γ N sc W Wx k X) {i : Nat} {x : Str} {p pos : Pos} {v : Expr} {e : E} (hl : isListComp v = true) (hc : chk Γ N sc e v = true) (h1 : N[i]? = some x) (h2 : sc.names.lookup x = some .local) (hs : swB sc x p.line v = true) :
    PS X (.Assign [.Name x p] v pos) (tAsg (tEvL W Wx (ev Γ e).l) (gName i)) := by
  cases e <;> first
    | (unfold chk at hc; cases v <;> first | (cases hl; done) | (cases hc; done))
    | skip
  rename_i own q s c el
  unfold chk at hc
  split at hc
  · rename_i el' tg iter ifs scope pp
    have hs' := swB_of hX (pos := pos) hl hs
    simp only [Bool.and_eq_true] at hc
    obtain ⟨⟨⟨⟨⟨⟨k1, k2⟩, k3⟩, k4⟩, k5⟩, k6⟩, k7⟩ := hc
    have bk : BlkOk X.N X.env.scope scope own := by rw [hX.hN]; exact blkOk_scopes (blkOk_by k2) hX.hlk
    refine PS.asgImp (ps_setLc (own := own) hX.calm (by rw [hX.hN]; exact hX.nd) (by rw [hX.hN]; exact h1) (by rw [hX.hsc]; exact h2) hs' (sndr s _ _ sc Wx X k1 hX.toXOk) bk (fun s H C cl fp => pat_of (hX.toXOk.blk s H _ C cl fp) q _ k4) (fun s H C cl fp => sndc c _ _ Wx0 _ k5 (hX.toXOk.blk s H _ C cl fp)) (fun s H C cl fp => (snd el _ _ Wx0 _ k6 (hX.toXOk.blk s H _ C cl fp)).pe) (folded_of k7)) fun σ H Q h => lc_of (fun i hi => ?_) h
    have := List.all_eq_true.mp k3 i hi
    simpa using this
  · cases hc
theorem storeN (hX : XSt Γ N sc W Wx k X) {i : Nat} {x : Str} {p pos : Pos} {v : Expr} {te : TE} (h : okStore N sc i x = true) (he : PE X v te) (hs : swapsWith v (some (.Name x p)) pos.line X.env = pure false) : PS X (.Assign [.Name x p] v pos) (tAsg te (gName i)) := by
  unfold okStore at h
  rw [Bool.and_eq_true] at h
  have l := isLoc_loc h.2
  refine ps_set (by rw [hX.hN]; exact hX.nd) (by rw [hX.hN]; exact of_decide_eq_true h.1) (by rw [hX.hsc]; exact l) he hs ?_
  rcases l with l | l
  · exact .inr (by rw [hX.hsc]; exact l)
  · exact .inl (hX.fn x l)
/-- x = a new list, whichever way the comprehension is stored -/
theorem asgL (hX : XSt Γ N sc W Wx k X) {i : Nat} {x : Str} {p pos : Pos} {v : Expr} {e : E} (h : okStore N sc i x = true) (hc : chk Γ N sc e v = true) (hv : (notComp v || isListComp v && (!(swB sc x p.line v) || decide (sc.names.lookup x = some .local))) = true) :
    PS X (.Assign [.Name x p] v pos) (tAsg (tEvL W Wx (ev Γ e).l) (gName i)) := by
  rcases (Bool.or_eq_true _ _).mp hv with q | q
  · exact storeN hX h (snd e v sc Wx X hc hX.toXOk).pl (swaps_of q)
  · rw [Bool.and_eq_true] at q
    cases z : swB sc x p.line v with
    | false => exact storeN hX h (snd e v sc Wx X hc hX.toXOk).pl (swB_of hX q.1 z)
    | true =>
      rw [z] at q
      have h' := h
      unfold okStore at h'
      rw [Bool.and_eq_true] at h'
      exact comp_lc hX q.1 hc (of_decide_eq_true h'.1) (by simpa using q.2) z
theorem asgE (hX : XSt Γ N sc W Wx k X) {i : Nat} {x : Str} {p pos : Pos} {v : Expr} {e : E} (h : okStore N sc i x = true) (hc : chk Γ N sc e v = true) (hv : (notComp v || isListComp v && (!(swB sc x p.line v) || decide (sc.names.lookup x = some .local))) = true) :
    PS X (.Assign [.Name x p] v pos) (tAsg (tEv W Wx (ev Γ e).e) (gName i)) := by
  rcases (Bool.or_eq_true _ _).mp hv with q | q
  · exact storeN hX h (snd e v sc Wx X hc hX.toXOk).pe (swaps_of q)
  · have hL := asgL hX (pos := pos) h hc hv
    rw [Bool.and_eq_true] at q
    cases e <;> first
      | (unfold chk at hc; cases v <;> first | (cases q.1; done) | (cases hc; done) | (have := q.1; cases this))
      | skip
    exact PS.asgImp hL fun σ H Q h => new_of h
mutual
theorem sndC : ∀ (c : C) (s : Stmt), chkC Γ N sc c s = true → XSt Γ N sc W Wx k X → PS X s (tSt W Wx (run Γ c))
  | .pass, s, h, hX => by
    unfold chkC at h
    split at h
    · exact es_pass
    · cases h
  | .doc, s, h, hX => by
    unfold chkC at h
    split at h
    · exact es_doc
    · cases h
  | .nev, s, h, hX => es_never
  | .brk, s, h, hX => by
    unfold chkC at h
    split at h
    · exact es_break
    · cases h
  | .cnt, s, h, hX => by
    unfold chkC at h
    split at h
    · exact es_cont
    · cases h
  | .retN, s, h, hX => by
    unfold chkC at h
    split at h
    · exact es_retN
    · cases h
  | .set i e, s, h, hX => by
    unfold chkC at h
    split at h
    · simp only [Bool.and_eq_true] at h
      exact es_set (asgE hX h.1.1 h.1.2 h.2)
    · cases h
  | .own i e, s, h, hX => by
    unfold chkC at h
    split at h
    · simp only [Bool.and_eq_true] at h
      exact es_setOwn (asgL hX h.1.1 h.1.2 h.2)
    · cases h
  | .cell i e, s, h, hX => by
    unfold chkC at h
    split at h
    · simp only [Bool.and_eq_true] at h
      exact es_set (storeN hX h.1.1 (ev_newc (snd e _ sc Wx X h.1.2 hX.toXOk).pl) (swaps_of h.2))
    · cases h
  | .asg p e, s, h, hX => by
    unfold chkC at h
    split at h
    · simp only [Bool.and_eq_true] at h
      obtain ⟨⟨⟨⟨h1, h2⟩, h3⟩, h4⟩, h5⟩ := h
      exact es_asg (ps_asg (snd e _ sc Wx X h2 hX.toXOk).pe (pat_of hX.toXOk p _ h1) (swapsSole_of h3) (swapped_of h4) (by rw [assignEach_of h5]; rfl))
    · cases h
  | .par i j e f, s, h, hX => by
    unfold chkC at h
    split at h
    · simp only [Bool.and_eq_true, decide_eq_true_eq] at h
      obtain ⟨⟨⟨⟨⟨⟨⟨⟨⟨h1, h2⟩, h3⟩, h4⟩, h5⟩, h6⟩, h7⟩, h8⟩, h9⟩, h10⟩ := h
      exact es_par hX.calm (by rw [hX.hN]; exact hX.nd) (by rw [hX.hN]; exact h1) (by rw [hX.hN]; exact h2) h3 (by rw [hX.hsc]; exact h4) (by rw [hX.hsc]; exact h5) (snd e _ sc Wx X h6 hX.toXOk).pe (snd f _ sc Wx X h7 hX.toXOk).pe h8 h9 (swapped_par hX h10 h4 h5 h8 h9)
    · cases h
  | .ret e, s, h, hX => by
    unfold chkC at h
    split at h
    · exact es_ret (snd e _ sc Wx X h hX.toXOk).pe
    · cases h
  | .retC e, s, h, hX => by
    unfold chkC at h
    split at h
    · exact es_ret (ev_newc (snd e _ sc Wx X h hX.toXOk).pl)
    · cases h
  | .expr e, s, h, hX => by
    unfold chkC at h
    split at h
    · simp only [Bool.and_eq_true] at h
      exact es_expr (snd e _ sc Wx X h.1 hX.toXOk).pe (swaps_of h.2)
    · cases h
  | .iff c a b, s, h, hX => by
    unfold chkC at h
    split at h
    · simp only [Bool.and_eq_true] at h
      exact es_if (snd c _ sc Wx X h.1.1 hX.toXOk).pt (sndCs a _ h.1.2 hX) (sndCs b _ h.2 hX)
    · cases h
  | .forr p r b, s, h, hX => by
    unfold chkC at h
    split at h
    · simp only [Bool.and_eq_true] at h
      obtain ⟨⟨⟨⟨h1, h2⟩, h3⟩, h4⟩, h5⟩ := h
      exact es_for hX.po hX.calm (sndrS r _ _ sc Wx X h2 h5 hX.toXOk) (pat_of hX.toXOk p _ h1) (sndCs b _ h3 hX) (folded_of h4)
    · cases h
  | .setC o i e, s, h, hX => by
    unfold chkC at h
    split at h
    · simp only [Bool.and_eq_true] at h
      obtain ⟨⟨⟨⟨h1, h2⟩, h3⟩, h4⟩, h5⟩ := h
      exact es_setC (snd e _ sc Wx X h3 hX.toXOk).pe (snd o _ sc Wx X h1 hX.toXOk).pb (snd i _ sc Wx X h2 hX.toXOk).pb h4 h5
    · cases h
  | .setI n i e, s, h, hX => by
    unfold chkC at h
    split at h
    · simp only [Bool.and_eq_true] at h
      obtain ⟨⟨⟨⟨h1, h2⟩, h3⟩, h4⟩, h5⟩ := h
      exact es_setI (snd e _ sc Wx X h3 hX.toXOk).pe (var_of hX.toXOk h1) (snd i _ sc Wx X h2 hX.toXOk).pb h4 h5
    · cases h
  | .app n e, s, h, hX => by
    unfold chkC at h
    split at h
    · simp only [Bool.and_eq_true, decide_eq_true_eq] at h
      obtain ⟨⟨⟨⟨rfl, h2⟩, h3⟩, h4⟩, h5⟩ := h
      exact es_app (snd e _ sc Wx X h3 hX.toXOk).pe (var_of hX.toXOk h2) h4 h5
    · cases h
  | .ext n e, s, h, hX => by
    unfold chkC at h
    split at h
    · simp only [Bool.and_eq_true, decide_eq_true_eq] at h
      obtain ⟨⟨⟨⟨rfl, h2⟩, h3⟩, h4⟩, h5⟩ := h
      exact es_ext (snd e _ sc Wx X h3 hX.toXOk).pe (var_of hX.toXOk h2) h4 h5
    · cases h
theorem sndCs : ∀ (c : Cs) (s : List Stmt), chkCs Γ N sc c s = true → XSt Γ N sc W Wx k X → PSs X s (tSt W Wx (runs Γ c))
  | .nil, s, h, hX => by
    unfold chkCs at h
    cases s with
    | nil => exact es_nil
    | cons a r => cases h
  | .cons c r, s, h, hX => by
    unfold chkCs at h
    cases s with
    | nil => cases h
    | cons a t =>
      simp only [Bool.and_eq_true] at h
      exact es_cons (sndC c a h.1 hX) (sndCs r t h.2 hX)
  | .ghost i r, s, h, hX => by
    unfold chkCs at h
    exact es_freeze (sndCs r s h hX)
end
end
end EG
namespace EG
open PySem L2

/-! defs -/
def env0 (n : Nat) (ds : List D) : Env := ds.map Slot.v ++ List.replicate (n - ds.length) Slot.no
def endF : Option (SO × Mu) → Option (Out D × Mu)
  | some (.nx _, μ) => some (.ok .non, μ)
  | some (.rt d, μ) => some (.ok d, μ)
  | some (.exc c fs _, μ) => some (.exc c fs, μ)
  | _ => none
def runF (n : Nat) (F : SM) : Fn := fun ds μ => endF (F (env0 n ds) μ)
/-- what the module holds of a text's names -/
structure MOk (Γ : Gam) (W : Wd) (P : Program) (w : World) (mg : Str → Option Value) (base : Heap) (k : Nat) : Prop where
  fns : ∀ (i : Nat) g, Γ.fns[i]? = some g → (∃ f fd ps dvs dus, FnOk P w W.K mg base (L2.CX P w) g.lvl f fd ps (spF W g.n g.F) ∧ mg g.name = some (.ref f) ∧ PySem.W.keepIn W.K (.ref f) = true ∧ Binds W.K fd ps dus ∧ Vals dvs dus ∧ ∀ S H, RepVs W S H dvs g.dds) ∧ g.lvl ≤ k
  consts : ∀ (i : Nat) c, Γ.consts[i]? = some c → ∃ v u, mg c.name = some u ∧ RelV v u ∧ ∀ S H, RepV W S H v c.d
  clss : ∀ x c, (x, c) ∈ Γ.clss → mg x = some (.ref (W.ca c))
  frees : ∀ x, x ∈ Γ.frees → mg x = none
  isi : IsiOk W Γ.isi
section
variable {Γ : Gam} {W : Wd} {P : Program} {w : World} {mg : Str → Option Value} {base : Heap} {k : Nat}
theorem envOk_start {S : Ws} {H : Hp} {N : List Str} {vs : List V} {ds : List D} (r : RepVs W S H vs ds) : EnvOk W S H (L2.start N vs) (env0 N.length ds) where
  len := by
    unfold env0 L2.start
    simp only [List.length_append, List.length_map, List.length_replicate, r.length]
  at_ := fun i sl e => by
    unfold env0 at e
    unfold L2.start
    by_cases hi : i < ds.length
    · rw [List.getElem?_append_left (by simpa using hi), List.getElem?_map] at e
      cases z : ds[i]? with
      | none => rw [z] at e; cases e
      | some d =>
        rw [z] at e
        cases e
        obtain ⟨v, e1, e2⟩ := r.get z
        rw [List.getElem?_append_left (by rw [List.length_map, r.length]; exact hi), List.getElem?_map, e1]
        exact ⟨v, rfl, e2⟩
    · rw [List.getElem?_append_right (by simpa using Nat.le_of_not_lt hi), List.getElem?_replicate] at e
      split at e
      · cases e; trivial
      · cases e
theorem FunD.okE {x qual : Str} {params : Arguments} {body : List Stmt} {scope : Scope} {dvs : List V} {kws : List (Str × V)} {f : Addr} {fd : FuncData} {N ps : List Str} {cs : Cs}
    (F : FunD W.K x qual params body scope dvs kws f fd) (Sc : FnScope N ps scope) (hM : MOk Γ W P w mg base k) (hc : chkCs Γ N scope cs body = true) :
    FnOk P w W.K mg base (L2.CX P w) (k + 1) f fd ps (spF W ps.length (runF N.length (runs Γ cs))) := by
  refine F.ok Sc (fun vs H Q E h => h.1) fun cdv A outer s H vs Q E hr ⟨hl, S, μ, ds, res, hS, rv, hf, hk⟩ => ?_
  have hX : XSt Γ N scope W (fun c d σ H' => E c d H') k (cxOf (L2.CX P w) P w W.K mg base N qual scope f cdv A outer s H E) := {
    hN := rfl
    nd := Sc.nd
    hlk := Scopes.refl
    hK := rfl
    calm := rfl
    tk := takes_of rfl rfl rfl rfl
    room := hr
    fn := fun _ _ => rfl
    fns := fun i g e => ⟨⟨(hM.fns i g e).1⟩, (hM.fns i g e).2⟩
    consts := fun i c e => ⟨hM.consts i c e⟩
    clss := hM.clss
    frees := hM.frees
    isi := hM.isi
    hsc := rfl
    hkind := Sc.kind
    po := passes_of rfl }
  refine ⟨_, sndCs cs body hc hX, ?_⟩
  unfold runF at hf
  cases hr' : runs Γ cs (env0 N.length ds) μ with
  | none => rw [hr'] at hf; cases hf
  | some r =>
    rw [hr'] at hf
    refine ⟨hand S, μ, env0 N.length ds, r, hS.hand, envOk_start (rv.later (lt_hand (k := fun _ => False) fun _ h => h.elim)), hr', ?_⟩
    obtain ⟨o, μ'⟩ := r
    cases o with
    | nx e =>
      cases hf
      exact fun S' H' σ' l g _ => hk (back S S') H' .non (back_lt hS l) (back_sg hS l g) .non
    | rt d =>
      cases hf
      exact fun S' H' v l g r => hk (back S S') H' v (back_lt hS l) (back_sg hS l g) (r.mono (back_mono hS l).1 (back_mono hS l).2)
    | br e => cases hf
    | ct e => cases hf
    | exc c fs e =>
      cases hf
      exact fun S' H' σ' dd vs l g _ h1 h2 h3 => hk (back S S') H' dd vs (back_lt hS l) (back_sg hS l g) h1 ((back_mono hS l).1 dd _ h2 h1).1 (h3.mono (back_mono hS l).1 (back_mono hS l).2)
theorem FnOk.stuck {f : Addr} {fd : FuncData} {ps : List Str} {n : Nat} : FnOk P w W.K mg base (L2.CX P w) k f fd ps (spF W n fun _ _ => none) :=
  ⟨(fun vs H Q E ⟨_, S, μ, ds, res, _, _, hf, _⟩ => nomatch hf), (fun A outer s H args us vs Q E _ _ _ _ ⟨_, S, μ, ds, res, _, _, hf, _⟩ => nomatch hf)⟩
/-- the names that the module holds -/
theorem mok_nil {consts : List GC} {clss : List (Str × Nat)} {frees : List Str} {isi : Isi} (h1 : ∀ (i : Nat) c, consts[i]? = some c → ∃ v u, mg c.name = some u ∧ RelV v u ∧ ∀ S H, RepV W S H v c.d) (h2 : ∀ x c, (x, c) ∈ clss → mg x = some (.ref (W.ca c))) (h3 : ∀ x, x ∈ frees → mg x = none) (h4 : IsiOk W isi) : MOk ⟨[], consts, clss, frees, isi⟩ W P w mg base k :=
  ⟨(fun i g e => nomatch e), h1, h2, h3, h4⟩
def FKeep (W : Wd) (P : Program) (w : World) (mg : Str → Option Value) (base : Heap) (g : GFn) : Prop := ∃ f fd ps dvs dus, FnOk P w W.K mg base (L2.CX P w) g.lvl f fd ps (spF W g.n g.F) ∧ mg g.name = some (.ref f) ∧ PySem.W.keepIn W.K (.ref f) = true ∧ Binds W.K fd ps dus ∧ Vals dvs dus ∧ ∀ S H, RepVs W S H dvs g.dds
theorem mok_of {fns : List GFn} {consts : List GC} {clss : List (Str × Nat)} {frees : List Str} {isi : Isi} (h : MOk ⟨[], consts, clss, frees, isi⟩ W P w mg base 0) (hf : ∀ g ∈ fns, FKeep W P w mg base g) (hl : (fns.all fun g => g.lvl ≤ k) = true) : MOk ⟨fns, consts, clss, frees, isi⟩ W P w mg base k :=
  ⟨fun i g e => ⟨hf g (List.mem_of_getElem? e), by simpa using List.all_eq_true.mp hl g (List.mem_of_getElem? e)⟩, h.consts, h.clss, h.frees, h.isi⟩
theorem FnOk.keepE {x qual : Str} {params : Arguments} {body : List Stmt} {scope : Scope} {f : Addr} {fd : FuncData} {ps : List Str} {F : Fn} {n : Nat} (Fd : FunD W.K x qual params body scope [] [] f fd) (h : FnOk P w W.K mg base (L2.CX P w) k f fd ps (spF W n F)) (hm : mg x = some (.ref f))
    (hb : ∀ (kV doc pm : Value) (an : Option Addr) (cdv ct : Value) (us : List Value), us.length = ps.length → bindArgs (PySem.W.fnOf x qual params body scope .none kV doc pm an cdv ct) ⟨us, []⟩ = pure (ps.zip us)) : FKeep W P w mg base ⟨x, n, F, k, []⟩ :=
  ⟨f, fd, ps, [], [], h, hm, Fd.kp, Fd.bindsN hb, .nil, fun _ _ => .nil⟩
end
/-! the end of a law -/
theorem FnOk.calmE {W : Wd} {P : Program} {w : World} {mg : Str → Option Value} {base : Heap} {k : Nat} {f : Addr} {fd : FuncData} {ps : List Str} {sp : Sp} (F : FnOk P w W.K mg base (L2.CX P w) k f fd ps sp) : FnOk P w W.K mg base CX0 k f fd ps (fun vs H Q _ => sp vs H Q fun _ _ _ => False) :=
  ⟨fun vs H Q _ h => F.len vs H Q _ h, fun A outer s H args us vs Q E h1 h2 h3 h4 h5 => codeAny_mono (F.run A outer s H args us vs Q _ h1 h2 h3 h4 h5) fun r s' z => by
    cases r with
    | ok r => cases r <;> exact z
    | error e =>
      obtain ⟨_, _, _, _, _, _, _, _, _, _, _, _, z⟩ := z
      exact z.elim⟩
def lawW (K : PySem.W.Frag) (cls : List Str) : Wd := ⟨K, fun n => match cls[n]? with
  | some x => He.ga K x
  | none => 0⟩
theorem law_sp {W : Wd} {F : Fn} (hF : ∀ ns : List Int, ns.length ≤ 63 → ∃ μ, F [.scr ns] [] = some (.ok (.bl true), μ)) (H : Hp) (a : Addr) (ns : List Int) (hl : ns.length ≤ 63) (hS : SqL W.K H a (ns.map V.int)) :
    spF W 1 F [.ref a] H (fun v _ => v = .bl true) fun _ _ _ => False := by
  obtain ⟨μ, e⟩ := hF ns hl
  refine ⟨rfl, ⟨[], fun _ => none⟩, [], [.scr ns], _, ⟨(fun a w e => nomatch e), rfl, (fun n c e => nomatch e)⟩, .cons ?_ .nil, e, fun S' H' v l g r => by cases r; rfl⟩
  have hb : ns.length ≤ big := Nat.le_trans hl (by decide)
  rcases hS with (hS | ⟨o, hS⟩) | hS
  · exact .scr hS rfl (.inl rfl) hb
  · exact .scr hS rfl (.inr ⟨o, rfl⟩) hb
  · exact .scrK (.inr hS) hb
end EG
namespace EG
open PySem L2

/-! what a run must do: weakest wishes -/
abbrev PX := Nat → List (Str × D) → Mu → Prop
/-- the simplifier does not walk into what another argument's type names -/
structure Tk {α : Sort u} (a : α) : Type where
theorem eqp {α : Sort u} {a b : α} (h : a = b) : a = b := h
def Wp {α : Type} (m : EM α) (μ : Mu) (Q : α → Mu → Prop) (E : PX) (_u : Tk (Q, E) := ⟨⟩) : Prop := match m μ with
  | some (.ok a, μ') => Q a μ'
  | some (.exc c fs, μ') => E c fs μ'
  | none => False
def Wr (F : SM) (env : Env) (μ : Mu) (K : SO → Mu → Prop) (_u : Tk K := ⟨⟩) : Prop := match F env μ with
  | some (o, μ') => K o μ'
  | none => False
def Wf (F : Fn) (ds : List D) (μ : Mu) (Q : D → Mu → Prop) (E : PX) (_u : Tk (F, Q, E) := ⟨⟩) : Prop := Wp (F ds) μ Q E
def Br (b : Bool) (p q : Prop) (_u : Tk (p ∧ q) := ⟨⟩) : Prop := match b with
  | true => p
  | false => q
def Op {α : Type} (o : Option α) (p : α → Prop) (_u : Tk p := ⟨⟩) : Prop := ∃ a, o = some a ∧ p a
section
variable {α β : Type} {μ : Mu} {Q : α → Mu → Prop} {E : PX} {env : Env} {K : SO → Mu → Prop} {P : D → Mu → Prop}
theorem wp_ext {m : EM α} {Q' : α → Mu → Prop} (h : ∀ a μ', Q a μ' = Q' a μ') : Wp m μ Q E = Wp m μ Q' E := by
  have : Q = Q' := funext fun a => funext fun μ' => h a μ'
  subst this; rfl
theorem op_ext {o : Option α} {p p' : α → Prop} (h : ∀ a, p a = p' a) : Op o p = Op o p' := by
  have : p = p' := funext h
  subst this; rfl
theorem br_true {p q : Prop} : Br true p q = p := eqp rfl
theorem br_false {p q : Prop} : Br false p q = q := eqp rfl
theorem br_cases {b : Bool} {p q : Prop} (h1 : b = true → p) (h2 : b = false → q) : Br b p q := by
  cases b with
  | true => exact h1 rfl
  | false => exact h2 rfl
theorem op_some {a : α} {p : α → Prop} : Op (some a) p = p a := propext ⟨fun ⟨_, e, h⟩ => by cases e; exact h, fun h => ⟨a, rfl, h⟩⟩
theorem wp_bind {m : EM α} {f : α → EM β} {Q : β → Mu → Prop} : Wp (bindE m f) μ Q E = Wp m μ (fun a μ' => Wp (f a) μ' Q E) E := by
  unfold Wp bindE
  cases m μ with
  | none => rfl
  | some r => obtain ⟨o, μ'⟩ := r; cases o <;> rfl
theorem wp_pure {a : α} : Wp (pureE a) μ Q E = Q a μ := eqp rfl
theorem wp_fail : Wp (failE : EM α) μ Q E = False := eqp rfl
theorem wp_opt {o : Option α} : Wp (optE o) μ Q E = Op o fun a => Q a μ := by
  unfold Wp optE
  cases o with
  | none => exact propext ⟨fun h => False.elim h, fun ⟨_, h, _⟩ => (nomatch h)⟩
  | some a => rw [op_some]
theorem wp_guard {b : Bool} {m : EM α} : Wp (guardE b m) μ Q E = (b = true ∧ Wp m μ Q E) := by
  cases b <;> simp [Wp, guardE]
theorem wp_noX {m : EM α} : Wp (noX m) μ Q E = Wp m μ Q fun _ _ _ => False := by
  unfold Wp noX
  cases m μ with
  | none => rfl
  | some r => obtain ⟨o, μ'⟩ := r; cases o <;> rfl
theorem wp_v {i : Nat} {Q : D → Mu → Prop} : Wp (fV i env) μ Q E = Op (valS env[i]?) fun d => Q d μ := wp_opt
theorem wp_vB {i : Nat} {Q : D → Mu → Prop} : Wp (fVB i env) μ Q E = Op (valB env[i]?) fun d => Q d μ := wp_opt
theorem wp_c {d : D} {Q : D → Mu → Prop} : Wp (fC d env) μ Q E = Q d μ := eqp rfl
theorem wp_op2 {op : D → D → EM D} {f g : Env → EM D} {Q : D → Mu → Prop} : Wp (fOp2 op f g env) μ Q E = Wp (f env) μ (fun d μ1 => Wp (g env) μ1 (fun e μ2 => Wp (op d e) μ2 Q E) E) E := by
  unfold fOp2; rw [wp_bind]; refine wp_ext fun d μ1 => ?_; rw [wp_bind]
theorem wp_op2L {op : D → D → EM (List D)} {f g : Env → EM D} {Q : List D → Mu → Prop} : Wp (fOp2L op f g env) μ Q E = Wp (f env) μ (fun d μ1 => Wp (g env) μ1 (fun e μ2 => Wp (op d e) μ2 Q E) E) E := by
  unfold fOp2L; rw [wp_bind]; refine wp_ext fun d μ1 => ?_; rw [wp_bind]
theorem wp_t {f : Env → EM D} {Q : Bool → Mu → Prop} : Wp (fT f env) μ Q E = Wp (f env) μ (fun d μ1 => Op (asB d) fun b => Q b μ1) E := by
  unfold fT; rw [wp_bind]; refine wp_ext fun d μ1 => ?_; rw [wp_opt]
theorem wp_tru {f : Env → EM D} {Q : Bool → Mu → Prop} : Wp (fTru f env) μ Q E = Wp (f env) μ (fun d μ1 => Op (truD d) fun b => Q b μ1) E := by
  unfold fTru; rw [wp_bind]; refine wp_ext fun d μ1 => ?_; rw [wp_opt]
theorem wp_chain {op op' : D → D → EM D} {f g k : Env → EM D} {Q : D → Mu → Prop} : Wp (fChain op op' f g k env) μ Q E = Wp (f env) μ (fun d μ1 => Wp (g env) μ1 (fun e μ2 => Wp (op d e) μ2 (fun z μ3 => Op (asB z) fun b => Br b (Wp (k env) μ3 (fun z' μ4 => Wp (op' e z') μ4 Q E) E) (Q (.bl false) μ3)) E) E) E := by
  unfold fChain; rw [wp_bind]; refine wp_ext fun d μ1 => ?_; rw [wp_bind]; refine wp_ext fun e μ2 => ?_; rw [wp_bind]; refine wp_ext fun z μ3 => ?_
  cases asB z with
  | none => exact propext ⟨fun h => False.elim h, fun ⟨_, h, _⟩ => (nomatch h)⟩
  | some b => rw [op_some]; cases b <;> simp only [br_true, br_false, wp_bind, wp_pure]
theorem wp_ite {b : Bool} {f g : EM α} : Wp (match b with | true => f | false => g) μ Q E = Br b (Wp f μ Q E) (Wp g μ Q E) := by cases b <;> rfl
theorem wp_andT {f g : Env → EM Bool} {Q : Bool → Mu → Prop} : Wp (fAndT f g env) μ Q E = Wp (f env) μ (fun b μ1 => Br b (Wp (g env) μ1 Q E) (Q false μ1)) E := by
  unfold fAndT; rw [wp_bind]; refine wp_ext fun b μ1 => ?_; cases b <;> rfl
theorem wp_orT {f g : Env → EM Bool} {Q : Bool → Mu → Prop} : Wp (fOrT f g env) μ Q E = Wp (f env) μ (fun b μ1 => Br b (Q true μ1) (Wp (g env) μ1 Q E)) E := by
  unfold fOrT; rw [wp_bind]; refine wp_ext fun b μ1 => ?_; cases b <;> rfl
theorem wp_notT {f : Env → EM Bool} {Q : Bool → Mu → Prop} : Wp (fNotT f env) μ Q E = Wp (f env) μ (fun b μ1 => Q (!b) μ1) E := by
  unfold fNotT; rw [wp_bind]; rfl
theorem wp_andV {f g : Env → EM D} {Q : D → Mu → Prop} : Wp (fAndV f g env) μ Q E = Wp (f env) μ (fun d μ1 => Op (asB d) fun b => Br b (Wp (g env) μ1 Q E) (Q (.bl false) μ1)) E := by
  unfold fAndV; rw [wp_bind]; refine wp_ext fun b μ1 => ?_
  cases asB b with
  | none => exact propext ⟨fun h => False.elim h, fun ⟨_, h, _⟩ => (nomatch h)⟩
  | some b => rw [op_some]; cases b <;> rfl
theorem wp_orV {f g : Env → EM D} {Q : D → Mu → Prop} : Wp (fOrV f g env) μ Q E = Wp (f env) μ (fun d μ1 => Op (asB d) fun b => Br b (Q (.bl true) μ1) (Wp (g env) μ1 Q E)) E := by
  unfold fOrV; rw [wp_bind]; refine wp_ext fun b μ1 => ?_
  cases asB b with
  | none => exact propext ⟨fun h => False.elim h, fun ⟨_, h, _⟩ => (nomatch h)⟩
  | some b => rw [op_some]; cases b <;> rfl
theorem wp_notV {f : Env → EM D} {Q : D → Mu → Prop} : Wp (fNotV f env) μ Q E = Wp (f env) μ (fun d μ1 => Op (asB d) fun b => Q (.bl (!b)) μ1) E := by
  unfold fNotV; rw [wp_bind]; refine wp_ext fun b μ1 => ?_
  cases asB b with
  | none => exact propext ⟨fun h => False.elim h, fun ⟨_, h, _⟩ => (nomatch h)⟩
  | some b => rw [op_some]; rfl
theorem wp_if {c : Env → EM Bool} {f g : Env → EM D} {Q : D → Mu → Prop} : Wp (fIf c f g env) μ Q E = Wp (c env) μ (fun b μ1 => Br b (Wp (f env) μ1 Q E) (Wp (g env) μ1 Q E)) E := by
  unfold fIf; rw [wp_bind]; refine wp_ext fun b μ1 => ?_; cases b <;> rfl
theorem wp_nil {Q : List D → Mu → Prop} : Wp (fNil env) μ Q E = Q [] μ := eqp rfl
theorem wp_cons {f : Env → EM D} {g : Env → EM (List D)} {Q : List D → Mu → Prop} : Wp (fCons f g env) μ Q E = Wp (f env) μ (fun d μ1 => Wp (g env) μ1 (fun ds μ2 => Q (d :: ds) μ2) E) E := by
  unfold fCons; rw [wp_bind]; refine wp_ext fun d μ1 => ?_; rw [wp_bind]; rfl
theorem wp_tup {g : Env → EM (List D)} {Q : D → Mu → Prop} : Wp (fTup g env) μ Q E = Wp (g env) μ (fun ds μ1 => ds.length ≤ big ∧ Q (.tup ds) μ1) E := by
  unfold fTup; rw [wp_bind]; refine wp_ext fun d μ1 => ?_; rw [wp_guard, decide_eq_true_eq]; rfl
theorem wp_lst {g : Env → EM (List D)} {Q : List D → Mu → Prop} : Wp (fLst g env) μ Q E = Wp (g env) μ (fun ds μ1 => ds.length ≤ big ∧ Q ds μ1) E := by
  unfold fLst; rw [wp_bind]; refine wp_ext fun d μ1 => ?_; rw [wp_guard, decide_eq_true_eq]; rfl
theorem wp_D {g : Env → EM (List D)} {Q : D → Mu → Prop} : Wp (fD g env) μ Q E = Wp (g env) μ (fun ds μ1 => Q (.lst ds) μ1) E := by
  unfold fD; rw [wp_bind]; rfl
theorem wp_cb {op : List D → EM α} {g : Env → EM (List D)} : Wp (fCB op g env) μ Q E = Wp (g env) μ (fun ds μ1 => Wp (op ds) μ1 Q E) E := wp_bind
theorem wp_call {n : Nat} {F : Fn} {dds : List D} {g : Env → EM (List D)} {Q : D → Mu → Prop} : Wp (fCall n F dds g env) μ Q E = Wp (g env) μ (fun ds μ1 => (ds ++ dds).length = n ∧ Wf F (ds ++ dds) μ1 Q E) E := by
  unfold fCall; rw [wp_bind]; refine wp_ext fun d μ1 => ?_; rw [wp_guard, decide_eq_true_eq, List.length_append]; rfl
theorem wp_isi {T : Isi} {cs : List Tag} {f : Env → EM D} {Q : D → Mu → Prop} : Wp (fIsi T cs f env) μ Q E = Wp (f env) μ (fun d μ1 => Op (tagD d μ1) fun t => Op (isiAny T t cs) fun b => Q (.bl b) μ1) E := by
  unfold fIsi; rw [wp_bind]; refine wp_ext fun d μ1 => ?_
  unfold isiE Wp
  cases h1 : tagD d μ1 with
  | none => simp only [h1]; exact propext ⟨fun h => False.elim h, fun ⟨_, h, _⟩ => (nomatch h)⟩
  | some t =>
    rw [op_some]
    cases h : isiAny T t cs with
    | none => simp only [h1, h]; exact propext ⟨fun h => False.elim h, fun ⟨_, h, _⟩ => (nomatch h)⟩
    | some b => rw [op_some]; simp only [h1, h]
theorem wp_neg {f : Env → EM D} {Q : D → Mu → Prop} : Wp (fNeg f env) μ Q E = Wp (f env) μ (fun d μ1 => Wp (negD d) μ1 Q E) E := wp_bind
theorem wp_sl {op : Option Int → Option Int → D → EM α} {f : Env → EM D} {l h : Env → EM (Option Int)} : Wp (fSl op f l h env) μ Q E = Wp (f env) μ (fun d μ1 => Wp (l env) μ1 (fun lo μ2 => Wp (h env) μ2 (fun hi μ3 => Wp (op lo hi d) μ3 Q E) E) E) E := by
  unfold fSl; rw [wp_bind]; refine wp_ext fun d μ1 => ?_; rw [wp_bind]; refine wp_ext fun lo μ2 => ?_; rw [wp_bind]
theorem wp_noP {Q : Option Int → Mu → Prop} : Wp (fNoP env) μ Q E = Q none μ := eqp rfl
def asI : D → Option Int
  | .int i => some i
  | _ => none
theorem wp_P {f : Env → EM D} {Q : Option Int → Mu → Prop} : Wp (fP f env) μ Q E = Wp (f env) μ (fun d μ1 => Op (asI d) fun i => Q (some i) μ1) E := by
  unfold fP; rw [wp_bind]; refine wp_ext fun d μ1 => ?_
  cases d <;> first
    | (exact propext ⟨fun h => False.elim h, fun ⟨_, h, _⟩ => (nomatch h)⟩)
    | (show Q _ _ = Op (some _) _; rw [op_some])
theorem wp_yes {Q : Bool → Mu → Prop} : Wp (fYes env) μ Q E = Q true μ := eqp rfl
theorem wp_items {f : Env → EM D} {Q : List D → Mu → Prop} : Wp (fItems f env) μ Q E = Wp (f env) μ (fun d μ1 => Op (itemsD d) fun ds => Q ds μ1) E := by
  unfold fItems; rw [wp_bind]; refine wp_ext fun d μ1 => ?_; rw [wp_opt]
def asS : D → Option Str
  | .str i => some i
  | _ => none
theorem wp_signs {f : Env → EM D} {Q : List D → Mu → Prop} : Wp (fSigns f env) μ Q E = Wp (f env) μ (fun d μ1 => Op (asS d) fun s => Q (signs s) μ1) E := by
  unfold fSigns; rw [wp_bind]; refine wp_ext fun d μ1 => ?_
  cases d <;> first
    | (exact propext ⟨fun h => False.elim h, fun ⟨_, h, _⟩ => (nomatch h)⟩)
    | (show Q _ _ = Op (some _) _; rw [op_some])
theorem wp_comp {vs : List Nat} {p : Pat} {src : Env → EM (List D)} {cond : Env → EM Bool} {elt : Env → EM D} {Q : List D → Mu → Prop} : Wp (fComp vs p src cond elt env) μ Q E = Wp (src env) μ (fun ds μ1 => Wp (compL p cond elt (wipeE env vs) ds) μ1 Q E) E := by
  unfold fComp; rw [wp_bind]
/-- each element alone, the store stays -/
theorem compL_pure {p : Pat} {cond : Env → EM Bool} {elt : Env → EM D} (c : D → Bool) (g : D → D) : ∀ (ds : List D), (∀ d ∈ ds, ∃ env1, bindP p d env = some env1 ∧ Wp (cond env1) μ (fun b μ' => b = c d ∧ μ' = μ) (fun _ _ _ => False) ∧ (c d = true → Wp (elt env1) μ (fun x μ' => x = g d ∧ μ' = μ) (fun _ _ _ => False))) →
    compL p cond elt env ds μ = some (.ok ((ds.filter c).map g), μ)
  | [], h => rfl
  | d :: r, h => by
    obtain ⟨env1, e1, h1, h2⟩ := h d (List.mem_cons_self ..)
    have ih := compL_pure c g r fun x hx => h x (List.mem_cons_of_mem _ hx)
    unfold compL
    rw [e1]
    simp only
    unfold Wp at h1 h2
    cases q : cond env1 μ with
    | none => rw [q] at h1; exact h1.elim
    | some o =>
      obtain ⟨o, μ'⟩ := o
      rw [q] at h1
      cases o with
      | exc c fs => exact h1.elim
      | ok b =>
        obtain ⟨rfl, rfl⟩ := h1
        cases hc : c d with
        | false =>
          simp only [bindE, noX, q, hc, List.filter_cons, Bool.false_eq_true, if_false]
          exact ih
        | true =>
          have h2 := h2 hc
          cases q2 : elt env1 μ' with
          | none => rw [q2] at h2; exact h2.elim
          | some o =>
            obtain ⟨o, μ''⟩ := o
            rw [q2] at h2
            cases o with
            | exc c fs => exact h2.elim
            | ok x =>
              obtain ⟨rfl, rfl⟩ := h2
              simp only [bindE, noX, q, q2, hc, List.filter_cons, if_true, ih, pureE, List.map_cons]
theorem wp_of_eq {m : EM α} {a : α} {μ' : Mu} (e : m μ = some (.ok a, μ')) (h : Q a μ') : Wp m μ Q E := by unfold Wp; rw [e]; exact h
theorem eq_of_wp {m : EM α} {a : α} {μ' : Mu} (h : Wp m μ (fun x μ1 => x = a ∧ μ1 = μ') (fun _ _ _ => False)) : m μ = some (.ok a, μ') := by
  unfold Wp at h
  cases q : m μ with
  | none => rw [q] at h; exact h.elim
  | some o =>
    obtain ⟨o, μ1⟩ := o
    rw [q] at h
    cases o with
    | exc c fs => exact h.elim
    | ok x => obtain ⟨rfl, rfl⟩ := h; rfl
theorem Wp.imp {m : EM α} {Q' : α → Mu → Prop} (h : Wp m μ Q E) (hi : ∀ a μ', Q a μ' → Q' a μ') : Wp m μ Q' E := by
  unfold Wp at h ⊢
  cases q : m μ with
  | none => rw [q] at h; exact h.elim
  | some o =>
    obtain ⟨o, μ1⟩ := o
    rw [q] at h
    cases o with
    | exc c fs => exact h
    | ok x => exact hi _ _ h

/-! commands -/
def thn (G : SM) (K : SO → Mu → Prop) : SO → Mu → Prop
  | .nx env', μ' => Wr G env' μ' K
  | o, μ' => K o μ'
theorem ws_seq {F G : SM} : Wr (fSeq F G) env μ K = Wr F env μ (thn G K) := by
  unfold Wr fSeq
  cases F env μ with
  | none => rfl
  | some r => obtain ⟨o, μ'⟩ := r; cases o <;> rfl
theorem thn_nx {G : SM} {e : Env} : thn G K (.nx e) μ = Wr G e μ K := eqp rfl
theorem thn_rt {G : SM} {d : D} : thn G K (.rt d) μ = K (.rt d) μ := eqp rfl
theorem thn_br {G : SM} {e : Env} : thn G K (.br e) μ = K (.br e) μ := eqp rfl
theorem thn_ct {G : SM} {e : Env} : thn G K (.ct e) μ = K (.ct e) μ := eqp rfl
theorem thn_exc {G : SM} {e : Env} {c : Nat} {fs : List (Str × D)} : thn G K (.exc c fs e) μ = K (.exc c fs e) μ := eqp rfl
def exS (env : Env) (K : SO → Mu → Prop) : PX := fun c fs μ' => K (.exc c fs env) μ'
theorem ws_lift {f : Env → EM α} {k : α → SM} : Wr (liftE f k) env μ K = Wp (f env) μ (fun a μ1 => Wr (k a) env μ1 K) (exS env K) := by
  unfold Wr liftE Wp
  cases f env μ with
  | none => rfl
  | some r => obtain ⟨o, μ'⟩ := r; cases o <;> rfl
theorem ws_skip : Wr fSkip env μ K = K (.nx env) μ := eqp rfl
theorem ws_break : Wr fBreak env μ K = K (.br env) μ := eqp rfl
theorem ws_cont : Wr fCont env μ K = K (.ct env) μ := eqp rfl
theorem ws_retN : Wr fRetN env μ K = K (.rt .non) μ := eqp rfl
theorem ws_set {i : Nat} {f : Env → EM D} : Wr (fSet i f) env μ K = Wp (f env) μ (fun d μ1 => K (.nx (env.set i (.v d))) μ1) (exS env K) := ws_lift
theorem ws_own {i : Nat} {f : Env → EM (List D)} : Wr (fSetOwn i f) env μ K = Wp (f env) μ (fun xs μ1 => K (.nx (env.set i (.own (.lst xs)))) μ1) (exS env K) := ws_lift
theorem ws_ret {f : Env → EM D} : Wr (fRet f) env μ K = Wp (f env) μ (fun d μ1 => K (.rt d) μ1) (exS env K) := ws_lift
theorem ws_drop {f : Env → EM D} : Wr (fDrop f) env μ K = Wp (f env) μ (fun d μ1 => K (.nx env) μ1) (exS env K) := ws_lift
theorem ws_if {c : Env → EM Bool} {F G : SM} : Wr (fIfS c F G) env μ K = Wp (c env) μ (fun b μ1 => Br b (Wr F env μ1 K) (Wr G env μ1 K)) (exS env K) := by
  unfold fIfS; rw [ws_lift]; refine wp_ext fun b μ1 => ?_; cases b <;> rfl
theorem ws_asg {p : Pat} {f : Env → EM D} : Wr (fAsg p f) env μ K = Wp (f env) μ (fun d μ1 => Op (bindP p d env) fun e => K (.nx e) μ1) (exS env K) := by
  unfold fAsg; rw [ws_lift]; refine wp_ext fun d μ1 => ?_
  unfold Wr
  cases h : bindP p d env with
  | none => simp only [h]; exact propext ⟨fun h => False.elim h, fun ⟨_, h, _⟩ => (nomatch h)⟩
  | some e => rw [op_some]; simp only [h]
theorem ws_par {i j : Nat} {f g : Env → EM D} : Wr (fPar i j f g) env μ K = Wp (f env) μ (fun d μ1 => Wp (g env) μ1 (fun e μ2 => K (.nx ((env.set i (.v d)).set j (.v e))) μ2) (exS env K)) (exS env K) := by
  unfold fPar; rw [ws_lift]; refine wp_ext fun d μ1 => ?_; rw [ws_lift]; rfl
def cellL (x : D) (μ : Mu) : Option (Nat × List D) := match x with
  | .cell n => match μ[n]? with
    | some (.lst xs) => some (n, xs)
    | _ => none
  | _ => none
theorem ws_setC {o i e : Env → EM D} : Wr (fSetC o i e) env μ K = Wp (e env) μ (fun d μ1 => Wp (o env) μ1 (fun x μ2 => Wp (i env) μ2 (fun y μ3 => Op (cellL x μ3) fun p => Op (setAt p.2 y d) fun ys => K (.nx env) (μ3.set p.1 (.lst ys))) (exS env K)) (exS env K)) (exS env K) := by
  unfold fSetC; rw [ws_lift]; refine wp_ext fun d μ1 => ?_; rw [ws_lift]; refine wp_ext fun x μ2 => ?_; rw [ws_lift]; refine wp_ext fun y μ3 => ?_
  unfold Wr cellL
  have no : ∀ {α : Type} {p : α → Prop}, False = Op (none : Option α) p := fun {α p} => propext ⟨fun h => False.elim h, fun ⟨_, h, _⟩ => (nomatch h)⟩
  cases x with
  | cell n =>
    simp only
    cases h : μ3[n]? with
    | none => exact no
    | some c =>
      cases c with
      | lst xs =>
        simp only [op_some]
        cases h : setAt xs y d with
        | none => exact no
        | some ys => simp only [op_some]
      | _ => exact no
  | _ => exact no
theorem wp_newc {g : Env → EM (List D)} {Q : D → Mu → Prop} : Wp (fNewc g env) μ Q E = Wp (g env) μ (fun xs μ1 => Q (.cell μ1.length) (μ1 ++ [.lst xs])) E := by
  unfold fNewc; rw [wp_bind]; rfl
def ownO (sl : Option Slot) : Option (List D) := match sl with
  | some (.own (.lst xs)) => some xs
  | _ => none
theorem ws_ownL {n : Nat} {k : List D → SM} : Wr (ownL n k) env μ K = Op (ownO env[n]?) fun xs => Wr (k xs) env μ K := by
  unfold ownL Wr ownO
  dsimp only
  have no : ∀ {α : Type} {p : α → Prop}, False = Op (none : Option α) p := fun {α p} => propext ⟨fun h => False.elim h, fun ⟨_, h, _⟩ => (nomatch h)⟩
  cases env[n]? with
  | none => exact no
  | some sl =>
    cases sl with
    | own c =>
      cases c with
      | lst xs => rw [op_some]
      | _ => exact no
    | _ => exact no
theorem ws_app {n : Nat} {e : Env → EM D} : Wr (fApp n e) env μ K = Op (ownO env[n]?) fun xs => Wp (e env) μ (fun d μ1 => xs.length < big ∧ K (.nx (env.set n (.own (.lst (xs ++ [d]))))) μ1) (exS env K) := by
  unfold fApp; rw [ws_ownL]; refine op_ext fun xs => ?_; rw [ws_lift]; refine wp_ext fun d μ1 => ?_
  unfold Wr
  by_cases h : xs.length < big <;> simp [h]
theorem ws_ext {n : Nat} {e : Env → EM D} : Wr (fExt n e) env μ K = Op (ownO env[n]?) fun xs => Wp (e env) μ (fun d μ1 => Op (lstD d μ1) fun ys => xs.length + ys.length ≤ big ∧ K (.nx (env.set n (.own (.lst (xs ++ ys))))) μ1) (exS env K) := by
  unfold fExt; rw [ws_ownL]; refine op_ext fun xs => ?_; rw [ws_lift]; refine wp_ext fun d μ1 => ?_
  unfold Wr
  cases h : lstD d μ1 with
  | none => simp only [h]; exact propext ⟨fun h => False.elim h, fun ⟨_, h, _⟩ => (nomatch h)⟩
  | some ys => rw [op_some]; simp only [h]; by_cases h : xs.length + ys.length ≤ big <;> simp [h]
theorem ws_setI {n : Nat} {i e : Env → EM D} : Wr (fSetI n i e) env μ K = Wp (e env) μ (fun d μ1 => Op (ownO env[n]?) fun xs => Wp (i env) μ1 (fun y μ2 => Op (setAt xs y d) fun ys => K (.nx (env.set n (.own (.lst ys)))) μ2) (exS env K)) (exS env K) := by
  unfold fSetI; rw [ws_lift]; refine wp_ext fun d μ1 => ?_; rw [ws_ownL]; refine op_ext fun xs => ?_; rw [ws_lift]; refine wp_ext fun y μ2 => ?_
  unfold Wr
  cases h : setAt xs y d with
  | none => simp only [h]; exact propext ⟨fun h => False.elim h, fun ⟨_, h, _⟩ => (nomatch h)⟩
  | some ys => rw [op_some]
def frzS (env : Env) (i : Nat) : Option Env := match env[i]? with
  | some (.own c) => some (env.set i (.v c.toD))
  | some (.v d) => some (env.set i (.v d))
  | _ => none
theorem ws_frz {i : Nat} : Wr (fFreeze i) env μ K = Op (frzS env i) fun e => K (.nx e) μ := by
  unfold fFreeze Wr frzS
  dsimp only
  cases env[i]? with
  | none => exact propext ⟨fun h => False.elim h, fun ⟨_, h, _⟩ => (nomatch h)⟩
  | some sl =>
    cases sl with
    | no => exact propext ⟨fun h => False.elim h, fun ⟨_, h, _⟩ => (nomatch h)⟩
    | v d => rw [op_some]
    | own c => rw [op_some]
def Wl (p : Pat) (body : SM) (ds : List D) (env : Env) (μ : Mu) (K : SO → Mu → Prop) (_u : Tk (body, K) := ⟨⟩) : Prop := Wr (loopF p body ds) env μ K
theorem ws_for {p : Pat} {src : Env → EM (List D)} {body : SM} : Wr (fFor p src body) env μ K = Wp (src env) μ (fun ds μ1 => Wl p body ds env μ1 K) (exS env K) := ws_lift
/-- one turn's end -/
def turn (p : Pat) (body : SM) (r : List D) (K : SO → Mu → Prop) : SO → Mu → Prop
  | .nx e, μ => Wl p body r e μ K
  | .ct e, μ => Wl p body r e μ K
  | .br e, μ => K (.nx e) μ
  | .rt d, μ => K (.rt d) μ
  | .exc c fs e, μ => K (.exc c fs e) μ
theorem wl_nil {p : Pat} {body : SM} : Wl p body [] env μ K = K (.nx env) μ := eqp rfl
theorem wl_cons {p : Pat} {body : SM} {d : D} {r : List D} : Wl p body (d :: r) env μ K = Op (bindP p d env) fun e => Wr body e μ (turn p body r K) := by
  show Wr (loopF p body (d :: r)) env μ K = _
  unfold Wr
  unfold loopF
  cases h : bindP p d env with
  | none => simp only [h]; exact propext ⟨fun h => False.elim h, fun ⟨_, h, _⟩ => (nomatch h)⟩
  | some e =>
    rw [op_some]
    simp only [h]
    cases h2 : body e μ with
    | none => simp only [h2]
    | some r => obtain ⟨o, μ'⟩ := r; cases o <;> simp only [h2] <;> rfl
def lpS (I : Env → Mu → Prop) (K : SO → Mu → Prop) : SO → Mu → Prop
  | .nx e, μ => I e μ
  | .ct e, μ => I e μ
  | .br e, μ => K (.nx e) μ
  | .rt d, μ => K (.rt d) μ
  | .exc c fs e, μ => K (.exc c fs e) μ
theorem Wr.imp {F : SM} {K' : SO → Mu → Prop} (h : Wr F env μ K) (hi : ∀ o μ', K o μ' → K' o μ') : Wr F env μ K' := by
  unfold Wr at h ⊢
  cases q : F env μ with
  | none => rw [q] at h; exact h.elim
  | some o => rw [q] at h; exact hi _ _ h
/-- an invariant over what is left -/
theorem wl_inv {p : Pat} {body : SM} (I : List D → Env → Mu → Prop) (step : ∀ d r env μ, I (d :: r) env μ → ∃ e, bindP p d env = some e ∧ Wr body e μ (lpS (I r) K)) (fin : ∀ env μ, I [] env μ → K (.nx env) μ) :
    ∀ (ds : List D) (env : Env) (μ : Mu), I ds env μ → Wl p body ds env μ K
  | [], env, μ, h => fin env μ h
  | d :: r, env, μ, h => by
    obtain ⟨e, e1, h1⟩ := step d r env μ h
    rw [wl_cons, e1, op_some]
    refine h1.imp fun o μ' q => ?_
    cases o with
    | nx e => exact wl_inv I step fin r e μ' q
    | ct e => exact wl_inv I step fin r e μ' q
    | br e => exact q
    | rt d => exact q
    | exc c fs e => exact q
/-! defs -/
def retS (Q : D → Mu → Prop) (E : PX) : SO → Mu → Prop
  | .nx _, μ => Q .non μ
  | .rt d, μ => Q d μ
  | .exc c fs _, μ => E c fs μ
  | _, _ => False
theorem wf_run {n : Nat} {F : SM} {ds : List D} {Q : D → Mu → Prop} : Wf (runF n F) ds μ Q E = Wr F (env0 n ds) μ (retS Q E) := by
  unfold Wf Wp runF Wr
  cases F (env0 n ds) μ with
  | none => rfl
  | some r => obtain ⟨o, μ'⟩ := r; cases o <;> rfl
theorem retS_nx {Q : D → Mu → Prop} {e : Env} : retS Q E (.nx e) μ = Q .non μ := eqp rfl
theorem retS_rt {Q : D → Mu → Prop} {d : D} : retS Q E (.rt d) μ = Q d μ := eqp rfl
theorem lpS_nx {I : Env → Mu → Prop} {e : Env} : lpS I K (.nx e) μ = I e μ := eqp rfl
theorem lpS_ct {I : Env → Mu → Prop} {e : Env} : lpS I K (.ct e) μ = I e μ := eqp rfl
theorem lpS_br {I : Env → Mu → Prop} {e : Env} : lpS I K (.br e) μ = K (.nx e) μ := eqp rfl
theorem lpS_rt {I : Env → Mu → Prop} {d : D} : lpS I K (.rt d) μ = K (.rt d) μ := eqp rfl
theorem turn_nx {p : Pat} {body : SM} {r : List D} {e : Env} : turn p body r K (.nx e) μ = Wl p body r e μ K := eqp rfl
theorem turn_ct {p : Pat} {body : SM} {r : List D} {e : Env} : turn p body r K (.ct e) μ = Wl p body r e μ K := eqp rfl
theorem turn_br {p : Pat} {body : SM} {r : List D} {e : Env} : turn p body r K (.br e) μ = K (.nx e) μ := eqp rfl
theorem turn_rt {p : Pat} {body : SM} {r : List D} {d : D} : turn p body r K (.rt d) μ = K (.rt d) μ := eqp rfl

/-! operators on what is known -/
theorem wp_addI {i j : Int} {Q : D → Mu → Prop} : Wp (addD (.int i) (.int j)) μ Q E = Q (.int (i + j)) μ := eqp rfl
theorem wp_addS {i j : Str} {Q : D → Mu → Prop} : Wp (addD (.str i) (.str j)) μ Q E = (i.length + j.length ≤ big ∧ Q (.str (i ++ j)) μ) := by
  unfold addD; rw [wp_guard, decide_eq_true_eq]; rfl
theorem wp_subI {i j : Int} {Q : D → Mu → Prop} : Wp (subD (.int i) (.int j)) μ Q E = Q (.int (i - j)) μ := eqp rfl
theorem wp_mulI {i j : Int} {Q : D → Mu → Prop} : Wp (mulD (.int i) (.int j)) μ Q E = (okMul i j = true ∧ Q (.int (i * j)) μ) := wp_guard
theorem wp_divI {i j : Int} {Q : D → Mu → Prop} : Wp (divD (.int i) (.int j)) μ Q E = ((0 < j ∧ j < 2 ^ 64) ∧ Q (.int (i / j)) μ) := by
  unfold divD; rw [wp_guard, decide_eq_true_eq]; rfl
theorem wp_modI {i j : Int} {Q : D → Mu → Prop} : Wp (modD (.int i) (.int j)) μ Q E = (0 < j ∧ Q (.int (i % j)) μ) := by
  unfold modD; rw [wp_guard, decide_eq_true_eq]; rfl
theorem wp_powI {i j : Int} {Q : D → Mu → Prop} : Wp (powD (.int i) (.int j)) μ Q E = ((0 ≤ j ∧ j ≤ 1000000 ∧ i.natAbs < 2 ^ 64) ∧ Q (.int (i ^ j.toNat)) μ) := by
  unfold powD; rw [wp_guard, decide_eq_true_eq]; rfl
theorem wp_cmpI {p : Int → Int → Bool} {i j : Int} {Q : D → Mu → Prop} : Wp (cmpI p (.int i) (.int j)) μ Q E = Q (.bl (p i j)) μ := eqp rfl
theorem wp_eq {d e : D} {Q : D → Mu → Prop} : Wp (eqDD d e) μ Q E = Op (eqD d e) fun b => Q (.bl b) μ := by
  unfold eqDD; rw [wp_opt]
  cases eqD d e with
  | none => exact propext ⟨fun ⟨_, h, _⟩ => (nomatch h), fun ⟨_, h, _⟩ => (nomatch h)⟩
  | some b => rw [Option.map_some, op_some, op_some]
theorem wp_ne {d e : D} {Q : D → Mu → Prop} : Wp (neDD d e) μ Q E = Op (eqD d e) fun b => Q (.bl (!b)) μ := by
  unfold neDD; rw [wp_opt]
  cases eqD d e with
  | none => exact propext ⟨fun ⟨_, h, _⟩ => (nomatch h), fun ⟨_, h, _⟩ => (nomatch h)⟩
  | some b => rw [Option.map_some, op_some, op_some]
theorem wp_negI {i : Int} {Q : D → Mu → Prop} : Wp (negD (.int i)) μ Q E = Q (.int (-i)) μ := eqp rfl
theorem wp_seqE {d : D} {Q : List D → Mu → Prop} : Wp (seqE d) μ Q E = Op (seqD d μ) fun xs => Q xs μ := by
  unfold Wp seqE
  cases seqD d μ with
  | none => exact propext ⟨fun h => False.elim h, fun ⟨_, h, _⟩ => (nomatch h)⟩
  | some xs => rw [op_some]
theorem wp_lstE {d : D} {Q : List D → Mu → Prop} : Wp (lstE d) μ Q E = Op (lstD d μ) fun xs => Q xs μ := by
  unfold Wp lstE
  cases lstD d μ with
  | none => exact propext ⟨fun h => False.elim h, fun ⟨_, h, _⟩ => (nomatch h)⟩
  | some xs => rw [op_some]
theorem isN_eq : ∀ d : D, isND d .non = (match d with | .non => pureE (.bl true) | .cell _ => pureE (.bl false) | .bl _ => pureE (.bl false) | .int _ => pureE (.bl false) | .str _ => pureE (.bl false) | .lst _ => pureE (.bl false) | .tup _ => pureE (.bl false) | .obj _ _ => pureE (.bl false) | _ => failE) := fun d => by cases d <;> rfl
end
end EG
namespace EG
open PySem L2

section
variable {α β : Type} {μ : Mu} {E : PX} {Q : D → Mu → Prop} {QL : List D → Mu → Prop}
theorem atI_nn {xs : List α} {i : Int} (h : 0 ≤ i) : atI xs i = xs[i.toNat]? := by
  unfold atI ixN
  by_cases h2 : i < xs.length
  · simp [h, h2]
  · simp [h, h2]
theorem setAt_nn {xs : List D} {i : Int} {d : D} (h : 0 ≤ i) (h2 : i.toNat < xs.length) : setAt xs (.int i) d = some (xs.set i.toNat d) := by
  unfold setAt ixN
  have : i < xs.length := by omega
  simp [h, this]
theorem wp_ixL {xs : List D} {i : Int} : Wp (ixD (.lst xs) (.int i)) μ Q E = Op (atI xs i) fun d => Q d μ := by
  show Wp (bindE (seqE (.lst xs)) fun ys => optE (atI ys i)) μ Q E = _
  rw [wp_bind, wp_seqE]; show Op (some xs) _ = _; rw [op_some, wp_opt]
theorem wp_ixT {xs : List D} {i : Int} : Wp (ixD (.tup xs) (.int i)) μ Q E = Op (atI xs i) fun d => Q d μ := by
  show Wp (bindE (seqE (.tup xs)) fun ys => optE (atI ys i)) μ Q E = _
  rw [wp_bind, wp_seqE]; show Op (some xs) _ = _; rw [op_some, wp_opt]
theorem wp_ixC {n : Nat} {i : Int} : Wp (ixD (.cell n) (.int i)) μ Q E = Op (seqD (.cell n) μ) fun xs => Op (atI xs i) fun d => Q d μ := by
  show Wp (bindE (seqE _) _) μ Q E = _
  rw [wp_bind, wp_seqE]; refine op_ext fun xs => ?_; rw [wp_opt]
theorem wp_ixS {s : Str} {i : Int} : Wp (ixD (.str s) (.int i)) μ Q E = Op (atI s.cps.toList i) fun c => Q (.str ⟨#[c]⟩) μ := by
  unfold ixD
  simp only
  cases h : atI s.cps.toList i with
  | none => exact propext ⟨fun h => False.elim h, fun ⟨_, h, _⟩ => (nomatch h)⟩
  | some c => rw [op_some]; rfl
theorem wp_lenS {s : Str} : Wp (lenD [.str s]) μ Q E = Q (.int s.length) μ := eqp rfl
theorem wp_lenL {xs : List D} : Wp (lenD [.lst xs]) μ Q E = Q (.int xs.length) μ := eqp rfl
theorem wp_lenT {xs : List D} : Wp (lenD [.tup xs]) μ Q E = Q (.int xs.length) μ := eqp rfl
theorem wp_lenC {n : Nat} : Wp (lenD [.cell n]) μ Q E = Op (seqD (.cell n) μ) fun xs => Q (.int xs.length) μ := by
  show Wp (bindE (seqE _) _) μ Q E = _
  rw [wp_bind, wp_seqE]; rfl
theorem wp_absI {i : Int} : Wp (absD [.int i]) μ Q E = Q (.int (if i < 0 then -i else i)) μ := eqp rfl
theorem wp_intI {i : Int} : Wp (intD [.int i]) μ Q E = Q (.int i) μ := eqp rfl
theorem wp_intB {b : Bool} : Wp (intD [.bl b]) μ Q E = Q (.int (if b then 1 else 0)) μ := eqp rfl
theorem wp_intS {s : Str} : Wp (intD [.str s]) μ Q E = (s.length ≤ 640 ∧ Op (PySem.intText? s) fun i => Q (.int i) μ) := by
  unfold intD; rw [wp_guard, decide_eq_true_eq, wp_opt]
  cases PySem.intText? s with
  | none => congr 1; exact propext ⟨fun ⟨_, h, _⟩ => (nomatch h), fun ⟨_, h, _⟩ => (nomatch h)⟩
  | some i => rw [Option.map_some, op_some, op_some]
theorem wp_strI {i : Int} : Wp (strD [.int i]) μ Q E = ((i.natAbs.log2 < 1920 ∧ (Str.ofString (toString i)).length ≤ big) ∧ Q (.str (toString i)) μ) := by
  unfold strD; rw [wp_guard, Bool.and_eq_true, decide_eq_true_eq, decide_eq_true_eq]; rfl
theorem wp_boolI {i : Int} : Wp (boolD [.int i]) μ Q E = Q (.bl (i != 0)) μ := eqp rfl
theorem wp_boolB {i : Bool} : Wp (boolD [.bl i]) μ Q E = Q (.bl i) μ := eqp rfl
theorem wp_all {d : D} : Wp (allD [d]) μ Q E = Op (lstD d μ) fun xs => Op (boolsD xs) fun bs => Q (.bl (bs.all id)) μ := by
  unfold allD; rw [wp_bind, wp_lstE]; refine op_ext fun xs => ?_; rw [wp_opt]
  cases boolsD xs with
  | none => exact propext ⟨fun ⟨_, h, _⟩ => (nomatch h), fun ⟨_, h, _⟩ => (nomatch h)⟩
  | some i => rw [Option.map_some, op_some, op_some]
theorem wp_any {d : D} : Wp (anyD [d]) μ Q E = Op (lstD d μ) fun xs => Op (boolsD xs) fun bs => Q (.bl (bs.any id)) μ := by
  unfold anyD; rw [wp_bind, wp_lstE]; refine op_ext fun xs => ?_; rw [wp_opt]
  cases boolsD xs with
  | none => exact propext ⟨fun ⟨_, h, _⟩ => (nomatch h), fun ⟨_, h, _⟩ => (nomatch h)⟩
  | some i => rw [Option.map_some, op_some, op_some]
theorem wp_sum {d : D} : Wp (sumD [d]) μ Q E = Op (lstD d μ) fun xs => Op (intsD xs) fun bs => Q (.int bs.sum) μ := by
  unfold sumD; rw [wp_bind, wp_lstE]; refine op_ext fun xs => ?_; rw [wp_opt]
  cases intsD xs with
  | none => exact propext ⟨fun ⟨_, h, _⟩ => (nomatch h), fun ⟨_, h, _⟩ => (nomatch h)⟩
  | some i => rw [Option.map_some, op_some, op_some]
theorem wp_max2 {i j : Int} : Wp (maxD [.int i, .int j]) μ Q E = Q (.int (max i j)) μ := eqp rfl
theorem wp_min2 {i j : Int} : Wp (minD [.int i, .int j]) μ Q E = Q (.int (min i j)) μ := eqp rfl
theorem wp_list {d : D} : Wp (listD [d]) μ QL E = Op (seqD d μ) fun xs => QL xs μ := wp_seqE
theorem wp_tuple {d : D} : Wp (tupleD [d]) μ Q E = Op (seqD d μ) fun xs => Q (.tup xs) μ := by
  unfold tupleD; rw [wp_bind, wp_seqE]; rfl
theorem wp_sorted {d : D} : Wp (sortedD [d]) μ QL E = Op (lstD d μ) fun xs => Op (intsD xs) fun ns => ns.length < 64 ∧ QL ((sortI ns).map .int) μ := by
  unfold sortedD; rw [wp_bind, wp_lstE]; refine op_ext fun xs => ?_
  cases intsD xs with
  | none => exact propext ⟨fun h => False.elim h, fun ⟨_, h, _⟩ => (nomatch h)⟩
  | some i => rw [op_some]; simp only; rw [wp_guard, decide_eq_true_eq]; rfl
theorem wp_slS {s : Str} {lo hi : Option Int} : Wp (slD lo hi (.str s)) μ Q E = Q (.str (cutS s lo hi)) μ := eqp rfl
theorem wp_slT {xs : List D} {lo hi : Option Int} : Wp (slD lo hi (.tup xs)) μ Q E = (¬ (HT.sIx xs.length 0 lo = 0 ∧ HT.sIx xs.length xs.length hi = xs.length) ∧ Q (.tup (cutL xs lo hi)) μ) := by
  unfold slD; rw [wp_guard, decide_eq_true_eq]; rfl
theorem wp_slC {ns : List Int} {lo hi : Option Int} : Wp (slL lo hi (.scr ns)) μ QL E = QL (cutL (ns.map D.int) lo hi) μ := eqp rfl
theorem wp_slL {xs : List D} {lo hi : Option Int} : Wp (slL lo hi (.lst xs)) μ QL E = QL (cutL xs lo hi) μ := eqp rfl
theorem wp_range1 {j : Int} : Wp (rangeD1 [.int j]) μ QL E = ((-(2 ^ 62) ≤ j ∧ j < 2 ^ 62 ∧ j.toNat ≤ big) ∧ QL (rangeL 0 j.toNat) μ) := by
  unfold rangeD1; rw [wp_guard, decide_eq_true_eq]; rfl
theorem wp_range2 {i j : Int} : Wp (rangeD2 [.int i, .int j]) μ QL E = ((-(2 ^ 62) ≤ i ∧ i < 2 ^ 62 ∧ -(2 ^ 62) ≤ j ∧ j < 2 ^ 62 ∧ (j - i).toNat ≤ big) ∧ QL (rangeL i (j - i).toNat) μ) := by
  unfold rangeD2; rw [wp_guard, decide_eq_true_eq]; rfl
theorem wp_enum {xs : List D} : Wp (enumD [.lst xs]) μ QL E = QL (enumL 0 xs) μ := eqp rfl
theorem wp_zip {xs ys : List D} : Wp (zipD [.lst xs, .lst ys]) μ QL E = QL (zipL xs ys) μ := eqp rfl
theorem wp_cat {x y : D} : Wp (catD x y) μ QL E = Op (lstD x μ) fun xs => Op (lstD y μ) fun ys => xs.length + ys.length ≤ big ∧ QL (xs ++ ys) μ := by
  unfold catD; rw [wp_bind, wp_lstE]; refine op_ext fun xs => ?_; rw [wp_bind, wp_lstE]; refine op_ext fun ys => ?_; rw [wp_guard, decide_eq_true_eq]; rfl
theorem wp_rep {x : D} {k : Int} : Wp (repD x (.int k)) μ QL E = Op (lstD x μ) fun xs => (-(2 ^ 63) ≤ k ∧ k < 2 ^ 63 ∧ xs.length * k.toNat ≤ big) ∧ QL (repL k.toNat xs) μ := by
  unfold repD; simp only; rw [wp_bind, wp_lstE]; refine op_ext fun xs => ?_; rw [wp_guard, decide_eq_true_eq]; rfl
theorem wp_inSg {c : Nat} {z : Str} : Wp (inD (.str ⟨#[c]⟩) (.str z)) μ Q E = Q (.bl (decide (c ∈ z.cps.toList))) μ := eqp rfl
theorem wp_notInSg {c : Nat} {z : Str} : Wp (notInD (.str ⟨#[c]⟩) (.str z)) μ Q E = Q (.bl (!decide (c ∈ z.cps.toList))) μ := eqp rfl
theorem in_eq {x y : D} (h : ∀ a z, x = .str a → y = .str z → False) : inD x y = bindE (seqE y) fun xs => optE ((inL x xs).map .bl) := by
  unfold inD
  split
  · exact (h _ _ rfl rfl).elim
  · rfl
theorem wp_inL {x : D} {xs : List D} : Wp (inD x (.lst xs)) μ Q E = Op (inL x xs) fun b => Q (.bl b) μ := by
  rw [in_eq (fun _ _ _ h => by cases h), wp_bind, wp_seqE]; show Op (some xs) _ = _; rw [op_some, wp_opt]
  cases inL x xs with
  | none => exact propext ⟨fun ⟨_, h, _⟩ => (nomatch h), fun ⟨_, h, _⟩ => (nomatch h)⟩
  | some i => rw [Option.map_some, op_some, op_some]
theorem wp_inT {x : D} {xs : List D} : Wp (inD x (.tup xs)) μ Q E = Op (inL x xs) fun b => Q (.bl b) μ := by
  rw [in_eq (fun _ _ _ h => by cases h), wp_bind, wp_seqE]; show Op (some xs) _ = _; rw [op_some, wp_opt]
  cases inL x xs with
  | none => exact propext ⟨fun ⟨_, h, _⟩ => (nomatch h), fun ⟨_, h, _⟩ => (nomatch h)⟩
  | some i => rw [Option.map_some, op_some, op_some]
theorem wp_notIn {x y : D} : Wp (notInD x y) μ Q E = Wp (inD x y) μ (fun z μ' => Op (asB z) fun b => Q (.bl (!b)) μ') E := by
  unfold notInD; rw [wp_bind]; refine wp_ext fun z μ' => ?_
  cases z <;> first
    | (exact propext ⟨fun h => False.elim h, fun ⟨_, h, _⟩ => (nomatch h)⟩)
    | (show Q _ _ = Op (some _) _; rw [op_some])
/-- is None -/
def nonB : D → Option Bool
  | .non => some true
  | .cell _ => some false | .bl _ => some false | .int _ => some false | .str _ => some false | .lst _ => some false | .tup _ => some false | .obj _ _ => some false
  | _ => none
theorem wp_isN {d : D} : Wp (isND d .non) μ Q E = Op (nonB d) fun b => Q (.bl b) μ := by
  cases d <;> first
    | (show Q _ _ = Op (some _) _; rw [op_some])
    | (exact propext ⟨fun h => False.elim h, fun ⟨_, h, _⟩ => (nomatch h)⟩)
theorem wp_notN {d : D} : Wp (notND d .non) μ Q E = Op (nonB d) fun b => Q (.bl (!b)) μ := by
  unfold notND; rw [wp_bind, wp_isN]; congr 1
theorem tt1 : tyTab "bool" "int" = some true := by decide
theorem tt2 : tyTab "bool" "bool" = some true := by decide
theorem tt3 : tyTab "int" "int" = some true := by decide
theorem tt4 : tyTab "str" "str" = some true := by decide
theorem tt5 : tyTab "list" "list" = some true := by decide
theorem tt6 : tyTab "tuple" "tuple" = some true := by decide
theorem tu1 : tyTab "NoneType" "bool" = some false := by decide
theorem tu2 : tyTab "NoneType" "int" = some false := by decide
theorem tu3 : tyTab "NoneType" "str" = some false := by decide
theorem tu4 : tyTab "NoneType" "list" = some false := by decide
theorem tu5 : tyTab "NoneType" "tuple" = some false := by decide
theorem tu6 : tyTab "bool" "str" = some false := by decide
theorem tu7 : tyTab "bool" "list" = some false := by decide
theorem tu8 : tyTab "bool" "tuple" = some false := by decide
theorem tu9 : tyTab "int" "bool" = some false := by decide
theorem tu10 : tyTab "int" "str" = some false := by decide
theorem tu11 : tyTab "int" "list" = some false := by decide
theorem tu12 : tyTab "int" "tuple" = some false := by decide
theorem tu13 : tyTab "str" "bool" = some false := by decide
theorem tu14 : tyTab "str" "int" = some false := by decide
theorem tu15 : tyTab "str" "list" = some false := by decide
theorem tu16 : tyTab "str" "tuple" = some false := by decide
theorem tu17 : tyTab "list" "bool" = some false := by decide
theorem tu18 : tyTab "list" "int" = some false := by decide
theorem tu19 : tyTab "list" "str" = some false := by decide
theorem tu20 : tyTab "list" "tuple" = some false := by decide
theorem tu21 : tyTab "tuple" "bool" = some false := by decide
theorem tu22 : tyTab "tuple" "int" = some false := by decide
theorem tu23 : tyTab "tuple" "str" = some false := by decide
theorem tu24 : tyTab "tuple" "list" = some false := by decide
theorem le_big {n : Nat} (h : n ≤ 16777216) : (n ≤ big) = True := eq_true h
theorem nA10 : Int.natAbs 10 = 10 := eqp rfl
theorem nA2 : Int.natAbs 2 = 2 := eqp rfl
theorem asB_bl {b : Bool} : asB (.bl b) = some b := eqp rfl
theorem truD_non : truD .non = some false := eqp rfl
theorem truD_bl {b : Bool} : truD (.bl b) = some b := eqp rfl
theorem truD_int {i : Int} : truD (.int i) = some (i != 0) := eqp rfl
theorem truD_str {s : Str} : truD (.str s) = some (s.length != 0) := eqp rfl
theorem truD_lst {xs : List D} : truD (.lst xs) = some (!xs.isEmpty) := eqp rfl
theorem truD_tup {xs : List D} : truD (.tup xs) = some (!xs.isEmpty) := eqp rfl
theorem asI_int {i : Int} : asI (.int i) = some i := eqp rfl
theorem asS_str {s : Str} : asS (.str s) = some s := eqp rfl
theorem items_lst {xs : List D} : itemsD (.lst xs) = some xs := eqp rfl
theorem items_tup {xs : List D} : itemsD (.tup xs) = some xs := eqp rfl
theorem valS_v {d : D} : valS (some (.v d)) = some d := eqp rfl
theorem valB_v {d : D} : valB (some (.v d)) = some d := eqp rfl
theorem valB_own {c : Cell} : valB (some (.own c)) = some c.toD := eqp rfl
theorem seqD_lst {xs : List D} : seqD (.lst xs) μ = some xs := eqp rfl
theorem seqD_tup {xs : List D} : seqD (.tup xs) μ = some xs := eqp rfl
theorem seqD_cell0 {xs : List D} : seqD (.cell 0) (.lst xs :: μ) = some xs := eqp rfl
theorem lstD_lst {xs : List D} : lstD (.lst xs) μ = some xs := eqp rfl
theorem lstD_cell0 {xs : List D} : lstD (.cell 0) (.lst xs :: μ) = some xs := eqp rfl
theorem cellL_0 {xs : List D} : cellL (.cell 0) (.lst xs :: μ) = some (0, xs) := eqp rfl
theorem own_lst {xs : List D} : ownO (some (.own (.lst xs))) = some xs := eqp rfl
theorem nonB_non : nonB .non = some true := eqp rfl
theorem nonB_bl {b : Bool} : nonB (.bl b) = some false := eqp rfl
theorem nonB_int {b : Int} : nonB (.int b) = some false := eqp rfl
theorem nonB_str {b : Str} : nonB (.str b) = some false := eqp rfl
theorem nonB_lst {b : List D} : nonB (.lst b) = some false := eqp rfl
theorem nonB_tup {b : List D} : nonB (.tup b) = some false := eqp rfl
theorem nonB_cell {b : Nat} : nonB (.cell b) = some false := eqp rfl
theorem nonB_obj {b : Nat} {fs : List (Str × D)} : nonB (.obj b fs) = some false := eqp rfl
theorem bools_nil : boolsD [] = some [] := eqp rfl
theorem bools_cons {b : Bool} {r : List D} : boolsD (.bl b :: r) = (boolsD r).map (b :: ·) := eqp rfl
theorem ints_nil : intsD [] = some [] := eqp rfl
theorem ints_cons {b : Int} {r : List D} : intsD (.int b :: r) = (intsD r).map (b :: ·) := eqp rfl
theorem eqD_ii {i j : Int} : eqD (.int i) (.int j) = some (decide (i = j)) := eqp rfl
theorem eqD_bb {i j : Bool} : eqD (.bl i) (.bl j) = some (decide (i = j)) := eqp rfl
theorem eqD_ss {i j : Str} : eqD (.str i) (.str j) = some (decide (i = j)) := eqp rfl
theorem eqD_nn : eqD .non .non = some true := eqp rfl
theorem eqD_ni {j : Int} : eqD .non (.int j) = some false := eqp rfl
theorem eqD_in {j : Int} : eqD (.int j) .non = some false := eqp rfl
theorem eqD_nb {j : Bool} : eqD .non (.bl j) = some false := eqp rfl
theorem eqD_bn {j : Bool} : eqD (.bl j) .non = some false := eqp rfl
theorem eqD_ns {j : Str} : eqD .non (.str j) = some false := eqp rfl
theorem eqD_sn {j : Str} : eqD (.str j) .non = some false := eqp rfl
theorem eqD_is {i : Int} {j : Str} : eqD (.int i) (.str j) = some false := eqp rfl
theorem eqD_si {i : Str} {j : Int} : eqD (.str i) (.int j) = some false := eqp rfl
theorem eqD_bs {i : Bool} {j : Str} : eqD (.bl i) (.str j) = some false := eqp rfl
theorem eqD_sb {i : Str} {j : Bool} : eqD (.str i) (.bl j) = some false := eqp rfl
theorem tag_non : tagD .non μ = some (.ty "NoneType") := eqp rfl
theorem tag_bl {b : Bool} : tagD (.bl b) μ = some (.ty "bool") := eqp rfl
theorem tag_int {b : Int} : tagD (.int b) μ = some (.ty "int") := eqp rfl
theorem tag_str {b : Str} : tagD (.str b) μ = some (.ty "str") := eqp rfl
theorem tag_lst {b : List D} : tagD (.lst b) μ = some (.ty "list") := eqp rfl
theorem tag_tup {b : List D} : tagD (.tup b) μ = some (.ty "tuple") := eqp rfl
theorem tag_obj {c : Nat} {fs : List (Str × D)} : tagD (.obj c fs) μ = some (.cls c) := eqp rfl
theorem bindP_nm {i : Nat} {d : D} {env : Env} : bindP (.nm i) d env = some (env.set i (.v d)) := by unfold bindP; rfl
theorem bindP_tp {ps : Pats} {ds : List D} {env : Env} : bindP (.tp ps) (.tup ds) env = bindPs ps ds env := by unfold bindP; rfl
theorem bindPs_nil {env : Env} : bindPs .nil [] env = some env := by unfold bindPs; rfl
theorem bindPs_cons {p : Pat} {r : Pats} {d : D} {ds : List D} {env : Env} : bindPs (.cons p r) (d :: ds) env = (bindP p d env).bind fun e => bindPs r ds e := by
  rw [bindPs]; cases bindP p d env <;> rfl
theorem okMul_r {i j : Int} (h : -(2 ^ 64) < j) (h2 : j < 2 ^ 64) : okMul i j = true := by unfold okMul; simp only [Bool.or_eq_true, decide_eq_true_eq]; omega
theorem okMul_l {i j : Int} (h : -(2 ^ 64) < i) (h2 : i < 2 ^ 64) : okMul i j = true := by unfold okMul; simp only [Bool.or_eq_true, decide_eq_true_eq]; omega
end
end EG
namespace EG
open PySem L2

/-! what all laws draw from: the bag -/
def B_pull : Cs := .cons (.iff (.ban (.cons (.cmp .eq (.ix (.v 0) (.int 2)) (.int 0)) (.cons (.cmp .lt (.ix (.v 0) (.int 1)) (.blt .len (.cons (.ix (.v 0) (.int 0)) .nil))) .nil))) (.cons (.set 2 (.ix (.ix (.v 0) (.int 0)) (.ix (.v 0) (.int 1)))) (.cons (.setC (.v 0) (.int 1) (.bin .add (.ix (.v 0) (.int 1)) (.int 1))) (.cons (.iff (.cmp .ge (.v 2) (.bin .pow (.int 10) (.int 18))) (.cons (.setC (.v 0) (.int 2) (.v 2)) .nil) (.cons (.setC (.v 0) (.int 3) (.bin .mod (.blt .int (.cons (.bin .add (.bin .add (.bin .mul (.ix (.v 0) (.int 3)) (.int 45179)) (.bin .mul (.bin .mod (.blt .int (.cons (.v 2) .nil)) (.int 2147483477)) (.int 39521))) (.int 43)) .nil)) (.int 2147483563))) .nil)) .nil))) .nil) (.cons (.iff (.cmp .gt (.ix (.v 0) (.int 2)) (.int 0)) (.cons (.set 3 (.bin .mod (.blt .int (.cons (.ix (.v 0) (.int 2)) .nil)) (.v 1))) (.cons (.setC (.v 0) (.int 2) (.bin .div (.ix (.v 0) (.int 2)) (.v 1))) (.cons (.ret (.v 3)) .nil))) .nil) (.cons (.setC (.v 0) (.int 4) (.bin .add (.ix (.v 0) (.int 4)) (.int 1))) (.cons (.set 4 (.ix (.v 0) (.int 3))) (.cons (.setC (.v 0) (.int 3) (.bin .mod (.blt .int (.cons (.bin .add (.bin .add (.bin .add (.bin .mul (.v 4) (.v 4)) (.bin .mul (.v 4) (.int 37363))) (.bin .mul (.ix (.v 0) (.int 4)) (.int 1500011))) (.int 77783)) .nil)) (.int 2147483563))) (.cons (.ret (.bin .mod (.blt .int (.cons (.bin .add (.bin .div (.ix (.v 0) (.int 3)) (.int 73)) (.bin .mul (.bin .mod (.blt .int (.cons (.ix (.v 0) (.int 3)) .nil)) (.int 8017)) (.int 59))) .nil)) (.v 1))) .nil)))))
def B_of : Cs := .cons (.ret (.ix (.v 1) (.call 0 (.cons (.v 0) (.cons (.blt .len (.cons (.v 1) .nil)) .nil))))) .nil
def B_bag : Cs := .cons (.set 1 (.int 10016)) (.cons (.forr (.nm 2) (.seq (.lsl (.v 0) .none (.some (.int 63)))) (.cons (.set 1 (.bin .mod (.blt .int (.cons (.bin .add (.bin .add (.bin .mul (.v 1) (.int 47533)) (.bin .mod (.blt .int (.cons (.v 2) .nil)) (.int 2147483497))) (.int 31)) .nil)) (.int 2147483563))) .nil)) (.cons (.retC (.lst (.cons (.lblt .list (.cons (.lsl (.v 0) .none (.some (.int 63))) .nil)) (.cons (.int 0) (.cons (.int 0) (.cons (.v 1) (.cons (.int 0) .nil))))))) .nil))
def B_same : Cs := .cons (.iff (.isiT [.ty "list", .ty "tuple"] (.v 1)) (.cons (.iff (.bor (.cons (.cmp .ne (.isi (.ty "list") (.v 0)) (.isi (.ty "list") (.v 1))) (.cons (.cmp .ne (.isi (.ty "tuple") (.v 0)) (.isi (.ty "tuple") (.v 1))) .nil))) (.cons (.ret (.bl false)) .nil) .nil) (.cons (.ret (.ban (.cons (.cmp .eq (.blt .len (.cons (.v 0) .nil)) (.blt .len (.cons (.v 1) .nil))) (.cons (.blt .all (.cons (.comp [("_law_a", 2), ("_law_b", 3)] (.tp (.cons (.nm 2) (.cons (.nm 3) .nil))) (.zip (.v 0) (.v 1)) .none (.call 0 (.cons (.v 2) (.cons (.v 3) .nil)))) .nil)) .nil)))) .nil)) .nil) (.cons (.iff (.bor (.cons (.cmp .isN (.v 1) .non) (.cons (.cmp .isN (.v 0) .non) .nil))) (.cons (.ret (.ban (.cons (.cmp .isN (.v 1) .non) (.cons (.cmp .isN (.v 0) .non) .nil)))) .nil) .nil) (.cons (.iff (.bor (.cons (.cmp .ne (.isi (.ty "bool") (.v 1)) (.isi (.ty "bool") (.v 0))) (.cons (.cmp .ne (.isi (.ty "int") (.v 1)) (.isi (.ty "int") (.v 0))) .nil))) (.cons (.ret (.bl false)) .nil) .nil) (.cons (.ret (.ban (.cons (.cmp .eq (.isi (.ty "str") (.v 1)) (.isi (.ty "str") (.v 0))) (.cons (.cmp .eq (.v 0) (.v 1)) .nil)))) .nil)))
/-- a bag that may be drawn from -/
def BagOk (b : Cell) : Prop := ∃ (ns : List Int) (i g z k : Int), b = .lst [.lst (ns.map D.int), .int i, .int g, .int z, .int k] ∧ 0 ≤ i ∧ 0 ≤ g ∧ 0 ≤ z ∧ z < 2147483563 ∧ 0 ≤ k
section
variable {Γ : Gam} {μ : Mu} {Q : D → Mu → Prop} {E : PX} {b : Cell}
theorem pull_spec {s : Int} (hb : BagOk b) (hs : 0 < s) (hs2 : s < 2 ^ 64) (hq : ∀ r b', 0 ≤ r → r < s → BagOk b' → Q (.int r) (b' :: μ)) : Wf (runF 5 (runs Γ B_pull)) [.cell 0, .int s] (b :: μ) Q E := by
  obtain ⟨ns, i, g, z, k, rfl, h1, h2, h3, h4, h5⟩ := hb
  have fin1 : ∀ {i g z : Int}, 0 ≤ i → 0 < g → 0 ≤ z → z < 2147483563 → Q (.int (g % s)) (.lst [.lst (ns.map D.int), .int i, .int (g / s), .int z, .int k] :: μ) := fun a1 a2 a3 a4 =>
    hq _ _ (Int.emod_nonneg _ (by omega)) (Int.emod_lt_of_pos _ hs) ⟨ns, _, _, _, k, rfl, a1, Int.ediv_nonneg (by omega) (by omega), a3, a4, h5⟩
  have fin2 : ∀ {i g x y : Int}, 0 ≤ i → 0 ≤ g → Q (.int (x % s)) (.lst [.lst (ns.map D.int), .int i, .int g, .int (y % 2147483563), .int (k + 1)] :: μ) := fun a1 a2 =>
    hq _ _ (Int.emod_nonneg _ (by omega)) (Int.emod_lt_of_pos _ hs) ⟨ns, _, _, _, _, rfl, a1, a2, Int.emod_nonneg _ (by omega), Int.emod_lt_of_pos _ (by omega), by omega⟩
  unfold B_pull
  simp only [↓br_true, ↓br_false, ↓op_some, ↓wp_bind, ↓wp_pure, ↓wp_fail, ↓wp_opt, ↓wp_guard, ↓wp_noX, ↓wp_v, ↓wp_vB, ↓wp_c, ↓wp_op2, ↓wp_op2L, ↓wp_t, ↓wp_tru, ↓wp_chain, ↓wp_andT, ↓wp_orT, ↓wp_notT, ↓wp_andV, ↓wp_orV, ↓wp_notV, ↓wp_if, ↓wp_nil, ↓wp_cons, ↓wp_tup, ↓wp_lst, ↓wp_D, ↓wp_cb, ↓wp_call, ↓wp_isi, ↓wp_neg, ↓wp_sl, ↓wp_noP, ↓wp_P, ↓wp_yes, ↓wp_items, ↓wp_signs, ↓wp_comp, ↓ws_seq, ↓thn_nx, ↓thn_rt, ↓thn_br, ↓thn_ct, ↓thn_exc, ↓ws_skip, ↓ws_break, ↓ws_cont, ↓ws_retN, ↓ws_set, ↓ws_own, ↓ws_ret, ↓ws_drop, ↓ws_if, ↓ws_asg, ↓ws_par, ↓ws_setC, ↓wp_newc, ↓ws_app, ↓ws_ext, ↓ws_setI, ↓ws_frz, ↓ws_for, ↓wl_nil, ↓wl_cons, ↓wf_run, ↓retS_nx, ↓retS_rt, ↓lpS_nx, ↓lpS_ct, ↓lpS_br, ↓lpS_rt, ↓turn_nx, ↓turn_ct, ↓turn_br, ↓turn_rt, ↓wp_addI, ↓wp_addS, ↓wp_subI, ↓wp_mulI, ↓wp_divI, ↓wp_modI, ↓wp_powI, ↓wp_cmpI, ↓wp_eq, ↓wp_ne, ↓wp_negI, ↓wp_seqE, ↓wp_lstE, ↓wp_ixL, ↓wp_ixT, ↓wp_ixC, ↓wp_ixS, ↓wp_lenS, ↓wp_lenL, ↓wp_lenT, ↓wp_lenC, ↓wp_absI, ↓wp_intI, ↓wp_intB, ↓wp_intS, ↓wp_strI, ↓wp_boolI, ↓wp_boolB, ↓wp_all, ↓wp_any, ↓wp_sum, ↓wp_max2, ↓wp_min2, ↓wp_list, ↓wp_tuple, ↓wp_sorted, ↓wp_slS, ↓wp_slT, ↓wp_slC, ↓wp_slL, ↓wp_range1, ↓wp_range2, ↓wp_enum, ↓wp_zip, ↓wp_cat, ↓wp_rep, ↓wp_inSg, ↓wp_notInSg, ↓wp_inL, ↓wp_inT, ↓wp_notIn, ↓wp_isN, ↓wp_notN, tt1, tt2, tt3, tt4, tt5, tt6, tu1, tu2, tu3, tu4, tu5, tu6, tu7, tu8, tu9, tu10, tu11, tu12, tu13, tu14, tu15, tu16, tu17, tu18, tu19, tu20, tu21, tu22, tu23, tu24, asB_bl, truD_non, truD_bl, truD_int, truD_str, truD_lst, truD_tup, asI_int, asS_str, items_lst, items_tup, valS_v, valB_v, valB_own, seqD_lst, seqD_tup, seqD_cell0, lstD_lst, lstD_cell0, cellL_0, own_lst, nonB_non, nonB_bl, nonB_int, nonB_str, nonB_lst, nonB_tup, nonB_cell, nonB_obj, bools_nil, bools_cons, ints_nil, ints_cons, eqD_ii, eqD_bb, eqD_ss, eqD_nn, eqD_ni, eqD_in, eqD_nb, eqD_bn, eqD_ns, eqD_sn, eqD_is, eqD_si, eqD_bs, eqD_sb, tag_non, tag_bl, tag_int, tag_str, tag_lst, tag_tup, tag_obj, bindP_nm, bindP_tp, bindPs_nil, bindPs_cons, EG.runs, EG.run, ev, evs, evo, evr, mkE, mkL, failL, bopF, copF, bltF, lbltF, env0, wipeE, isiAny, isi1, frzS, Cell.toD, atI_nn, setAt_nn, wp_inSg, List.map_cons, List.map_nil, List.length_cons, List.length_nil, List.append_nil, List.nil_append, List.cons_append, List.replicate, List.getElem?_cons_zero, List.getElem?_cons_succ, List.set_cons_zero, List.set_cons_succ, Int.reduceNeg, Int.reducePow, nA10, nA2, le_big, Nat.reducePow, Nat.zero_add, Option.map_some, Option.bind_some, Int.reduceLE, Int.reduceToNat, Int.reduceLT, Nat.reduceLT, Nat.reduceAdd, Nat.reduceSub, true_and, and_true, decide_true, decide_false, List.length_append, List.length_map, Nat.reduceLeDiff, Nat.reduceEqDiff, Bool.not_true, Bool.not_false, decide_eq_true_eq, reduceCtorEq, Option.some.injEq, id_eq, List.all_cons, List.all_nil, List.any_cons, List.any_nil, Bool.and_true, Bool.true_and, Bool.and_false, Bool.false_and, Bool.or_true, Bool.or_false]
  refine br_cases (fun e => ?_) (fun e => ?_)
  · simp only [↓br_true, ↓br_false, ↓op_some, ↓wp_bind, ↓wp_pure, ↓wp_fail, ↓wp_opt, ↓wp_guard, ↓wp_noX, ↓wp_v, ↓wp_vB, ↓wp_c, ↓wp_op2, ↓wp_op2L, ↓wp_t, ↓wp_tru, ↓wp_chain, ↓wp_andT, ↓wp_orT, ↓wp_notT, ↓wp_andV, ↓wp_orV, ↓wp_notV, ↓wp_if, ↓wp_nil, ↓wp_cons, ↓wp_tup, ↓wp_lst, ↓wp_D, ↓wp_cb, ↓wp_call, ↓wp_isi, ↓wp_neg, ↓wp_sl, ↓wp_noP, ↓wp_P, ↓wp_yes, ↓wp_items, ↓wp_signs, ↓wp_comp, ↓ws_seq, ↓thn_nx, ↓thn_rt, ↓thn_br, ↓thn_ct, ↓thn_exc, ↓ws_skip, ↓ws_break, ↓ws_cont, ↓ws_retN, ↓ws_set, ↓ws_own, ↓ws_ret, ↓ws_drop, ↓ws_if, ↓ws_asg, ↓ws_par, ↓ws_setC, ↓wp_newc, ↓ws_app, ↓ws_ext, ↓ws_setI, ↓ws_frz, ↓ws_for, ↓wl_nil, ↓wl_cons, ↓wf_run, ↓retS_nx, ↓retS_rt, ↓lpS_nx, ↓lpS_ct, ↓lpS_br, ↓lpS_rt, ↓turn_nx, ↓turn_ct, ↓turn_br, ↓turn_rt, ↓wp_addI, ↓wp_addS, ↓wp_subI, ↓wp_mulI, ↓wp_divI, ↓wp_modI, ↓wp_powI, ↓wp_cmpI, ↓wp_eq, ↓wp_ne, ↓wp_negI, ↓wp_seqE, ↓wp_lstE, ↓wp_ixL, ↓wp_ixT, ↓wp_ixC, ↓wp_ixS, ↓wp_lenS, ↓wp_lenL, ↓wp_lenT, ↓wp_lenC, ↓wp_absI, ↓wp_intI, ↓wp_intB, ↓wp_intS, ↓wp_strI, ↓wp_boolI, ↓wp_boolB, ↓wp_all, ↓wp_any, ↓wp_sum, ↓wp_max2, ↓wp_min2, ↓wp_list, ↓wp_tuple, ↓wp_sorted, ↓wp_slS, ↓wp_slT, ↓wp_slC, ↓wp_slL, ↓wp_range1, ↓wp_range2, ↓wp_enum, ↓wp_zip, ↓wp_cat, ↓wp_rep, ↓wp_inSg, ↓wp_notInSg, ↓wp_inL, ↓wp_inT, ↓wp_notIn, ↓wp_isN, ↓wp_notN, tt1, tt2, tt3, tt4, tt5, tt6, tu1, tu2, tu3, tu4, tu5, tu6, tu7, tu8, tu9, tu10, tu11, tu12, tu13, tu14, tu15, tu16, tu17, tu18, tu19, tu20, tu21, tu22, tu23, tu24, asB_bl, truD_non, truD_bl, truD_int, truD_str, truD_lst, truD_tup, asI_int, asS_str, items_lst, items_tup, valS_v, valB_v, valB_own, seqD_lst, seqD_tup, seqD_cell0, lstD_lst, lstD_cell0, cellL_0, own_lst, nonB_non, nonB_bl, nonB_int, nonB_str, nonB_lst, nonB_tup, nonB_cell, nonB_obj, bools_nil, bools_cons, ints_nil, ints_cons, eqD_ii, eqD_bb, eqD_ss, eqD_nn, eqD_ni, eqD_in, eqD_nb, eqD_bn, eqD_ns, eqD_sn, eqD_is, eqD_si, eqD_bs, eqD_sb, tag_non, tag_bl, tag_int, tag_str, tag_lst, tag_tup, tag_obj, bindP_nm, bindP_tp, bindPs_nil, bindPs_cons, EG.runs, EG.run, ev, evs, evo, evr, mkE, mkL, failL, bopF, copF, bltF, lbltF, env0, wipeE, isiAny, isi1, frzS, Cell.toD, atI_nn, setAt_nn, wp_inSg, List.map_cons, List.map_nil, List.length_cons, List.length_nil, List.append_nil, List.nil_append, List.cons_append, List.replicate, List.getElem?_cons_zero, List.getElem?_cons_succ, List.set_cons_zero, List.set_cons_succ, Int.reduceNeg, Int.reducePow, nA10, nA2, le_big, Nat.reducePow, Nat.zero_add, Option.map_some, Option.bind_some, Int.reduceLE, Int.reduceToNat, Int.reduceLT, Nat.reduceLT, Nat.reduceAdd, Nat.reduceSub, true_and, and_true, decide_true, decide_false, List.length_append, List.length_map, Nat.reduceLeDiff, Nat.reduceEqDiff, Bool.not_true, Bool.not_false, decide_eq_true_eq, reduceCtorEq, Option.some.injEq, id_eq, List.all_cons, List.all_nil, List.any_cons, List.any_nil, Bool.and_true, Bool.true_and, Bool.and_false, Bool.false_and, Bool.or_true, Bool.or_false]
    refine br_cases (fun e2 => ?_) (fun e2 => ?_)
    · have e2 := of_decide_eq_true e2
      have hlt : i.toNat < ns.length := by omega
      simp only [↓br_true, ↓br_false, ↓op_some, ↓wp_bind, ↓wp_pure, ↓wp_fail, ↓wp_opt, ↓wp_guard, ↓wp_noX, ↓wp_v, ↓wp_vB, ↓wp_c, ↓wp_op2, ↓wp_op2L, ↓wp_t, ↓wp_tru, ↓wp_chain, ↓wp_andT, ↓wp_orT, ↓wp_notT, ↓wp_andV, ↓wp_orV, ↓wp_notV, ↓wp_if, ↓wp_nil, ↓wp_cons, ↓wp_tup, ↓wp_lst, ↓wp_D, ↓wp_cb, ↓wp_call, ↓wp_isi, ↓wp_neg, ↓wp_sl, ↓wp_noP, ↓wp_P, ↓wp_yes, ↓wp_items, ↓wp_signs, ↓wp_comp, ↓ws_seq, ↓thn_nx, ↓thn_rt, ↓thn_br, ↓thn_ct, ↓thn_exc, ↓ws_skip, ↓ws_break, ↓ws_cont, ↓ws_retN, ↓ws_set, ↓ws_own, ↓ws_ret, ↓ws_drop, ↓ws_if, ↓ws_asg, ↓ws_par, ↓ws_setC, ↓wp_newc, ↓ws_app, ↓ws_ext, ↓ws_setI, ↓ws_frz, ↓ws_for, ↓wl_nil, ↓wl_cons, ↓wf_run, ↓retS_nx, ↓retS_rt, ↓lpS_nx, ↓lpS_ct, ↓lpS_br, ↓lpS_rt, ↓turn_nx, ↓turn_ct, ↓turn_br, ↓turn_rt, ↓wp_addI, ↓wp_addS, ↓wp_subI, ↓wp_mulI, ↓wp_divI, ↓wp_modI, ↓wp_powI, ↓wp_cmpI, ↓wp_eq, ↓wp_ne, ↓wp_negI, ↓wp_seqE, ↓wp_lstE, ↓wp_ixL, ↓wp_ixT, ↓wp_ixC, ↓wp_ixS, ↓wp_lenS, ↓wp_lenL, ↓wp_lenT, ↓wp_lenC, ↓wp_absI, ↓wp_intI, ↓wp_intB, ↓wp_intS, ↓wp_strI, ↓wp_boolI, ↓wp_boolB, ↓wp_all, ↓wp_any, ↓wp_sum, ↓wp_max2, ↓wp_min2, ↓wp_list, ↓wp_tuple, ↓wp_sorted, ↓wp_slS, ↓wp_slT, ↓wp_slC, ↓wp_slL, ↓wp_range1, ↓wp_range2, ↓wp_enum, ↓wp_zip, ↓wp_cat, ↓wp_rep, ↓wp_inSg, ↓wp_notInSg, ↓wp_inL, ↓wp_inT, ↓wp_notIn, ↓wp_isN, ↓wp_notN, tt1, tt2, tt3, tt4, tt5, tt6, tu1, tu2, tu3, tu4, tu5, tu6, tu7, tu8, tu9, tu10, tu11, tu12, tu13, tu14, tu15, tu16, tu17, tu18, tu19, tu20, tu21, tu22, tu23, tu24, asB_bl, truD_non, truD_bl, truD_int, truD_str, truD_lst, truD_tup, asI_int, asS_str, items_lst, items_tup, valS_v, valB_v, valB_own, seqD_lst, seqD_tup, seqD_cell0, lstD_lst, lstD_cell0, cellL_0, own_lst, nonB_non, nonB_bl, nonB_int, nonB_str, nonB_lst, nonB_tup, nonB_cell, nonB_obj, bools_nil, bools_cons, ints_nil, ints_cons, eqD_ii, eqD_bb, eqD_ss, eqD_nn, eqD_ni, eqD_in, eqD_nb, eqD_bn, eqD_ns, eqD_sn, eqD_is, eqD_si, eqD_bs, eqD_sb, tag_non, tag_bl, tag_int, tag_str, tag_lst, tag_tup, tag_obj, bindP_nm, bindP_tp, bindPs_nil, bindPs_cons, EG.runs, EG.run, ev, evs, evo, evr, mkE, mkL, failL, bopF, copF, bltF, lbltF, env0, wipeE, isiAny, isi1, frzS, Cell.toD, atI_nn, setAt_nn, wp_inSg, List.map_cons, List.map_nil, List.length_cons, List.length_nil, List.append_nil, List.nil_append, List.cons_append, List.replicate, List.getElem?_cons_zero, List.getElem?_cons_succ, List.set_cons_zero, List.set_cons_succ, Int.reduceNeg, Int.reducePow, nA10, nA2, le_big, Nat.reducePow, Nat.zero_add, Option.map_some, Option.bind_some, Int.reduceLE, Int.reduceToNat, Int.reduceLT, Nat.reduceLT, Nat.reduceAdd, Nat.reduceSub, true_and, and_true, decide_true, decide_false, List.length_append, List.length_map, Nat.reduceLeDiff, Nat.reduceEqDiff, Bool.not_true, Bool.not_false, decide_eq_true_eq, reduceCtorEq, Option.some.injEq, id_eq, List.all_cons, List.all_nil, List.any_cons, List.any_nil, Bool.and_true, Bool.true_and, Bool.and_false, Bool.false_and, Bool.or_true, Bool.or_false, atI_nn h1, List.getElem?_map, List.getElem?_eq_getElem hlt]
      refine br_cases (fun e3 => ?_) (fun e3 => ?_)
      · have e3 := of_decide_eq_true e3
        have hp : 0 < ns[i.toNat] := by omega
        simp only [↓br_true, ↓br_false, ↓op_some, ↓wp_bind, ↓wp_pure, ↓wp_fail, ↓wp_opt, ↓wp_guard, ↓wp_noX, ↓wp_v, ↓wp_vB, ↓wp_c, ↓wp_op2, ↓wp_op2L, ↓wp_t, ↓wp_tru, ↓wp_chain, ↓wp_andT, ↓wp_orT, ↓wp_notT, ↓wp_andV, ↓wp_orV, ↓wp_notV, ↓wp_if, ↓wp_nil, ↓wp_cons, ↓wp_tup, ↓wp_lst, ↓wp_D, ↓wp_cb, ↓wp_call, ↓wp_isi, ↓wp_neg, ↓wp_sl, ↓wp_noP, ↓wp_P, ↓wp_yes, ↓wp_items, ↓wp_signs, ↓wp_comp, ↓ws_seq, ↓thn_nx, ↓thn_rt, ↓thn_br, ↓thn_ct, ↓thn_exc, ↓ws_skip, ↓ws_break, ↓ws_cont, ↓ws_retN, ↓ws_set, ↓ws_own, ↓ws_ret, ↓ws_drop, ↓ws_if, ↓ws_asg, ↓ws_par, ↓ws_setC, ↓wp_newc, ↓ws_app, ↓ws_ext, ↓ws_setI, ↓ws_frz, ↓ws_for, ↓wl_nil, ↓wl_cons, ↓wf_run, ↓retS_nx, ↓retS_rt, ↓lpS_nx, ↓lpS_ct, ↓lpS_br, ↓lpS_rt, ↓turn_nx, ↓turn_ct, ↓turn_br, ↓turn_rt, ↓wp_addI, ↓wp_addS, ↓wp_subI, ↓wp_mulI, ↓wp_divI, ↓wp_modI, ↓wp_powI, ↓wp_cmpI, ↓wp_eq, ↓wp_ne, ↓wp_negI, ↓wp_seqE, ↓wp_lstE, ↓wp_ixL, ↓wp_ixT, ↓wp_ixC, ↓wp_ixS, ↓wp_lenS, ↓wp_lenL, ↓wp_lenT, ↓wp_lenC, ↓wp_absI, ↓wp_intI, ↓wp_intB, ↓wp_intS, ↓wp_strI, ↓wp_boolI, ↓wp_boolB, ↓wp_all, ↓wp_any, ↓wp_sum, ↓wp_max2, ↓wp_min2, ↓wp_list, ↓wp_tuple, ↓wp_sorted, ↓wp_slS, ↓wp_slT, ↓wp_slC, ↓wp_slL, ↓wp_range1, ↓wp_range2, ↓wp_enum, ↓wp_zip, ↓wp_cat, ↓wp_rep, ↓wp_inSg, ↓wp_notInSg, ↓wp_inL, ↓wp_inT, ↓wp_notIn, ↓wp_isN, ↓wp_notN, tt1, tt2, tt3, tt4, tt5, tt6, tu1, tu2, tu3, tu4, tu5, tu6, tu7, tu8, tu9, tu10, tu11, tu12, tu13, tu14, tu15, tu16, tu17, tu18, tu19, tu20, tu21, tu22, tu23, tu24, asB_bl, truD_non, truD_bl, truD_int, truD_str, truD_lst, truD_tup, asI_int, asS_str, items_lst, items_tup, valS_v, valB_v, valB_own, seqD_lst, seqD_tup, seqD_cell0, lstD_lst, lstD_cell0, cellL_0, own_lst, nonB_non, nonB_bl, nonB_int, nonB_str, nonB_lst, nonB_tup, nonB_cell, nonB_obj, bools_nil, bools_cons, ints_nil, ints_cons, eqD_ii, eqD_bb, eqD_ss, eqD_nn, eqD_ni, eqD_in, eqD_nb, eqD_bn, eqD_ns, eqD_sn, eqD_is, eqD_si, eqD_bs, eqD_sb, tag_non, tag_bl, tag_int, tag_str, tag_lst, tag_tup, tag_obj, bindP_nm, bindP_tp, bindPs_nil, bindPs_cons, EG.runs, EG.run, ev, evs, evo, evr, mkE, mkL, failL, bopF, copF, bltF, lbltF, env0, wipeE, isiAny, isi1, frzS, Cell.toD, atI_nn, setAt_nn, wp_inSg, List.map_cons, List.map_nil, List.length_cons, List.length_nil, List.append_nil, List.nil_append, List.cons_append, List.replicate, List.getElem?_cons_zero, List.getElem?_cons_succ, List.set_cons_zero, List.set_cons_succ, Int.reduceNeg, Int.reducePow, nA10, nA2, le_big, Nat.reducePow, Nat.zero_add, Option.map_some, Option.bind_some, Int.reduceLE, Int.reduceToNat, Int.reduceLT, Nat.reduceLT, Nat.reduceAdd, Nat.reduceSub, true_and, and_true, decide_true, decide_false, List.length_append, List.length_map, Nat.reduceLeDiff, Nat.reduceEqDiff, Bool.not_true, Bool.not_false, decide_eq_true_eq, reduceCtorEq, Option.some.injEq, id_eq, List.all_cons, List.all_nil, List.any_cons, List.any_nil, Bool.and_true, Bool.true_and, Bool.and_false, Bool.false_and, Bool.or_true, Bool.or_false]
        refine br_cases (fun e4 => ?_) (fun e4 => absurd hp (by simpa using e4))
        simp only [↓br_true, ↓br_false, ↓op_some, ↓wp_bind, ↓wp_pure, ↓wp_fail, ↓wp_opt, ↓wp_guard, ↓wp_noX, ↓wp_v, ↓wp_vB, ↓wp_c, ↓wp_op2, ↓wp_op2L, ↓wp_t, ↓wp_tru, ↓wp_chain, ↓wp_andT, ↓wp_orT, ↓wp_notT, ↓wp_andV, ↓wp_orV, ↓wp_notV, ↓wp_if, ↓wp_nil, ↓wp_cons, ↓wp_tup, ↓wp_lst, ↓wp_D, ↓wp_cb, ↓wp_call, ↓wp_isi, ↓wp_neg, ↓wp_sl, ↓wp_noP, ↓wp_P, ↓wp_yes, ↓wp_items, ↓wp_signs, ↓wp_comp, ↓ws_seq, ↓thn_nx, ↓thn_rt, ↓thn_br, ↓thn_ct, ↓thn_exc, ↓ws_skip, ↓ws_break, ↓ws_cont, ↓ws_retN, ↓ws_set, ↓ws_own, ↓ws_ret, ↓ws_drop, ↓ws_if, ↓ws_asg, ↓ws_par, ↓ws_setC, ↓wp_newc, ↓ws_app, ↓ws_ext, ↓ws_setI, ↓ws_frz, ↓ws_for, ↓wl_nil, ↓wl_cons, ↓wf_run, ↓retS_nx, ↓retS_rt, ↓lpS_nx, ↓lpS_ct, ↓lpS_br, ↓lpS_rt, ↓turn_nx, ↓turn_ct, ↓turn_br, ↓turn_rt, ↓wp_addI, ↓wp_addS, ↓wp_subI, ↓wp_mulI, ↓wp_divI, ↓wp_modI, ↓wp_powI, ↓wp_cmpI, ↓wp_eq, ↓wp_ne, ↓wp_negI, ↓wp_seqE, ↓wp_lstE, ↓wp_ixL, ↓wp_ixT, ↓wp_ixC, ↓wp_ixS, ↓wp_lenS, ↓wp_lenL, ↓wp_lenT, ↓wp_lenC, ↓wp_absI, ↓wp_intI, ↓wp_intB, ↓wp_intS, ↓wp_strI, ↓wp_boolI, ↓wp_boolB, ↓wp_all, ↓wp_any, ↓wp_sum, ↓wp_max2, ↓wp_min2, ↓wp_list, ↓wp_tuple, ↓wp_sorted, ↓wp_slS, ↓wp_slT, ↓wp_slC, ↓wp_slL, ↓wp_range1, ↓wp_range2, ↓wp_enum, ↓wp_zip, ↓wp_cat, ↓wp_rep, ↓wp_inSg, ↓wp_notInSg, ↓wp_inL, ↓wp_inT, ↓wp_notIn, ↓wp_isN, ↓wp_notN, tt1, tt2, tt3, tt4, tt5, tt6, tu1, tu2, tu3, tu4, tu5, tu6, tu7, tu8, tu9, tu10, tu11, tu12, tu13, tu14, tu15, tu16, tu17, tu18, tu19, tu20, tu21, tu22, tu23, tu24, asB_bl, truD_non, truD_bl, truD_int, truD_str, truD_lst, truD_tup, asI_int, asS_str, items_lst, items_tup, valS_v, valB_v, valB_own, seqD_lst, seqD_tup, seqD_cell0, lstD_lst, lstD_cell0, cellL_0, own_lst, nonB_non, nonB_bl, nonB_int, nonB_str, nonB_lst, nonB_tup, nonB_cell, nonB_obj, bools_nil, bools_cons, ints_nil, ints_cons, eqD_ii, eqD_bb, eqD_ss, eqD_nn, eqD_ni, eqD_in, eqD_nb, eqD_bn, eqD_ns, eqD_sn, eqD_is, eqD_si, eqD_bs, eqD_sb, tag_non, tag_bl, tag_int, tag_str, tag_lst, tag_tup, tag_obj, bindP_nm, bindP_tp, bindPs_nil, bindPs_cons, EG.runs, EG.run, ev, evs, evo, evr, mkE, mkL, failL, bopF, copF, bltF, lbltF, env0, wipeE, isiAny, isi1, frzS, Cell.toD, atI_nn, setAt_nn, wp_inSg, List.map_cons, List.map_nil, List.length_cons, List.length_nil, List.append_nil, List.nil_append, List.cons_append, List.replicate, List.getElem?_cons_zero, List.getElem?_cons_succ, List.set_cons_zero, List.set_cons_succ, Int.reduceNeg, Int.reducePow, nA10, nA2, le_big, Nat.reducePow, Nat.zero_add, Option.map_some, Option.bind_some, Int.reduceLE, Int.reduceToNat, Int.reduceLT, Nat.reduceLT, Nat.reduceAdd, Nat.reduceSub, true_and, and_true, decide_true, decide_false, List.length_append, List.length_map, Nat.reduceLeDiff, Nat.reduceEqDiff, Bool.not_true, Bool.not_false, decide_eq_true_eq, reduceCtorEq, Option.some.injEq, id_eq, List.all_cons, List.all_nil, List.any_cons, List.any_nil, Bool.and_true, Bool.true_and, Bool.and_false, Bool.false_and, Bool.or_true, Bool.or_false]
        exact ⟨hs, ⟨hs, hs2⟩, fin1 (by omega) hp h3 h4⟩
      · simp only [↓br_true, ↓br_false, ↓op_some, ↓wp_bind, ↓wp_pure, ↓wp_fail, ↓wp_opt, ↓wp_guard, ↓wp_noX, ↓wp_v, ↓wp_vB, ↓wp_c, ↓wp_op2, ↓wp_op2L, ↓wp_t, ↓wp_tru, ↓wp_chain, ↓wp_andT, ↓wp_orT, ↓wp_notT, ↓wp_andV, ↓wp_orV, ↓wp_notV, ↓wp_if, ↓wp_nil, ↓wp_cons, ↓wp_tup, ↓wp_lst, ↓wp_D, ↓wp_cb, ↓wp_call, ↓wp_isi, ↓wp_neg, ↓wp_sl, ↓wp_noP, ↓wp_P, ↓wp_yes, ↓wp_items, ↓wp_signs, ↓wp_comp, ↓ws_seq, ↓thn_nx, ↓thn_rt, ↓thn_br, ↓thn_ct, ↓thn_exc, ↓ws_skip, ↓ws_break, ↓ws_cont, ↓ws_retN, ↓ws_set, ↓ws_own, ↓ws_ret, ↓ws_drop, ↓ws_if, ↓ws_asg, ↓ws_par, ↓ws_setC, ↓wp_newc, ↓ws_app, ↓ws_ext, ↓ws_setI, ↓ws_frz, ↓ws_for, ↓wl_nil, ↓wl_cons, ↓wf_run, ↓retS_nx, ↓retS_rt, ↓lpS_nx, ↓lpS_ct, ↓lpS_br, ↓lpS_rt, ↓turn_nx, ↓turn_ct, ↓turn_br, ↓turn_rt, ↓wp_addI, ↓wp_addS, ↓wp_subI, ↓wp_mulI, ↓wp_divI, ↓wp_modI, ↓wp_powI, ↓wp_cmpI, ↓wp_eq, ↓wp_ne, ↓wp_negI, ↓wp_seqE, ↓wp_lstE, ↓wp_ixL, ↓wp_ixT, ↓wp_ixC, ↓wp_ixS, ↓wp_lenS, ↓wp_lenL, ↓wp_lenT, ↓wp_lenC, ↓wp_absI, ↓wp_intI, ↓wp_intB, ↓wp_intS, ↓wp_strI, ↓wp_boolI, ↓wp_boolB, ↓wp_all, ↓wp_any, ↓wp_sum, ↓wp_max2, ↓wp_min2, ↓wp_list, ↓wp_tuple, ↓wp_sorted, ↓wp_slS, ↓wp_slT, ↓wp_slC, ↓wp_slL, ↓wp_range1, ↓wp_range2, ↓wp_enum, ↓wp_zip, ↓wp_cat, ↓wp_rep, ↓wp_inSg, ↓wp_notInSg, ↓wp_inL, ↓wp_inT, ↓wp_notIn, ↓wp_isN, ↓wp_notN, tt1, tt2, tt3, tt4, tt5, tt6, tu1, tu2, tu3, tu4, tu5, tu6, tu7, tu8, tu9, tu10, tu11, tu12, tu13, tu14, tu15, tu16, tu17, tu18, tu19, tu20, tu21, tu22, tu23, tu24, asB_bl, truD_non, truD_bl, truD_int, truD_str, truD_lst, truD_tup, asI_int, asS_str, items_lst, items_tup, valS_v, valB_v, valB_own, seqD_lst, seqD_tup, seqD_cell0, lstD_lst, lstD_cell0, cellL_0, own_lst, nonB_non, nonB_bl, nonB_int, nonB_str, nonB_lst, nonB_tup, nonB_cell, nonB_obj, bools_nil, bools_cons, ints_nil, ints_cons, eqD_ii, eqD_bb, eqD_ss, eqD_nn, eqD_ni, eqD_in, eqD_nb, eqD_bn, eqD_ns, eqD_sn, eqD_is, eqD_si, eqD_bs, eqD_sb, tag_non, tag_bl, tag_int, tag_str, tag_lst, tag_tup, tag_obj, bindP_nm, bindP_tp, bindPs_nil, bindPs_cons, EG.runs, EG.run, ev, evs, evo, evr, mkE, mkL, failL, bopF, copF, bltF, lbltF, env0, wipeE, isiAny, isi1, frzS, Cell.toD, atI_nn, setAt_nn, wp_inSg, List.map_cons, List.map_nil, List.length_cons, List.length_nil, List.append_nil, List.nil_append, List.cons_append, List.replicate, List.getElem?_cons_zero, List.getElem?_cons_succ, List.set_cons_zero, List.set_cons_succ, Int.reduceNeg, Int.reducePow, nA10, nA2, le_big, Nat.reducePow, Nat.zero_add, Option.map_some, Option.bind_some, Int.reduceLE, Int.reduceToNat, Int.reduceLT, Nat.reduceLT, Nat.reduceAdd, Nat.reduceSub, true_and, and_true, decide_true, decide_false, List.length_append, List.length_map, Nat.reduceLeDiff, Nat.reduceEqDiff, Bool.not_true, Bool.not_false, decide_eq_true_eq, reduceCtorEq, Option.some.injEq, id_eq, List.all_cons, List.all_nil, List.any_cons, List.any_nil, Bool.and_true, Bool.true_and, Bool.and_false, Bool.false_and, Bool.or_true, Bool.or_false]
        refine ⟨okMul_r (by omega) (by omega), okMul_r (by omega) (by omega), br_cases (fun e4 => ?_) (fun e4 => ?_)⟩
        · have e := of_decide_eq_true e
          have e4 := of_decide_eq_true e4
          omega
        · simp only [↓br_true, ↓br_false, ↓op_some, ↓wp_bind, ↓wp_pure, ↓wp_fail, ↓wp_opt, ↓wp_guard, ↓wp_noX, ↓wp_v, ↓wp_vB, ↓wp_c, ↓wp_op2, ↓wp_op2L, ↓wp_t, ↓wp_tru, ↓wp_chain, ↓wp_andT, ↓wp_orT, ↓wp_notT, ↓wp_andV, ↓wp_orV, ↓wp_notV, ↓wp_if, ↓wp_nil, ↓wp_cons, ↓wp_tup, ↓wp_lst, ↓wp_D, ↓wp_cb, ↓wp_call, ↓wp_isi, ↓wp_neg, ↓wp_sl, ↓wp_noP, ↓wp_P, ↓wp_yes, ↓wp_items, ↓wp_signs, ↓wp_comp, ↓ws_seq, ↓thn_nx, ↓thn_rt, ↓thn_br, ↓thn_ct, ↓thn_exc, ↓ws_skip, ↓ws_break, ↓ws_cont, ↓ws_retN, ↓ws_set, ↓ws_own, ↓ws_ret, ↓ws_drop, ↓ws_if, ↓ws_asg, ↓ws_par, ↓ws_setC, ↓wp_newc, ↓ws_app, ↓ws_ext, ↓ws_setI, ↓ws_frz, ↓ws_for, ↓wl_nil, ↓wl_cons, ↓wf_run, ↓retS_nx, ↓retS_rt, ↓lpS_nx, ↓lpS_ct, ↓lpS_br, ↓lpS_rt, ↓turn_nx, ↓turn_ct, ↓turn_br, ↓turn_rt, ↓wp_addI, ↓wp_addS, ↓wp_subI, ↓wp_mulI, ↓wp_divI, ↓wp_modI, ↓wp_powI, ↓wp_cmpI, ↓wp_eq, ↓wp_ne, ↓wp_negI, ↓wp_seqE, ↓wp_lstE, ↓wp_ixL, ↓wp_ixT, ↓wp_ixC, ↓wp_ixS, ↓wp_lenS, ↓wp_lenL, ↓wp_lenT, ↓wp_lenC, ↓wp_absI, ↓wp_intI, ↓wp_intB, ↓wp_intS, ↓wp_strI, ↓wp_boolI, ↓wp_boolB, ↓wp_all, ↓wp_any, ↓wp_sum, ↓wp_max2, ↓wp_min2, ↓wp_list, ↓wp_tuple, ↓wp_sorted, ↓wp_slS, ↓wp_slT, ↓wp_slC, ↓wp_slL, ↓wp_range1, ↓wp_range2, ↓wp_enum, ↓wp_zip, ↓wp_cat, ↓wp_rep, ↓wp_inSg, ↓wp_notInSg, ↓wp_inL, ↓wp_inT, ↓wp_notIn, ↓wp_isN, ↓wp_notN, tt1, tt2, tt3, tt4, tt5, tt6, tu1, tu2, tu3, tu4, tu5, tu6, tu7, tu8, tu9, tu10, tu11, tu12, tu13, tu14, tu15, tu16, tu17, tu18, tu19, tu20, tu21, tu22, tu23, tu24, asB_bl, truD_non, truD_bl, truD_int, truD_str, truD_lst, truD_tup, asI_int, asS_str, items_lst, items_tup, valS_v, valB_v, valB_own, seqD_lst, seqD_tup, seqD_cell0, lstD_lst, lstD_cell0, cellL_0, own_lst, nonB_non, nonB_bl, nonB_int, nonB_str, nonB_lst, nonB_tup, nonB_cell, nonB_obj, bools_nil, bools_cons, ints_nil, ints_cons, eqD_ii, eqD_bb, eqD_ss, eqD_nn, eqD_ni, eqD_in, eqD_nb, eqD_bn, eqD_ns, eqD_sn, eqD_is, eqD_si, eqD_bs, eqD_sb, tag_non, tag_bl, tag_int, tag_str, tag_lst, tag_tup, tag_obj, bindP_nm, bindP_tp, bindPs_nil, bindPs_cons, EG.runs, EG.run, ev, evs, evo, evr, mkE, mkL, failL, bopF, copF, bltF, lbltF, env0, wipeE, isiAny, isi1, frzS, Cell.toD, atI_nn, setAt_nn, wp_inSg, List.map_cons, List.map_nil, List.length_cons, List.length_nil, List.append_nil, List.nil_append, List.cons_append, List.replicate, List.getElem?_cons_zero, List.getElem?_cons_succ, List.set_cons_zero, List.set_cons_succ, Int.reduceNeg, Int.reducePow, nA10, nA2, le_big, Nat.reducePow, Nat.zero_add, Option.map_some, Option.bind_some, Int.reduceLE, Int.reduceToNat, Int.reduceLT, Nat.reduceLT, Nat.reduceAdd, Nat.reduceSub, true_and, and_true, decide_true, decide_false, List.length_append, List.length_map, Nat.reduceLeDiff, Nat.reduceEqDiff, Bool.not_true, Bool.not_false, decide_eq_true_eq, reduceCtorEq, Option.some.injEq, id_eq, List.all_cons, List.all_nil, List.any_cons, List.any_nil, Bool.and_true, Bool.true_and, Bool.and_false, Bool.false_and, Bool.or_true, Bool.or_false]
          exact ⟨okMul_r (by omega) (by omega), okMul_r (by omega) (by omega), okMul_r (by omega) (by omega), okMul_r (by omega) (by omega), hs, fin2 (by omega) (by omega)⟩
    · simp only [↓br_true, ↓br_false, ↓op_some, ↓wp_bind, ↓wp_pure, ↓wp_fail, ↓wp_opt, ↓wp_guard, ↓wp_noX, ↓wp_v, ↓wp_vB, ↓wp_c, ↓wp_op2, ↓wp_op2L, ↓wp_t, ↓wp_tru, ↓wp_chain, ↓wp_andT, ↓wp_orT, ↓wp_notT, ↓wp_andV, ↓wp_orV, ↓wp_notV, ↓wp_if, ↓wp_nil, ↓wp_cons, ↓wp_tup, ↓wp_lst, ↓wp_D, ↓wp_cb, ↓wp_call, ↓wp_isi, ↓wp_neg, ↓wp_sl, ↓wp_noP, ↓wp_P, ↓wp_yes, ↓wp_items, ↓wp_signs, ↓wp_comp, ↓ws_seq, ↓thn_nx, ↓thn_rt, ↓thn_br, ↓thn_ct, ↓thn_exc, ↓ws_skip, ↓ws_break, ↓ws_cont, ↓ws_retN, ↓ws_set, ↓ws_own, ↓ws_ret, ↓ws_drop, ↓ws_if, ↓ws_asg, ↓ws_par, ↓ws_setC, ↓wp_newc, ↓ws_app, ↓ws_ext, ↓ws_setI, ↓ws_frz, ↓ws_for, ↓wl_nil, ↓wl_cons, ↓wf_run, ↓retS_nx, ↓retS_rt, ↓lpS_nx, ↓lpS_ct, ↓lpS_br, ↓lpS_rt, ↓turn_nx, ↓turn_ct, ↓turn_br, ↓turn_rt, ↓wp_addI, ↓wp_addS, ↓wp_subI, ↓wp_mulI, ↓wp_divI, ↓wp_modI, ↓wp_powI, ↓wp_cmpI, ↓wp_eq, ↓wp_ne, ↓wp_negI, ↓wp_seqE, ↓wp_lstE, ↓wp_ixL, ↓wp_ixT, ↓wp_ixC, ↓wp_ixS, ↓wp_lenS, ↓wp_lenL, ↓wp_lenT, ↓wp_lenC, ↓wp_absI, ↓wp_intI, ↓wp_intB, ↓wp_intS, ↓wp_strI, ↓wp_boolI, ↓wp_boolB, ↓wp_all, ↓wp_any, ↓wp_sum, ↓wp_max2, ↓wp_min2, ↓wp_list, ↓wp_tuple, ↓wp_sorted, ↓wp_slS, ↓wp_slT, ↓wp_slC, ↓wp_slL, ↓wp_range1, ↓wp_range2, ↓wp_enum, ↓wp_zip, ↓wp_cat, ↓wp_rep, ↓wp_inSg, ↓wp_notInSg, ↓wp_inL, ↓wp_inT, ↓wp_notIn, ↓wp_isN, ↓wp_notN, tt1, tt2, tt3, tt4, tt5, tt6, tu1, tu2, tu3, tu4, tu5, tu6, tu7, tu8, tu9, tu10, tu11, tu12, tu13, tu14, tu15, tu16, tu17, tu18, tu19, tu20, tu21, tu22, tu23, tu24, asB_bl, truD_non, truD_bl, truD_int, truD_str, truD_lst, truD_tup, asI_int, asS_str, items_lst, items_tup, valS_v, valB_v, valB_own, seqD_lst, seqD_tup, seqD_cell0, lstD_lst, lstD_cell0, cellL_0, own_lst, nonB_non, nonB_bl, nonB_int, nonB_str, nonB_lst, nonB_tup, nonB_cell, nonB_obj, bools_nil, bools_cons, ints_nil, ints_cons, eqD_ii, eqD_bb, eqD_ss, eqD_nn, eqD_ni, eqD_in, eqD_nb, eqD_bn, eqD_ns, eqD_sn, eqD_is, eqD_si, eqD_bs, eqD_sb, tag_non, tag_bl, tag_int, tag_str, tag_lst, tag_tup, tag_obj, bindP_nm, bindP_tp, bindPs_nil, bindPs_cons, EG.runs, EG.run, ev, evs, evo, evr, mkE, mkL, failL, bopF, copF, bltF, lbltF, env0, wipeE, isiAny, isi1, frzS, Cell.toD, atI_nn, setAt_nn, wp_inSg, List.map_cons, List.map_nil, List.length_cons, List.length_nil, List.append_nil, List.nil_append, List.cons_append, List.replicate, List.getElem?_cons_zero, List.getElem?_cons_succ, List.set_cons_zero, List.set_cons_succ, Int.reduceNeg, Int.reducePow, nA10, nA2, le_big, Nat.reducePow, Nat.zero_add, Option.map_some, Option.bind_some, Int.reduceLE, Int.reduceToNat, Int.reduceLT, Nat.reduceLT, Nat.reduceAdd, Nat.reduceSub, true_and, and_true, decide_true, decide_false, List.length_append, List.length_map, Nat.reduceLeDiff, Nat.reduceEqDiff, Bool.not_true, Bool.not_false, decide_eq_true_eq, reduceCtorEq, Option.some.injEq, id_eq, List.all_cons, List.all_nil, List.any_cons, List.any_nil, Bool.and_true, Bool.true_and, Bool.and_false, Bool.false_and, Bool.or_true, Bool.or_false]
      refine br_cases (fun e4 => ?_) (fun e4 => ?_)
      · have e := of_decide_eq_true e
        have e4 := of_decide_eq_true e4
        omega
      · simp only [↓br_true, ↓br_false, ↓op_some, ↓wp_bind, ↓wp_pure, ↓wp_fail, ↓wp_opt, ↓wp_guard, ↓wp_noX, ↓wp_v, ↓wp_vB, ↓wp_c, ↓wp_op2, ↓wp_op2L, ↓wp_t, ↓wp_tru, ↓wp_chain, ↓wp_andT, ↓wp_orT, ↓wp_notT, ↓wp_andV, ↓wp_orV, ↓wp_notV, ↓wp_if, ↓wp_nil, ↓wp_cons, ↓wp_tup, ↓wp_lst, ↓wp_D, ↓wp_cb, ↓wp_call, ↓wp_isi, ↓wp_neg, ↓wp_sl, ↓wp_noP, ↓wp_P, ↓wp_yes, ↓wp_items, ↓wp_signs, ↓wp_comp, ↓ws_seq, ↓thn_nx, ↓thn_rt, ↓thn_br, ↓thn_ct, ↓thn_exc, ↓ws_skip, ↓ws_break, ↓ws_cont, ↓ws_retN, ↓ws_set, ↓ws_own, ↓ws_ret, ↓ws_drop, ↓ws_if, ↓ws_asg, ↓ws_par, ↓ws_setC, ↓wp_newc, ↓ws_app, ↓ws_ext, ↓ws_setI, ↓ws_frz, ↓ws_for, ↓wl_nil, ↓wl_cons, ↓wf_run, ↓retS_nx, ↓retS_rt, ↓lpS_nx, ↓lpS_ct, ↓lpS_br, ↓lpS_rt, ↓turn_nx, ↓turn_ct, ↓turn_br, ↓turn_rt, ↓wp_addI, ↓wp_addS, ↓wp_subI, ↓wp_mulI, ↓wp_divI, ↓wp_modI, ↓wp_powI, ↓wp_cmpI, ↓wp_eq, ↓wp_ne, ↓wp_negI, ↓wp_seqE, ↓wp_lstE, ↓wp_ixL, ↓wp_ixT, ↓wp_ixC, ↓wp_ixS, ↓wp_lenS, ↓wp_lenL, ↓wp_lenT, ↓wp_lenC, ↓wp_absI, ↓wp_intI, ↓wp_intB, ↓wp_intS, ↓wp_strI, ↓wp_boolI, ↓wp_boolB, ↓wp_all, ↓wp_any, ↓wp_sum, ↓wp_max2, ↓wp_min2, ↓wp_list, ↓wp_tuple, ↓wp_sorted, ↓wp_slS, ↓wp_slT, ↓wp_slC, ↓wp_slL, ↓wp_range1, ↓wp_range2, ↓wp_enum, ↓wp_zip, ↓wp_cat, ↓wp_rep, ↓wp_inSg, ↓wp_notInSg, ↓wp_inL, ↓wp_inT, ↓wp_notIn, ↓wp_isN, ↓wp_notN, tt1, tt2, tt3, tt4, tt5, tt6, tu1, tu2, tu3, tu4, tu5, tu6, tu7, tu8, tu9, tu10, tu11, tu12, tu13, tu14, tu15, tu16, tu17, tu18, tu19, tu20, tu21, tu22, tu23, tu24, asB_bl, truD_non, truD_bl, truD_int, truD_str, truD_lst, truD_tup, asI_int, asS_str, items_lst, items_tup, valS_v, valB_v, valB_own, seqD_lst, seqD_tup, seqD_cell0, lstD_lst, lstD_cell0, cellL_0, own_lst, nonB_non, nonB_bl, nonB_int, nonB_str, nonB_lst, nonB_tup, nonB_cell, nonB_obj, bools_nil, bools_cons, ints_nil, ints_cons, eqD_ii, eqD_bb, eqD_ss, eqD_nn, eqD_ni, eqD_in, eqD_nb, eqD_bn, eqD_ns, eqD_sn, eqD_is, eqD_si, eqD_bs, eqD_sb, tag_non, tag_bl, tag_int, tag_str, tag_lst, tag_tup, tag_obj, bindP_nm, bindP_tp, bindPs_nil, bindPs_cons, EG.runs, EG.run, ev, evs, evo, evr, mkE, mkL, failL, bopF, copF, bltF, lbltF, env0, wipeE, isiAny, isi1, frzS, Cell.toD, atI_nn, setAt_nn, wp_inSg, List.map_cons, List.map_nil, List.length_cons, List.length_nil, List.append_nil, List.nil_append, List.cons_append, List.replicate, List.getElem?_cons_zero, List.getElem?_cons_succ, List.set_cons_zero, List.set_cons_succ, Int.reduceNeg, Int.reducePow, nA10, nA2, le_big, Nat.reducePow, Nat.zero_add, Option.map_some, Option.bind_some, Int.reduceLE, Int.reduceToNat, Int.reduceLT, Nat.reduceLT, Nat.reduceAdd, Nat.reduceSub, true_and, and_true, decide_true, decide_false, List.length_append, List.length_map, Nat.reduceLeDiff, Nat.reduceEqDiff, Bool.not_true, Bool.not_false, decide_eq_true_eq, reduceCtorEq, Option.some.injEq, id_eq, List.all_cons, List.all_nil, List.any_cons, List.any_nil, Bool.and_true, Bool.true_and, Bool.and_false, Bool.false_and, Bool.or_true, Bool.or_false]
        exact ⟨okMul_r (by omega) (by omega), okMul_r (by omega) (by omega), okMul_r (by omega) (by omega), okMul_r (by omega) (by omega), hs, fin2 (by omega) (by omega)⟩
  · have e := of_decide_eq_false e
    simp only [↓br_true, ↓br_false, ↓op_some, ↓wp_bind, ↓wp_pure, ↓wp_fail, ↓wp_opt, ↓wp_guard, ↓wp_noX, ↓wp_v, ↓wp_vB, ↓wp_c, ↓wp_op2, ↓wp_op2L, ↓wp_t, ↓wp_tru, ↓wp_chain, ↓wp_andT, ↓wp_orT, ↓wp_notT, ↓wp_andV, ↓wp_orV, ↓wp_notV, ↓wp_if, ↓wp_nil, ↓wp_cons, ↓wp_tup, ↓wp_lst, ↓wp_D, ↓wp_cb, ↓wp_call, ↓wp_isi, ↓wp_neg, ↓wp_sl, ↓wp_noP, ↓wp_P, ↓wp_yes, ↓wp_items, ↓wp_signs, ↓wp_comp, ↓ws_seq, ↓thn_nx, ↓thn_rt, ↓thn_br, ↓thn_ct, ↓thn_exc, ↓ws_skip, ↓ws_break, ↓ws_cont, ↓ws_retN, ↓ws_set, ↓ws_own, ↓ws_ret, ↓ws_drop, ↓ws_if, ↓ws_asg, ↓ws_par, ↓ws_setC, ↓wp_newc, ↓ws_app, ↓ws_ext, ↓ws_setI, ↓ws_frz, ↓ws_for, ↓wl_nil, ↓wl_cons, ↓wf_run, ↓retS_nx, ↓retS_rt, ↓lpS_nx, ↓lpS_ct, ↓lpS_br, ↓lpS_rt, ↓turn_nx, ↓turn_ct, ↓turn_br, ↓turn_rt, ↓wp_addI, ↓wp_addS, ↓wp_subI, ↓wp_mulI, ↓wp_divI, ↓wp_modI, ↓wp_powI, ↓wp_cmpI, ↓wp_eq, ↓wp_ne, ↓wp_negI, ↓wp_seqE, ↓wp_lstE, ↓wp_ixL, ↓wp_ixT, ↓wp_ixC, ↓wp_ixS, ↓wp_lenS, ↓wp_lenL, ↓wp_lenT, ↓wp_lenC, ↓wp_absI, ↓wp_intI, ↓wp_intB, ↓wp_intS, ↓wp_strI, ↓wp_boolI, ↓wp_boolB, ↓wp_all, ↓wp_any, ↓wp_sum, ↓wp_max2, ↓wp_min2, ↓wp_list, ↓wp_tuple, ↓wp_sorted, ↓wp_slS, ↓wp_slT, ↓wp_slC, ↓wp_slL, ↓wp_range1, ↓wp_range2, ↓wp_enum, ↓wp_zip, ↓wp_cat, ↓wp_rep, ↓wp_inSg, ↓wp_notInSg, ↓wp_inL, ↓wp_inT, ↓wp_notIn, ↓wp_isN, ↓wp_notN, tt1, tt2, tt3, tt4, tt5, tt6, tu1, tu2, tu3, tu4, tu5, tu6, tu7, tu8, tu9, tu10, tu11, tu12, tu13, tu14, tu15, tu16, tu17, tu18, tu19, tu20, tu21, tu22, tu23, tu24, asB_bl, truD_non, truD_bl, truD_int, truD_str, truD_lst, truD_tup, asI_int, asS_str, items_lst, items_tup, valS_v, valB_v, valB_own, seqD_lst, seqD_tup, seqD_cell0, lstD_lst, lstD_cell0, cellL_0, own_lst, nonB_non, nonB_bl, nonB_int, nonB_str, nonB_lst, nonB_tup, nonB_cell, nonB_obj, bools_nil, bools_cons, ints_nil, ints_cons, eqD_ii, eqD_bb, eqD_ss, eqD_nn, eqD_ni, eqD_in, eqD_nb, eqD_bn, eqD_ns, eqD_sn, eqD_is, eqD_si, eqD_bs, eqD_sb, tag_non, tag_bl, tag_int, tag_str, tag_lst, tag_tup, tag_obj, bindP_nm, bindP_tp, bindPs_nil, bindPs_cons, EG.runs, EG.run, ev, evs, evo, evr, mkE, mkL, failL, bopF, copF, bltF, lbltF, env0, wipeE, isiAny, isi1, frzS, Cell.toD, atI_nn, setAt_nn, wp_inSg, List.map_cons, List.map_nil, List.length_cons, List.length_nil, List.append_nil, List.nil_append, List.cons_append, List.replicate, List.getElem?_cons_zero, List.getElem?_cons_succ, List.set_cons_zero, List.set_cons_succ, Int.reduceNeg, Int.reducePow, nA10, nA2, le_big, Nat.reducePow, Nat.zero_add, Option.map_some, Option.bind_some, Int.reduceLE, Int.reduceToNat, Int.reduceLT, Nat.reduceLT, Nat.reduceAdd, Nat.reduceSub, true_and, and_true, decide_true, decide_false, List.length_append, List.length_map, Nat.reduceLeDiff, Nat.reduceEqDiff, Bool.not_true, Bool.not_false, decide_eq_true_eq, reduceCtorEq, Option.some.injEq, id_eq, List.all_cons, List.all_nil, List.any_cons, List.any_nil, Bool.and_true, Bool.true_and, Bool.and_false, Bool.false_and, Bool.or_true, Bool.or_false]
    refine br_cases (fun e4 => ?_) (fun e4 => ?_)
    · have e4 := of_decide_eq_true e4
      simp only [↓br_true, ↓br_false, ↓op_some, ↓wp_bind, ↓wp_pure, ↓wp_fail, ↓wp_opt, ↓wp_guard, ↓wp_noX, ↓wp_v, ↓wp_vB, ↓wp_c, ↓wp_op2, ↓wp_op2L, ↓wp_t, ↓wp_tru, ↓wp_chain, ↓wp_andT, ↓wp_orT, ↓wp_notT, ↓wp_andV, ↓wp_orV, ↓wp_notV, ↓wp_if, ↓wp_nil, ↓wp_cons, ↓wp_tup, ↓wp_lst, ↓wp_D, ↓wp_cb, ↓wp_call, ↓wp_isi, ↓wp_neg, ↓wp_sl, ↓wp_noP, ↓wp_P, ↓wp_yes, ↓wp_items, ↓wp_signs, ↓wp_comp, ↓ws_seq, ↓thn_nx, ↓thn_rt, ↓thn_br, ↓thn_ct, ↓thn_exc, ↓ws_skip, ↓ws_break, ↓ws_cont, ↓ws_retN, ↓ws_set, ↓ws_own, ↓ws_ret, ↓ws_drop, ↓ws_if, ↓ws_asg, ↓ws_par, ↓ws_setC, ↓wp_newc, ↓ws_app, ↓ws_ext, ↓ws_setI, ↓ws_frz, ↓ws_for, ↓wl_nil, ↓wl_cons, ↓wf_run, ↓retS_nx, ↓retS_rt, ↓lpS_nx, ↓lpS_ct, ↓lpS_br, ↓lpS_rt, ↓turn_nx, ↓turn_ct, ↓turn_br, ↓turn_rt, ↓wp_addI, ↓wp_addS, ↓wp_subI, ↓wp_mulI, ↓wp_divI, ↓wp_modI, ↓wp_powI, ↓wp_cmpI, ↓wp_eq, ↓wp_ne, ↓wp_negI, ↓wp_seqE, ↓wp_lstE, ↓wp_ixL, ↓wp_ixT, ↓wp_ixC, ↓wp_ixS, ↓wp_lenS, ↓wp_lenL, ↓wp_lenT, ↓wp_lenC, ↓wp_absI, ↓wp_intI, ↓wp_intB, ↓wp_intS, ↓wp_strI, ↓wp_boolI, ↓wp_boolB, ↓wp_all, ↓wp_any, ↓wp_sum, ↓wp_max2, ↓wp_min2, ↓wp_list, ↓wp_tuple, ↓wp_sorted, ↓wp_slS, ↓wp_slT, ↓wp_slC, ↓wp_slL, ↓wp_range1, ↓wp_range2, ↓wp_enum, ↓wp_zip, ↓wp_cat, ↓wp_rep, ↓wp_inSg, ↓wp_notInSg, ↓wp_inL, ↓wp_inT, ↓wp_notIn, ↓wp_isN, ↓wp_notN, tt1, tt2, tt3, tt4, tt5, tt6, tu1, tu2, tu3, tu4, tu5, tu6, tu7, tu8, tu9, tu10, tu11, tu12, tu13, tu14, tu15, tu16, tu17, tu18, tu19, tu20, tu21, tu22, tu23, tu24, asB_bl, truD_non, truD_bl, truD_int, truD_str, truD_lst, truD_tup, asI_int, asS_str, items_lst, items_tup, valS_v, valB_v, valB_own, seqD_lst, seqD_tup, seqD_cell0, lstD_lst, lstD_cell0, cellL_0, own_lst, nonB_non, nonB_bl, nonB_int, nonB_str, nonB_lst, nonB_tup, nonB_cell, nonB_obj, bools_nil, bools_cons, ints_nil, ints_cons, eqD_ii, eqD_bb, eqD_ss, eqD_nn, eqD_ni, eqD_in, eqD_nb, eqD_bn, eqD_ns, eqD_sn, eqD_is, eqD_si, eqD_bs, eqD_sb, tag_non, tag_bl, tag_int, tag_str, tag_lst, tag_tup, tag_obj, bindP_nm, bindP_tp, bindPs_nil, bindPs_cons, EG.runs, EG.run, ev, evs, evo, evr, mkE, mkL, failL, bopF, copF, bltF, lbltF, env0, wipeE, isiAny, isi1, frzS, Cell.toD, atI_nn, setAt_nn, wp_inSg, List.map_cons, List.map_nil, List.length_cons, List.length_nil, List.append_nil, List.nil_append, List.cons_append, List.replicate, List.getElem?_cons_zero, List.getElem?_cons_succ, List.set_cons_zero, List.set_cons_succ, Int.reduceNeg, Int.reducePow, nA10, nA2, le_big, Nat.reducePow, Nat.zero_add, Option.map_some, Option.bind_some, Int.reduceLE, Int.reduceToNat, Int.reduceLT, Nat.reduceLT, Nat.reduceAdd, Nat.reduceSub, true_and, and_true, decide_true, decide_false, List.length_append, List.length_map, Nat.reduceLeDiff, Nat.reduceEqDiff, Bool.not_true, Bool.not_false, decide_eq_true_eq, reduceCtorEq, Option.some.injEq, id_eq, List.all_cons, List.all_nil, List.any_cons, List.any_nil, Bool.and_true, Bool.true_and, Bool.and_false, Bool.false_and, Bool.or_true, Bool.or_false]
      exact ⟨hs, ⟨hs, hs2⟩, fin1 (by omega) e4 h3 h4⟩
    · have e4 := of_decide_eq_false e4
      omega
/-- a thing out of a list -/
theorem of_spec {xs : List D} {lv : Nat} {F : Fn} (hF : F = runF 5 (runs Γ B_pull)) {Γ' : Gam} (hΓ : Γ'.fns[0]? = some ⟨"_law_pull", 2, F, lv, []⟩) (hb : BagOk b) (h0 : xs ≠ []) (hl : xs.length ≤ 100000) (hq : ∀ d b', d ∈ xs → BagOk b' → Q d (b' :: μ)) : Wf (runF 2 (runs Γ' B_of)) [.cell 0, .lst xs] (b :: μ) Q E := by
  have hp : 0 < xs.length := List.length_pos_iff.mpr h0
  unfold B_of
  simp only [↓br_true, ↓br_false, ↓op_some, ↓wp_bind, ↓wp_pure, ↓wp_fail, ↓wp_opt, ↓wp_guard, ↓wp_noX, ↓wp_v, ↓wp_vB, ↓wp_c, ↓wp_op2, ↓wp_op2L, ↓wp_t, ↓wp_tru, ↓wp_chain, ↓wp_andT, ↓wp_orT, ↓wp_notT, ↓wp_andV, ↓wp_orV, ↓wp_notV, ↓wp_if, ↓wp_nil, ↓wp_cons, ↓wp_tup, ↓wp_lst, ↓wp_D, ↓wp_cb, ↓wp_call, ↓wp_isi, ↓wp_neg, ↓wp_sl, ↓wp_noP, ↓wp_P, ↓wp_yes, ↓wp_items, ↓wp_signs, ↓wp_comp, ↓ws_seq, ↓thn_nx, ↓thn_rt, ↓thn_br, ↓thn_ct, ↓thn_exc, ↓ws_skip, ↓ws_break, ↓ws_cont, ↓ws_retN, ↓ws_set, ↓ws_own, ↓ws_ret, ↓ws_drop, ↓ws_if, ↓ws_asg, ↓ws_par, ↓ws_setC, ↓wp_newc, ↓ws_app, ↓ws_ext, ↓ws_setI, ↓ws_frz, ↓ws_for, ↓wl_nil, ↓wl_cons, ↓wf_run, ↓retS_nx, ↓retS_rt, ↓lpS_nx, ↓lpS_ct, ↓lpS_br, ↓lpS_rt, ↓turn_nx, ↓turn_ct, ↓turn_br, ↓turn_rt, ↓wp_addI, ↓wp_addS, ↓wp_subI, ↓wp_mulI, ↓wp_divI, ↓wp_modI, ↓wp_powI, ↓wp_cmpI, ↓wp_eq, ↓wp_ne, ↓wp_negI, ↓wp_seqE, ↓wp_lstE, ↓wp_ixL, ↓wp_ixT, ↓wp_ixC, ↓wp_ixS, ↓wp_lenS, ↓wp_lenL, ↓wp_lenT, ↓wp_lenC, ↓wp_absI, ↓wp_intI, ↓wp_intB, ↓wp_intS, ↓wp_strI, ↓wp_boolI, ↓wp_boolB, ↓wp_all, ↓wp_any, ↓wp_sum, ↓wp_max2, ↓wp_min2, ↓wp_list, ↓wp_tuple, ↓wp_sorted, ↓wp_slS, ↓wp_slT, ↓wp_slC, ↓wp_slL, ↓wp_range1, ↓wp_range2, ↓wp_enum, ↓wp_zip, ↓wp_cat, ↓wp_rep, ↓wp_inSg, ↓wp_notInSg, ↓wp_inL, ↓wp_inT, ↓wp_notIn, ↓wp_isN, ↓wp_notN, tt1, tt2, tt3, tt4, tt5, tt6, tu1, tu2, tu3, tu4, tu5, tu6, tu7, tu8, tu9, tu10, tu11, tu12, tu13, tu14, tu15, tu16, tu17, tu18, tu19, tu20, tu21, tu22, tu23, tu24, asB_bl, truD_non, truD_bl, truD_int, truD_str, truD_lst, truD_tup, asI_int, asS_str, items_lst, items_tup, valS_v, valB_v, valB_own, seqD_lst, seqD_tup, seqD_cell0, lstD_lst, lstD_cell0, cellL_0, own_lst, nonB_non, nonB_bl, nonB_int, nonB_str, nonB_lst, nonB_tup, nonB_cell, nonB_obj, bools_nil, bools_cons, ints_nil, ints_cons, eqD_ii, eqD_bb, eqD_ss, eqD_nn, eqD_ni, eqD_in, eqD_nb, eqD_bn, eqD_ns, eqD_sn, eqD_is, eqD_si, eqD_bs, eqD_sb, tag_non, tag_bl, tag_int, tag_str, tag_lst, tag_tup, tag_obj, bindP_nm, bindP_tp, bindPs_nil, bindPs_cons, EG.runs, EG.run, ev, evs, evo, evr, mkE, mkL, failL, bopF, copF, bltF, lbltF, env0, wipeE, isiAny, isi1, frzS, Cell.toD, atI_nn, setAt_nn, wp_inSg, List.map_cons, List.map_nil, List.length_cons, List.length_nil, List.append_nil, List.nil_append, List.cons_append, List.replicate, List.getElem?_cons_zero, List.getElem?_cons_succ, List.set_cons_zero, List.set_cons_succ, Int.reduceNeg, Int.reducePow, nA10, nA2, le_big, Nat.reducePow, Nat.zero_add, Option.map_some, Option.bind_some, Int.reduceLE, Int.reduceToNat, Int.reduceLT, Nat.reduceLT, Nat.reduceAdd, Nat.reduceSub, true_and, and_true, decide_true, decide_false, List.length_append, List.length_map, Nat.reduceLeDiff, Nat.reduceEqDiff, Bool.not_true, Bool.not_false, decide_eq_true_eq, reduceCtorEq, Option.some.injEq, id_eq, List.all_cons, List.all_nil, List.any_cons, List.any_nil, Bool.and_true, Bool.true_and, Bool.and_false, Bool.false_and, Bool.or_true, Bool.or_false, hΓ]
  subst hF
  refine pull_spec (s := xs.length) hb (by omega) (by omega) fun r b' r1 r2 hb' => ?_
  have hlt : r.toNat < xs.length := by omega
  simp only [↓br_true, ↓br_false, ↓op_some, ↓wp_bind, ↓wp_pure, ↓wp_fail, ↓wp_opt, ↓wp_guard, ↓wp_noX, ↓wp_v, ↓wp_vB, ↓wp_c, ↓wp_op2, ↓wp_op2L, ↓wp_t, ↓wp_tru, ↓wp_chain, ↓wp_andT, ↓wp_orT, ↓wp_notT, ↓wp_andV, ↓wp_orV, ↓wp_notV, ↓wp_if, ↓wp_nil, ↓wp_cons, ↓wp_tup, ↓wp_lst, ↓wp_D, ↓wp_cb, ↓wp_call, ↓wp_isi, ↓wp_neg, ↓wp_sl, ↓wp_noP, ↓wp_P, ↓wp_yes, ↓wp_items, ↓wp_signs, ↓wp_comp, ↓ws_seq, ↓thn_nx, ↓thn_rt, ↓thn_br, ↓thn_ct, ↓thn_exc, ↓ws_skip, ↓ws_break, ↓ws_cont, ↓ws_retN, ↓ws_set, ↓ws_own, ↓ws_ret, ↓ws_drop, ↓ws_if, ↓ws_asg, ↓ws_par, ↓ws_setC, ↓wp_newc, ↓ws_app, ↓ws_ext, ↓ws_setI, ↓ws_frz, ↓ws_for, ↓wl_nil, ↓wl_cons, ↓wf_run, ↓retS_nx, ↓retS_rt, ↓lpS_nx, ↓lpS_ct, ↓lpS_br, ↓lpS_rt, ↓turn_nx, ↓turn_ct, ↓turn_br, ↓turn_rt, ↓wp_addI, ↓wp_addS, ↓wp_subI, ↓wp_mulI, ↓wp_divI, ↓wp_modI, ↓wp_powI, ↓wp_cmpI, ↓wp_eq, ↓wp_ne, ↓wp_negI, ↓wp_seqE, ↓wp_lstE, ↓wp_ixL, ↓wp_ixT, ↓wp_ixC, ↓wp_ixS, ↓wp_lenS, ↓wp_lenL, ↓wp_lenT, ↓wp_lenC, ↓wp_absI, ↓wp_intI, ↓wp_intB, ↓wp_intS, ↓wp_strI, ↓wp_boolI, ↓wp_boolB, ↓wp_all, ↓wp_any, ↓wp_sum, ↓wp_max2, ↓wp_min2, ↓wp_list, ↓wp_tuple, ↓wp_sorted, ↓wp_slS, ↓wp_slT, ↓wp_slC, ↓wp_slL, ↓wp_range1, ↓wp_range2, ↓wp_enum, ↓wp_zip, ↓wp_cat, ↓wp_rep, ↓wp_inSg, ↓wp_notInSg, ↓wp_inL, ↓wp_inT, ↓wp_notIn, ↓wp_isN, ↓wp_notN, tt1, tt2, tt3, tt4, tt5, tt6, tu1, tu2, tu3, tu4, tu5, tu6, tu7, tu8, tu9, tu10, tu11, tu12, tu13, tu14, tu15, tu16, tu17, tu18, tu19, tu20, tu21, tu22, tu23, tu24, asB_bl, truD_non, truD_bl, truD_int, truD_str, truD_lst, truD_tup, asI_int, asS_str, items_lst, items_tup, valS_v, valB_v, valB_own, seqD_lst, seqD_tup, seqD_cell0, lstD_lst, lstD_cell0, cellL_0, own_lst, nonB_non, nonB_bl, nonB_int, nonB_str, nonB_lst, nonB_tup, nonB_cell, nonB_obj, bools_nil, bools_cons, ints_nil, ints_cons, eqD_ii, eqD_bb, eqD_ss, eqD_nn, eqD_ni, eqD_in, eqD_nb, eqD_bn, eqD_ns, eqD_sn, eqD_is, eqD_si, eqD_bs, eqD_sb, tag_non, tag_bl, tag_int, tag_str, tag_lst, tag_tup, tag_obj, bindP_nm, bindP_tp, bindPs_nil, bindPs_cons, EG.runs, EG.run, ev, evs, evo, evr, mkE, mkL, failL, bopF, copF, bltF, lbltF, env0, wipeE, isiAny, isi1, frzS, Cell.toD, atI_nn, setAt_nn, wp_inSg, List.map_cons, List.map_nil, List.length_cons, List.length_nil, List.append_nil, List.nil_append, List.cons_append, List.replicate, List.getElem?_cons_zero, List.getElem?_cons_succ, List.set_cons_zero, List.set_cons_succ, Int.reduceNeg, Int.reducePow, nA10, nA2, le_big, Nat.reducePow, Nat.zero_add, Option.map_some, Option.bind_some, Int.reduceLE, Int.reduceToNat, Int.reduceLT, Nat.reduceLT, Nat.reduceAdd, Nat.reduceSub, true_and, and_true, decide_true, decide_false, List.length_append, List.length_map, Nat.reduceLeDiff, Nat.reduceEqDiff, Bool.not_true, Bool.not_false, decide_eq_true_eq, reduceCtorEq, Option.some.injEq, id_eq, List.all_cons, List.all_nil, List.any_cons, List.any_nil, Bool.and_true, Bool.true_and, Bool.and_false, Bool.false_and, Bool.or_true, Bool.or_false, atI_nn r1, List.getElem?_eq_getElem hlt]
  exact hq _ _ (List.getElem_mem hlt) hb'
/-- the same as of a tuple -/
theorem of_specT {xs : List D} {lv : Nat} {F : Fn} (hF : F = runF 5 (runs Γ B_pull)) {Γ' : Gam} (hΓ : Γ'.fns[0]? = some ⟨"_law_pull", 2, F, lv, []⟩) (hb : BagOk b) (h0 : xs ≠ []) (hl : xs.length ≤ 100000) (hq : ∀ d b', d ∈ xs → BagOk b' → Q d (b' :: μ)) : Wf (runF 2 (runs Γ' B_of)) [.cell 0, .tup xs] (b :: μ) Q E := by
  have hp : 0 < xs.length := List.length_pos_iff.mpr h0
  unfold B_of
  simp only [↓br_true, ↓br_false, ↓op_some, ↓wp_bind, ↓wp_pure, ↓wp_fail, ↓wp_opt, ↓wp_guard, ↓wp_noX, ↓wp_v, ↓wp_vB, ↓wp_c, ↓wp_op2, ↓wp_op2L, ↓wp_t, ↓wp_tru, ↓wp_chain, ↓wp_andT, ↓wp_orT, ↓wp_notT, ↓wp_andV, ↓wp_orV, ↓wp_notV, ↓wp_if, ↓wp_nil, ↓wp_cons, ↓wp_tup, ↓wp_lst, ↓wp_D, ↓wp_cb, ↓wp_call, ↓wp_isi, ↓wp_neg, ↓wp_sl, ↓wp_noP, ↓wp_P, ↓wp_yes, ↓wp_items, ↓wp_signs, ↓wp_comp, ↓ws_seq, ↓thn_nx, ↓thn_rt, ↓thn_br, ↓thn_ct, ↓thn_exc, ↓ws_skip, ↓ws_break, ↓ws_cont, ↓ws_retN, ↓ws_set, ↓ws_own, ↓ws_ret, ↓ws_drop, ↓ws_if, ↓ws_asg, ↓ws_par, ↓ws_setC, ↓wp_newc, ↓ws_app, ↓ws_ext, ↓ws_setI, ↓ws_frz, ↓ws_for, ↓wl_nil, ↓wl_cons, ↓wf_run, ↓retS_nx, ↓retS_rt, ↓lpS_nx, ↓lpS_ct, ↓lpS_br, ↓lpS_rt, ↓turn_nx, ↓turn_ct, ↓turn_br, ↓turn_rt, ↓wp_addI, ↓wp_addS, ↓wp_subI, ↓wp_mulI, ↓wp_divI, ↓wp_modI, ↓wp_powI, ↓wp_cmpI, ↓wp_eq, ↓wp_ne, ↓wp_negI, ↓wp_seqE, ↓wp_lstE, ↓wp_ixL, ↓wp_ixT, ↓wp_ixC, ↓wp_ixS, ↓wp_lenS, ↓wp_lenL, ↓wp_lenT, ↓wp_lenC, ↓wp_absI, ↓wp_intI, ↓wp_intB, ↓wp_intS, ↓wp_strI, ↓wp_boolI, ↓wp_boolB, ↓wp_all, ↓wp_any, ↓wp_sum, ↓wp_max2, ↓wp_min2, ↓wp_list, ↓wp_tuple, ↓wp_sorted, ↓wp_slS, ↓wp_slT, ↓wp_slC, ↓wp_slL, ↓wp_range1, ↓wp_range2, ↓wp_enum, ↓wp_zip, ↓wp_cat, ↓wp_rep, ↓wp_inSg, ↓wp_notInSg, ↓wp_inL, ↓wp_inT, ↓wp_notIn, ↓wp_isN, ↓wp_notN, tt1, tt2, tt3, tt4, tt5, tt6, tu1, tu2, tu3, tu4, tu5, tu6, tu7, tu8, tu9, tu10, tu11, tu12, tu13, tu14, tu15, tu16, tu17, tu18, tu19, tu20, tu21, tu22, tu23, tu24, asB_bl, truD_non, truD_bl, truD_int, truD_str, truD_lst, truD_tup, asI_int, asS_str, items_lst, items_tup, valS_v, valB_v, valB_own, seqD_lst, seqD_tup, seqD_cell0, lstD_lst, lstD_cell0, cellL_0, own_lst, nonB_non, nonB_bl, nonB_int, nonB_str, nonB_lst, nonB_tup, nonB_cell, nonB_obj, bools_nil, bools_cons, ints_nil, ints_cons, eqD_ii, eqD_bb, eqD_ss, eqD_nn, eqD_ni, eqD_in, eqD_nb, eqD_bn, eqD_ns, eqD_sn, eqD_is, eqD_si, eqD_bs, eqD_sb, tag_non, tag_bl, tag_int, tag_str, tag_lst, tag_tup, tag_obj, bindP_nm, bindP_tp, bindPs_nil, bindPs_cons, EG.runs, EG.run, ev, evs, evo, evr, mkE, mkL, failL, bopF, copF, bltF, lbltF, env0, wipeE, isiAny, isi1, frzS, Cell.toD, atI_nn, setAt_nn, wp_inSg, List.map_cons, List.map_nil, List.length_cons, List.length_nil, List.append_nil, List.nil_append, List.cons_append, List.replicate, List.getElem?_cons_zero, List.getElem?_cons_succ, List.set_cons_zero, List.set_cons_succ, Int.reduceNeg, Int.reducePow, nA10, nA2, le_big, Nat.reducePow, Nat.zero_add, Option.map_some, Option.bind_some, Int.reduceLE, Int.reduceToNat, Int.reduceLT, Nat.reduceLT, Nat.reduceAdd, Nat.reduceSub, true_and, and_true, decide_true, decide_false, List.length_append, List.length_map, Nat.reduceLeDiff, Nat.reduceEqDiff, Bool.not_true, Bool.not_false, decide_eq_true_eq, reduceCtorEq, Option.some.injEq, id_eq, List.all_cons, List.all_nil, List.any_cons, List.any_nil, Bool.and_true, Bool.true_and, Bool.and_false, Bool.false_and, Bool.or_true, Bool.or_false, hΓ]
  subst hF
  refine pull_spec (s := xs.length) hb (by omega) (by omega) fun r b' r1 r2 hb' => ?_
  have hlt : r.toNat < xs.length := by omega
  simp only [↓br_true, ↓br_false, ↓op_some, ↓wp_bind, ↓wp_pure, ↓wp_fail, ↓wp_opt, ↓wp_guard, ↓wp_noX, ↓wp_v, ↓wp_vB, ↓wp_c, ↓wp_op2, ↓wp_op2L, ↓wp_t, ↓wp_tru, ↓wp_chain, ↓wp_andT, ↓wp_orT, ↓wp_notT, ↓wp_andV, ↓wp_orV, ↓wp_notV, ↓wp_if, ↓wp_nil, ↓wp_cons, ↓wp_tup, ↓wp_lst, ↓wp_D, ↓wp_cb, ↓wp_call, ↓wp_isi, ↓wp_neg, ↓wp_sl, ↓wp_noP, ↓wp_P, ↓wp_yes, ↓wp_items, ↓wp_signs, ↓wp_comp, ↓ws_seq, ↓thn_nx, ↓thn_rt, ↓thn_br, ↓thn_ct, ↓thn_exc, ↓ws_skip, ↓ws_break, ↓ws_cont, ↓ws_retN, ↓ws_set, ↓ws_own, ↓ws_ret, ↓ws_drop, ↓ws_if, ↓ws_asg, ↓ws_par, ↓ws_setC, ↓wp_newc, ↓ws_app, ↓ws_ext, ↓ws_setI, ↓ws_frz, ↓ws_for, ↓wl_nil, ↓wl_cons, ↓wf_run, ↓retS_nx, ↓retS_rt, ↓lpS_nx, ↓lpS_ct, ↓lpS_br, ↓lpS_rt, ↓turn_nx, ↓turn_ct, ↓turn_br, ↓turn_rt, ↓wp_addI, ↓wp_addS, ↓wp_subI, ↓wp_mulI, ↓wp_divI, ↓wp_modI, ↓wp_powI, ↓wp_cmpI, ↓wp_eq, ↓wp_ne, ↓wp_negI, ↓wp_seqE, ↓wp_lstE, ↓wp_ixL, ↓wp_ixT, ↓wp_ixC, ↓wp_ixS, ↓wp_lenS, ↓wp_lenL, ↓wp_lenT, ↓wp_lenC, ↓wp_absI, ↓wp_intI, ↓wp_intB, ↓wp_intS, ↓wp_strI, ↓wp_boolI, ↓wp_boolB, ↓wp_all, ↓wp_any, ↓wp_sum, ↓wp_max2, ↓wp_min2, ↓wp_list, ↓wp_tuple, ↓wp_sorted, ↓wp_slS, ↓wp_slT, ↓wp_slC, ↓wp_slL, ↓wp_range1, ↓wp_range2, ↓wp_enum, ↓wp_zip, ↓wp_cat, ↓wp_rep, ↓wp_inSg, ↓wp_notInSg, ↓wp_inL, ↓wp_inT, ↓wp_notIn, ↓wp_isN, ↓wp_notN, tt1, tt2, tt3, tt4, tt5, tt6, tu1, tu2, tu3, tu4, tu5, tu6, tu7, tu8, tu9, tu10, tu11, tu12, tu13, tu14, tu15, tu16, tu17, tu18, tu19, tu20, tu21, tu22, tu23, tu24, asB_bl, truD_non, truD_bl, truD_int, truD_str, truD_lst, truD_tup, asI_int, asS_str, items_lst, items_tup, valS_v, valB_v, valB_own, seqD_lst, seqD_tup, seqD_cell0, lstD_lst, lstD_cell0, cellL_0, own_lst, nonB_non, nonB_bl, nonB_int, nonB_str, nonB_lst, nonB_tup, nonB_cell, nonB_obj, bools_nil, bools_cons, ints_nil, ints_cons, eqD_ii, eqD_bb, eqD_ss, eqD_nn, eqD_ni, eqD_in, eqD_nb, eqD_bn, eqD_ns, eqD_sn, eqD_is, eqD_si, eqD_bs, eqD_sb, tag_non, tag_bl, tag_int, tag_str, tag_lst, tag_tup, tag_obj, bindP_nm, bindP_tp, bindPs_nil, bindPs_cons, EG.runs, EG.run, ev, evs, evo, evr, mkE, mkL, failL, bopF, copF, bltF, lbltF, env0, wipeE, isiAny, isi1, frzS, Cell.toD, atI_nn, setAt_nn, wp_inSg, List.map_cons, List.map_nil, List.length_cons, List.length_nil, List.append_nil, List.nil_append, List.cons_append, List.replicate, List.getElem?_cons_zero, List.getElem?_cons_succ, List.set_cons_zero, List.set_cons_succ, Int.reduceNeg, Int.reducePow, nA10, nA2, le_big, Nat.reducePow, Nat.zero_add, Option.map_some, Option.bind_some, Int.reduceLE, Int.reduceToNat, Int.reduceLT, Nat.reduceLT, Nat.reduceAdd, Nat.reduceSub, true_and, and_true, decide_true, decide_false, List.length_append, List.length_map, Nat.reduceLeDiff, Nat.reduceEqDiff, Bool.not_true, Bool.not_false, decide_eq_true_eq, reduceCtorEq, Option.some.injEq, id_eq, List.all_cons, List.all_nil, List.any_cons, List.any_nil, Bool.and_true, Bool.true_and, Bool.and_false, Bool.false_and, Bool.or_true, Bool.or_false, atI_nn r1, List.getElem?_eq_getElem hlt]
  exact hq _ _ (List.getElem_mem hlt) hb'
/-- a text's sign -/
theorem of_specS {x : Str} {lv : Nat} {F : Fn} (hF : F = runF 5 (runs Γ B_pull)) {Γ' : Gam} (hΓ : Γ'.fns[0]? = some ⟨"_law_pull", 2, F, lv, []⟩) (hb : BagOk b) (h0 : 0 < x.length) (hl : x.length ≤ 100000) (hq : ∀ c b', c ∈ x.cps.toList → BagOk b' → Q (.str ⟨#[c]⟩) (b' :: μ)) : Wf (runF 2 (runs Γ' B_of)) [.cell 0, .str x] (b :: μ) Q E := by
  have hx : x.length = x.cps.toList.length := rfl
  unfold B_of
  simp only [↓br_true, ↓br_false, ↓op_some, ↓wp_bind, ↓wp_pure, ↓wp_fail, ↓wp_opt, ↓wp_guard, ↓wp_noX, ↓wp_v, ↓wp_vB, ↓wp_c, ↓wp_op2, ↓wp_op2L, ↓wp_t, ↓wp_tru, ↓wp_chain, ↓wp_andT, ↓wp_orT, ↓wp_notT, ↓wp_andV, ↓wp_orV, ↓wp_notV, ↓wp_if, ↓wp_nil, ↓wp_cons, ↓wp_tup, ↓wp_lst, ↓wp_D, ↓wp_cb, ↓wp_call, ↓wp_isi, ↓wp_neg, ↓wp_sl, ↓wp_noP, ↓wp_P, ↓wp_yes, ↓wp_items, ↓wp_signs, ↓wp_comp, ↓ws_seq, ↓thn_nx, ↓thn_rt, ↓thn_br, ↓thn_ct, ↓thn_exc, ↓ws_skip, ↓ws_break, ↓ws_cont, ↓ws_retN, ↓ws_set, ↓ws_own, ↓ws_ret, ↓ws_drop, ↓ws_if, ↓ws_asg, ↓ws_par, ↓ws_setC, ↓wp_newc, ↓ws_app, ↓ws_ext, ↓ws_setI, ↓ws_frz, ↓ws_for, ↓wl_nil, ↓wl_cons, ↓wf_run, ↓retS_nx, ↓retS_rt, ↓lpS_nx, ↓lpS_ct, ↓lpS_br, ↓lpS_rt, ↓turn_nx, ↓turn_ct, ↓turn_br, ↓turn_rt, ↓wp_addI, ↓wp_addS, ↓wp_subI, ↓wp_mulI, ↓wp_divI, ↓wp_modI, ↓wp_powI, ↓wp_cmpI, ↓wp_eq, ↓wp_ne, ↓wp_negI, ↓wp_seqE, ↓wp_lstE, ↓wp_ixL, ↓wp_ixT, ↓wp_ixC, ↓wp_ixS, ↓wp_lenS, ↓wp_lenL, ↓wp_lenT, ↓wp_lenC, ↓wp_absI, ↓wp_intI, ↓wp_intB, ↓wp_intS, ↓wp_strI, ↓wp_boolI, ↓wp_boolB, ↓wp_all, ↓wp_any, ↓wp_sum, ↓wp_max2, ↓wp_min2, ↓wp_list, ↓wp_tuple, ↓wp_sorted, ↓wp_slS, ↓wp_slT, ↓wp_slC, ↓wp_slL, ↓wp_range1, ↓wp_range2, ↓wp_enum, ↓wp_zip, ↓wp_cat, ↓wp_rep, ↓wp_inSg, ↓wp_notInSg, ↓wp_inL, ↓wp_inT, ↓wp_notIn, ↓wp_isN, ↓wp_notN, tt1, tt2, tt3, tt4, tt5, tt6, tu1, tu2, tu3, tu4, tu5, tu6, tu7, tu8, tu9, tu10, tu11, tu12, tu13, tu14, tu15, tu16, tu17, tu18, tu19, tu20, tu21, tu22, tu23, tu24, asB_bl, truD_non, truD_bl, truD_int, truD_str, truD_lst, truD_tup, asI_int, asS_str, items_lst, items_tup, valS_v, valB_v, valB_own, seqD_lst, seqD_tup, seqD_cell0, lstD_lst, lstD_cell0, cellL_0, own_lst, nonB_non, nonB_bl, nonB_int, nonB_str, nonB_lst, nonB_tup, nonB_cell, nonB_obj, bools_nil, bools_cons, ints_nil, ints_cons, eqD_ii, eqD_bb, eqD_ss, eqD_nn, eqD_ni, eqD_in, eqD_nb, eqD_bn, eqD_ns, eqD_sn, eqD_is, eqD_si, eqD_bs, eqD_sb, tag_non, tag_bl, tag_int, tag_str, tag_lst, tag_tup, tag_obj, bindP_nm, bindP_tp, bindPs_nil, bindPs_cons, EG.runs, EG.run, ev, evs, evo, evr, mkE, mkL, failL, bopF, copF, bltF, lbltF, env0, wipeE, isiAny, isi1, frzS, Cell.toD, atI_nn, setAt_nn, wp_inSg, List.map_cons, List.map_nil, List.length_cons, List.length_nil, List.append_nil, List.nil_append, List.cons_append, List.replicate, List.getElem?_cons_zero, List.getElem?_cons_succ, List.set_cons_zero, List.set_cons_succ, Int.reduceNeg, Int.reducePow, nA10, nA2, le_big, Nat.reducePow, Nat.zero_add, Option.map_some, Option.bind_some, Int.reduceLE, Int.reduceToNat, Int.reduceLT, Nat.reduceLT, Nat.reduceAdd, Nat.reduceSub, true_and, and_true, decide_true, decide_false, List.length_append, List.length_map, Nat.reduceLeDiff, Nat.reduceEqDiff, Bool.not_true, Bool.not_false, decide_eq_true_eq, reduceCtorEq, Option.some.injEq, id_eq, List.all_cons, List.all_nil, List.any_cons, List.any_nil, Bool.and_true, Bool.true_and, Bool.and_false, Bool.false_and, Bool.or_true, Bool.or_false, hΓ]
  subst hF
  refine pull_spec (s := x.length) hb (by omega) (by omega) fun r b' r1 r2 hb' => ?_
  have hlt : r.toNat < x.cps.toList.length := by omega
  simp only [↓br_true, ↓br_false, ↓op_some, ↓wp_bind, ↓wp_pure, ↓wp_fail, ↓wp_opt, ↓wp_guard, ↓wp_noX, ↓wp_v, ↓wp_vB, ↓wp_c, ↓wp_op2, ↓wp_op2L, ↓wp_t, ↓wp_tru, ↓wp_chain, ↓wp_andT, ↓wp_orT, ↓wp_notT, ↓wp_andV, ↓wp_orV, ↓wp_notV, ↓wp_if, ↓wp_nil, ↓wp_cons, ↓wp_tup, ↓wp_lst, ↓wp_D, ↓wp_cb, ↓wp_call, ↓wp_isi, ↓wp_neg, ↓wp_sl, ↓wp_noP, ↓wp_P, ↓wp_yes, ↓wp_items, ↓wp_signs, ↓wp_comp, ↓ws_seq, ↓thn_nx, ↓thn_rt, ↓thn_br, ↓thn_ct, ↓thn_exc, ↓ws_skip, ↓ws_break, ↓ws_cont, ↓ws_retN, ↓ws_set, ↓ws_own, ↓ws_ret, ↓ws_drop, ↓ws_if, ↓ws_asg, ↓ws_par, ↓ws_setC, ↓wp_newc, ↓ws_app, ↓ws_ext, ↓ws_setI, ↓ws_frz, ↓ws_for, ↓wl_nil, ↓wl_cons, ↓wf_run, ↓retS_nx, ↓retS_rt, ↓lpS_nx, ↓lpS_ct, ↓lpS_br, ↓lpS_rt, ↓turn_nx, ↓turn_ct, ↓turn_br, ↓turn_rt, ↓wp_addI, ↓wp_addS, ↓wp_subI, ↓wp_mulI, ↓wp_divI, ↓wp_modI, ↓wp_powI, ↓wp_cmpI, ↓wp_eq, ↓wp_ne, ↓wp_negI, ↓wp_seqE, ↓wp_lstE, ↓wp_ixL, ↓wp_ixT, ↓wp_ixC, ↓wp_ixS, ↓wp_lenS, ↓wp_lenL, ↓wp_lenT, ↓wp_lenC, ↓wp_absI, ↓wp_intI, ↓wp_intB, ↓wp_intS, ↓wp_strI, ↓wp_boolI, ↓wp_boolB, ↓wp_all, ↓wp_any, ↓wp_sum, ↓wp_max2, ↓wp_min2, ↓wp_list, ↓wp_tuple, ↓wp_sorted, ↓wp_slS, ↓wp_slT, ↓wp_slC, ↓wp_slL, ↓wp_range1, ↓wp_range2, ↓wp_enum, ↓wp_zip, ↓wp_cat, ↓wp_rep, ↓wp_inSg, ↓wp_notInSg, ↓wp_inL, ↓wp_inT, ↓wp_notIn, ↓wp_isN, ↓wp_notN, tt1, tt2, tt3, tt4, tt5, tt6, tu1, tu2, tu3, tu4, tu5, tu6, tu7, tu8, tu9, tu10, tu11, tu12, tu13, tu14, tu15, tu16, tu17, tu18, tu19, tu20, tu21, tu22, tu23, tu24, asB_bl, truD_non, truD_bl, truD_int, truD_str, truD_lst, truD_tup, asI_int, asS_str, items_lst, items_tup, valS_v, valB_v, valB_own, seqD_lst, seqD_tup, seqD_cell0, lstD_lst, lstD_cell0, cellL_0, own_lst, nonB_non, nonB_bl, nonB_int, nonB_str, nonB_lst, nonB_tup, nonB_cell, nonB_obj, bools_nil, bools_cons, ints_nil, ints_cons, eqD_ii, eqD_bb, eqD_ss, eqD_nn, eqD_ni, eqD_in, eqD_nb, eqD_bn, eqD_ns, eqD_sn, eqD_is, eqD_si, eqD_bs, eqD_sb, tag_non, tag_bl, tag_int, tag_str, tag_lst, tag_tup, tag_obj, bindP_nm, bindP_tp, bindPs_nil, bindPs_cons, EG.runs, EG.run, ev, evs, evo, evr, mkE, mkL, failL, bopF, copF, bltF, lbltF, env0, wipeE, isiAny, isi1, frzS, Cell.toD, atI_nn, setAt_nn, wp_inSg, List.map_cons, List.map_nil, List.length_cons, List.length_nil, List.append_nil, List.nil_append, List.cons_append, List.replicate, List.getElem?_cons_zero, List.getElem?_cons_succ, List.set_cons_zero, List.set_cons_succ, Int.reduceNeg, Int.reducePow, nA10, nA2, le_big, Nat.reducePow, Nat.zero_add, Option.map_some, Option.bind_some, Int.reduceLE, Int.reduceToNat, Int.reduceLT, Nat.reduceLT, Nat.reduceAdd, Nat.reduceSub, true_and, and_true, decide_true, decide_false, List.length_append, List.length_map, Nat.reduceLeDiff, Nat.reduceEqDiff, Bool.not_true, Bool.not_false, decide_eq_true_eq, reduceCtorEq, Option.some.injEq, id_eq, List.all_cons, List.all_nil, List.any_cons, List.any_nil, Bool.and_true, Bool.true_and, Bool.and_false, Bool.false_and, Bool.or_true, Bool.or_false, atI_nn r1, List.getElem?_eq_getElem hlt]
  exact hq _ _ (List.getElem_mem hlt) hb'
theorem mem_cutL {α : Type} {xs : List α} {lo hi : Option Int} {x : α} (h : x ∈ cutL xs lo hi) : x ∈ xs := List.mem_of_mem_drop (List.mem_of_mem_take h)
theorem cut_ints (ns : List Int) (hi : Option Int) : ∃ ms : List Int, cutL (ns.map D.int) none hi = ms.map D.int := ⟨ns.take (HT.sIx ns.length ns.length hi), by
  unfold cutL
  simp [HT.sIx_none, List.map_take]⟩
/-- the bag out of the script -/
theorem bag_spec {ns : List Int} (hq : ∀ b', BagOk b' → Q (.cell 0) [b']) : Wf (runF 3 (runs Γ B_bag)) [.scr ns] [] Q E := by
  obtain ⟨ms, hm⟩ := cut_ints ns (some 63)
  unfold B_bag
  simp only [↓br_true, ↓br_false, ↓op_some, ↓wp_bind, ↓wp_pure, ↓wp_fail, ↓wp_opt, ↓wp_guard, ↓wp_noX, ↓wp_v, ↓wp_vB, ↓wp_c, ↓wp_op2, ↓wp_op2L, ↓wp_t, ↓wp_tru, ↓wp_chain, ↓wp_andT, ↓wp_orT, ↓wp_notT, ↓wp_andV, ↓wp_orV, ↓wp_notV, ↓wp_if, ↓wp_nil, ↓wp_cons, ↓wp_tup, ↓wp_lst, ↓wp_D, ↓wp_cb, ↓wp_call, ↓wp_isi, ↓wp_neg, ↓wp_sl, ↓wp_noP, ↓wp_P, ↓wp_yes, ↓wp_items, ↓wp_signs, ↓wp_comp, ↓ws_seq, ↓thn_nx, ↓thn_rt, ↓thn_br, ↓thn_ct, ↓thn_exc, ↓ws_skip, ↓ws_break, ↓ws_cont, ↓ws_retN, ↓ws_set, ↓ws_own, ↓ws_ret, ↓ws_drop, ↓ws_if, ↓ws_asg, ↓ws_par, ↓ws_setC, ↓wp_newc, ↓ws_app, ↓ws_ext, ↓ws_setI, ↓ws_frz, ↓ws_for, ↓wl_nil, ↓wl_cons, ↓wf_run, ↓retS_nx, ↓retS_rt, ↓lpS_nx, ↓lpS_ct, ↓lpS_br, ↓lpS_rt, ↓turn_nx, ↓turn_ct, ↓turn_br, ↓turn_rt, ↓wp_addI, ↓wp_addS, ↓wp_subI, ↓wp_mulI, ↓wp_divI, ↓wp_modI, ↓wp_powI, ↓wp_cmpI, ↓wp_eq, ↓wp_ne, ↓wp_negI, ↓wp_seqE, ↓wp_lstE, ↓wp_ixL, ↓wp_ixT, ↓wp_ixC, ↓wp_ixS, ↓wp_lenS, ↓wp_lenL, ↓wp_lenT, ↓wp_lenC, ↓wp_absI, ↓wp_intI, ↓wp_intB, ↓wp_intS, ↓wp_strI, ↓wp_boolI, ↓wp_boolB, ↓wp_all, ↓wp_any, ↓wp_sum, ↓wp_max2, ↓wp_min2, ↓wp_list, ↓wp_tuple, ↓wp_sorted, ↓wp_slS, ↓wp_slT, ↓wp_slC, ↓wp_slL, ↓wp_range1, ↓wp_range2, ↓wp_enum, ↓wp_zip, ↓wp_cat, ↓wp_rep, ↓wp_inSg, ↓wp_notInSg, ↓wp_inL, ↓wp_inT, ↓wp_notIn, ↓wp_isN, ↓wp_notN, tt1, tt2, tt3, tt4, tt5, tt6, tu1, tu2, tu3, tu4, tu5, tu6, tu7, tu8, tu9, tu10, tu11, tu12, tu13, tu14, tu15, tu16, tu17, tu18, tu19, tu20, tu21, tu22, tu23, tu24, asB_bl, truD_non, truD_bl, truD_int, truD_str, truD_lst, truD_tup, asI_int, asS_str, items_lst, items_tup, valS_v, valB_v, valB_own, seqD_lst, seqD_tup, seqD_cell0, lstD_lst, lstD_cell0, cellL_0, own_lst, nonB_non, nonB_bl, nonB_int, nonB_str, nonB_lst, nonB_tup, nonB_cell, nonB_obj, bools_nil, bools_cons, ints_nil, ints_cons, eqD_ii, eqD_bb, eqD_ss, eqD_nn, eqD_ni, eqD_in, eqD_nb, eqD_bn, eqD_ns, eqD_sn, eqD_is, eqD_si, eqD_bs, eqD_sb, tag_non, tag_bl, tag_int, tag_str, tag_lst, tag_tup, tag_obj, bindP_nm, bindP_tp, bindPs_nil, bindPs_cons, EG.runs, EG.run, ev, evs, evo, evr, mkE, mkL, failL, bopF, copF, bltF, lbltF, env0, wipeE, isiAny, isi1, frzS, Cell.toD, atI_nn, setAt_nn, wp_inSg, List.map_cons, List.map_nil, List.length_cons, List.length_nil, List.append_nil, List.nil_append, List.cons_append, List.replicate, List.getElem?_cons_zero, List.getElem?_cons_succ, List.set_cons_zero, List.set_cons_succ, Int.reduceNeg, Int.reducePow, nA10, nA2, le_big, Nat.reducePow, Nat.zero_add, Option.map_some, Option.bind_some, Int.reduceLE, Int.reduceToNat, Int.reduceLT, Nat.reduceLT, Nat.reduceAdd, Nat.reduceSub, true_and, and_true, decide_true, decide_false, List.length_append, List.length_map, Nat.reduceLeDiff, Nat.reduceEqDiff, Bool.not_true, Bool.not_false, decide_eq_true_eq, reduceCtorEq, Option.some.injEq, id_eq, List.all_cons, List.all_nil, List.any_cons, List.any_nil, Bool.and_true, Bool.true_and, Bool.and_false, Bool.false_and, Bool.or_true, Bool.or_false, hm]
  refine wl_inv (fun r env μ => (∃ ks : List Int, r = ks.map D.int) ∧ μ = [] ∧ ∃ (z : Int) (s : Slot), 0 ≤ z ∧ z < 2147483563 ∧ env = [.v (.scr ns), .v (.int z), s]) ?_ ?_ _ _ _ ⟨⟨ms, rfl⟩, rfl, 10016, _, by decide, by decide, rfl⟩
  · rintro d r env μ ⟨⟨ks, hk⟩, rfl, z, s, h1, h2, rfl⟩
    cases ks with
    | nil => cases hk
    | cons k ks =>
      cases hk
      refine ⟨_, bindP_nm, ?_⟩
      simp only [↓br_true, ↓br_false, ↓op_some, ↓wp_bind, ↓wp_pure, ↓wp_fail, ↓wp_opt, ↓wp_guard, ↓wp_noX, ↓wp_v, ↓wp_vB, ↓wp_c, ↓wp_op2, ↓wp_op2L, ↓wp_t, ↓wp_tru, ↓wp_chain, ↓wp_andT, ↓wp_orT, ↓wp_notT, ↓wp_andV, ↓wp_orV, ↓wp_notV, ↓wp_if, ↓wp_nil, ↓wp_cons, ↓wp_tup, ↓wp_lst, ↓wp_D, ↓wp_cb, ↓wp_call, ↓wp_isi, ↓wp_neg, ↓wp_sl, ↓wp_noP, ↓wp_P, ↓wp_yes, ↓wp_items, ↓wp_signs, ↓wp_comp, ↓ws_seq, ↓thn_nx, ↓thn_rt, ↓thn_br, ↓thn_ct, ↓thn_exc, ↓ws_skip, ↓ws_break, ↓ws_cont, ↓ws_retN, ↓ws_set, ↓ws_own, ↓ws_ret, ↓ws_drop, ↓ws_if, ↓ws_asg, ↓ws_par, ↓ws_setC, ↓wp_newc, ↓ws_app, ↓ws_ext, ↓ws_setI, ↓ws_frz, ↓ws_for, ↓wl_nil, ↓wl_cons, ↓wf_run, ↓retS_nx, ↓retS_rt, ↓lpS_nx, ↓lpS_ct, ↓lpS_br, ↓lpS_rt, ↓turn_nx, ↓turn_ct, ↓turn_br, ↓turn_rt, ↓wp_addI, ↓wp_addS, ↓wp_subI, ↓wp_mulI, ↓wp_divI, ↓wp_modI, ↓wp_powI, ↓wp_cmpI, ↓wp_eq, ↓wp_ne, ↓wp_negI, ↓wp_seqE, ↓wp_lstE, ↓wp_ixL, ↓wp_ixT, ↓wp_ixC, ↓wp_ixS, ↓wp_lenS, ↓wp_lenL, ↓wp_lenT, ↓wp_lenC, ↓wp_absI, ↓wp_intI, ↓wp_intB, ↓wp_intS, ↓wp_strI, ↓wp_boolI, ↓wp_boolB, ↓wp_all, ↓wp_any, ↓wp_sum, ↓wp_max2, ↓wp_min2, ↓wp_list, ↓wp_tuple, ↓wp_sorted, ↓wp_slS, ↓wp_slT, ↓wp_slC, ↓wp_slL, ↓wp_range1, ↓wp_range2, ↓wp_enum, ↓wp_zip, ↓wp_cat, ↓wp_rep, ↓wp_inSg, ↓wp_notInSg, ↓wp_inL, ↓wp_inT, ↓wp_notIn, ↓wp_isN, ↓wp_notN, tt1, tt2, tt3, tt4, tt5, tt6, tu1, tu2, tu3, tu4, tu5, tu6, tu7, tu8, tu9, tu10, tu11, tu12, tu13, tu14, tu15, tu16, tu17, tu18, tu19, tu20, tu21, tu22, tu23, tu24, asB_bl, truD_non, truD_bl, truD_int, truD_str, truD_lst, truD_tup, asI_int, asS_str, items_lst, items_tup, valS_v, valB_v, valB_own, seqD_lst, seqD_tup, seqD_cell0, lstD_lst, lstD_cell0, cellL_0, own_lst, nonB_non, nonB_bl, nonB_int, nonB_str, nonB_lst, nonB_tup, nonB_cell, nonB_obj, bools_nil, bools_cons, ints_nil, ints_cons, eqD_ii, eqD_bb, eqD_ss, eqD_nn, eqD_ni, eqD_in, eqD_nb, eqD_bn, eqD_ns, eqD_sn, eqD_is, eqD_si, eqD_bs, eqD_sb, tag_non, tag_bl, tag_int, tag_str, tag_lst, tag_tup, tag_obj, bindP_nm, bindP_tp, bindPs_nil, bindPs_cons, EG.runs, EG.run, ev, evs, evo, evr, mkE, mkL, failL, bopF, copF, bltF, lbltF, env0, wipeE, isiAny, isi1, frzS, Cell.toD, atI_nn, setAt_nn, wp_inSg, List.map_cons, List.map_nil, List.length_cons, List.length_nil, List.append_nil, List.nil_append, List.cons_append, List.replicate, List.getElem?_cons_zero, List.getElem?_cons_succ, List.set_cons_zero, List.set_cons_succ, Int.reduceNeg, Int.reducePow, nA10, nA2, le_big, Nat.reducePow, Nat.zero_add, Option.map_some, Option.bind_some, Int.reduceLE, Int.reduceToNat, Int.reduceLT, Nat.reduceLT, Nat.reduceAdd, Nat.reduceSub, true_and, and_true, decide_true, decide_false, List.length_append, List.length_map, Nat.reduceLeDiff, Nat.reduceEqDiff, Bool.not_true, Bool.not_false, decide_eq_true_eq, reduceCtorEq, Option.some.injEq, id_eq, List.all_cons, List.all_nil, List.any_cons, List.any_nil, Bool.and_true, Bool.true_and, Bool.and_false, Bool.false_and, Bool.or_true, Bool.or_false]
      exact ⟨okMul_r (by omega) (by omega), ⟨ks, rfl⟩, _, _, Int.emod_nonneg _ (by omega), Int.emod_lt_of_pos _ (by omega), rfl⟩
  · rintro env μ ⟨_, rfl, z, s, h1, h2, rfl⟩
    simp only [↓br_true, ↓br_false, ↓op_some, ↓wp_bind, ↓wp_pure, ↓wp_fail, ↓wp_opt, ↓wp_guard, ↓wp_noX, ↓wp_v, ↓wp_vB, ↓wp_c, ↓wp_op2, ↓wp_op2L, ↓wp_t, ↓wp_tru, ↓wp_chain, ↓wp_andT, ↓wp_orT, ↓wp_notT, ↓wp_andV, ↓wp_orV, ↓wp_notV, ↓wp_if, ↓wp_nil, ↓wp_cons, ↓wp_tup, ↓wp_lst, ↓wp_D, ↓wp_cb, ↓wp_call, ↓wp_isi, ↓wp_neg, ↓wp_sl, ↓wp_noP, ↓wp_P, ↓wp_yes, ↓wp_items, ↓wp_signs, ↓wp_comp, ↓ws_seq, ↓thn_nx, ↓thn_rt, ↓thn_br, ↓thn_ct, ↓thn_exc, ↓ws_skip, ↓ws_break, ↓ws_cont, ↓ws_retN, ↓ws_set, ↓ws_own, ↓ws_ret, ↓ws_drop, ↓ws_if, ↓ws_asg, ↓ws_par, ↓ws_setC, ↓wp_newc, ↓ws_app, ↓ws_ext, ↓ws_setI, ↓ws_frz, ↓ws_for, ↓wl_nil, ↓wl_cons, ↓wf_run, ↓retS_nx, ↓retS_rt, ↓lpS_nx, ↓lpS_ct, ↓lpS_br, ↓lpS_rt, ↓turn_nx, ↓turn_ct, ↓turn_br, ↓turn_rt, ↓wp_addI, ↓wp_addS, ↓wp_subI, ↓wp_mulI, ↓wp_divI, ↓wp_modI, ↓wp_powI, ↓wp_cmpI, ↓wp_eq, ↓wp_ne, ↓wp_negI, ↓wp_seqE, ↓wp_lstE, ↓wp_ixL, ↓wp_ixT, ↓wp_ixC, ↓wp_ixS, ↓wp_lenS, ↓wp_lenL, ↓wp_lenT, ↓wp_lenC, ↓wp_absI, ↓wp_intI, ↓wp_intB, ↓wp_intS, ↓wp_strI, ↓wp_boolI, ↓wp_boolB, ↓wp_all, ↓wp_any, ↓wp_sum, ↓wp_max2, ↓wp_min2, ↓wp_list, ↓wp_tuple, ↓wp_sorted, ↓wp_slS, ↓wp_slT, ↓wp_slC, ↓wp_slL, ↓wp_range1, ↓wp_range2, ↓wp_enum, ↓wp_zip, ↓wp_cat, ↓wp_rep, ↓wp_inSg, ↓wp_notInSg, ↓wp_inL, ↓wp_inT, ↓wp_notIn, ↓wp_isN, ↓wp_notN, tt1, tt2, tt3, tt4, tt5, tt6, tu1, tu2, tu3, tu4, tu5, tu6, tu7, tu8, tu9, tu10, tu11, tu12, tu13, tu14, tu15, tu16, tu17, tu18, tu19, tu20, tu21, tu22, tu23, tu24, asB_bl, truD_non, truD_bl, truD_int, truD_str, truD_lst, truD_tup, asI_int, asS_str, items_lst, items_tup, valS_v, valB_v, valB_own, seqD_lst, seqD_tup, seqD_cell0, lstD_lst, lstD_cell0, cellL_0, own_lst, nonB_non, nonB_bl, nonB_int, nonB_str, nonB_lst, nonB_tup, nonB_cell, nonB_obj, bools_nil, bools_cons, ints_nil, ints_cons, eqD_ii, eqD_bb, eqD_ss, eqD_nn, eqD_ni, eqD_in, eqD_nb, eqD_bn, eqD_ns, eqD_sn, eqD_is, eqD_si, eqD_bs, eqD_sb, tag_non, tag_bl, tag_int, tag_str, tag_lst, tag_tup, tag_obj, bindP_nm, bindP_tp, bindPs_nil, bindPs_cons, EG.runs, EG.run, ev, evs, evo, evr, mkE, mkL, failL, bopF, copF, bltF, lbltF, env0, wipeE, isiAny, isi1, frzS, Cell.toD, atI_nn, setAt_nn, wp_inSg, List.map_cons, List.map_nil, List.length_cons, List.length_nil, List.append_nil, List.nil_append, List.cons_append, List.replicate, List.getElem?_cons_zero, List.getElem?_cons_succ, List.set_cons_zero, List.set_cons_succ, Int.reduceNeg, Int.reducePow, nA10, nA2, le_big, Nat.reducePow, Nat.zero_add, Option.map_some, Option.bind_some, Int.reduceLE, Int.reduceToNat, Int.reduceLT, Nat.reduceLT, Nat.reduceAdd, Nat.reduceSub, true_and, and_true, decide_true, decide_false, List.length_append, List.length_map, Nat.reduceLeDiff, Nat.reduceEqDiff, Bool.not_true, Bool.not_false, decide_eq_true_eq, reduceCtorEq, Option.some.injEq, id_eq, List.all_cons, List.all_nil, List.any_cons, List.any_nil, Bool.and_true, Bool.true_and, Bool.and_false, Bool.false_and, Bool.or_true, Bool.or_false, hm]
    exact hq _ ⟨ms, _, _, _, _, rfl, by decide, by decide, h1, h2, by decide⟩
/-! _law_same of a thing with itself -/
def sameB : Nat → D → Bool
  | 0, _ => false
  | n + 1, .lst xs => xs.all (sameB n)
  | _ + 1, .non => true
  | _ + 1, .bl _ => true
  | _ + 1, .int _ => true
  | _ + 1, .str _ => true
  | _, _ => false
theorem mem_zipL : ∀ {xs : List D} {d : D}, d ∈ zipL xs xs → ∃ a ∈ xs, d = .tup [a, a]
  | [], d, h => nomatch h
  | x :: r, d, h => by
    rcases List.mem_cons.mp h with rfl | h
    · exact ⟨x, List.mem_cons_self .., rfl⟩
    · obtain ⟨a, h1, h2⟩ := mem_zipL (xs := r) h
      exact ⟨a, List.mem_cons_of_mem _ h1, h2⟩
theorem bools_true : ∀ (xs : List D), ∃ bs, boolsD (xs.map fun _ => D.bl true) = some bs ∧ bs.all id = true
  | [] => ⟨[], rfl, rfl⟩
  | x :: r => by
    obtain ⟨bs, h1, h2⟩ := bools_true r
    exact ⟨true :: bs, by rw [List.map_cons, bools_cons, h1]; rfl, by rw [List.all_cons, h2]; rfl⟩
theorem same_spec {F : Nat → Fn} {G : Nat → Gam} {lv : Nat → Nat} (hF : ∀ n, F (n + 1) = runF 4 (runs (G n) B_same)) (hG : ∀ n, (G n).fns[0]? = some ⟨"_law_same", 2, F n, lv n, []⟩) :
    ∀ (n : Nat) (d : D) (Q : D → Mu → Prop) (E : PX) (μ : Mu), sameB n d = true → Q (.bl true) μ → Wf (F n) [d, d] μ Q E
  | 0, d, Q, E, μ, h, _ => nomatch h
  | n + 1, d, Q, E, μ, h, hq => by
    rw [hF]
    unfold B_same
    cases d with
    | lst xs =>
      have h : xs.all (sameB n) = true := h
      simp only [↓br_true, ↓br_false, ↓op_some, ↓wp_bind, ↓wp_pure, ↓wp_fail, ↓wp_opt, ↓wp_guard, ↓wp_noX, ↓wp_v, ↓wp_vB, ↓wp_c, ↓wp_op2, ↓wp_op2L, ↓wp_t, ↓wp_tru, ↓wp_chain, ↓wp_andT, ↓wp_orT, ↓wp_notT, ↓wp_andV, ↓wp_orV, ↓wp_notV, ↓wp_if, ↓wp_nil, ↓wp_cons, ↓wp_tup, ↓wp_lst, ↓wp_D, ↓wp_cb, ↓wp_call, ↓wp_isi, ↓wp_neg, ↓wp_sl, ↓wp_noP, ↓wp_P, ↓wp_yes, ↓wp_items, ↓wp_signs, ↓wp_comp, ↓ws_seq, ↓thn_nx, ↓thn_rt, ↓thn_br, ↓thn_ct, ↓thn_exc, ↓ws_skip, ↓ws_break, ↓ws_cont, ↓ws_retN, ↓ws_set, ↓ws_own, ↓ws_ret, ↓ws_drop, ↓ws_if, ↓ws_asg, ↓ws_par, ↓ws_setC, ↓wp_newc, ↓ws_app, ↓ws_ext, ↓ws_setI, ↓ws_frz, ↓ws_for, ↓wl_nil, ↓wl_cons, ↓wf_run, ↓retS_nx, ↓retS_rt, ↓lpS_nx, ↓lpS_ct, ↓lpS_br, ↓lpS_rt, ↓turn_nx, ↓turn_ct, ↓turn_br, ↓turn_rt, ↓wp_addI, ↓wp_addS, ↓wp_subI, ↓wp_mulI, ↓wp_divI, ↓wp_modI, ↓wp_powI, ↓wp_cmpI, ↓wp_eq, ↓wp_ne, ↓wp_negI, ↓wp_seqE, ↓wp_lstE, ↓wp_ixL, ↓wp_ixT, ↓wp_ixC, ↓wp_ixS, ↓wp_lenS, ↓wp_lenL, ↓wp_lenT, ↓wp_lenC, ↓wp_absI, ↓wp_intI, ↓wp_intB, ↓wp_intS, ↓wp_strI, ↓wp_boolI, ↓wp_boolB, ↓wp_all, ↓wp_any, ↓wp_sum, ↓wp_max2, ↓wp_min2, ↓wp_list, ↓wp_tuple, ↓wp_sorted, ↓wp_slS, ↓wp_slT, ↓wp_slC, ↓wp_slL, ↓wp_range1, ↓wp_range2, ↓wp_enum, ↓wp_zip, ↓wp_cat, ↓wp_rep, ↓wp_inSg, ↓wp_notInSg, ↓wp_inL, ↓wp_inT, ↓wp_notIn, ↓wp_isN, ↓wp_notN, tt1, tt2, tt3, tt4, tt5, tt6, tu1, tu2, tu3, tu4, tu5, tu6, tu7, tu8, tu9, tu10, tu11, tu12, tu13, tu14, tu15, tu16, tu17, tu18, tu19, tu20, tu21, tu22, tu23, tu24, asB_bl, truD_non, truD_bl, truD_int, truD_str, truD_lst, truD_tup, asI_int, asS_str, items_lst, items_tup, valS_v, valB_v, valB_own, seqD_lst, seqD_tup, seqD_cell0, lstD_lst, lstD_cell0, cellL_0, own_lst, nonB_non, nonB_bl, nonB_int, nonB_str, nonB_lst, nonB_tup, nonB_cell, nonB_obj, bools_nil, bools_cons, ints_nil, ints_cons, eqD_ii, eqD_bb, eqD_ss, eqD_nn, eqD_ni, eqD_in, eqD_nb, eqD_bn, eqD_ns, eqD_sn, eqD_is, eqD_si, eqD_bs, eqD_sb, tag_non, tag_bl, tag_int, tag_str, tag_lst, tag_tup, tag_obj, bindP_nm, bindP_tp, bindPs_nil, bindPs_cons, EG.runs, EG.run, ev, evs, evo, evr, mkE, mkL, failL, bopF, copF, bltF, lbltF, env0, wipeE, isiAny, isi1, frzS, Cell.toD, atI_nn, setAt_nn, wp_inSg, List.map_cons, List.map_nil, List.length_cons, List.length_nil, List.append_nil, List.nil_append, List.cons_append, List.replicate, List.getElem?_cons_zero, List.getElem?_cons_succ, List.set_cons_zero, List.set_cons_succ, Int.reduceNeg, Int.reducePow, nA10, nA2, le_big, Nat.reducePow, Nat.zero_add, Option.map_some, Option.bind_some, Int.reduceLE, Int.reduceToNat, Int.reduceLT, Nat.reduceLT, Nat.reduceAdd, Nat.reduceSub, true_and, and_true, decide_true, decide_false, List.length_append, List.length_map, Nat.reduceLeDiff, Nat.reduceEqDiff, Bool.not_true, Bool.not_false, decide_eq_true_eq, reduceCtorEq, Option.some.injEq, id_eq, List.all_cons, List.all_nil, List.any_cons, List.any_nil, Bool.and_true, Bool.true_and, Bool.and_false, Bool.false_and, Bool.or_true, Bool.or_false, hG]
      obtain ⟨bs, b1, b2⟩ := bools_true ((zipL xs xs).filter fun _ => true)
      refine wp_of_eq (compL_pure (fun _ => true) (fun _ => .bl true) (zipL xs xs) fun d hd => ?_) ?_
      · obtain ⟨a, ha, rfl⟩ := mem_zipL hd
        refine ⟨[.v (.lst xs), .v (.lst xs), .v a, .v a], by simp only [↓br_true, ↓br_false, ↓op_some, ↓wp_bind, ↓wp_pure, ↓wp_fail, ↓wp_opt, ↓wp_guard, ↓wp_noX, ↓wp_v, ↓wp_vB, ↓wp_c, ↓wp_op2, ↓wp_op2L, ↓wp_t, ↓wp_tru, ↓wp_chain, ↓wp_andT, ↓wp_orT, ↓wp_notT, ↓wp_andV, ↓wp_orV, ↓wp_notV, ↓wp_if, ↓wp_nil, ↓wp_cons, ↓wp_tup, ↓wp_lst, ↓wp_D, ↓wp_cb, ↓wp_call, ↓wp_isi, ↓wp_neg, ↓wp_sl, ↓wp_noP, ↓wp_P, ↓wp_yes, ↓wp_items, ↓wp_signs, ↓wp_comp, ↓ws_seq, ↓thn_nx, ↓thn_rt, ↓thn_br, ↓thn_ct, ↓thn_exc, ↓ws_skip, ↓ws_break, ↓ws_cont, ↓ws_retN, ↓ws_set, ↓ws_own, ↓ws_ret, ↓ws_drop, ↓ws_if, ↓ws_asg, ↓ws_par, ↓ws_setC, ↓wp_newc, ↓ws_app, ↓ws_ext, ↓ws_setI, ↓ws_frz, ↓ws_for, ↓wl_nil, ↓wl_cons, ↓wf_run, ↓retS_nx, ↓retS_rt, ↓lpS_nx, ↓lpS_ct, ↓lpS_br, ↓lpS_rt, ↓turn_nx, ↓turn_ct, ↓turn_br, ↓turn_rt, ↓wp_addI, ↓wp_addS, ↓wp_subI, ↓wp_mulI, ↓wp_divI, ↓wp_modI, ↓wp_powI, ↓wp_cmpI, ↓wp_eq, ↓wp_ne, ↓wp_negI, ↓wp_seqE, ↓wp_lstE, ↓wp_ixL, ↓wp_ixT, ↓wp_ixC, ↓wp_ixS, ↓wp_lenS, ↓wp_lenL, ↓wp_lenT, ↓wp_lenC, ↓wp_absI, ↓wp_intI, ↓wp_intB, ↓wp_intS, ↓wp_strI, ↓wp_boolI, ↓wp_boolB, ↓wp_all, ↓wp_any, ↓wp_sum, ↓wp_max2, ↓wp_min2, ↓wp_list, ↓wp_tuple, ↓wp_sorted, ↓wp_slS, ↓wp_slT, ↓wp_slC, ↓wp_slL, ↓wp_range1, ↓wp_range2, ↓wp_enum, ↓wp_zip, ↓wp_cat, ↓wp_rep, ↓wp_inSg, ↓wp_notInSg, ↓wp_inL, ↓wp_inT, ↓wp_notIn, ↓wp_isN, ↓wp_notN, tt1, tt2, tt3, tt4, tt5, tt6, tu1, tu2, tu3, tu4, tu5, tu6, tu7, tu8, tu9, tu10, tu11, tu12, tu13, tu14, tu15, tu16, tu17, tu18, tu19, tu20, tu21, tu22, tu23, tu24, asB_bl, truD_non, truD_bl, truD_int, truD_str, truD_lst, truD_tup, asI_int, asS_str, items_lst, items_tup, valS_v, valB_v, valB_own, seqD_lst, seqD_tup, seqD_cell0, lstD_lst, lstD_cell0, cellL_0, own_lst, nonB_non, nonB_bl, nonB_int, nonB_str, nonB_lst, nonB_tup, nonB_cell, nonB_obj, bools_nil, bools_cons, ints_nil, ints_cons, eqD_ii, eqD_bb, eqD_ss, eqD_nn, eqD_ni, eqD_in, eqD_nb, eqD_bn, eqD_ns, eqD_sn, eqD_is, eqD_si, eqD_bs, eqD_sb, tag_non, tag_bl, tag_int, tag_str, tag_lst, tag_tup, tag_obj, bindP_nm, bindP_tp, bindPs_nil, bindPs_cons, EG.runs, EG.run, ev, evs, evo, evr, mkE, mkL, failL, bopF, copF, bltF, lbltF, env0, wipeE, isiAny, isi1, frzS, Cell.toD, atI_nn, setAt_nn, wp_inSg, List.map_cons, List.map_nil, List.length_cons, List.length_nil, List.append_nil, List.nil_append, List.cons_append, List.replicate, List.getElem?_cons_zero, List.getElem?_cons_succ, List.set_cons_zero, List.set_cons_succ, Int.reduceNeg, Int.reducePow, nA10, nA2, le_big, Nat.reducePow, Nat.zero_add, Option.map_some, Option.bind_some, Int.reduceLE, Int.reduceToNat, Int.reduceLT, Nat.reduceLT, Nat.reduceAdd, Nat.reduceSub, true_and, and_true, decide_true, decide_false, List.length_append, List.length_map, Nat.reduceLeDiff, Nat.reduceEqDiff, Bool.not_true, Bool.not_false, decide_eq_true_eq, reduceCtorEq, Option.some.injEq, id_eq, List.all_cons, List.all_nil, List.any_cons, List.any_nil, Bool.and_true, Bool.true_and, Bool.and_false, Bool.false_and, Bool.or_true, Bool.or_false], ?_, fun _ => ?_⟩
        · simp only [↓br_true, ↓br_false, ↓op_some, ↓wp_bind, ↓wp_pure, ↓wp_fail, ↓wp_opt, ↓wp_guard, ↓wp_noX, ↓wp_v, ↓wp_vB, ↓wp_c, ↓wp_op2, ↓wp_op2L, ↓wp_t, ↓wp_tru, ↓wp_chain, ↓wp_andT, ↓wp_orT, ↓wp_notT, ↓wp_andV, ↓wp_orV, ↓wp_notV, ↓wp_if, ↓wp_nil, ↓wp_cons, ↓wp_tup, ↓wp_lst, ↓wp_D, ↓wp_cb, ↓wp_call, ↓wp_isi, ↓wp_neg, ↓wp_sl, ↓wp_noP, ↓wp_P, ↓wp_yes, ↓wp_items, ↓wp_signs, ↓wp_comp, ↓ws_seq, ↓thn_nx, ↓thn_rt, ↓thn_br, ↓thn_ct, ↓thn_exc, ↓ws_skip, ↓ws_break, ↓ws_cont, ↓ws_retN, ↓ws_set, ↓ws_own, ↓ws_ret, ↓ws_drop, ↓ws_if, ↓ws_asg, ↓ws_par, ↓ws_setC, ↓wp_newc, ↓ws_app, ↓ws_ext, ↓ws_setI, ↓ws_frz, ↓ws_for, ↓wl_nil, ↓wl_cons, ↓wf_run, ↓retS_nx, ↓retS_rt, ↓lpS_nx, ↓lpS_ct, ↓lpS_br, ↓lpS_rt, ↓turn_nx, ↓turn_ct, ↓turn_br, ↓turn_rt, ↓wp_addI, ↓wp_addS, ↓wp_subI, ↓wp_mulI, ↓wp_divI, ↓wp_modI, ↓wp_powI, ↓wp_cmpI, ↓wp_eq, ↓wp_ne, ↓wp_negI, ↓wp_seqE, ↓wp_lstE, ↓wp_ixL, ↓wp_ixT, ↓wp_ixC, ↓wp_ixS, ↓wp_lenS, ↓wp_lenL, ↓wp_lenT, ↓wp_lenC, ↓wp_absI, ↓wp_intI, ↓wp_intB, ↓wp_intS, ↓wp_strI, ↓wp_boolI, ↓wp_boolB, ↓wp_all, ↓wp_any, ↓wp_sum, ↓wp_max2, ↓wp_min2, ↓wp_list, ↓wp_tuple, ↓wp_sorted, ↓wp_slS, ↓wp_slT, ↓wp_slC, ↓wp_slL, ↓wp_range1, ↓wp_range2, ↓wp_enum, ↓wp_zip, ↓wp_cat, ↓wp_rep, ↓wp_inSg, ↓wp_notInSg, ↓wp_inL, ↓wp_inT, ↓wp_notIn, ↓wp_isN, ↓wp_notN, tt1, tt2, tt3, tt4, tt5, tt6, tu1, tu2, tu3, tu4, tu5, tu6, tu7, tu8, tu9, tu10, tu11, tu12, tu13, tu14, tu15, tu16, tu17, tu18, tu19, tu20, tu21, tu22, tu23, tu24, asB_bl, truD_non, truD_bl, truD_int, truD_str, truD_lst, truD_tup, asI_int, asS_str, items_lst, items_tup, valS_v, valB_v, valB_own, seqD_lst, seqD_tup, seqD_cell0, lstD_lst, lstD_cell0, cellL_0, own_lst, nonB_non, nonB_bl, nonB_int, nonB_str, nonB_lst, nonB_tup, nonB_cell, nonB_obj, bools_nil, bools_cons, ints_nil, ints_cons, eqD_ii, eqD_bb, eqD_ss, eqD_nn, eqD_ni, eqD_in, eqD_nb, eqD_bn, eqD_ns, eqD_sn, eqD_is, eqD_si, eqD_bs, eqD_sb, tag_non, tag_bl, tag_int, tag_str, tag_lst, tag_tup, tag_obj, bindP_nm, bindP_tp, bindPs_nil, bindPs_cons, EG.runs, EG.run, ev, evs, evo, evr, mkE, mkL, failL, bopF, copF, bltF, lbltF, env0, wipeE, isiAny, isi1, frzS, Cell.toD, atI_nn, setAt_nn, wp_inSg, List.map_cons, List.map_nil, List.length_cons, List.length_nil, List.append_nil, List.nil_append, List.cons_append, List.replicate, List.getElem?_cons_zero, List.getElem?_cons_succ, List.set_cons_zero, List.set_cons_succ, Int.reduceNeg, Int.reducePow, nA10, nA2, le_big, Nat.reducePow, Nat.zero_add, Option.map_some, Option.bind_some, Int.reduceLE, Int.reduceToNat, Int.reduceLT, Nat.reduceLT, Nat.reduceAdd, Nat.reduceSub, true_and, and_true, decide_true, decide_false, List.length_append, List.length_map, Nat.reduceLeDiff, Nat.reduceEqDiff, Bool.not_true, Bool.not_false, decide_eq_true_eq, reduceCtorEq, Option.some.injEq, id_eq, List.all_cons, List.all_nil, List.any_cons, List.any_nil, Bool.and_true, Bool.true_and, Bool.and_false, Bool.false_and, Bool.or_true, Bool.or_false]
        · simp only [↓br_true, ↓br_false, ↓op_some, ↓wp_bind, ↓wp_pure, ↓wp_fail, ↓wp_opt, ↓wp_guard, ↓wp_noX, ↓wp_v, ↓wp_vB, ↓wp_c, ↓wp_op2, ↓wp_op2L, ↓wp_t, ↓wp_tru, ↓wp_chain, ↓wp_andT, ↓wp_orT, ↓wp_notT, ↓wp_andV, ↓wp_orV, ↓wp_notV, ↓wp_if, ↓wp_nil, ↓wp_cons, ↓wp_tup, ↓wp_lst, ↓wp_D, ↓wp_cb, ↓wp_call, ↓wp_isi, ↓wp_neg, ↓wp_sl, ↓wp_noP, ↓wp_P, ↓wp_yes, ↓wp_items, ↓wp_signs, ↓wp_comp, ↓ws_seq, ↓thn_nx, ↓thn_rt, ↓thn_br, ↓thn_ct, ↓thn_exc, ↓ws_skip, ↓ws_break, ↓ws_cont, ↓ws_retN, ↓ws_set, ↓ws_own, ↓ws_ret, ↓ws_drop, ↓ws_if, ↓ws_asg, ↓ws_par, ↓ws_setC, ↓wp_newc, ↓ws_app, ↓ws_ext, ↓ws_setI, ↓ws_frz, ↓ws_for, ↓wl_nil, ↓wl_cons, ↓wf_run, ↓retS_nx, ↓retS_rt, ↓lpS_nx, ↓lpS_ct, ↓lpS_br, ↓lpS_rt, ↓turn_nx, ↓turn_ct, ↓turn_br, ↓turn_rt, ↓wp_addI, ↓wp_addS, ↓wp_subI, ↓wp_mulI, ↓wp_divI, ↓wp_modI, ↓wp_powI, ↓wp_cmpI, ↓wp_eq, ↓wp_ne, ↓wp_negI, ↓wp_seqE, ↓wp_lstE, ↓wp_ixL, ↓wp_ixT, ↓wp_ixC, ↓wp_ixS, ↓wp_lenS, ↓wp_lenL, ↓wp_lenT, ↓wp_lenC, ↓wp_absI, ↓wp_intI, ↓wp_intB, ↓wp_intS, ↓wp_strI, ↓wp_boolI, ↓wp_boolB, ↓wp_all, ↓wp_any, ↓wp_sum, ↓wp_max2, ↓wp_min2, ↓wp_list, ↓wp_tuple, ↓wp_sorted, ↓wp_slS, ↓wp_slT, ↓wp_slC, ↓wp_slL, ↓wp_range1, ↓wp_range2, ↓wp_enum, ↓wp_zip, ↓wp_cat, ↓wp_rep, ↓wp_inSg, ↓wp_notInSg, ↓wp_inL, ↓wp_inT, ↓wp_notIn, ↓wp_isN, ↓wp_notN, tt1, tt2, tt3, tt4, tt5, tt6, tu1, tu2, tu3, tu4, tu5, tu6, tu7, tu8, tu9, tu10, tu11, tu12, tu13, tu14, tu15, tu16, tu17, tu18, tu19, tu20, tu21, tu22, tu23, tu24, asB_bl, truD_non, truD_bl, truD_int, truD_str, truD_lst, truD_tup, asI_int, asS_str, items_lst, items_tup, valS_v, valB_v, valB_own, seqD_lst, seqD_tup, seqD_cell0, lstD_lst, lstD_cell0, cellL_0, own_lst, nonB_non, nonB_bl, nonB_int, nonB_str, nonB_lst, nonB_tup, nonB_cell, nonB_obj, bools_nil, bools_cons, ints_nil, ints_cons, eqD_ii, eqD_bb, eqD_ss, eqD_nn, eqD_ni, eqD_in, eqD_nb, eqD_bn, eqD_ns, eqD_sn, eqD_is, eqD_si, eqD_bs, eqD_sb, tag_non, tag_bl, tag_int, tag_str, tag_lst, tag_tup, tag_obj, bindP_nm, bindP_tp, bindPs_nil, bindPs_cons, EG.runs, EG.run, ev, evs, evo, evr, mkE, mkL, failL, bopF, copF, bltF, lbltF, env0, wipeE, isiAny, isi1, frzS, Cell.toD, atI_nn, setAt_nn, wp_inSg, List.map_cons, List.map_nil, List.length_cons, List.length_nil, List.append_nil, List.nil_append, List.cons_append, List.replicate, List.getElem?_cons_zero, List.getElem?_cons_succ, List.set_cons_zero, List.set_cons_succ, Int.reduceNeg, Int.reducePow, nA10, nA2, le_big, Nat.reducePow, Nat.zero_add, Option.map_some, Option.bind_some, Int.reduceLE, Int.reduceToNat, Int.reduceLT, Nat.reduceLT, Nat.reduceAdd, Nat.reduceSub, true_and, and_true, decide_true, decide_false, List.length_append, List.length_map, Nat.reduceLeDiff, Nat.reduceEqDiff, Bool.not_true, Bool.not_false, decide_eq_true_eq, reduceCtorEq, Option.some.injEq, id_eq, List.all_cons, List.all_nil, List.any_cons, List.any_nil, Bool.and_true, Bool.true_and, Bool.and_false, Bool.false_and, Bool.or_true, Bool.or_false, hG]
          exact same_spec hF hG n a _ _ μ (List.all_eq_true.mp h a ha) ⟨rfl, rfl⟩
      · simp only [↓br_true, ↓br_false, ↓op_some, ↓wp_bind, ↓wp_pure, ↓wp_fail, ↓wp_opt, ↓wp_guard, ↓wp_noX, ↓wp_v, ↓wp_vB, ↓wp_c, ↓wp_op2, ↓wp_op2L, ↓wp_t, ↓wp_tru, ↓wp_chain, ↓wp_andT, ↓wp_orT, ↓wp_notT, ↓wp_andV, ↓wp_orV, ↓wp_notV, ↓wp_if, ↓wp_nil, ↓wp_cons, ↓wp_tup, ↓wp_lst, ↓wp_D, ↓wp_cb, ↓wp_call, ↓wp_isi, ↓wp_neg, ↓wp_sl, ↓wp_noP, ↓wp_P, ↓wp_yes, ↓wp_items, ↓wp_signs, ↓wp_comp, ↓ws_seq, ↓thn_nx, ↓thn_rt, ↓thn_br, ↓thn_ct, ↓thn_exc, ↓ws_skip, ↓ws_break, ↓ws_cont, ↓ws_retN, ↓ws_set, ↓ws_own, ↓ws_ret, ↓ws_drop, ↓ws_if, ↓ws_asg, ↓ws_par, ↓ws_setC, ↓wp_newc, ↓ws_app, ↓ws_ext, ↓ws_setI, ↓ws_frz, ↓ws_for, ↓wl_nil, ↓wl_cons, ↓wf_run, ↓retS_nx, ↓retS_rt, ↓lpS_nx, ↓lpS_ct, ↓lpS_br, ↓lpS_rt, ↓turn_nx, ↓turn_ct, ↓turn_br, ↓turn_rt, ↓wp_addI, ↓wp_addS, ↓wp_subI, ↓wp_mulI, ↓wp_divI, ↓wp_modI, ↓wp_powI, ↓wp_cmpI, ↓wp_eq, ↓wp_ne, ↓wp_negI, ↓wp_seqE, ↓wp_lstE, ↓wp_ixL, ↓wp_ixT, ↓wp_ixC, ↓wp_ixS, ↓wp_lenS, ↓wp_lenL, ↓wp_lenT, ↓wp_lenC, ↓wp_absI, ↓wp_intI, ↓wp_intB, ↓wp_intS, ↓wp_strI, ↓wp_boolI, ↓wp_boolB, ↓wp_all, ↓wp_any, ↓wp_sum, ↓wp_max2, ↓wp_min2, ↓wp_list, ↓wp_tuple, ↓wp_sorted, ↓wp_slS, ↓wp_slT, ↓wp_slC, ↓wp_slL, ↓wp_range1, ↓wp_range2, ↓wp_enum, ↓wp_zip, ↓wp_cat, ↓wp_rep, ↓wp_inSg, ↓wp_notInSg, ↓wp_inL, ↓wp_inT, ↓wp_notIn, ↓wp_isN, ↓wp_notN, tt1, tt2, tt3, tt4, tt5, tt6, tu1, tu2, tu3, tu4, tu5, tu6, tu7, tu8, tu9, tu10, tu11, tu12, tu13, tu14, tu15, tu16, tu17, tu18, tu19, tu20, tu21, tu22, tu23, tu24, asB_bl, truD_non, truD_bl, truD_int, truD_str, truD_lst, truD_tup, asI_int, asS_str, items_lst, items_tup, valS_v, valB_v, valB_own, seqD_lst, seqD_tup, seqD_cell0, lstD_lst, lstD_cell0, cellL_0, own_lst, nonB_non, nonB_bl, nonB_int, nonB_str, nonB_lst, nonB_tup, nonB_cell, nonB_obj, bools_nil, bools_cons, ints_nil, ints_cons, eqD_ii, eqD_bb, eqD_ss, eqD_nn, eqD_ni, eqD_in, eqD_nb, eqD_bn, eqD_ns, eqD_sn, eqD_is, eqD_si, eqD_bs, eqD_sb, tag_non, tag_bl, tag_int, tag_str, tag_lst, tag_tup, tag_obj, bindP_nm, bindP_tp, bindPs_nil, bindPs_cons, EG.runs, EG.run, ev, evs, evo, evr, mkE, mkL, failL, bopF, copF, bltF, lbltF, env0, wipeE, isiAny, isi1, frzS, Cell.toD, atI_nn, setAt_nn, wp_inSg, List.map_cons, List.map_nil, List.length_cons, List.length_nil, List.append_nil, List.nil_append, List.cons_append, List.replicate, List.getElem?_cons_zero, List.getElem?_cons_succ, List.set_cons_zero, List.set_cons_succ, Int.reduceNeg, Int.reducePow, nA10, nA2, le_big, Nat.reducePow, Nat.zero_add, Option.map_some, Option.bind_some, Int.reduceLE, Int.reduceToNat, Int.reduceLT, Nat.reduceLT, Nat.reduceAdd, Nat.reduceSub, true_and, and_true, decide_true, decide_false, List.length_append, List.length_map, Nat.reduceLeDiff, Nat.reduceEqDiff, Bool.not_true, Bool.not_false, decide_eq_true_eq, reduceCtorEq, Option.some.injEq, id_eq, List.all_cons, List.all_nil, List.any_cons, List.any_nil, Bool.and_true, Bool.true_and, Bool.and_false, Bool.false_and, Bool.or_true, Bool.or_false, b1, b2]
        exact hq
    | non => simp only [↓br_true, ↓br_false, ↓op_some, ↓wp_bind, ↓wp_pure, ↓wp_fail, ↓wp_opt, ↓wp_guard, ↓wp_noX, ↓wp_v, ↓wp_vB, ↓wp_c, ↓wp_op2, ↓wp_op2L, ↓wp_t, ↓wp_tru, ↓wp_chain, ↓wp_andT, ↓wp_orT, ↓wp_notT, ↓wp_andV, ↓wp_orV, ↓wp_notV, ↓wp_if, ↓wp_nil, ↓wp_cons, ↓wp_tup, ↓wp_lst, ↓wp_D, ↓wp_cb, ↓wp_call, ↓wp_isi, ↓wp_neg, ↓wp_sl, ↓wp_noP, ↓wp_P, ↓wp_yes, ↓wp_items, ↓wp_signs, ↓wp_comp, ↓ws_seq, ↓thn_nx, ↓thn_rt, ↓thn_br, ↓thn_ct, ↓thn_exc, ↓ws_skip, ↓ws_break, ↓ws_cont, ↓ws_retN, ↓ws_set, ↓ws_own, ↓ws_ret, ↓ws_drop, ↓ws_if, ↓ws_asg, ↓ws_par, ↓ws_setC, ↓wp_newc, ↓ws_app, ↓ws_ext, ↓ws_setI, ↓ws_frz, ↓ws_for, ↓wl_nil, ↓wl_cons, ↓wf_run, ↓retS_nx, ↓retS_rt, ↓lpS_nx, ↓lpS_ct, ↓lpS_br, ↓lpS_rt, ↓turn_nx, ↓turn_ct, ↓turn_br, ↓turn_rt, ↓wp_addI, ↓wp_addS, ↓wp_subI, ↓wp_mulI, ↓wp_divI, ↓wp_modI, ↓wp_powI, ↓wp_cmpI, ↓wp_eq, ↓wp_ne, ↓wp_negI, ↓wp_seqE, ↓wp_lstE, ↓wp_ixL, ↓wp_ixT, ↓wp_ixC, ↓wp_ixS, ↓wp_lenS, ↓wp_lenL, ↓wp_lenT, ↓wp_lenC, ↓wp_absI, ↓wp_intI, ↓wp_intB, ↓wp_intS, ↓wp_strI, ↓wp_boolI, ↓wp_boolB, ↓wp_all, ↓wp_any, ↓wp_sum, ↓wp_max2, ↓wp_min2, ↓wp_list, ↓wp_tuple, ↓wp_sorted, ↓wp_slS, ↓wp_slT, ↓wp_slC, ↓wp_slL, ↓wp_range1, ↓wp_range2, ↓wp_enum, ↓wp_zip, ↓wp_cat, ↓wp_rep, ↓wp_inSg, ↓wp_notInSg, ↓wp_inL, ↓wp_inT, ↓wp_notIn, ↓wp_isN, ↓wp_notN, tt1, tt2, tt3, tt4, tt5, tt6, tu1, tu2, tu3, tu4, tu5, tu6, tu7, tu8, tu9, tu10, tu11, tu12, tu13, tu14, tu15, tu16, tu17, tu18, tu19, tu20, tu21, tu22, tu23, tu24, asB_bl, truD_non, truD_bl, truD_int, truD_str, truD_lst, truD_tup, asI_int, asS_str, items_lst, items_tup, valS_v, valB_v, valB_own, seqD_lst, seqD_tup, seqD_cell0, lstD_lst, lstD_cell0, cellL_0, own_lst, nonB_non, nonB_bl, nonB_int, nonB_str, nonB_lst, nonB_tup, nonB_cell, nonB_obj, bools_nil, bools_cons, ints_nil, ints_cons, eqD_ii, eqD_bb, eqD_ss, eqD_nn, eqD_ni, eqD_in, eqD_nb, eqD_bn, eqD_ns, eqD_sn, eqD_is, eqD_si, eqD_bs, eqD_sb, tag_non, tag_bl, tag_int, tag_str, tag_lst, tag_tup, tag_obj, bindP_nm, bindP_tp, bindPs_nil, bindPs_cons, EG.runs, EG.run, ev, evs, evo, evr, mkE, mkL, failL, bopF, copF, bltF, lbltF, env0, wipeE, isiAny, isi1, frzS, Cell.toD, atI_nn, setAt_nn, wp_inSg, List.map_cons, List.map_nil, List.length_cons, List.length_nil, List.append_nil, List.nil_append, List.cons_append, List.replicate, List.getElem?_cons_zero, List.getElem?_cons_succ, List.set_cons_zero, List.set_cons_succ, Int.reduceNeg, Int.reducePow, nA10, nA2, le_big, Nat.reducePow, Nat.zero_add, Option.map_some, Option.bind_some, Int.reduceLE, Int.reduceToNat, Int.reduceLT, Nat.reduceLT, Nat.reduceAdd, Nat.reduceSub, true_and, and_true, decide_true, decide_false, List.length_append, List.length_map, Nat.reduceLeDiff, Nat.reduceEqDiff, Bool.not_true, Bool.not_false, decide_eq_true_eq, reduceCtorEq, Option.some.injEq, id_eq, List.all_cons, List.all_nil, List.any_cons, List.any_nil, Bool.and_true, Bool.true_and, Bool.and_false, Bool.false_and, Bool.or_true, Bool.or_false, hG]; exact hq
    | bl b => simp only [↓br_true, ↓br_false, ↓op_some, ↓wp_bind, ↓wp_pure, ↓wp_fail, ↓wp_opt, ↓wp_guard, ↓wp_noX, ↓wp_v, ↓wp_vB, ↓wp_c, ↓wp_op2, ↓wp_op2L, ↓wp_t, ↓wp_tru, ↓wp_chain, ↓wp_andT, ↓wp_orT, ↓wp_notT, ↓wp_andV, ↓wp_orV, ↓wp_notV, ↓wp_if, ↓wp_nil, ↓wp_cons, ↓wp_tup, ↓wp_lst, ↓wp_D, ↓wp_cb, ↓wp_call, ↓wp_isi, ↓wp_neg, ↓wp_sl, ↓wp_noP, ↓wp_P, ↓wp_yes, ↓wp_items, ↓wp_signs, ↓wp_comp, ↓ws_seq, ↓thn_nx, ↓thn_rt, ↓thn_br, ↓thn_ct, ↓thn_exc, ↓ws_skip, ↓ws_break, ↓ws_cont, ↓ws_retN, ↓ws_set, ↓ws_own, ↓ws_ret, ↓ws_drop, ↓ws_if, ↓ws_asg, ↓ws_par, ↓ws_setC, ↓wp_newc, ↓ws_app, ↓ws_ext, ↓ws_setI, ↓ws_frz, ↓ws_for, ↓wl_nil, ↓wl_cons, ↓wf_run, ↓retS_nx, ↓retS_rt, ↓lpS_nx, ↓lpS_ct, ↓lpS_br, ↓lpS_rt, ↓turn_nx, ↓turn_ct, ↓turn_br, ↓turn_rt, ↓wp_addI, ↓wp_addS, ↓wp_subI, ↓wp_mulI, ↓wp_divI, ↓wp_modI, ↓wp_powI, ↓wp_cmpI, ↓wp_eq, ↓wp_ne, ↓wp_negI, ↓wp_seqE, ↓wp_lstE, ↓wp_ixL, ↓wp_ixT, ↓wp_ixC, ↓wp_ixS, ↓wp_lenS, ↓wp_lenL, ↓wp_lenT, ↓wp_lenC, ↓wp_absI, ↓wp_intI, ↓wp_intB, ↓wp_intS, ↓wp_strI, ↓wp_boolI, ↓wp_boolB, ↓wp_all, ↓wp_any, ↓wp_sum, ↓wp_max2, ↓wp_min2, ↓wp_list, ↓wp_tuple, ↓wp_sorted, ↓wp_slS, ↓wp_slT, ↓wp_slC, ↓wp_slL, ↓wp_range1, ↓wp_range2, ↓wp_enum, ↓wp_zip, ↓wp_cat, ↓wp_rep, ↓wp_inSg, ↓wp_notInSg, ↓wp_inL, ↓wp_inT, ↓wp_notIn, ↓wp_isN, ↓wp_notN, tt1, tt2, tt3, tt4, tt5, tt6, tu1, tu2, tu3, tu4, tu5, tu6, tu7, tu8, tu9, tu10, tu11, tu12, tu13, tu14, tu15, tu16, tu17, tu18, tu19, tu20, tu21, tu22, tu23, tu24, asB_bl, truD_non, truD_bl, truD_int, truD_str, truD_lst, truD_tup, asI_int, asS_str, items_lst, items_tup, valS_v, valB_v, valB_own, seqD_lst, seqD_tup, seqD_cell0, lstD_lst, lstD_cell0, cellL_0, own_lst, nonB_non, nonB_bl, nonB_int, nonB_str, nonB_lst, nonB_tup, nonB_cell, nonB_obj, bools_nil, bools_cons, ints_nil, ints_cons, eqD_ii, eqD_bb, eqD_ss, eqD_nn, eqD_ni, eqD_in, eqD_nb, eqD_bn, eqD_ns, eqD_sn, eqD_is, eqD_si, eqD_bs, eqD_sb, tag_non, tag_bl, tag_int, tag_str, tag_lst, tag_tup, tag_obj, bindP_nm, bindP_tp, bindPs_nil, bindPs_cons, EG.runs, EG.run, ev, evs, evo, evr, mkE, mkL, failL, bopF, copF, bltF, lbltF, env0, wipeE, isiAny, isi1, frzS, Cell.toD, atI_nn, setAt_nn, wp_inSg, List.map_cons, List.map_nil, List.length_cons, List.length_nil, List.append_nil, List.nil_append, List.cons_append, List.replicate, List.getElem?_cons_zero, List.getElem?_cons_succ, List.set_cons_zero, List.set_cons_succ, Int.reduceNeg, Int.reducePow, nA10, nA2, le_big, Nat.reducePow, Nat.zero_add, Option.map_some, Option.bind_some, Int.reduceLE, Int.reduceToNat, Int.reduceLT, Nat.reduceLT, Nat.reduceAdd, Nat.reduceSub, true_and, and_true, decide_true, decide_false, List.length_append, List.length_map, Nat.reduceLeDiff, Nat.reduceEqDiff, Bool.not_true, Bool.not_false, decide_eq_true_eq, reduceCtorEq, Option.some.injEq, id_eq, List.all_cons, List.all_nil, List.any_cons, List.any_nil, Bool.and_true, Bool.true_and, Bool.and_false, Bool.false_and, Bool.or_true, Bool.or_false, hG]; exact hq
    | int b => simp only [↓br_true, ↓br_false, ↓op_some, ↓wp_bind, ↓wp_pure, ↓wp_fail, ↓wp_opt, ↓wp_guard, ↓wp_noX, ↓wp_v, ↓wp_vB, ↓wp_c, ↓wp_op2, ↓wp_op2L, ↓wp_t, ↓wp_tru, ↓wp_chain, ↓wp_andT, ↓wp_orT, ↓wp_notT, ↓wp_andV, ↓wp_orV, ↓wp_notV, ↓wp_if, ↓wp_nil, ↓wp_cons, ↓wp_tup, ↓wp_lst, ↓wp_D, ↓wp_cb, ↓wp_call, ↓wp_isi, ↓wp_neg, ↓wp_sl, ↓wp_noP, ↓wp_P, ↓wp_yes, ↓wp_items, ↓wp_signs, ↓wp_comp, ↓ws_seq, ↓thn_nx, ↓thn_rt, ↓thn_br, ↓thn_ct, ↓thn_exc, ↓ws_skip, ↓ws_break, ↓ws_cont, ↓ws_retN, ↓ws_set, ↓ws_own, ↓ws_ret, ↓ws_drop, ↓ws_if, ↓ws_asg, ↓ws_par, ↓ws_setC, ↓wp_newc, ↓ws_app, ↓ws_ext, ↓ws_setI, ↓ws_frz, ↓ws_for, ↓wl_nil, ↓wl_cons, ↓wf_run, ↓retS_nx, ↓retS_rt, ↓lpS_nx, ↓lpS_ct, ↓lpS_br, ↓lpS_rt, ↓turn_nx, ↓turn_ct, ↓turn_br, ↓turn_rt, ↓wp_addI, ↓wp_addS, ↓wp_subI, ↓wp_mulI, ↓wp_divI, ↓wp_modI, ↓wp_powI, ↓wp_cmpI, ↓wp_eq, ↓wp_ne, ↓wp_negI, ↓wp_seqE, ↓wp_lstE, ↓wp_ixL, ↓wp_ixT, ↓wp_ixC, ↓wp_ixS, ↓wp_lenS, ↓wp_lenL, ↓wp_lenT, ↓wp_lenC, ↓wp_absI, ↓wp_intI, ↓wp_intB, ↓wp_intS, ↓wp_strI, ↓wp_boolI, ↓wp_boolB, ↓wp_all, ↓wp_any, ↓wp_sum, ↓wp_max2, ↓wp_min2, ↓wp_list, ↓wp_tuple, ↓wp_sorted, ↓wp_slS, ↓wp_slT, ↓wp_slC, ↓wp_slL, ↓wp_range1, ↓wp_range2, ↓wp_enum, ↓wp_zip, ↓wp_cat, ↓wp_rep, ↓wp_inSg, ↓wp_notInSg, ↓wp_inL, ↓wp_inT, ↓wp_notIn, ↓wp_isN, ↓wp_notN, tt1, tt2, tt3, tt4, tt5, tt6, tu1, tu2, tu3, tu4, tu5, tu6, tu7, tu8, tu9, tu10, tu11, tu12, tu13, tu14, tu15, tu16, tu17, tu18, tu19, tu20, tu21, tu22, tu23, tu24, asB_bl, truD_non, truD_bl, truD_int, truD_str, truD_lst, truD_tup, asI_int, asS_str, items_lst, items_tup, valS_v, valB_v, valB_own, seqD_lst, seqD_tup, seqD_cell0, lstD_lst, lstD_cell0, cellL_0, own_lst, nonB_non, nonB_bl, nonB_int, nonB_str, nonB_lst, nonB_tup, nonB_cell, nonB_obj, bools_nil, bools_cons, ints_nil, ints_cons, eqD_ii, eqD_bb, eqD_ss, eqD_nn, eqD_ni, eqD_in, eqD_nb, eqD_bn, eqD_ns, eqD_sn, eqD_is, eqD_si, eqD_bs, eqD_sb, tag_non, tag_bl, tag_int, tag_str, tag_lst, tag_tup, tag_obj, bindP_nm, bindP_tp, bindPs_nil, bindPs_cons, EG.runs, EG.run, ev, evs, evo, evr, mkE, mkL, failL, bopF, copF, bltF, lbltF, env0, wipeE, isiAny, isi1, frzS, Cell.toD, atI_nn, setAt_nn, wp_inSg, List.map_cons, List.map_nil, List.length_cons, List.length_nil, List.append_nil, List.nil_append, List.cons_append, List.replicate, List.getElem?_cons_zero, List.getElem?_cons_succ, List.set_cons_zero, List.set_cons_succ, Int.reduceNeg, Int.reducePow, nA10, nA2, le_big, Nat.reducePow, Nat.zero_add, Option.map_some, Option.bind_some, Int.reduceLE, Int.reduceToNat, Int.reduceLT, Nat.reduceLT, Nat.reduceAdd, Nat.reduceSub, true_and, and_true, decide_true, decide_false, List.length_append, List.length_map, Nat.reduceLeDiff, Nat.reduceEqDiff, Bool.not_true, Bool.not_false, decide_eq_true_eq, reduceCtorEq, Option.some.injEq, id_eq, List.all_cons, List.all_nil, List.any_cons, List.any_nil, Bool.and_true, Bool.true_and, Bool.and_false, Bool.false_and, Bool.or_true, Bool.or_false, hG]; exact hq
    | str b => simp only [↓br_true, ↓br_false, ↓op_some, ↓wp_bind, ↓wp_pure, ↓wp_fail, ↓wp_opt, ↓wp_guard, ↓wp_noX, ↓wp_v, ↓wp_vB, ↓wp_c, ↓wp_op2, ↓wp_op2L, ↓wp_t, ↓wp_tru, ↓wp_chain, ↓wp_andT, ↓wp_orT, ↓wp_notT, ↓wp_andV, ↓wp_orV, ↓wp_notV, ↓wp_if, ↓wp_nil, ↓wp_cons, ↓wp_tup, ↓wp_lst, ↓wp_D, ↓wp_cb, ↓wp_call, ↓wp_isi, ↓wp_neg, ↓wp_sl, ↓wp_noP, ↓wp_P, ↓wp_yes, ↓wp_items, ↓wp_signs, ↓wp_comp, ↓ws_seq, ↓thn_nx, ↓thn_rt, ↓thn_br, ↓thn_ct, ↓thn_exc, ↓ws_skip, ↓ws_break, ↓ws_cont, ↓ws_retN, ↓ws_set, ↓ws_own, ↓ws_ret, ↓ws_drop, ↓ws_if, ↓ws_asg, ↓ws_par, ↓ws_setC, ↓wp_newc, ↓ws_app, ↓ws_ext, ↓ws_setI, ↓ws_frz, ↓ws_for, ↓wl_nil, ↓wl_cons, ↓wf_run, ↓retS_nx, ↓retS_rt, ↓lpS_nx, ↓lpS_ct, ↓lpS_br, ↓lpS_rt, ↓turn_nx, ↓turn_ct, ↓turn_br, ↓turn_rt, ↓wp_addI, ↓wp_addS, ↓wp_subI, ↓wp_mulI, ↓wp_divI, ↓wp_modI, ↓wp_powI, ↓wp_cmpI, ↓wp_eq, ↓wp_ne, ↓wp_negI, ↓wp_seqE, ↓wp_lstE, ↓wp_ixL, ↓wp_ixT, ↓wp_ixC, ↓wp_ixS, ↓wp_lenS, ↓wp_lenL, ↓wp_lenT, ↓wp_lenC, ↓wp_absI, ↓wp_intI, ↓wp_intB, ↓wp_intS, ↓wp_strI, ↓wp_boolI, ↓wp_boolB, ↓wp_all, ↓wp_any, ↓wp_sum, ↓wp_max2, ↓wp_min2, ↓wp_list, ↓wp_tuple, ↓wp_sorted, ↓wp_slS, ↓wp_slT, ↓wp_slC, ↓wp_slL, ↓wp_range1, ↓wp_range2, ↓wp_enum, ↓wp_zip, ↓wp_cat, ↓wp_rep, ↓wp_inSg, ↓wp_notInSg, ↓wp_inL, ↓wp_inT, ↓wp_notIn, ↓wp_isN, ↓wp_notN, tt1, tt2, tt3, tt4, tt5, tt6, tu1, tu2, tu3, tu4, tu5, tu6, tu7, tu8, tu9, tu10, tu11, tu12, tu13, tu14, tu15, tu16, tu17, tu18, tu19, tu20, tu21, tu22, tu23, tu24, asB_bl, truD_non, truD_bl, truD_int, truD_str, truD_lst, truD_tup, asI_int, asS_str, items_lst, items_tup, valS_v, valB_v, valB_own, seqD_lst, seqD_tup, seqD_cell0, lstD_lst, lstD_cell0, cellL_0, own_lst, nonB_non, nonB_bl, nonB_int, nonB_str, nonB_lst, nonB_tup, nonB_cell, nonB_obj, bools_nil, bools_cons, ints_nil, ints_cons, eqD_ii, eqD_bb, eqD_ss, eqD_nn, eqD_ni, eqD_in, eqD_nb, eqD_bn, eqD_ns, eqD_sn, eqD_is, eqD_si, eqD_bs, eqD_sb, tag_non, tag_bl, tag_int, tag_str, tag_lst, tag_tup, tag_obj, bindP_nm, bindP_tp, bindPs_nil, bindPs_cons, EG.runs, EG.run, ev, evs, evo, evr, mkE, mkL, failL, bopF, copF, bltF, lbltF, env0, wipeE, isiAny, isi1, frzS, Cell.toD, atI_nn, setAt_nn, wp_inSg, List.map_cons, List.map_nil, List.length_cons, List.length_nil, List.append_nil, List.nil_append, List.cons_append, List.replicate, List.getElem?_cons_zero, List.getElem?_cons_succ, List.set_cons_zero, List.set_cons_succ, Int.reduceNeg, Int.reducePow, nA10, nA2, le_big, Nat.reducePow, Nat.zero_add, Option.map_some, Option.bind_some, Int.reduceLE, Int.reduceToNat, Int.reduceLT, Nat.reduceLT, Nat.reduceAdd, Nat.reduceSub, true_and, and_true, decide_true, decide_false, List.length_append, List.length_map, Nat.reduceLeDiff, Nat.reduceEqDiff, Bool.not_true, Bool.not_false, decide_eq_true_eq, reduceCtorEq, Option.some.injEq, id_eq, List.all_cons, List.all_nil, List.any_cons, List.any_nil, Bool.and_true, Bool.true_and, Bool.and_false, Bool.false_and, Bool.or_true, Bool.or_false, hG]; exact hq
    | _ => cases h
end
end EG
namespace EGL
open PySem L2 EG
def kFrees : List Str := ["all", "bool", "int", "isinstance", "len", "list", "range", "str", "tuple", "zip"]
def kConsts : List GC := [⟨"MOST", .int 1000000000000⟩, ⟨"FIGURES", .str "0123456789"⟩, ⟨"MOST_FIGURES", .int 13⟩]
def kClss : List (Str × Nat) := []
def kIsi : Isi := fun _ _ => none
def kG (fns : List GFn) : Gam := ⟨fns, kConsts, kClss, kFrees, kIsi⟩
def N_law_same : List Str := ["_law_found_z", "_law_due", "_law_a", "_law_b"]
def C_law_same : Cs := .cons (.iff (.isiT [.ty "list", .ty "tuple"] (.v 1)) (.cons (.iff (.bor (.cons (.cmp .ne (.isi (.ty "list") (.v 0)) (.isi (.ty "list") (.v 1))) (.cons (.cmp .ne (.isi (.ty "tuple") (.v 0)) (.isi (.ty "tuple") (.v 1))) .nil))) (.cons (.ret (.bl false)) .nil) .nil) (.cons (.ret (.ban (.cons (.cmp .eq (.blt .len (.cons (.v 0) .nil)) (.blt .len (.cons (.v 1) .nil))) (.cons (.blt .all (.cons (.comp [("_law_a", 2), ("_law_b", 3)] (.tp (.cons (.nm 2) (.cons (.nm 3) .nil))) (.zip (.v 0) (.v 1)) .none (.call 0 (.cons (.v 2) (.cons (.v 3) .nil)))) .nil)) .nil)))) .nil)) .nil) (.cons (.iff (.bor (.cons (.cmp .isN (.v 1) .non) (.cons (.cmp .isN (.v 0) .non) .nil))) (.cons (.ret (.ban (.cons (.cmp .isN (.v 1) .non) (.cons (.cmp .isN (.v 0) .non) .nil)))) .nil) .nil) (.cons (.iff (.bor (.cons (.cmp .ne (.isi (.ty "bool") (.v 1)) (.isi (.ty "bool") (.v 0))) (.cons (.cmp .ne (.isi (.ty "int") (.v 1)) (.isi (.ty "int") (.v 0))) .nil))) (.cons (.ret (.bl false)) .nil) .nil) (.cons (.ret (.ban (.cons (.cmp .eq (.isi (.ty "str") (.v 1)) (.isi (.ty "str") (.v 0))) (.cons (.cmp .eq (.v 0) (.v 1)) .nil)))) .nil)))
def G_law_same (n : Nat) (F : Nat → Fn) : Gam := kG [⟨"_law_same", 2, F n, n + 0, []⟩]
def F_law_same : Nat → Fn
  | 0 => fun _ _ => none
  | n + 1 => runF 4 (runs (kG [⟨"_law_same", 2, F_law_same n, n + 0, []⟩]) C_law_same)
def Gn_law_same (n : Nat) : GFn := ⟨"_law_same", 2, F_law_same n, n + 0, []⟩
def N_read_amount : List Str := ["word", "sign"]
def C_read_amount : Cs := .cons (.iff (.bor (.cons (.nt (.isi (.ty "str") (.v 0))) (.cons (.nt (.chain .le .le (.int 1) (.blt .len (.cons (.v 0) .nil)) (.gc 2))) .nil))) (.cons (.ret .non) .nil) .nil) (.cons (.iff (.bor (.cons (.nt (.blt .all (.cons (.comp [("sign", 1)] (.nm 1) (.str (.v 0)) .none (.cmp .in_ (.v 1) (.gc 1))) .nil))) (.cons (.ban (.cons (.cmp .ne (.v 0) (.str "0")) (.cons (.cmp .eq (.ix (.v 0) (.int 0)) (.str "0")) .nil))) .nil))) (.cons (.ret .non) .nil) .nil) (.cons (.ret (.ife (.cmp .le (.blt .int (.cons (.v 0) .nil)) (.gc 0)) (.blt .int (.cons (.v 0) .nil)) .non)) .nil))
def G_read_amount : Gam := kG []
def F_read_amount : Fn := runF 2 (runs G_read_amount C_read_amount)
def Gn_read_amount : GFn := ⟨"read_amount", 1, F_read_amount, 1, []⟩
def N_law_pull : List Str := ["_law_bag_here", "_law_sides", "_law_cell", "_law_digit", "_law_seed"]
def C_law_pull : Cs := .cons (.iff (.ban (.cons (.cmp .eq (.ix (.v 0) (.int 2)) (.int 0)) (.cons (.cmp .lt (.ix (.v 0) (.int 1)) (.blt .len (.cons (.ix (.v 0) (.int 0)) .nil))) .nil))) (.cons (.set 2 (.ix (.ix (.v 0) (.int 0)) (.ix (.v 0) (.int 1)))) (.cons (.setC (.v 0) (.int 1) (.bin .add (.ix (.v 0) (.int 1)) (.int 1))) (.cons (.iff (.cmp .ge (.v 2) (.bin .pow (.int 10) (.int 18))) (.cons (.setC (.v 0) (.int 2) (.v 2)) .nil) (.cons (.setC (.v 0) (.int 3) (.bin .mod (.blt .int (.cons (.bin .add (.bin .add (.bin .mul (.ix (.v 0) (.int 3)) (.int 45179)) (.bin .mul (.bin .mod (.blt .int (.cons (.v 2) .nil)) (.int 2147483477)) (.int 39521))) (.int 43)) .nil)) (.int 2147483563))) .nil)) .nil))) .nil) (.cons (.iff (.cmp .gt (.ix (.v 0) (.int 2)) (.int 0)) (.cons (.set 3 (.bin .mod (.blt .int (.cons (.ix (.v 0) (.int 2)) .nil)) (.v 1))) (.cons (.setC (.v 0) (.int 2) (.bin .div (.ix (.v 0) (.int 2)) (.v 1))) (.cons (.ret (.v 3)) .nil))) .nil) (.cons (.setC (.v 0) (.int 4) (.bin .add (.ix (.v 0) (.int 4)) (.int 1))) (.cons (.set 4 (.ix (.v 0) (.int 3))) (.cons (.setC (.v 0) (.int 3) (.bin .mod (.blt .int (.cons (.bin .add (.bin .add (.bin .add (.bin .mul (.v 4) (.v 4)) (.bin .mul (.v 4) (.int 37363))) (.bin .mul (.ix (.v 0) (.int 4)) (.int 1500011))) (.int 77783)) .nil)) (.int 2147483563))) (.cons (.ret (.bin .mod (.blt .int (.cons (.bin .add (.bin .div (.ix (.v 0) (.int 3)) (.int 73)) (.bin .mul (.bin .mod (.blt .int (.cons (.ix (.v 0) (.int 3)) .nil)) (.int 8017)) (.int 59))) .nil)) (.v 1))) .nil)))))
def G_law_pull : Gam := kG []
def F_law_pull : Fn := runF 5 (runs G_law_pull C_law_pull)
def Gn_law_pull : GFn := ⟨"_law_pull", 2, F_law_pull, 1, []⟩
def N_law_of : List Str := ["_law_bag_here", "_law_things"]
def C_law_of : Cs := .cons (.ret (.ix (.v 1) (.call 0 (.cons (.v 0) (.cons (.blt .len (.cons (.v 1) .nil)) .nil))))) .nil
def G_law_of : Gam := kG [⟨"_law_pull", 2, F_law_pull, 1, []⟩]
def F_law_of : Fn := runF 2 (runs G_law_of C_law_of)
def Gn_law_of : GFn := ⟨"_law_of", 2, F_law_of, 2, []⟩
def N_is_number : List Str := ["value"]
def C_is_number : Cs := .cons (.ret (.ban (.cons (.isi (.ty "int") (.v 0)) (.cons (.nt (.isi (.ty "bool") (.v 0))) .nil)))) .nil
def G_is_number : Gam := kG []
def F_is_number : Fn := runF 1 (runs G_is_number C_is_number)
def Gn_is_number : GFn := ⟨"is_number", 1, F_is_number, 1, []⟩
def N_is_between : List Str := ["value", "least", "most"]
def C_is_between : Cs := .cons (.ret (.ban (.cons (.call 0 (.cons (.v 0) .nil)) (.cons (.chain .le .le (.v 1) (.v 0) (.v 2)) .nil)))) .nil
def G_is_between : Gam := kG [⟨"is_number", 1, F_is_number, 1, []⟩]
def F_is_between : Fn := runF 3 (runs G_is_between C_is_between)
def Gn_is_between : GFn := ⟨"is_between", 3, F_is_between, 2, []⟩
def N_is_amount : List Str := ["value"]
def C_is_amount : Cs := .cons (.ret (.call 0 (.cons (.v 0) (.cons (.int 0) (.cons (.gc 0) .nil))))) .nil
def G_is_amount : Gam := kG [⟨"is_between", 3, F_is_between, 2, []⟩]
def F_is_amount : Fn := runF 1 (runs G_is_amount C_is_amount)
def Gn_is_amount : GFn := ⟨"is_amount", 1, F_is_amount, 3, []⟩
def N_law_odd : List Str := ["_law_bag_here"]
def C_law_odd : Cs := .cons (.ret (.call 0 (.cons (.v 0) (.cons (.lst (.cons .non (.cons (.bl true) (.cons (.str "1") (.cons (.tup .nil) (.cons (.lst (.cons (.int 1) .nil)) (.cons (.tup (.cons (.int 1) (.cons (.int 2) .nil))) (.cons (.bl false) (.cons (.str "") .nil))))))))) .nil)))) .nil
def G_law_odd : Gam := kG [⟨"_law_of", 2, F_law_of, 2, []⟩]
def F_law_odd : Fn := runF 1 (runs G_law_odd C_law_odd)
def Gn_law_odd : GFn := ⟨"_law_odd", 1, F_law_odd, 3, []⟩
def N_law_vast : List Str := ["_law_bag_here"]
def C_law_vast : Cs := .cons (.ret (.call 0 (.cons (.v 0) (.cons (.lst (.cons (.call 1 (.cons (.v 0) (.cons (.int 7) .nil))) (.cons (.call 1 (.cons (.v 0) (.cons (.bin .pow (.int 10) (.int 4)) .nil))) (.cons (.bin .sub (.bin .pow (.int 10) (.int 12)) (.call 1 (.cons (.v 0) (.cons (.int 3) .nil)))) (.cons (.call 1 (.cons (.v 0) (.cons (.bin .pow (.int 10) (.int 9)) .nil))) .nil))))) .nil)))) .nil
def G_law_vast : Gam := kG [⟨"_law_of", 2, F_law_of, 2, []⟩, ⟨"_law_pull", 2, F_law_pull, 1, []⟩]
def F_law_vast : Fn := runF 1 (runs G_law_vast C_law_vast)
def Gn_law_vast : GFn := ⟨"_law_vast", 1, F_law_vast, 3, []⟩
def N_law_bag : List Str := ["_law_script", "_law_start_z", "_law_cell"]
def C_law_bag : Cs := .cons (.set 1 (.int 10016)) (.cons (.forr (.nm 2) (.seq (.lsl (.v 0) .none (.some (.int 63)))) (.cons (.set 1 (.bin .mod (.blt .int (.cons (.bin .add (.bin .add (.bin .mul (.v 1) (.int 47533)) (.bin .mod (.blt .int (.cons (.v 2) .nil)) (.int 2147483497))) (.int 31)) .nil)) (.int 2147483563))) .nil)) (.cons (.retC (.lst (.cons (.lblt .list (.cons (.lsl (.v 0) .none (.some (.int 63))) .nil)) (.cons (.int 0) (.cons (.int 0) (.cons (.v 1) (.cons (.int 0) .nil))))))) .nil))
def G_law_bag : Gam := kG []
def F_law_bag : Fn := runF 3 (runs G_law_bag C_law_bag)
def Gn_law_bag : GFn := ⟨"_law_bag", 1, F_law_bag, 1, []⟩
def N_law : List Str := ["_law_script", "_law_bag_here", "_law_turn", "_law_v", "_law_odd_here", "_law_due", "_law_word_z", "_law_good", "_law_s"]
def X_law_2 : E := .ban (.cons (.v 7) (.cons (.bor (.cons (.cmp .eq (.v 6) (.str "0")) (.cons (.cmp .ne (.sl (.v 6) .none (.some (.int 1))) (.str "0")) .nil))) (.cons (.cmp .le (.blt .int (.cons (.v 6) .nil)) (.bin .pow (.int 10) (.int 12))) .nil)))
def X_law_1 : E := .ban (.cons (.cmp .ne (.v 6) (.str "")) (.cons (.cmp .lt (.blt .len (.cons (.v 6) .nil)) (.int 14)) (.cons (.cmp .eq (.blt .len (.cons (.comp [("_law_s", 8)] (.nm 8) (.str (.v 6)) (.some (.cmp .in_ (.v 8) (.str "0123456789"))) (.v 8)) .nil)) (.blt .len (.cons (.v 6) .nil))) .nil)))
def X_law_0 : E := .chain .le .le (.int 0) (.v 3) (.bin .pow (.int 10) (.int 12))
def C_law : Cs := .cons (.set 1 (.call 8 (.cons (.v 0) .nil))) (.cons (.forr (.nm 2) (.rng1 (.int 12)) (.cons (.set 3 (.call 2 (.cons (.v 1) (.cons (.lst (.cons (.call 7 (.cons (.v 1) .nil)) (.cons (.bin .sub (.neg (.int 1)) (.call 6 (.cons (.v 1) (.cons (.int 5) .nil)))) (.cons (.bin .add (.bin .pow (.int 10) (.int 12)) (.call 6 (.cons (.v 1) (.cons (.int 3) .nil)))) (.cons (.int 0) (.cons (.bin .pow (.int 10) (.int 17)) .nil)))))) .nil)))) (.cons (.set 4 (.call 5 (.cons (.v 1) .nil))) (.cons (.set 5 (.lst (.cons X_law_0 (.cons (.bl true) (.cons (.bl false) (.cons (.bl false) .nil)))))) (.cons (.iff (.nt (.call 0 (.cons (.lst (.cons (.call 4 (.cons (.v 3) .nil)) (.cons (.call 3 (.cons (.v 3) .nil)) (.cons (.call 4 (.cons (.v 4) .nil)) (.cons (.call 3 (.cons (.v 4) .nil)) .nil))))) (.cons (.v 5) .nil)))) (.cons (.ret (.bl false)) .nil) .nil) (.cons (.set 6 (.bin .add (.call 2 (.cons (.v 1) (.cons (.lst (.cons (.str "") (.cons (.str "0") (.cons (.str "00") .nil)))) .nil))) (.blt .str (.cons (.v 3) .nil)))) (.cons (.set 6 (.call 2 (.cons (.v 1) (.cons (.lst (.cons (.v 6) (.cons (.blt .str (.cons (.v 3) .nil)) (.cons (.bin .add (.v 6) (.call 2 (.cons (.v 1) (.cons (.lst (.cons (.str " ") (.cons (.str "0") (.cons (.str "x") (.cons (.str "-") (.cons (.str "1") (.cons (.str "\n") .nil))))))) .nil)))) .nil)))) .nil)))) (.cons (.set 7 X_law_1) (.cons (.set 7 X_law_2) (.cons (.iff (.nt (.call 0 (.cons (.lst (.cons (.call 1 (.cons (.v 6) .nil)) (.cons (.call 1 (.cons (.ife (.cmp .ne (.v 4) (.str "1")) (.v 4) .non) .nil)) .nil))) (.cons (.lst (.cons (.ife (.v 7) (.blt .int (.cons (.v 6) .nil)) .non) (.cons .non .nil))) .nil)))) (.cons (.ret (.bl false)) .nil) .nil) .nil)))))))))) (.cons (.ret (.call 0 (.cons (.lst (.cons (.call 1 (.cons (.blt .str (.cons (.gc 0) .nil)) .nil)) (.cons (.call 1 (.cons (.blt .str (.cons (.bin .add (.gc 0) (.int 1)) .nil)) .nil)) (.cons (.call 1 (.cons (.str "") .nil)) .nil)))) (.cons (.lst (.cons (.bin .pow (.int 10) (.int 12)) (.cons .non (.cons .non .nil)))) .nil)))) .nil))
def G_law : Gam := kG [⟨"_law_same", 2, F_law_same 6, 6, []⟩, ⟨"read_amount", 1, F_read_amount, 1, []⟩, ⟨"_law_of", 2, F_law_of, 2, []⟩, ⟨"is_number", 1, F_is_number, 1, []⟩, ⟨"is_amount", 1, F_is_amount, 3, []⟩, ⟨"_law_odd", 1, F_law_odd, 3, []⟩, ⟨"_law_pull", 2, F_law_pull, 1, []⟩, ⟨"_law_vast", 1, F_law_vast, 3, []⟩, ⟨"_law_bag", 1, F_law_bag, 1, []⟩]
def F_law : Fn := runF 9 (runs G_law C_law)
def Gn_law : GFn := ⟨"law", 1, F_law, 7, []⟩
end EGL
namespace EGL
open PySem L2 EG
section
variable {μ : Mu} {Q : D → Mu → Prop} {E : PX} {b : Cell}
theorem num_int {v : Int} (h : Q (.bl true) μ) : Wf F_is_number [.int v] μ Q E := by
  unfold F_is_number C_is_number G_is_number
  simp only [↓br_true, ↓br_false, ↓op_some, ↓wp_bind, ↓wp_pure, ↓wp_fail, ↓wp_opt, ↓wp_guard, ↓wp_noX, ↓wp_v, ↓wp_vB, ↓wp_c, ↓wp_op2, ↓wp_op2L, ↓wp_t, ↓wp_tru, ↓wp_chain, ↓wp_andT, ↓wp_orT, ↓wp_notT, ↓wp_andV, ↓wp_orV, ↓wp_notV, ↓wp_if, ↓wp_nil, ↓wp_cons, ↓wp_tup, ↓wp_lst, ↓wp_D, ↓wp_cb, ↓wp_call, ↓wp_isi, ↓wp_neg, ↓wp_sl, ↓wp_noP, ↓wp_P, ↓wp_yes, ↓wp_items, ↓wp_signs, ↓wp_comp, ↓ws_seq, ↓thn_nx, ↓thn_rt, ↓thn_br, ↓thn_ct, ↓thn_exc, ↓ws_skip, ↓ws_break, ↓ws_cont, ↓ws_retN, ↓ws_set, ↓ws_own, ↓ws_ret, ↓ws_drop, ↓ws_if, ↓ws_asg, ↓ws_par, ↓ws_setC, ↓wp_newc, ↓ws_app, ↓ws_ext, ↓ws_setI, ↓ws_frz, ↓ws_for, ↓wl_nil, ↓wl_cons, ↓wf_run, ↓retS_nx, ↓retS_rt, ↓lpS_nx, ↓lpS_ct, ↓lpS_br, ↓lpS_rt, ↓turn_nx, ↓turn_ct, ↓turn_br, ↓turn_rt, ↓wp_addI, ↓wp_addS, ↓wp_subI, ↓wp_mulI, ↓wp_divI, ↓wp_modI, ↓wp_powI, ↓wp_cmpI, ↓wp_eq, ↓wp_ne, ↓wp_negI, ↓wp_seqE, ↓wp_lstE, ↓wp_ixL, ↓wp_ixT, ↓wp_ixC, ↓wp_ixS, ↓wp_lenS, ↓wp_lenL, ↓wp_lenT, ↓wp_lenC, ↓wp_absI, ↓wp_intI, ↓wp_intB, ↓wp_intS, ↓wp_strI, ↓wp_boolI, ↓wp_boolB, ↓wp_all, ↓wp_any, ↓wp_sum, ↓wp_max2, ↓wp_min2, ↓wp_list, ↓wp_tuple, ↓wp_sorted, ↓wp_slS, ↓wp_slT, ↓wp_slC, ↓wp_slL, ↓wp_range1, ↓wp_range2, ↓wp_enum, ↓wp_zip, ↓wp_cat, ↓wp_rep, ↓wp_inSg, ↓wp_notInSg, ↓wp_inL, ↓wp_inT, ↓wp_notIn, ↓wp_isN, ↓wp_notN, tt1, tt2, tt3, tt4, tt5, tt6, tu1, tu2, tu3, tu4, tu5, tu6, tu7, tu8, tu9, tu10, tu11, tu12, tu13, tu14, tu15, tu16, tu17, tu18, tu19, tu20, tu21, tu22, tu23, tu24, asB_bl, truD_non, truD_bl, truD_int, truD_str, truD_lst, truD_tup, asI_int, asS_str, items_lst, items_tup, valS_v, valB_v, valB_own, seqD_lst, seqD_tup, seqD_cell0, lstD_lst, lstD_cell0, cellL_0, own_lst, nonB_non, nonB_bl, nonB_int, nonB_str, nonB_lst, nonB_tup, nonB_cell, nonB_obj, bools_nil, bools_cons, ints_nil, ints_cons, eqD_ii, eqD_bb, eqD_ss, eqD_nn, eqD_ni, eqD_in, eqD_nb, eqD_bn, eqD_ns, eqD_sn, eqD_is, eqD_si, eqD_bs, eqD_sb, tag_non, tag_bl, tag_int, tag_str, tag_lst, tag_tup, tag_obj, bindP_nm, bindP_tp, bindPs_nil, bindPs_cons, EG.runs, EG.run, ev, evs, evo, evr, mkE, mkL, failL, bopF, copF, bltF, lbltF, env0, wipeE, isiAny, isi1, frzS, Cell.toD, atI_nn, setAt_nn, wp_inSg, List.map_cons, List.map_nil, List.length_cons, List.length_nil, List.append_nil, List.nil_append, List.cons_append, List.replicate, List.getElem?_cons_zero, List.getElem?_cons_succ, List.set_cons_zero, List.set_cons_succ, Int.reduceNeg, Int.reducePow, nA10, nA2, le_big, Nat.reducePow, Nat.zero_add, Option.map_some, Option.bind_some, Int.reduceLE, Int.reduceToNat, Int.reduceLT, Nat.reduceLT, Nat.reduceAdd, Nat.reduceSub, true_and, and_true, decide_true, decide_false, List.length_append, List.length_map, Nat.reduceLeDiff, Nat.reduceEqDiff, Bool.not_true, Bool.not_false, decide_eq_true_eq, reduceCtorEq, Option.some.injEq, id_eq, List.all_cons, List.all_nil, List.any_cons, List.any_nil, Bool.and_true, Bool.true_and, Bool.and_false, Bool.false_and, Bool.or_true, Bool.or_false, kG, kConsts]; exact h
theorem amt_int {v : Int} (h : Q (.bl (decide (0 ≤ v) && decide (v ≤ 1000000000000))) μ) : Wf F_is_amount [.int v] μ Q E := by
  unfold F_is_amount C_is_amount G_is_amount F_is_between C_is_between G_is_between
  simp only [↓br_true, ↓br_false, ↓op_some, ↓wp_bind, ↓wp_pure, ↓wp_fail, ↓wp_opt, ↓wp_guard, ↓wp_noX, ↓wp_v, ↓wp_vB, ↓wp_c, ↓wp_op2, ↓wp_op2L, ↓wp_t, ↓wp_tru, ↓wp_chain, ↓wp_andT, ↓wp_orT, ↓wp_notT, ↓wp_andV, ↓wp_orV, ↓wp_notV, ↓wp_if, ↓wp_nil, ↓wp_cons, ↓wp_tup, ↓wp_lst, ↓wp_D, ↓wp_cb, ↓wp_call, ↓wp_isi, ↓wp_neg, ↓wp_sl, ↓wp_noP, ↓wp_P, ↓wp_yes, ↓wp_items, ↓wp_signs, ↓wp_comp, ↓ws_seq, ↓thn_nx, ↓thn_rt, ↓thn_br, ↓thn_ct, ↓thn_exc, ↓ws_skip, ↓ws_break, ↓ws_cont, ↓ws_retN, ↓ws_set, ↓ws_own, ↓ws_ret, ↓ws_drop, ↓ws_if, ↓ws_asg, ↓ws_par, ↓ws_setC, ↓wp_newc, ↓ws_app, ↓ws_ext, ↓ws_setI, ↓ws_frz, ↓ws_for, ↓wl_nil, ↓wl_cons, ↓wf_run, ↓retS_nx, ↓retS_rt, ↓lpS_nx, ↓lpS_ct, ↓lpS_br, ↓lpS_rt, ↓turn_nx, ↓turn_ct, ↓turn_br, ↓turn_rt, ↓wp_addI, ↓wp_addS, ↓wp_subI, ↓wp_mulI, ↓wp_divI, ↓wp_modI, ↓wp_powI, ↓wp_cmpI, ↓wp_eq, ↓wp_ne, ↓wp_negI, ↓wp_seqE, ↓wp_lstE, ↓wp_ixL, ↓wp_ixT, ↓wp_ixC, ↓wp_ixS, ↓wp_lenS, ↓wp_lenL, ↓wp_lenT, ↓wp_lenC, ↓wp_absI, ↓wp_intI, ↓wp_intB, ↓wp_intS, ↓wp_strI, ↓wp_boolI, ↓wp_boolB, ↓wp_all, ↓wp_any, ↓wp_sum, ↓wp_max2, ↓wp_min2, ↓wp_list, ↓wp_tuple, ↓wp_sorted, ↓wp_slS, ↓wp_slT, ↓wp_slC, ↓wp_slL, ↓wp_range1, ↓wp_range2, ↓wp_enum, ↓wp_zip, ↓wp_cat, ↓wp_rep, ↓wp_inSg, ↓wp_notInSg, ↓wp_inL, ↓wp_inT, ↓wp_notIn, ↓wp_isN, ↓wp_notN, tt1, tt2, tt3, tt4, tt5, tt6, tu1, tu2, tu3, tu4, tu5, tu6, tu7, tu8, tu9, tu10, tu11, tu12, tu13, tu14, tu15, tu16, tu17, tu18, tu19, tu20, tu21, tu22, tu23, tu24, asB_bl, truD_non, truD_bl, truD_int, truD_str, truD_lst, truD_tup, asI_int, asS_str, items_lst, items_tup, valS_v, valB_v, valB_own, seqD_lst, seqD_tup, seqD_cell0, lstD_lst, lstD_cell0, cellL_0, own_lst, nonB_non, nonB_bl, nonB_int, nonB_str, nonB_lst, nonB_tup, nonB_cell, nonB_obj, bools_nil, bools_cons, ints_nil, ints_cons, eqD_ii, eqD_bb, eqD_ss, eqD_nn, eqD_ni, eqD_in, eqD_nb, eqD_bn, eqD_ns, eqD_sn, eqD_is, eqD_si, eqD_bs, eqD_sb, tag_non, tag_bl, tag_int, tag_str, tag_lst, tag_tup, tag_obj, bindP_nm, bindP_tp, bindPs_nil, bindPs_cons, EG.runs, EG.run, ev, evs, evo, evr, mkE, mkL, failL, bopF, copF, bltF, lbltF, env0, wipeE, isiAny, isi1, frzS, Cell.toD, atI_nn, setAt_nn, wp_inSg, List.map_cons, List.map_nil, List.length_cons, List.length_nil, List.append_nil, List.nil_append, List.cons_append, List.replicate, List.getElem?_cons_zero, List.getElem?_cons_succ, List.set_cons_zero, List.set_cons_succ, Int.reduceNeg, Int.reducePow, nA10, nA2, le_big, Nat.reducePow, Nat.zero_add, Option.map_some, Option.bind_some, Int.reduceLE, Int.reduceToNat, Int.reduceLT, Nat.reduceLT, Nat.reduceAdd, Nat.reduceSub, true_and, and_true, decide_true, decide_false, List.length_append, List.length_map, Nat.reduceLeDiff, Nat.reduceEqDiff, Bool.not_true, Bool.not_false, decide_eq_true_eq, reduceCtorEq, Option.some.injEq, id_eq, List.all_cons, List.all_nil, List.any_cons, List.any_nil, Bool.and_true, Bool.true_and, Bool.and_false, Bool.false_and, Bool.or_true, Bool.or_false, kG, kConsts]
  refine num_int ?_
  simp only [↓br_true, ↓br_false, ↓op_some, ↓wp_bind, ↓wp_pure, ↓wp_fail, ↓wp_opt, ↓wp_guard, ↓wp_noX, ↓wp_v, ↓wp_vB, ↓wp_c, ↓wp_op2, ↓wp_op2L, ↓wp_t, ↓wp_tru, ↓wp_chain, ↓wp_andT, ↓wp_orT, ↓wp_notT, ↓wp_andV, ↓wp_orV, ↓wp_notV, ↓wp_if, ↓wp_nil, ↓wp_cons, ↓wp_tup, ↓wp_lst, ↓wp_D, ↓wp_cb, ↓wp_call, ↓wp_isi, ↓wp_neg, ↓wp_sl, ↓wp_noP, ↓wp_P, ↓wp_yes, ↓wp_items, ↓wp_signs, ↓wp_comp, ↓ws_seq, ↓thn_nx, ↓thn_rt, ↓thn_br, ↓thn_ct, ↓thn_exc, ↓ws_skip, ↓ws_break, ↓ws_cont, ↓ws_retN, ↓ws_set, ↓ws_own, ↓ws_ret, ↓ws_drop, ↓ws_if, ↓ws_asg, ↓ws_par, ↓ws_setC, ↓wp_newc, ↓ws_app, ↓ws_ext, ↓ws_setI, ↓ws_frz, ↓ws_for, ↓wl_nil, ↓wl_cons, ↓wf_run, ↓retS_nx, ↓retS_rt, ↓lpS_nx, ↓lpS_ct, ↓lpS_br, ↓lpS_rt, ↓turn_nx, ↓turn_ct, ↓turn_br, ↓turn_rt, ↓wp_addI, ↓wp_addS, ↓wp_subI, ↓wp_mulI, ↓wp_divI, ↓wp_modI, ↓wp_powI, ↓wp_cmpI, ↓wp_eq, ↓wp_ne, ↓wp_negI, ↓wp_seqE, ↓wp_lstE, ↓wp_ixL, ↓wp_ixT, ↓wp_ixC, ↓wp_ixS, ↓wp_lenS, ↓wp_lenL, ↓wp_lenT, ↓wp_lenC, ↓wp_absI, ↓wp_intI, ↓wp_intB, ↓wp_intS, ↓wp_strI, ↓wp_boolI, ↓wp_boolB, ↓wp_all, ↓wp_any, ↓wp_sum, ↓wp_max2, ↓wp_min2, ↓wp_list, ↓wp_tuple, ↓wp_sorted, ↓wp_slS, ↓wp_slT, ↓wp_slC, ↓wp_slL, ↓wp_range1, ↓wp_range2, ↓wp_enum, ↓wp_zip, ↓wp_cat, ↓wp_rep, ↓wp_inSg, ↓wp_notInSg, ↓wp_inL, ↓wp_inT, ↓wp_notIn, ↓wp_isN, ↓wp_notN, tt1, tt2, tt3, tt4, tt5, tt6, tu1, tu2, tu3, tu4, tu5, tu6, tu7, tu8, tu9, tu10, tu11, tu12, tu13, tu14, tu15, tu16, tu17, tu18, tu19, tu20, tu21, tu22, tu23, tu24, asB_bl, truD_non, truD_bl, truD_int, truD_str, truD_lst, truD_tup, asI_int, asS_str, items_lst, items_tup, valS_v, valB_v, valB_own, seqD_lst, seqD_tup, seqD_cell0, lstD_lst, lstD_cell0, cellL_0, own_lst, nonB_non, nonB_bl, nonB_int, nonB_str, nonB_lst, nonB_tup, nonB_cell, nonB_obj, bools_nil, bools_cons, ints_nil, ints_cons, eqD_ii, eqD_bb, eqD_ss, eqD_nn, eqD_ni, eqD_in, eqD_nb, eqD_bn, eqD_ns, eqD_sn, eqD_is, eqD_si, eqD_bs, eqD_sb, tag_non, tag_bl, tag_int, tag_str, tag_lst, tag_tup, tag_obj, bindP_nm, bindP_tp, bindPs_nil, bindPs_cons, EG.runs, EG.run, ev, evs, evo, evr, mkE, mkL, failL, bopF, copF, bltF, lbltF, env0, wipeE, isiAny, isi1, frzS, Cell.toD, atI_nn, setAt_nn, wp_inSg, List.map_cons, List.map_nil, List.length_cons, List.length_nil, List.append_nil, List.nil_append, List.cons_append, List.replicate, List.getElem?_cons_zero, List.getElem?_cons_succ, List.set_cons_zero, List.set_cons_succ, Int.reduceNeg, Int.reducePow, nA10, nA2, le_big, Nat.reducePow, Nat.zero_add, Option.map_some, Option.bind_some, Int.reduceLE, Int.reduceToNat, Int.reduceLT, Nat.reduceLT, Nat.reduceAdd, Nat.reduceSub, true_and, and_true, decide_true, decide_false, List.length_append, List.length_map, Nat.reduceLeDiff, Nat.reduceEqDiff, Bool.not_true, Bool.not_false, decide_eq_true_eq, reduceCtorEq, Option.some.injEq, id_eq, List.all_cons, List.all_nil, List.any_cons, List.any_nil, Bool.and_true, Bool.true_and, Bool.and_false, Bool.false_and, Bool.or_true, Bool.or_false, kG, kConsts]
  refine br_cases (fun e => ?_) (fun e => ?_)
  · simp only [↓br_true, ↓br_false, ↓op_some, ↓wp_bind, ↓wp_pure, ↓wp_fail, ↓wp_opt, ↓wp_guard, ↓wp_noX, ↓wp_v, ↓wp_vB, ↓wp_c, ↓wp_op2, ↓wp_op2L, ↓wp_t, ↓wp_tru, ↓wp_chain, ↓wp_andT, ↓wp_orT, ↓wp_notT, ↓wp_andV, ↓wp_orV, ↓wp_notV, ↓wp_if, ↓wp_nil, ↓wp_cons, ↓wp_tup, ↓wp_lst, ↓wp_D, ↓wp_cb, ↓wp_call, ↓wp_isi, ↓wp_neg, ↓wp_sl, ↓wp_noP, ↓wp_P, ↓wp_yes, ↓wp_items, ↓wp_signs, ↓wp_comp, ↓ws_seq, ↓thn_nx, ↓thn_rt, ↓thn_br, ↓thn_ct, ↓thn_exc, ↓ws_skip, ↓ws_break, ↓ws_cont, ↓ws_retN, ↓ws_set, ↓ws_own, ↓ws_ret, ↓ws_drop, ↓ws_if, ↓ws_asg, ↓ws_par, ↓ws_setC, ↓wp_newc, ↓ws_app, ↓ws_ext, ↓ws_setI, ↓ws_frz, ↓ws_for, ↓wl_nil, ↓wl_cons, ↓wf_run, ↓retS_nx, ↓retS_rt, ↓lpS_nx, ↓lpS_ct, ↓lpS_br, ↓lpS_rt, ↓turn_nx, ↓turn_ct, ↓turn_br, ↓turn_rt, ↓wp_addI, ↓wp_addS, ↓wp_subI, ↓wp_mulI, ↓wp_divI, ↓wp_modI, ↓wp_powI, ↓wp_cmpI, ↓wp_eq, ↓wp_ne, ↓wp_negI, ↓wp_seqE, ↓wp_lstE, ↓wp_ixL, ↓wp_ixT, ↓wp_ixC, ↓wp_ixS, ↓wp_lenS, ↓wp_lenL, ↓wp_lenT, ↓wp_lenC, ↓wp_absI, ↓wp_intI, ↓wp_intB, ↓wp_intS, ↓wp_strI, ↓wp_boolI, ↓wp_boolB, ↓wp_all, ↓wp_any, ↓wp_sum, ↓wp_max2, ↓wp_min2, ↓wp_list, ↓wp_tuple, ↓wp_sorted, ↓wp_slS, ↓wp_slT, ↓wp_slC, ↓wp_slL, ↓wp_range1, ↓wp_range2, ↓wp_enum, ↓wp_zip, ↓wp_cat, ↓wp_rep, ↓wp_inSg, ↓wp_notInSg, ↓wp_inL, ↓wp_inT, ↓wp_notIn, ↓wp_isN, ↓wp_notN, tt1, tt2, tt3, tt4, tt5, tt6, tu1, tu2, tu3, tu4, tu5, tu6, tu7, tu8, tu9, tu10, tu11, tu12, tu13, tu14, tu15, tu16, tu17, tu18, tu19, tu20, tu21, tu22, tu23, tu24, asB_bl, truD_non, truD_bl, truD_int, truD_str, truD_lst, truD_tup, asI_int, asS_str, items_lst, items_tup, valS_v, valB_v, valB_own, seqD_lst, seqD_tup, seqD_cell0, lstD_lst, lstD_cell0, cellL_0, own_lst, nonB_non, nonB_bl, nonB_int, nonB_str, nonB_lst, nonB_tup, nonB_cell, nonB_obj, bools_nil, bools_cons, ints_nil, ints_cons, eqD_ii, eqD_bb, eqD_ss, eqD_nn, eqD_ni, eqD_in, eqD_nb, eqD_bn, eqD_ns, eqD_sn, eqD_is, eqD_si, eqD_bs, eqD_sb, tag_non, tag_bl, tag_int, tag_str, tag_lst, tag_tup, tag_obj, bindP_nm, bindP_tp, bindPs_nil, bindPs_cons, EG.runs, EG.run, ev, evs, evo, evr, mkE, mkL, failL, bopF, copF, bltF, lbltF, env0, wipeE, isiAny, isi1, frzS, Cell.toD, atI_nn, setAt_nn, wp_inSg, List.map_cons, List.map_nil, List.length_cons, List.length_nil, List.append_nil, List.nil_append, List.cons_append, List.replicate, List.getElem?_cons_zero, List.getElem?_cons_succ, List.set_cons_zero, List.set_cons_succ, Int.reduceNeg, Int.reducePow, nA10, nA2, le_big, Nat.reducePow, Nat.zero_add, Option.map_some, Option.bind_some, Int.reduceLE, Int.reduceToNat, Int.reduceLT, Nat.reduceLT, Nat.reduceAdd, Nat.reduceSub, true_and, and_true, decide_true, decide_false, List.length_append, List.length_map, Nat.reduceLeDiff, Nat.reduceEqDiff, Bool.not_true, Bool.not_false, decide_eq_true_eq, reduceCtorEq, Option.some.injEq, id_eq, List.all_cons, List.all_nil, List.any_cons, List.any_nil, Bool.and_true, Bool.true_and, Bool.and_false, Bool.false_and, Bool.or_true, Bool.or_false, kG, kConsts]; rw [e] at h; exact h
  · simp only [↓br_true, ↓br_false, ↓op_some, ↓wp_bind, ↓wp_pure, ↓wp_fail, ↓wp_opt, ↓wp_guard, ↓wp_noX, ↓wp_v, ↓wp_vB, ↓wp_c, ↓wp_op2, ↓wp_op2L, ↓wp_t, ↓wp_tru, ↓wp_chain, ↓wp_andT, ↓wp_orT, ↓wp_notT, ↓wp_andV, ↓wp_orV, ↓wp_notV, ↓wp_if, ↓wp_nil, ↓wp_cons, ↓wp_tup, ↓wp_lst, ↓wp_D, ↓wp_cb, ↓wp_call, ↓wp_isi, ↓wp_neg, ↓wp_sl, ↓wp_noP, ↓wp_P, ↓wp_yes, ↓wp_items, ↓wp_signs, ↓wp_comp, ↓ws_seq, ↓thn_nx, ↓thn_rt, ↓thn_br, ↓thn_ct, ↓thn_exc, ↓ws_skip, ↓ws_break, ↓ws_cont, ↓ws_retN, ↓ws_set, ↓ws_own, ↓ws_ret, ↓ws_drop, ↓ws_if, ↓ws_asg, ↓ws_par, ↓ws_setC, ↓wp_newc, ↓ws_app, ↓ws_ext, ↓ws_setI, ↓ws_frz, ↓ws_for, ↓wl_nil, ↓wl_cons, ↓wf_run, ↓retS_nx, ↓retS_rt, ↓lpS_nx, ↓lpS_ct, ↓lpS_br, ↓lpS_rt, ↓turn_nx, ↓turn_ct, ↓turn_br, ↓turn_rt, ↓wp_addI, ↓wp_addS, ↓wp_subI, ↓wp_mulI, ↓wp_divI, ↓wp_modI, ↓wp_powI, ↓wp_cmpI, ↓wp_eq, ↓wp_ne, ↓wp_negI, ↓wp_seqE, ↓wp_lstE, ↓wp_ixL, ↓wp_ixT, ↓wp_ixC, ↓wp_ixS, ↓wp_lenS, ↓wp_lenL, ↓wp_lenT, ↓wp_lenC, ↓wp_absI, ↓wp_intI, ↓wp_intB, ↓wp_intS, ↓wp_strI, ↓wp_boolI, ↓wp_boolB, ↓wp_all, ↓wp_any, ↓wp_sum, ↓wp_max2, ↓wp_min2, ↓wp_list, ↓wp_tuple, ↓wp_sorted, ↓wp_slS, ↓wp_slT, ↓wp_slC, ↓wp_slL, ↓wp_range1, ↓wp_range2, ↓wp_enum, ↓wp_zip, ↓wp_cat, ↓wp_rep, ↓wp_inSg, ↓wp_notInSg, ↓wp_inL, ↓wp_inT, ↓wp_notIn, ↓wp_isN, ↓wp_notN, tt1, tt2, tt3, tt4, tt5, tt6, tu1, tu2, tu3, tu4, tu5, tu6, tu7, tu8, tu9, tu10, tu11, tu12, tu13, tu14, tu15, tu16, tu17, tu18, tu19, tu20, tu21, tu22, tu23, tu24, asB_bl, truD_non, truD_bl, truD_int, truD_str, truD_lst, truD_tup, asI_int, asS_str, items_lst, items_tup, valS_v, valB_v, valB_own, seqD_lst, seqD_tup, seqD_cell0, lstD_lst, lstD_cell0, cellL_0, own_lst, nonB_non, nonB_bl, nonB_int, nonB_str, nonB_lst, nonB_tup, nonB_cell, nonB_obj, bools_nil, bools_cons, ints_nil, ints_cons, eqD_ii, eqD_bb, eqD_ss, eqD_nn, eqD_ni, eqD_in, eqD_nb, eqD_bn, eqD_ns, eqD_sn, eqD_is, eqD_si, eqD_bs, eqD_sb, tag_non, tag_bl, tag_int, tag_str, tag_lst, tag_tup, tag_obj, bindP_nm, bindP_tp, bindPs_nil, bindPs_cons, EG.runs, EG.run, ev, evs, evo, evr, mkE, mkL, failL, bopF, copF, bltF, lbltF, env0, wipeE, isiAny, isi1, frzS, Cell.toD, atI_nn, setAt_nn, wp_inSg, List.map_cons, List.map_nil, List.length_cons, List.length_nil, List.append_nil, List.nil_append, List.cons_append, List.replicate, List.getElem?_cons_zero, List.getElem?_cons_succ, List.set_cons_zero, List.set_cons_succ, Int.reduceNeg, Int.reducePow, nA10, nA2, le_big, Nat.reducePow, Nat.zero_add, Option.map_some, Option.bind_some, Int.reduceLE, Int.reduceToNat, Int.reduceLT, Nat.reduceLT, Nat.reduceAdd, Nat.reduceSub, true_and, and_true, decide_true, decide_false, List.length_append, List.length_map, Nat.reduceLeDiff, Nat.reduceEqDiff, Bool.not_true, Bool.not_false, decide_eq_true_eq, reduceCtorEq, Option.some.injEq, id_eq, List.all_cons, List.all_nil, List.any_cons, List.any_nil, Bool.and_true, Bool.true_and, Bool.and_false, Bool.false_and, Bool.or_true, Bool.or_false, kG, kConsts]; rw [e] at h; exact h
def odds : List D := [.non, .bl true, .str "1", .tup [], .lst [.int 1], .tup [.int 1, .int 2], .bl false, .str ""]
theorem num_odd {d : D} (hd : d ∈ odds) (h : Q (.bl (match d with | .bl _ => false | _ => false)) μ) : Wf F_is_number [d] μ Q E := by
  unfold F_is_number C_is_number G_is_number
  simp only [odds, List.mem_cons, List.not_mem_nil, or_false] at hd
  rcases hd with rfl | rfl | rfl | rfl | rfl | rfl | rfl | rfl <;> (simp only [↓br_true, ↓br_false, ↓op_some, ↓wp_bind, ↓wp_pure, ↓wp_fail, ↓wp_opt, ↓wp_guard, ↓wp_noX, ↓wp_v, ↓wp_vB, ↓wp_c, ↓wp_op2, ↓wp_op2L, ↓wp_t, ↓wp_tru, ↓wp_chain, ↓wp_andT, ↓wp_orT, ↓wp_notT, ↓wp_andV, ↓wp_orV, ↓wp_notV, ↓wp_if, ↓wp_nil, ↓wp_cons, ↓wp_tup, ↓wp_lst, ↓wp_D, ↓wp_cb, ↓wp_call, ↓wp_isi, ↓wp_neg, ↓wp_sl, ↓wp_noP, ↓wp_P, ↓wp_yes, ↓wp_items, ↓wp_signs, ↓wp_comp, ↓ws_seq, ↓thn_nx, ↓thn_rt, ↓thn_br, ↓thn_ct, ↓thn_exc, ↓ws_skip, ↓ws_break, ↓ws_cont, ↓ws_retN, ↓ws_set, ↓ws_own, ↓ws_ret, ↓ws_drop, ↓ws_if, ↓ws_asg, ↓ws_par, ↓ws_setC, ↓wp_newc, ↓ws_app, ↓ws_ext, ↓ws_setI, ↓ws_frz, ↓ws_for, ↓wl_nil, ↓wl_cons, ↓wf_run, ↓retS_nx, ↓retS_rt, ↓lpS_nx, ↓lpS_ct, ↓lpS_br, ↓lpS_rt, ↓turn_nx, ↓turn_ct, ↓turn_br, ↓turn_rt, ↓wp_addI, ↓wp_addS, ↓wp_subI, ↓wp_mulI, ↓wp_divI, ↓wp_modI, ↓wp_powI, ↓wp_cmpI, ↓wp_eq, ↓wp_ne, ↓wp_negI, ↓wp_seqE, ↓wp_lstE, ↓wp_ixL, ↓wp_ixT, ↓wp_ixC, ↓wp_ixS, ↓wp_lenS, ↓wp_lenL, ↓wp_lenT, ↓wp_lenC, ↓wp_absI, ↓wp_intI, ↓wp_intB, ↓wp_intS, ↓wp_strI, ↓wp_boolI, ↓wp_boolB, ↓wp_all, ↓wp_any, ↓wp_sum, ↓wp_max2, ↓wp_min2, ↓wp_list, ↓wp_tuple, ↓wp_sorted, ↓wp_slS, ↓wp_slT, ↓wp_slC, ↓wp_slL, ↓wp_range1, ↓wp_range2, ↓wp_enum, ↓wp_zip, ↓wp_cat, ↓wp_rep, ↓wp_inSg, ↓wp_notInSg, ↓wp_inL, ↓wp_inT, ↓wp_notIn, ↓wp_isN, ↓wp_notN, tt1, tt2, tt3, tt4, tt5, tt6, tu1, tu2, tu3, tu4, tu5, tu6, tu7, tu8, tu9, tu10, tu11, tu12, tu13, tu14, tu15, tu16, tu17, tu18, tu19, tu20, tu21, tu22, tu23, tu24, asB_bl, truD_non, truD_bl, truD_int, truD_str, truD_lst, truD_tup, asI_int, asS_str, items_lst, items_tup, valS_v, valB_v, valB_own, seqD_lst, seqD_tup, seqD_cell0, lstD_lst, lstD_cell0, cellL_0, own_lst, nonB_non, nonB_bl, nonB_int, nonB_str, nonB_lst, nonB_tup, nonB_cell, nonB_obj, bools_nil, bools_cons, ints_nil, ints_cons, eqD_ii, eqD_bb, eqD_ss, eqD_nn, eqD_ni, eqD_in, eqD_nb, eqD_bn, eqD_ns, eqD_sn, eqD_is, eqD_si, eqD_bs, eqD_sb, tag_non, tag_bl, tag_int, tag_str, tag_lst, tag_tup, tag_obj, bindP_nm, bindP_tp, bindPs_nil, bindPs_cons, EG.runs, EG.run, ev, evs, evo, evr, mkE, mkL, failL, bopF, copF, bltF, lbltF, env0, wipeE, isiAny, isi1, frzS, Cell.toD, atI_nn, setAt_nn, wp_inSg, List.map_cons, List.map_nil, List.length_cons, List.length_nil, List.append_nil, List.nil_append, List.cons_append, List.replicate, List.getElem?_cons_zero, List.getElem?_cons_succ, List.set_cons_zero, List.set_cons_succ, Int.reduceNeg, Int.reducePow, nA10, nA2, le_big, Nat.reducePow, Nat.zero_add, Option.map_some, Option.bind_some, Int.reduceLE, Int.reduceToNat, Int.reduceLT, Nat.reduceLT, Nat.reduceAdd, Nat.reduceSub, true_and, and_true, decide_true, decide_false, List.length_append, List.length_map, Nat.reduceLeDiff, Nat.reduceEqDiff, Bool.not_true, Bool.not_false, decide_eq_true_eq, reduceCtorEq, Option.some.injEq, id_eq, List.all_cons, List.all_nil, List.any_cons, List.any_nil, Bool.and_true, Bool.true_and, Bool.and_false, Bool.false_and, Bool.or_true, Bool.or_false, kG, kConsts]; exact h)
theorem amt_odd {d : D} (hd : d ∈ odds) (h : Q (.bl false) μ) : Wf F_is_amount [d] μ Q E := by
  unfold F_is_amount C_is_amount G_is_amount F_is_between C_is_between G_is_between
  simp only [↓br_true, ↓br_false, ↓op_some, ↓wp_bind, ↓wp_pure, ↓wp_fail, ↓wp_opt, ↓wp_guard, ↓wp_noX, ↓wp_v, ↓wp_vB, ↓wp_c, ↓wp_op2, ↓wp_op2L, ↓wp_t, ↓wp_tru, ↓wp_chain, ↓wp_andT, ↓wp_orT, ↓wp_notT, ↓wp_andV, ↓wp_orV, ↓wp_notV, ↓wp_if, ↓wp_nil, ↓wp_cons, ↓wp_tup, ↓wp_lst, ↓wp_D, ↓wp_cb, ↓wp_call, ↓wp_isi, ↓wp_neg, ↓wp_sl, ↓wp_noP, ↓wp_P, ↓wp_yes, ↓wp_items, ↓wp_signs, ↓wp_comp, ↓ws_seq, ↓thn_nx, ↓thn_rt, ↓thn_br, ↓thn_ct, ↓thn_exc, ↓ws_skip, ↓ws_break, ↓ws_cont, ↓ws_retN, ↓ws_set, ↓ws_own, ↓ws_ret, ↓ws_drop, ↓ws_if, ↓ws_asg, ↓ws_par, ↓ws_setC, ↓wp_newc, ↓ws_app, ↓ws_ext, ↓ws_setI, ↓ws_frz, ↓ws_for, ↓wl_nil, ↓wl_cons, ↓wf_run, ↓retS_nx, ↓retS_rt, ↓lpS_nx, ↓lpS_ct, ↓lpS_br, ↓lpS_rt, ↓turn_nx, ↓turn_ct, ↓turn_br, ↓turn_rt, ↓wp_addI, ↓wp_addS, ↓wp_subI, ↓wp_mulI, ↓wp_divI, ↓wp_modI, ↓wp_powI, ↓wp_cmpI, ↓wp_eq, ↓wp_ne, ↓wp_negI, ↓wp_seqE, ↓wp_lstE, ↓wp_ixL, ↓wp_ixT, ↓wp_ixC, ↓wp_ixS, ↓wp_lenS, ↓wp_lenL, ↓wp_lenT, ↓wp_lenC, ↓wp_absI, ↓wp_intI, ↓wp_intB, ↓wp_intS, ↓wp_strI, ↓wp_boolI, ↓wp_boolB, ↓wp_all, ↓wp_any, ↓wp_sum, ↓wp_max2, ↓wp_min2, ↓wp_list, ↓wp_tuple, ↓wp_sorted, ↓wp_slS, ↓wp_slT, ↓wp_slC, ↓wp_slL, ↓wp_range1, ↓wp_range2, ↓wp_enum, ↓wp_zip, ↓wp_cat, ↓wp_rep, ↓wp_inSg, ↓wp_notInSg, ↓wp_inL, ↓wp_inT, ↓wp_notIn, ↓wp_isN, ↓wp_notN, tt1, tt2, tt3, tt4, tt5, tt6, tu1, tu2, tu3, tu4, tu5, tu6, tu7, tu8, tu9, tu10, tu11, tu12, tu13, tu14, tu15, tu16, tu17, tu18, tu19, tu20, tu21, tu22, tu23, tu24, asB_bl, truD_non, truD_bl, truD_int, truD_str, truD_lst, truD_tup, asI_int, asS_str, items_lst, items_tup, valS_v, valB_v, valB_own, seqD_lst, seqD_tup, seqD_cell0, lstD_lst, lstD_cell0, cellL_0, own_lst, nonB_non, nonB_bl, nonB_int, nonB_str, nonB_lst, nonB_tup, nonB_cell, nonB_obj, bools_nil, bools_cons, ints_nil, ints_cons, eqD_ii, eqD_bb, eqD_ss, eqD_nn, eqD_ni, eqD_in, eqD_nb, eqD_bn, eqD_ns, eqD_sn, eqD_is, eqD_si, eqD_bs, eqD_sb, tag_non, tag_bl, tag_int, tag_str, tag_lst, tag_tup, tag_obj, bindP_nm, bindP_tp, bindPs_nil, bindPs_cons, EG.runs, EG.run, ev, evs, evo, evr, mkE, mkL, failL, bopF, copF, bltF, lbltF, env0, wipeE, isiAny, isi1, frzS, Cell.toD, atI_nn, setAt_nn, wp_inSg, List.map_cons, List.map_nil, List.length_cons, List.length_nil, List.append_nil, List.nil_append, List.cons_append, List.replicate, List.getElem?_cons_zero, List.getElem?_cons_succ, List.set_cons_zero, List.set_cons_succ, Int.reduceNeg, Int.reducePow, nA10, nA2, le_big, Nat.reducePow, Nat.zero_add, Option.map_some, Option.bind_some, Int.reduceLE, Int.reduceToNat, Int.reduceLT, Nat.reduceLT, Nat.reduceAdd, Nat.reduceSub, true_and, and_true, decide_true, decide_false, List.length_append, List.length_map, Nat.reduceLeDiff, Nat.reduceEqDiff, Bool.not_true, Bool.not_false, decide_eq_true_eq, reduceCtorEq, Option.some.injEq, id_eq, List.all_cons, List.all_nil, List.any_cons, List.any_nil, Bool.and_true, Bool.true_and, Bool.and_false, Bool.false_and, Bool.or_true, Bool.or_false, kG, kConsts]
  refine num_odd hd ?_
  have : (match d with | .bl _ => false | _ => false) = false := by cases d <;> rfl
  rw [this]
  simp only [↓br_true, ↓br_false, ↓op_some, ↓wp_bind, ↓wp_pure, ↓wp_fail, ↓wp_opt, ↓wp_guard, ↓wp_noX, ↓wp_v, ↓wp_vB, ↓wp_c, ↓wp_op2, ↓wp_op2L, ↓wp_t, ↓wp_tru, ↓wp_chain, ↓wp_andT, ↓wp_orT, ↓wp_notT, ↓wp_andV, ↓wp_orV, ↓wp_notV, ↓wp_if, ↓wp_nil, ↓wp_cons, ↓wp_tup, ↓wp_lst, ↓wp_D, ↓wp_cb, ↓wp_call, ↓wp_isi, ↓wp_neg, ↓wp_sl, ↓wp_noP, ↓wp_P, ↓wp_yes, ↓wp_items, ↓wp_signs, ↓wp_comp, ↓ws_seq, ↓thn_nx, ↓thn_rt, ↓thn_br, ↓thn_ct, ↓thn_exc, ↓ws_skip, ↓ws_break, ↓ws_cont, ↓ws_retN, ↓ws_set, ↓ws_own, ↓ws_ret, ↓ws_drop, ↓ws_if, ↓ws_asg, ↓ws_par, ↓ws_setC, ↓wp_newc, ↓ws_app, ↓ws_ext, ↓ws_setI, ↓ws_frz, ↓ws_for, ↓wl_nil, ↓wl_cons, ↓wf_run, ↓retS_nx, ↓retS_rt, ↓lpS_nx, ↓lpS_ct, ↓lpS_br, ↓lpS_rt, ↓turn_nx, ↓turn_ct, ↓turn_br, ↓turn_rt, ↓wp_addI, ↓wp_addS, ↓wp_subI, ↓wp_mulI, ↓wp_divI, ↓wp_modI, ↓wp_powI, ↓wp_cmpI, ↓wp_eq, ↓wp_ne, ↓wp_negI, ↓wp_seqE, ↓wp_lstE, ↓wp_ixL, ↓wp_ixT, ↓wp_ixC, ↓wp_ixS, ↓wp_lenS, ↓wp_lenL, ↓wp_lenT, ↓wp_lenC, ↓wp_absI, ↓wp_intI, ↓wp_intB, ↓wp_intS, ↓wp_strI, ↓wp_boolI, ↓wp_boolB, ↓wp_all, ↓wp_any, ↓wp_sum, ↓wp_max2, ↓wp_min2, ↓wp_list, ↓wp_tuple, ↓wp_sorted, ↓wp_slS, ↓wp_slT, ↓wp_slC, ↓wp_slL, ↓wp_range1, ↓wp_range2, ↓wp_enum, ↓wp_zip, ↓wp_cat, ↓wp_rep, ↓wp_inSg, ↓wp_notInSg, ↓wp_inL, ↓wp_inT, ↓wp_notIn, ↓wp_isN, ↓wp_notN, tt1, tt2, tt3, tt4, tt5, tt6, tu1, tu2, tu3, tu4, tu5, tu6, tu7, tu8, tu9, tu10, tu11, tu12, tu13, tu14, tu15, tu16, tu17, tu18, tu19, tu20, tu21, tu22, tu23, tu24, asB_bl, truD_non, truD_bl, truD_int, truD_str, truD_lst, truD_tup, asI_int, asS_str, items_lst, items_tup, valS_v, valB_v, valB_own, seqD_lst, seqD_tup, seqD_cell0, lstD_lst, lstD_cell0, cellL_0, own_lst, nonB_non, nonB_bl, nonB_int, nonB_str, nonB_lst, nonB_tup, nonB_cell, nonB_obj, bools_nil, bools_cons, ints_nil, ints_cons, eqD_ii, eqD_bb, eqD_ss, eqD_nn, eqD_ni, eqD_in, eqD_nb, eqD_bn, eqD_ns, eqD_sn, eqD_is, eqD_si, eqD_bs, eqD_sb, tag_non, tag_bl, tag_int, tag_str, tag_lst, tag_tup, tag_obj, bindP_nm, bindP_tp, bindPs_nil, bindPs_cons, EG.runs, EG.run, ev, evs, evo, evr, mkE, mkL, failL, bopF, copF, bltF, lbltF, env0, wipeE, isiAny, isi1, frzS, Cell.toD, atI_nn, setAt_nn, wp_inSg, List.map_cons, List.map_nil, List.length_cons, List.length_nil, List.append_nil, List.nil_append, List.cons_append, List.replicate, List.getElem?_cons_zero, List.getElem?_cons_succ, List.set_cons_zero, List.set_cons_succ, Int.reduceNeg, Int.reducePow, nA10, nA2, le_big, Nat.reducePow, Nat.zero_add, Option.map_some, Option.bind_some, Int.reduceLE, Int.reduceToNat, Int.reduceLT, Nat.reduceLT, Nat.reduceAdd, Nat.reduceSub, true_and, and_true, decide_true, decide_false, List.length_append, List.length_map, Nat.reduceLeDiff, Nat.reduceEqDiff, Bool.not_true, Bool.not_false, decide_eq_true_eq, reduceCtorEq, Option.some.injEq, id_eq, List.all_cons, List.all_nil, List.any_cons, List.any_nil, Bool.and_true, Bool.true_and, Bool.and_false, Bool.false_and, Bool.or_true, Bool.or_false, kG, kConsts]
  exact h
theorem odd_spec (hb : BagOk b) (h : ∀ d b', d ∈ odds → BagOk b' → Q d (b' :: μ)) : Wf F_law_odd [.cell 0] (b :: μ) Q E := by
  unfold F_law_odd C_law_odd G_law_odd
  simp only [↓br_true, ↓br_false, ↓op_some, ↓wp_bind, ↓wp_pure, ↓wp_fail, ↓wp_opt, ↓wp_guard, ↓wp_noX, ↓wp_v, ↓wp_vB, ↓wp_c, ↓wp_op2, ↓wp_op2L, ↓wp_t, ↓wp_tru, ↓wp_chain, ↓wp_andT, ↓wp_orT, ↓wp_notT, ↓wp_andV, ↓wp_orV, ↓wp_notV, ↓wp_if, ↓wp_nil, ↓wp_cons, ↓wp_tup, ↓wp_lst, ↓wp_D, ↓wp_cb, ↓wp_call, ↓wp_isi, ↓wp_neg, ↓wp_sl, ↓wp_noP, ↓wp_P, ↓wp_yes, ↓wp_items, ↓wp_signs, ↓wp_comp, ↓ws_seq, ↓thn_nx, ↓thn_rt, ↓thn_br, ↓thn_ct, ↓thn_exc, ↓ws_skip, ↓ws_break, ↓ws_cont, ↓ws_retN, ↓ws_set, ↓ws_own, ↓ws_ret, ↓ws_drop, ↓ws_if, ↓ws_asg, ↓ws_par, ↓ws_setC, ↓wp_newc, ↓ws_app, ↓ws_ext, ↓ws_setI, ↓ws_frz, ↓ws_for, ↓wl_nil, ↓wl_cons, ↓wf_run, ↓retS_nx, ↓retS_rt, ↓lpS_nx, ↓lpS_ct, ↓lpS_br, ↓lpS_rt, ↓turn_nx, ↓turn_ct, ↓turn_br, ↓turn_rt, ↓wp_addI, ↓wp_addS, ↓wp_subI, ↓wp_mulI, ↓wp_divI, ↓wp_modI, ↓wp_powI, ↓wp_cmpI, ↓wp_eq, ↓wp_ne, ↓wp_negI, ↓wp_seqE, ↓wp_lstE, ↓wp_ixL, ↓wp_ixT, ↓wp_ixC, ↓wp_ixS, ↓wp_lenS, ↓wp_lenL, ↓wp_lenT, ↓wp_lenC, ↓wp_absI, ↓wp_intI, ↓wp_intB, ↓wp_intS, ↓wp_strI, ↓wp_boolI, ↓wp_boolB, ↓wp_all, ↓wp_any, ↓wp_sum, ↓wp_max2, ↓wp_min2, ↓wp_list, ↓wp_tuple, ↓wp_sorted, ↓wp_slS, ↓wp_slT, ↓wp_slC, ↓wp_slL, ↓wp_range1, ↓wp_range2, ↓wp_enum, ↓wp_zip, ↓wp_cat, ↓wp_rep, ↓wp_inSg, ↓wp_notInSg, ↓wp_inL, ↓wp_inT, ↓wp_notIn, ↓wp_isN, ↓wp_notN, tt1, tt2, tt3, tt4, tt5, tt6, tu1, tu2, tu3, tu4, tu5, tu6, tu7, tu8, tu9, tu10, tu11, tu12, tu13, tu14, tu15, tu16, tu17, tu18, tu19, tu20, tu21, tu22, tu23, tu24, asB_bl, truD_non, truD_bl, truD_int, truD_str, truD_lst, truD_tup, asI_int, asS_str, items_lst, items_tup, valS_v, valB_v, valB_own, seqD_lst, seqD_tup, seqD_cell0, lstD_lst, lstD_cell0, cellL_0, own_lst, nonB_non, nonB_bl, nonB_int, nonB_str, nonB_lst, nonB_tup, nonB_cell, nonB_obj, bools_nil, bools_cons, ints_nil, ints_cons, eqD_ii, eqD_bb, eqD_ss, eqD_nn, eqD_ni, eqD_in, eqD_nb, eqD_bn, eqD_ns, eqD_sn, eqD_is, eqD_si, eqD_bs, eqD_sb, tag_non, tag_bl, tag_int, tag_str, tag_lst, tag_tup, tag_obj, bindP_nm, bindP_tp, bindPs_nil, bindPs_cons, EG.runs, EG.run, ev, evs, evo, evr, mkE, mkL, failL, bopF, copF, bltF, lbltF, env0, wipeE, isiAny, isi1, frzS, Cell.toD, atI_nn, setAt_nn, wp_inSg, List.map_cons, List.map_nil, List.length_cons, List.length_nil, List.append_nil, List.nil_append, List.cons_append, List.replicate, List.getElem?_cons_zero, List.getElem?_cons_succ, List.set_cons_zero, List.set_cons_succ, Int.reduceNeg, Int.reducePow, nA10, nA2, le_big, Nat.reducePow, Nat.zero_add, Option.map_some, Option.bind_some, Int.reduceLE, Int.reduceToNat, Int.reduceLT, Nat.reduceLT, Nat.reduceAdd, Nat.reduceSub, true_and, and_true, decide_true, decide_false, List.length_append, List.length_map, Nat.reduceLeDiff, Nat.reduceEqDiff, Bool.not_true, Bool.not_false, decide_eq_true_eq, reduceCtorEq, Option.some.injEq, id_eq, List.all_cons, List.all_nil, List.any_cons, List.any_nil, Bool.and_true, Bool.true_and, Bool.and_false, Bool.false_and, Bool.or_true, Bool.or_false, kG, kConsts]
  refine of_spec (F := F_law_pull) (Γ := G_law_pull) (Γ' := G_law_of) (lv := 1) rfl rfl hb (List.cons_ne_nil _ _) (by simp) fun d b' hd hb' => ?_
  simp only [↓br_true, ↓br_false, ↓op_some, ↓wp_bind, ↓wp_pure, ↓wp_fail, ↓wp_opt, ↓wp_guard, ↓wp_noX, ↓wp_v, ↓wp_vB, ↓wp_c, ↓wp_op2, ↓wp_op2L, ↓wp_t, ↓wp_tru, ↓wp_chain, ↓wp_andT, ↓wp_orT, ↓wp_notT, ↓wp_andV, ↓wp_orV, ↓wp_notV, ↓wp_if, ↓wp_nil, ↓wp_cons, ↓wp_tup, ↓wp_lst, ↓wp_D, ↓wp_cb, ↓wp_call, ↓wp_isi, ↓wp_neg, ↓wp_sl, ↓wp_noP, ↓wp_P, ↓wp_yes, ↓wp_items, ↓wp_signs, ↓wp_comp, ↓ws_seq, ↓thn_nx, ↓thn_rt, ↓thn_br, ↓thn_ct, ↓thn_exc, ↓ws_skip, ↓ws_break, ↓ws_cont, ↓ws_retN, ↓ws_set, ↓ws_own, ↓ws_ret, ↓ws_drop, ↓ws_if, ↓ws_asg, ↓ws_par, ↓ws_setC, ↓wp_newc, ↓ws_app, ↓ws_ext, ↓ws_setI, ↓ws_frz, ↓ws_for, ↓wl_nil, ↓wl_cons, ↓wf_run, ↓retS_nx, ↓retS_rt, ↓lpS_nx, ↓lpS_ct, ↓lpS_br, ↓lpS_rt, ↓turn_nx, ↓turn_ct, ↓turn_br, ↓turn_rt, ↓wp_addI, ↓wp_addS, ↓wp_subI, ↓wp_mulI, ↓wp_divI, ↓wp_modI, ↓wp_powI, ↓wp_cmpI, ↓wp_eq, ↓wp_ne, ↓wp_negI, ↓wp_seqE, ↓wp_lstE, ↓wp_ixL, ↓wp_ixT, ↓wp_ixC, ↓wp_ixS, ↓wp_lenS, ↓wp_lenL, ↓wp_lenT, ↓wp_lenC, ↓wp_absI, ↓wp_intI, ↓wp_intB, ↓wp_intS, ↓wp_strI, ↓wp_boolI, ↓wp_boolB, ↓wp_all, ↓wp_any, ↓wp_sum, ↓wp_max2, ↓wp_min2, ↓wp_list, ↓wp_tuple, ↓wp_sorted, ↓wp_slS, ↓wp_slT, ↓wp_slC, ↓wp_slL, ↓wp_range1, ↓wp_range2, ↓wp_enum, ↓wp_zip, ↓wp_cat, ↓wp_rep, ↓wp_inSg, ↓wp_notInSg, ↓wp_inL, ↓wp_inT, ↓wp_notIn, ↓wp_isN, ↓wp_notN, tt1, tt2, tt3, tt4, tt5, tt6, tu1, tu2, tu3, tu4, tu5, tu6, tu7, tu8, tu9, tu10, tu11, tu12, tu13, tu14, tu15, tu16, tu17, tu18, tu19, tu20, tu21, tu22, tu23, tu24, asB_bl, truD_non, truD_bl, truD_int, truD_str, truD_lst, truD_tup, asI_int, asS_str, items_lst, items_tup, valS_v, valB_v, valB_own, seqD_lst, seqD_tup, seqD_cell0, lstD_lst, lstD_cell0, cellL_0, own_lst, nonB_non, nonB_bl, nonB_int, nonB_str, nonB_lst, nonB_tup, nonB_cell, nonB_obj, bools_nil, bools_cons, ints_nil, ints_cons, eqD_ii, eqD_bb, eqD_ss, eqD_nn, eqD_ni, eqD_in, eqD_nb, eqD_bn, eqD_ns, eqD_sn, eqD_is, eqD_si, eqD_bs, eqD_sb, tag_non, tag_bl, tag_int, tag_str, tag_lst, tag_tup, tag_obj, bindP_nm, bindP_tp, bindPs_nil, bindPs_cons, EG.runs, EG.run, ev, evs, evo, evr, mkE, mkL, failL, bopF, copF, bltF, lbltF, env0, wipeE, isiAny, isi1, frzS, Cell.toD, atI_nn, setAt_nn, wp_inSg, List.map_cons, List.map_nil, List.length_cons, List.length_nil, List.append_nil, List.nil_append, List.cons_append, List.replicate, List.getElem?_cons_zero, List.getElem?_cons_succ, List.set_cons_zero, List.set_cons_succ, Int.reduceNeg, Int.reducePow, nA10, nA2, le_big, Nat.reducePow, Nat.zero_add, Option.map_some, Option.bind_some, Int.reduceLE, Int.reduceToNat, Int.reduceLT, Nat.reduceLT, Nat.reduceAdd, Nat.reduceSub, true_and, and_true, decide_true, decide_false, List.length_append, List.length_map, Nat.reduceLeDiff, Nat.reduceEqDiff, Bool.not_true, Bool.not_false, decide_eq_true_eq, reduceCtorEq, Option.some.injEq, id_eq, List.all_cons, List.all_nil, List.any_cons, List.any_nil, Bool.and_true, Bool.true_and, Bool.and_false, Bool.false_and, Bool.or_true, Bool.or_false, kG, kConsts]
  exact h d b' hd hb'
theorem vast_spec (hb : BagOk b) (h : ∀ v b', 0 ≤ v → v ≤ 1000000000000 → BagOk b' → Q (.int v) (b' :: μ)) : Wf F_law_vast [.cell 0] (b :: μ) Q E := by
  unfold F_law_vast C_law_vast G_law_vast
  simp only [↓br_true, ↓br_false, ↓op_some, ↓wp_bind, ↓wp_pure, ↓wp_fail, ↓wp_opt, ↓wp_guard, ↓wp_noX, ↓wp_v, ↓wp_vB, ↓wp_c, ↓wp_op2, ↓wp_op2L, ↓wp_t, ↓wp_tru, ↓wp_chain, ↓wp_andT, ↓wp_orT, ↓wp_notT, ↓wp_andV, ↓wp_orV, ↓wp_notV, ↓wp_if, ↓wp_nil, ↓wp_cons, ↓wp_tup, ↓wp_lst, ↓wp_D, ↓wp_cb, ↓wp_call, ↓wp_isi, ↓wp_neg, ↓wp_sl, ↓wp_noP, ↓wp_P, ↓wp_yes, ↓wp_items, ↓wp_signs, ↓wp_comp, ↓ws_seq, ↓thn_nx, ↓thn_rt, ↓thn_br, ↓thn_ct, ↓thn_exc, ↓ws_skip, ↓ws_break, ↓ws_cont, ↓ws_retN, ↓ws_set, ↓ws_own, ↓ws_ret, ↓ws_drop, ↓ws_if, ↓ws_asg, ↓ws_par, ↓ws_setC, ↓wp_newc, ↓ws_app, ↓ws_ext, ↓ws_setI, ↓ws_frz, ↓ws_for, ↓wl_nil, ↓wl_cons, ↓wf_run, ↓retS_nx, ↓retS_rt, ↓lpS_nx, ↓lpS_ct, ↓lpS_br, ↓lpS_rt, ↓turn_nx, ↓turn_ct, ↓turn_br, ↓turn_rt, ↓wp_addI, ↓wp_addS, ↓wp_subI, ↓wp_mulI, ↓wp_divI, ↓wp_modI, ↓wp_powI, ↓wp_cmpI, ↓wp_eq, ↓wp_ne, ↓wp_negI, ↓wp_seqE, ↓wp_lstE, ↓wp_ixL, ↓wp_ixT, ↓wp_ixC, ↓wp_ixS, ↓wp_lenS, ↓wp_lenL, ↓wp_lenT, ↓wp_lenC, ↓wp_absI, ↓wp_intI, ↓wp_intB, ↓wp_intS, ↓wp_strI, ↓wp_boolI, ↓wp_boolB, ↓wp_all, ↓wp_any, ↓wp_sum, ↓wp_max2, ↓wp_min2, ↓wp_list, ↓wp_tuple, ↓wp_sorted, ↓wp_slS, ↓wp_slT, ↓wp_slC, ↓wp_slL, ↓wp_range1, ↓wp_range2, ↓wp_enum, ↓wp_zip, ↓wp_cat, ↓wp_rep, ↓wp_inSg, ↓wp_notInSg, ↓wp_inL, ↓wp_inT, ↓wp_notIn, ↓wp_isN, ↓wp_notN, tt1, tt2, tt3, tt4, tt5, tt6, tu1, tu2, tu3, tu4, tu5, tu6, tu7, tu8, tu9, tu10, tu11, tu12, tu13, tu14, tu15, tu16, tu17, tu18, tu19, tu20, tu21, tu22, tu23, tu24, asB_bl, truD_non, truD_bl, truD_int, truD_str, truD_lst, truD_tup, asI_int, asS_str, items_lst, items_tup, valS_v, valB_v, valB_own, seqD_lst, seqD_tup, seqD_cell0, lstD_lst, lstD_cell0, cellL_0, own_lst, nonB_non, nonB_bl, nonB_int, nonB_str, nonB_lst, nonB_tup, nonB_cell, nonB_obj, bools_nil, bools_cons, ints_nil, ints_cons, eqD_ii, eqD_bb, eqD_ss, eqD_nn, eqD_ni, eqD_in, eqD_nb, eqD_bn, eqD_ns, eqD_sn, eqD_is, eqD_si, eqD_bs, eqD_sb, tag_non, tag_bl, tag_int, tag_str, tag_lst, tag_tup, tag_obj, bindP_nm, bindP_tp, bindPs_nil, bindPs_cons, EG.runs, EG.run, ev, evs, evo, evr, mkE, mkL, failL, bopF, copF, bltF, lbltF, env0, wipeE, isiAny, isi1, frzS, Cell.toD, atI_nn, setAt_nn, wp_inSg, List.map_cons, List.map_nil, List.length_cons, List.length_nil, List.append_nil, List.nil_append, List.cons_append, List.replicate, List.getElem?_cons_zero, List.getElem?_cons_succ, List.set_cons_zero, List.set_cons_succ, Int.reduceNeg, Int.reducePow, nA10, nA2, le_big, Nat.reducePow, Nat.zero_add, Option.map_some, Option.bind_some, Int.reduceLE, Int.reduceToNat, Int.reduceLT, Nat.reduceLT, Nat.reduceAdd, Nat.reduceSub, true_and, and_true, decide_true, decide_false, List.length_append, List.length_map, Nat.reduceLeDiff, Nat.reduceEqDiff, Bool.not_true, Bool.not_false, decide_eq_true_eq, reduceCtorEq, Option.some.injEq, id_eq, List.all_cons, List.all_nil, List.any_cons, List.any_nil, Bool.and_true, Bool.true_and, Bool.and_false, Bool.false_and, Bool.or_true, Bool.or_false, kG, kConsts]
  refine pull_spec hb (by decide) (by decide) fun r1 b1 h1 h1' hb1 => ?_
  simp only [↓br_true, ↓br_false, ↓op_some, ↓wp_bind, ↓wp_pure, ↓wp_fail, ↓wp_opt, ↓wp_guard, ↓wp_noX, ↓wp_v, ↓wp_vB, ↓wp_c, ↓wp_op2, ↓wp_op2L, ↓wp_t, ↓wp_tru, ↓wp_chain, ↓wp_andT, ↓wp_orT, ↓wp_notT, ↓wp_andV, ↓wp_orV, ↓wp_notV, ↓wp_if, ↓wp_nil, ↓wp_cons, ↓wp_tup, ↓wp_lst, ↓wp_D, ↓wp_cb, ↓wp_call, ↓wp_isi, ↓wp_neg, ↓wp_sl, ↓wp_noP, ↓wp_P, ↓wp_yes, ↓wp_items, ↓wp_signs, ↓wp_comp, ↓ws_seq, ↓thn_nx, ↓thn_rt, ↓thn_br, ↓thn_ct, ↓thn_exc, ↓ws_skip, ↓ws_break, ↓ws_cont, ↓ws_retN, ↓ws_set, ↓ws_own, ↓ws_ret, ↓ws_drop, ↓ws_if, ↓ws_asg, ↓ws_par, ↓ws_setC, ↓wp_newc, ↓ws_app, ↓ws_ext, ↓ws_setI, ↓ws_frz, ↓ws_for, ↓wl_nil, ↓wl_cons, ↓wf_run, ↓retS_nx, ↓retS_rt, ↓lpS_nx, ↓lpS_ct, ↓lpS_br, ↓lpS_rt, ↓turn_nx, ↓turn_ct, ↓turn_br, ↓turn_rt, ↓wp_addI, ↓wp_addS, ↓wp_subI, ↓wp_mulI, ↓wp_divI, ↓wp_modI, ↓wp_powI, ↓wp_cmpI, ↓wp_eq, ↓wp_ne, ↓wp_negI, ↓wp_seqE, ↓wp_lstE, ↓wp_ixL, ↓wp_ixT, ↓wp_ixC, ↓wp_ixS, ↓wp_lenS, ↓wp_lenL, ↓wp_lenT, ↓wp_lenC, ↓wp_absI, ↓wp_intI, ↓wp_intB, ↓wp_intS, ↓wp_strI, ↓wp_boolI, ↓wp_boolB, ↓wp_all, ↓wp_any, ↓wp_sum, ↓wp_max2, ↓wp_min2, ↓wp_list, ↓wp_tuple, ↓wp_sorted, ↓wp_slS, ↓wp_slT, ↓wp_slC, ↓wp_slL, ↓wp_range1, ↓wp_range2, ↓wp_enum, ↓wp_zip, ↓wp_cat, ↓wp_rep, ↓wp_inSg, ↓wp_notInSg, ↓wp_inL, ↓wp_inT, ↓wp_notIn, ↓wp_isN, ↓wp_notN, tt1, tt2, tt3, tt4, tt5, tt6, tu1, tu2, tu3, tu4, tu5, tu6, tu7, tu8, tu9, tu10, tu11, tu12, tu13, tu14, tu15, tu16, tu17, tu18, tu19, tu20, tu21, tu22, tu23, tu24, asB_bl, truD_non, truD_bl, truD_int, truD_str, truD_lst, truD_tup, asI_int, asS_str, items_lst, items_tup, valS_v, valB_v, valB_own, seqD_lst, seqD_tup, seqD_cell0, lstD_lst, lstD_cell0, cellL_0, own_lst, nonB_non, nonB_bl, nonB_int, nonB_str, nonB_lst, nonB_tup, nonB_cell, nonB_obj, bools_nil, bools_cons, ints_nil, ints_cons, eqD_ii, eqD_bb, eqD_ss, eqD_nn, eqD_ni, eqD_in, eqD_nb, eqD_bn, eqD_ns, eqD_sn, eqD_is, eqD_si, eqD_bs, eqD_sb, tag_non, tag_bl, tag_int, tag_str, tag_lst, tag_tup, tag_obj, bindP_nm, bindP_tp, bindPs_nil, bindPs_cons, EG.runs, EG.run, ev, evs, evo, evr, mkE, mkL, failL, bopF, copF, bltF, lbltF, env0, wipeE, isiAny, isi1, frzS, Cell.toD, atI_nn, setAt_nn, wp_inSg, List.map_cons, List.map_nil, List.length_cons, List.length_nil, List.append_nil, List.nil_append, List.cons_append, List.replicate, List.getElem?_cons_zero, List.getElem?_cons_succ, List.set_cons_zero, List.set_cons_succ, Int.reduceNeg, Int.reducePow, nA10, nA2, le_big, Nat.reducePow, Nat.zero_add, Option.map_some, Option.bind_some, Int.reduceLE, Int.reduceToNat, Int.reduceLT, Nat.reduceLT, Nat.reduceAdd, Nat.reduceSub, true_and, and_true, decide_true, decide_false, List.length_append, List.length_map, Nat.reduceLeDiff, Nat.reduceEqDiff, Bool.not_true, Bool.not_false, decide_eq_true_eq, reduceCtorEq, Option.some.injEq, id_eq, List.all_cons, List.all_nil, List.any_cons, List.any_nil, Bool.and_true, Bool.true_and, Bool.and_false, Bool.false_and, Bool.or_true, Bool.or_false, kG, kConsts]
  refine pull_spec hb1 (by decide) (by decide) fun r2 b2 h2 h2' hb2 => ?_
  simp only [↓br_true, ↓br_false, ↓op_some, ↓wp_bind, ↓wp_pure, ↓wp_fail, ↓wp_opt, ↓wp_guard, ↓wp_noX, ↓wp_v, ↓wp_vB, ↓wp_c, ↓wp_op2, ↓wp_op2L, ↓wp_t, ↓wp_tru, ↓wp_chain, ↓wp_andT, ↓wp_orT, ↓wp_notT, ↓wp_andV, ↓wp_orV, ↓wp_notV, ↓wp_if, ↓wp_nil, ↓wp_cons, ↓wp_tup, ↓wp_lst, ↓wp_D, ↓wp_cb, ↓wp_call, ↓wp_isi, ↓wp_neg, ↓wp_sl, ↓wp_noP, ↓wp_P, ↓wp_yes, ↓wp_items, ↓wp_signs, ↓wp_comp, ↓ws_seq, ↓thn_nx, ↓thn_rt, ↓thn_br, ↓thn_ct, ↓thn_exc, ↓ws_skip, ↓ws_break, ↓ws_cont, ↓ws_retN, ↓ws_set, ↓ws_own, ↓ws_ret, ↓ws_drop, ↓ws_if, ↓ws_asg, ↓ws_par, ↓ws_setC, ↓wp_newc, ↓ws_app, ↓ws_ext, ↓ws_setI, ↓ws_frz, ↓ws_for, ↓wl_nil, ↓wl_cons, ↓wf_run, ↓retS_nx, ↓retS_rt, ↓lpS_nx, ↓lpS_ct, ↓lpS_br, ↓lpS_rt, ↓turn_nx, ↓turn_ct, ↓turn_br, ↓turn_rt, ↓wp_addI, ↓wp_addS, ↓wp_subI, ↓wp_mulI, ↓wp_divI, ↓wp_modI, ↓wp_powI, ↓wp_cmpI, ↓wp_eq, ↓wp_ne, ↓wp_negI, ↓wp_seqE, ↓wp_lstE, ↓wp_ixL, ↓wp_ixT, ↓wp_ixC, ↓wp_ixS, ↓wp_lenS, ↓wp_lenL, ↓wp_lenT, ↓wp_lenC, ↓wp_absI, ↓wp_intI, ↓wp_intB, ↓wp_intS, ↓wp_strI, ↓wp_boolI, ↓wp_boolB, ↓wp_all, ↓wp_any, ↓wp_sum, ↓wp_max2, ↓wp_min2, ↓wp_list, ↓wp_tuple, ↓wp_sorted, ↓wp_slS, ↓wp_slT, ↓wp_slC, ↓wp_slL, ↓wp_range1, ↓wp_range2, ↓wp_enum, ↓wp_zip, ↓wp_cat, ↓wp_rep, ↓wp_inSg, ↓wp_notInSg, ↓wp_inL, ↓wp_inT, ↓wp_notIn, ↓wp_isN, ↓wp_notN, tt1, tt2, tt3, tt4, tt5, tt6, tu1, tu2, tu3, tu4, tu5, tu6, tu7, tu8, tu9, tu10, tu11, tu12, tu13, tu14, tu15, tu16, tu17, tu18, tu19, tu20, tu21, tu22, tu23, tu24, asB_bl, truD_non, truD_bl, truD_int, truD_str, truD_lst, truD_tup, asI_int, asS_str, items_lst, items_tup, valS_v, valB_v, valB_own, seqD_lst, seqD_tup, seqD_cell0, lstD_lst, lstD_cell0, cellL_0, own_lst, nonB_non, nonB_bl, nonB_int, nonB_str, nonB_lst, nonB_tup, nonB_cell, nonB_obj, bools_nil, bools_cons, ints_nil, ints_cons, eqD_ii, eqD_bb, eqD_ss, eqD_nn, eqD_ni, eqD_in, eqD_nb, eqD_bn, eqD_ns, eqD_sn, eqD_is, eqD_si, eqD_bs, eqD_sb, tag_non, tag_bl, tag_int, tag_str, tag_lst, tag_tup, tag_obj, bindP_nm, bindP_tp, bindPs_nil, bindPs_cons, EG.runs, EG.run, ev, evs, evo, evr, mkE, mkL, failL, bopF, copF, bltF, lbltF, env0, wipeE, isiAny, isi1, frzS, Cell.toD, atI_nn, setAt_nn, wp_inSg, List.map_cons, List.map_nil, List.length_cons, List.length_nil, List.append_nil, List.nil_append, List.cons_append, List.replicate, List.getElem?_cons_zero, List.getElem?_cons_succ, List.set_cons_zero, List.set_cons_succ, Int.reduceNeg, Int.reducePow, nA10, nA2, le_big, Nat.reducePow, Nat.zero_add, Option.map_some, Option.bind_some, Int.reduceLE, Int.reduceToNat, Int.reduceLT, Nat.reduceLT, Nat.reduceAdd, Nat.reduceSub, true_and, and_true, decide_true, decide_false, List.length_append, List.length_map, Nat.reduceLeDiff, Nat.reduceEqDiff, Bool.not_true, Bool.not_false, decide_eq_true_eq, reduceCtorEq, Option.some.injEq, id_eq, List.all_cons, List.all_nil, List.any_cons, List.any_nil, Bool.and_true, Bool.true_and, Bool.and_false, Bool.false_and, Bool.or_true, Bool.or_false, kG, kConsts]
  refine pull_spec hb2 (by decide) (by decide) fun r3 b3 h3 h3' hb3 => ?_
  simp only [↓br_true, ↓br_false, ↓op_some, ↓wp_bind, ↓wp_pure, ↓wp_fail, ↓wp_opt, ↓wp_guard, ↓wp_noX, ↓wp_v, ↓wp_vB, ↓wp_c, ↓wp_op2, ↓wp_op2L, ↓wp_t, ↓wp_tru, ↓wp_chain, ↓wp_andT, ↓wp_orT, ↓wp_notT, ↓wp_andV, ↓wp_orV, ↓wp_notV, ↓wp_if, ↓wp_nil, ↓wp_cons, ↓wp_tup, ↓wp_lst, ↓wp_D, ↓wp_cb, ↓wp_call, ↓wp_isi, ↓wp_neg, ↓wp_sl, ↓wp_noP, ↓wp_P, ↓wp_yes, ↓wp_items, ↓wp_signs, ↓wp_comp, ↓ws_seq, ↓thn_nx, ↓thn_rt, ↓thn_br, ↓thn_ct, ↓thn_exc, ↓ws_skip, ↓ws_break, ↓ws_cont, ↓ws_retN, ↓ws_set, ↓ws_own, ↓ws_ret, ↓ws_drop, ↓ws_if, ↓ws_asg, ↓ws_par, ↓ws_setC, ↓wp_newc, ↓ws_app, ↓ws_ext, ↓ws_setI, ↓ws_frz, ↓ws_for, ↓wl_nil, ↓wl_cons, ↓wf_run, ↓retS_nx, ↓retS_rt, ↓lpS_nx, ↓lpS_ct, ↓lpS_br, ↓lpS_rt, ↓turn_nx, ↓turn_ct, ↓turn_br, ↓turn_rt, ↓wp_addI, ↓wp_addS, ↓wp_subI, ↓wp_mulI, ↓wp_divI, ↓wp_modI, ↓wp_powI, ↓wp_cmpI, ↓wp_eq, ↓wp_ne, ↓wp_negI, ↓wp_seqE, ↓wp_lstE, ↓wp_ixL, ↓wp_ixT, ↓wp_ixC, ↓wp_ixS, ↓wp_lenS, ↓wp_lenL, ↓wp_lenT, ↓wp_lenC, ↓wp_absI, ↓wp_intI, ↓wp_intB, ↓wp_intS, ↓wp_strI, ↓wp_boolI, ↓wp_boolB, ↓wp_all, ↓wp_any, ↓wp_sum, ↓wp_max2, ↓wp_min2, ↓wp_list, ↓wp_tuple, ↓wp_sorted, ↓wp_slS, ↓wp_slT, ↓wp_slC, ↓wp_slL, ↓wp_range1, ↓wp_range2, ↓wp_enum, ↓wp_zip, ↓wp_cat, ↓wp_rep, ↓wp_inSg, ↓wp_notInSg, ↓wp_inL, ↓wp_inT, ↓wp_notIn, ↓wp_isN, ↓wp_notN, tt1, tt2, tt3, tt4, tt5, tt6, tu1, tu2, tu3, tu4, tu5, tu6, tu7, tu8, tu9, tu10, tu11, tu12, tu13, tu14, tu15, tu16, tu17, tu18, tu19, tu20, tu21, tu22, tu23, tu24, asB_bl, truD_non, truD_bl, truD_int, truD_str, truD_lst, truD_tup, asI_int, asS_str, items_lst, items_tup, valS_v, valB_v, valB_own, seqD_lst, seqD_tup, seqD_cell0, lstD_lst, lstD_cell0, cellL_0, own_lst, nonB_non, nonB_bl, nonB_int, nonB_str, nonB_lst, nonB_tup, nonB_cell, nonB_obj, bools_nil, bools_cons, ints_nil, ints_cons, eqD_ii, eqD_bb, eqD_ss, eqD_nn, eqD_ni, eqD_in, eqD_nb, eqD_bn, eqD_ns, eqD_sn, eqD_is, eqD_si, eqD_bs, eqD_sb, tag_non, tag_bl, tag_int, tag_str, tag_lst, tag_tup, tag_obj, bindP_nm, bindP_tp, bindPs_nil, bindPs_cons, EG.runs, EG.run, ev, evs, evo, evr, mkE, mkL, failL, bopF, copF, bltF, lbltF, env0, wipeE, isiAny, isi1, frzS, Cell.toD, atI_nn, setAt_nn, wp_inSg, List.map_cons, List.map_nil, List.length_cons, List.length_nil, List.append_nil, List.nil_append, List.cons_append, List.replicate, List.getElem?_cons_zero, List.getElem?_cons_succ, List.set_cons_zero, List.set_cons_succ, Int.reduceNeg, Int.reducePow, nA10, nA2, le_big, Nat.reducePow, Nat.zero_add, Option.map_some, Option.bind_some, Int.reduceLE, Int.reduceToNat, Int.reduceLT, Nat.reduceLT, Nat.reduceAdd, Nat.reduceSub, true_and, and_true, decide_true, decide_false, List.length_append, List.length_map, Nat.reduceLeDiff, Nat.reduceEqDiff, Bool.not_true, Bool.not_false, decide_eq_true_eq, reduceCtorEq, Option.some.injEq, id_eq, List.all_cons, List.all_nil, List.any_cons, List.any_nil, Bool.and_true, Bool.true_and, Bool.and_false, Bool.false_and, Bool.or_true, Bool.or_false, kG, kConsts]
  refine pull_spec hb3 (by decide) (by decide) fun r4 b4 h4 h4' hb4 => ?_
  simp only [↓br_true, ↓br_false, ↓op_some, ↓wp_bind, ↓wp_pure, ↓wp_fail, ↓wp_opt, ↓wp_guard, ↓wp_noX, ↓wp_v, ↓wp_vB, ↓wp_c, ↓wp_op2, ↓wp_op2L, ↓wp_t, ↓wp_tru, ↓wp_chain, ↓wp_andT, ↓wp_orT, ↓wp_notT, ↓wp_andV, ↓wp_orV, ↓wp_notV, ↓wp_if, ↓wp_nil, ↓wp_cons, ↓wp_tup, ↓wp_lst, ↓wp_D, ↓wp_cb, ↓wp_call, ↓wp_isi, ↓wp_neg, ↓wp_sl, ↓wp_noP, ↓wp_P, ↓wp_yes, ↓wp_items, ↓wp_signs, ↓wp_comp, ↓ws_seq, ↓thn_nx, ↓thn_rt, ↓thn_br, ↓thn_ct, ↓thn_exc, ↓ws_skip, ↓ws_break, ↓ws_cont, ↓ws_retN, ↓ws_set, ↓ws_own, ↓ws_ret, ↓ws_drop, ↓ws_if, ↓ws_asg, ↓ws_par, ↓ws_setC, ↓wp_newc, ↓ws_app, ↓ws_ext, ↓ws_setI, ↓ws_frz, ↓ws_for, ↓wl_nil, ↓wl_cons, ↓wf_run, ↓retS_nx, ↓retS_rt, ↓lpS_nx, ↓lpS_ct, ↓lpS_br, ↓lpS_rt, ↓turn_nx, ↓turn_ct, ↓turn_br, ↓turn_rt, ↓wp_addI, ↓wp_addS, ↓wp_subI, ↓wp_mulI, ↓wp_divI, ↓wp_modI, ↓wp_powI, ↓wp_cmpI, ↓wp_eq, ↓wp_ne, ↓wp_negI, ↓wp_seqE, ↓wp_lstE, ↓wp_ixL, ↓wp_ixT, ↓wp_ixC, ↓wp_ixS, ↓wp_lenS, ↓wp_lenL, ↓wp_lenT, ↓wp_lenC, ↓wp_absI, ↓wp_intI, ↓wp_intB, ↓wp_intS, ↓wp_strI, ↓wp_boolI, ↓wp_boolB, ↓wp_all, ↓wp_any, ↓wp_sum, ↓wp_max2, ↓wp_min2, ↓wp_list, ↓wp_tuple, ↓wp_sorted, ↓wp_slS, ↓wp_slT, ↓wp_slC, ↓wp_slL, ↓wp_range1, ↓wp_range2, ↓wp_enum, ↓wp_zip, ↓wp_cat, ↓wp_rep, ↓wp_inSg, ↓wp_notInSg, ↓wp_inL, ↓wp_inT, ↓wp_notIn, ↓wp_isN, ↓wp_notN, tt1, tt2, tt3, tt4, tt5, tt6, tu1, tu2, tu3, tu4, tu5, tu6, tu7, tu8, tu9, tu10, tu11, tu12, tu13, tu14, tu15, tu16, tu17, tu18, tu19, tu20, tu21, tu22, tu23, tu24, asB_bl, truD_non, truD_bl, truD_int, truD_str, truD_lst, truD_tup, asI_int, asS_str, items_lst, items_tup, valS_v, valB_v, valB_own, seqD_lst, seqD_tup, seqD_cell0, lstD_lst, lstD_cell0, cellL_0, own_lst, nonB_non, nonB_bl, nonB_int, nonB_str, nonB_lst, nonB_tup, nonB_cell, nonB_obj, bools_nil, bools_cons, ints_nil, ints_cons, eqD_ii, eqD_bb, eqD_ss, eqD_nn, eqD_ni, eqD_in, eqD_nb, eqD_bn, eqD_ns, eqD_sn, eqD_is, eqD_si, eqD_bs, eqD_sb, tag_non, tag_bl, tag_int, tag_str, tag_lst, tag_tup, tag_obj, bindP_nm, bindP_tp, bindPs_nil, bindPs_cons, EG.runs, EG.run, ev, evs, evo, evr, mkE, mkL, failL, bopF, copF, bltF, lbltF, env0, wipeE, isiAny, isi1, frzS, Cell.toD, atI_nn, setAt_nn, wp_inSg, List.map_cons, List.map_nil, List.length_cons, List.length_nil, List.append_nil, List.nil_append, List.cons_append, List.replicate, List.getElem?_cons_zero, List.getElem?_cons_succ, List.set_cons_zero, List.set_cons_succ, Int.reduceNeg, Int.reducePow, nA10, nA2, le_big, Nat.reducePow, Nat.zero_add, Option.map_some, Option.bind_some, Int.reduceLE, Int.reduceToNat, Int.reduceLT, Nat.reduceLT, Nat.reduceAdd, Nat.reduceSub, true_and, and_true, decide_true, decide_false, List.length_append, List.length_map, Nat.reduceLeDiff, Nat.reduceEqDiff, Bool.not_true, Bool.not_false, decide_eq_true_eq, reduceCtorEq, Option.some.injEq, id_eq, List.all_cons, List.all_nil, List.any_cons, List.any_nil, Bool.and_true, Bool.true_and, Bool.and_false, Bool.false_and, Bool.or_true, Bool.or_false, kG, kConsts]
  refine of_spec (F := F_law_pull) (Γ := G_law_pull) (Γ' := G_law_of) (lv := 1) rfl rfl hb4 (List.cons_ne_nil _ _) (by simp) fun d b' hd hb' => ?_
  simp only [List.mem_cons, List.not_mem_nil, or_false] at hd
  simp only [↓br_true, ↓br_false, ↓op_some, ↓wp_bind, ↓wp_pure, ↓wp_fail, ↓wp_opt, ↓wp_guard, ↓wp_noX, ↓wp_v, ↓wp_vB, ↓wp_c, ↓wp_op2, ↓wp_op2L, ↓wp_t, ↓wp_tru, ↓wp_chain, ↓wp_andT, ↓wp_orT, ↓wp_notT, ↓wp_andV, ↓wp_orV, ↓wp_notV, ↓wp_if, ↓wp_nil, ↓wp_cons, ↓wp_tup, ↓wp_lst, ↓wp_D, ↓wp_cb, ↓wp_call, ↓wp_isi, ↓wp_neg, ↓wp_sl, ↓wp_noP, ↓wp_P, ↓wp_yes, ↓wp_items, ↓wp_signs, ↓wp_comp, ↓ws_seq, ↓thn_nx, ↓thn_rt, ↓thn_br, ↓thn_ct, ↓thn_exc, ↓ws_skip, ↓ws_break, ↓ws_cont, ↓ws_retN, ↓ws_set, ↓ws_own, ↓ws_ret, ↓ws_drop, ↓ws_if, ↓ws_asg, ↓ws_par, ↓ws_setC, ↓wp_newc, ↓ws_app, ↓ws_ext, ↓ws_setI, ↓ws_frz, ↓ws_for, ↓wl_nil, ↓wl_cons, ↓wf_run, ↓retS_nx, ↓retS_rt, ↓lpS_nx, ↓lpS_ct, ↓lpS_br, ↓lpS_rt, ↓turn_nx, ↓turn_ct, ↓turn_br, ↓turn_rt, ↓wp_addI, ↓wp_addS, ↓wp_subI, ↓wp_mulI, ↓wp_divI, ↓wp_modI, ↓wp_powI, ↓wp_cmpI, ↓wp_eq, ↓wp_ne, ↓wp_negI, ↓wp_seqE, ↓wp_lstE, ↓wp_ixL, ↓wp_ixT, ↓wp_ixC, ↓wp_ixS, ↓wp_lenS, ↓wp_lenL, ↓wp_lenT, ↓wp_lenC, ↓wp_absI, ↓wp_intI, ↓wp_intB, ↓wp_intS, ↓wp_strI, ↓wp_boolI, ↓wp_boolB, ↓wp_all, ↓wp_any, ↓wp_sum, ↓wp_max2, ↓wp_min2, ↓wp_list, ↓wp_tuple, ↓wp_sorted, ↓wp_slS, ↓wp_slT, ↓wp_slC, ↓wp_slL, ↓wp_range1, ↓wp_range2, ↓wp_enum, ↓wp_zip, ↓wp_cat, ↓wp_rep, ↓wp_inSg, ↓wp_notInSg, ↓wp_inL, ↓wp_inT, ↓wp_notIn, ↓wp_isN, ↓wp_notN, tt1, tt2, tt3, tt4, tt5, tt6, tu1, tu2, tu3, tu4, tu5, tu6, tu7, tu8, tu9, tu10, tu11, tu12, tu13, tu14, tu15, tu16, tu17, tu18, tu19, tu20, tu21, tu22, tu23, tu24, asB_bl, truD_non, truD_bl, truD_int, truD_str, truD_lst, truD_tup, asI_int, asS_str, items_lst, items_tup, valS_v, valB_v, valB_own, seqD_lst, seqD_tup, seqD_cell0, lstD_lst, lstD_cell0, cellL_0, own_lst, nonB_non, nonB_bl, nonB_int, nonB_str, nonB_lst, nonB_tup, nonB_cell, nonB_obj, bools_nil, bools_cons, ints_nil, ints_cons, eqD_ii, eqD_bb, eqD_ss, eqD_nn, eqD_ni, eqD_in, eqD_nb, eqD_bn, eqD_ns, eqD_sn, eqD_is, eqD_si, eqD_bs, eqD_sb, tag_non, tag_bl, tag_int, tag_str, tag_lst, tag_tup, tag_obj, bindP_nm, bindP_tp, bindPs_nil, bindPs_cons, EG.runs, EG.run, ev, evs, evo, evr, mkE, mkL, failL, bopF, copF, bltF, lbltF, env0, wipeE, isiAny, isi1, frzS, Cell.toD, atI_nn, setAt_nn, wp_inSg, List.map_cons, List.map_nil, List.length_cons, List.length_nil, List.append_nil, List.nil_append, List.cons_append, List.replicate, List.getElem?_cons_zero, List.getElem?_cons_succ, List.set_cons_zero, List.set_cons_succ, Int.reduceNeg, Int.reducePow, nA10, nA2, le_big, Nat.reducePow, Nat.zero_add, Option.map_some, Option.bind_some, Int.reduceLE, Int.reduceToNat, Int.reduceLT, Nat.reduceLT, Nat.reduceAdd, Nat.reduceSub, true_and, and_true, decide_true, decide_false, List.length_append, List.length_map, Nat.reduceLeDiff, Nat.reduceEqDiff, Bool.not_true, Bool.not_false, decide_eq_true_eq, reduceCtorEq, Option.some.injEq, id_eq, List.all_cons, List.all_nil, List.any_cons, List.any_nil, Bool.and_true, Bool.true_and, Bool.and_false, Bool.false_and, Bool.or_true, Bool.or_false, kG, kConsts]
  rcases hd with rfl | rfl | rfl | rfl <;> exact h _ b' (by omega) (by omega) hb'
def dg (c : Nat) : Bool := decide (c ∈ ("0123456789" : Str).cps.toList)
def digs (w : Str) : Bool := w.cps.toList.all dg
def sgB : D → Bool
  | .str s => match s.cps.toList with
    | [c] => dg c
    | _ => false
  | _ => false
theorem mem_signs {w : Str} {d : D} (h : d ∈ signs w) : ∃ c, d = .str ⟨#[c]⟩ ∧ sgB d = dg c := by
  obtain ⟨c, _, rfl⟩ := List.mem_map.mp h
  exact ⟨c, rfl, rfl⟩
theorem bools_signs : ∀ l : List Nat, boolsD ((l.map fun c => D.str ⟨#[c]⟩).map fun d => D.bl (sgB d)) = some (l.map dg)
  | [] => rfl
  | c :: r => by
    rw [List.map_cons, List.map_cons, bools_cons, bools_signs r]
    rfl
theorem filt_signs : ∀ l : List Nat, ((l.map fun c => D.str ⟨#[c]⟩).filter sgB).length = (l.filter dg).length
  | [] => rfl
  | c :: r => by
    have e : sgB (.str ⟨#[c]⟩) = dg c := rfl
    rw [List.map_cons, List.filter_cons, List.filter_cons, e]
    cases dg c with
    | true => simp only [if_true, List.length_cons, filt_signs r]
    | false => simpa using filt_signs r
theorem dg_iff {c : Nat} : dg c = true ↔ 48 ≤ c ∧ c ≤ 57 := by
  have e : ("0123456789" : Str).cps.toList = [48, 49, 50, 51, 52, 53, 54, 55, 56, 57] := by decide
  unfold dg
  rw [decide_eq_true_eq, e]
  simp only [List.mem_cons, List.not_mem_nil, or_false]
  omega
def val (w : Str) : Int := ((NumText.digitsVal w.cps.toList : Nat) : Int)
def z0 (w : Str) : Bool := match w.cps.toList with
  | c :: _ => decide ((⟨#[c]⟩ : Str) = "0")
  | [] => false
def goodB (w : Str) : Bool := decide (1 ≤ w.length) && (decide (w.length ≤ 13) && (digs w && (!(!decide (w = "0") && z0 w) && decide (val w ≤ 1000000000000))))
def amt (w : Str) : D := match goodB w with
  | true => .int (val w)
  | false => .non
theorem int_digs {w : Str} (h : digs w = true) (h1 : 1 ≤ w.length) (h2 : w.length ≤ 640) : PySem.intText? w = some (val w) :=
  PySem.intText_digits (fun c hc => dg_iff.mp (List.all_eq_true.mp h c hc)) (fun z => by rw [show w.length = w.cps.toList.length from rfl, z] at h1; exact absurd h1 (by decide)) (Nat.le_trans h2 (by decide))
theorem all_digs {w : Str} : (w.cps.toList.map dg).all id = digs w := by
  unfold digs
  rw [List.all_map]; rfl
theorem ch0 {w : Str} (h : 1 ≤ w.length) : ∃ c r, w.cps.toList = c :: r ∧ z0 w = decide ((⟨#[c]⟩ : Str) = "0") := by
  unfold z0
  cases e : w.cps.toList with
  | nil => rw [show w.length = w.cps.toList.length from rfl, e] at h; exact absurd h (by decide)
  | cons c r => exact ⟨c, r, rfl, rfl⟩
theorem read_spec {w : Str} (hl : w.length ≤ 640) (h : Q (amt w) μ) : Wf F_read_amount [.str w] μ Q E := by
  have no : goodB w = false → Q .non μ := fun e => by unfold amt at h; rw [e] at h; exact h
  have yes : goodB w = true → Q (.int (val w)) μ := fun e => by unfold amt at h; rw [e] at h; exact h
  unfold F_read_amount C_read_amount G_read_amount
  simp only [↓br_true, ↓br_false, ↓op_some, ↓wp_bind, ↓wp_pure, ↓wp_fail, ↓wp_opt, ↓wp_guard, ↓wp_noX, ↓wp_v, ↓wp_vB, ↓wp_c, ↓wp_op2, ↓wp_op2L, ↓wp_t, ↓wp_tru, ↓wp_chain, ↓wp_andT, ↓wp_orT, ↓wp_notT, ↓wp_andV, ↓wp_orV, ↓wp_notV, ↓wp_if, ↓wp_nil, ↓wp_cons, ↓wp_tup, ↓wp_lst, ↓wp_D, ↓wp_cb, ↓wp_call, ↓wp_isi, ↓wp_neg, ↓wp_sl, ↓wp_noP, ↓wp_P, ↓wp_yes, ↓wp_items, ↓wp_signs, ↓wp_comp, ↓ws_seq, ↓thn_nx, ↓thn_rt, ↓thn_br, ↓thn_ct, ↓thn_exc, ↓ws_skip, ↓ws_break, ↓ws_cont, ↓ws_retN, ↓ws_set, ↓ws_own, ↓ws_ret, ↓ws_drop, ↓ws_if, ↓ws_asg, ↓ws_par, ↓ws_setC, ↓wp_newc, ↓ws_app, ↓ws_ext, ↓ws_setI, ↓ws_frz, ↓ws_for, ↓wl_nil, ↓wl_cons, ↓wf_run, ↓retS_nx, ↓retS_rt, ↓lpS_nx, ↓lpS_ct, ↓lpS_br, ↓lpS_rt, ↓turn_nx, ↓turn_ct, ↓turn_br, ↓turn_rt, ↓wp_addI, ↓wp_addS, ↓wp_subI, ↓wp_mulI, ↓wp_divI, ↓wp_modI, ↓wp_powI, ↓wp_cmpI, ↓wp_eq, ↓wp_ne, ↓wp_negI, ↓wp_seqE, ↓wp_lstE, ↓wp_ixL, ↓wp_ixT, ↓wp_ixC, ↓wp_ixS, ↓wp_lenS, ↓wp_lenL, ↓wp_lenT, ↓wp_lenC, ↓wp_absI, ↓wp_intI, ↓wp_intB, ↓wp_intS, ↓wp_strI, ↓wp_boolI, ↓wp_boolB, ↓wp_all, ↓wp_any, ↓wp_sum, ↓wp_max2, ↓wp_min2, ↓wp_list, ↓wp_tuple, ↓wp_sorted, ↓wp_slS, ↓wp_slT, ↓wp_slC, ↓wp_slL, ↓wp_range1, ↓wp_range2, ↓wp_enum, ↓wp_zip, ↓wp_cat, ↓wp_rep, ↓wp_inSg, ↓wp_notInSg, ↓wp_inL, ↓wp_inT, ↓wp_notIn, ↓wp_isN, ↓wp_notN, tt1, tt2, tt3, tt4, tt5, tt6, tu1, tu2, tu3, tu4, tu5, tu6, tu7, tu8, tu9, tu10, tu11, tu12, tu13, tu14, tu15, tu16, tu17, tu18, tu19, tu20, tu21, tu22, tu23, tu24, asB_bl, truD_non, truD_bl, truD_int, truD_str, truD_lst, truD_tup, asI_int, asS_str, items_lst, items_tup, valS_v, valB_v, valB_own, seqD_lst, seqD_tup, seqD_cell0, lstD_lst, lstD_cell0, cellL_0, own_lst, nonB_non, nonB_bl, nonB_int, nonB_str, nonB_lst, nonB_tup, nonB_cell, nonB_obj, bools_nil, bools_cons, ints_nil, ints_cons, eqD_ii, eqD_bb, eqD_ss, eqD_nn, eqD_ni, eqD_in, eqD_nb, eqD_bn, eqD_ns, eqD_sn, eqD_is, eqD_si, eqD_bs, eqD_sb, tag_non, tag_bl, tag_int, tag_str, tag_lst, tag_tup, tag_obj, bindP_nm, bindP_tp, bindPs_nil, bindPs_cons, EG.runs, EG.run, ev, evs, evo, evr, mkE, mkL, failL, bopF, copF, bltF, lbltF, env0, wipeE, isiAny, isi1, frzS, Cell.toD, atI_nn, setAt_nn, wp_inSg, List.map_cons, List.map_nil, List.length_cons, List.length_nil, List.append_nil, List.nil_append, List.cons_append, List.replicate, List.getElem?_cons_zero, List.getElem?_cons_succ, List.set_cons_zero, List.set_cons_succ, Int.reduceNeg, Int.reducePow, nA10, nA2, le_big, Nat.reducePow, Nat.zero_add, Option.map_some, Option.bind_some, Int.reduceLE, Int.reduceToNat, Int.reduceLT, Nat.reduceLT, Nat.reduceAdd, Nat.reduceSub, true_and, and_true, decide_true, decide_false, List.length_append, List.length_map, Nat.reduceLeDiff, Nat.reduceEqDiff, Bool.not_true, Bool.not_false, decide_eq_true_eq, reduceCtorEq, Option.some.injEq, id_eq, List.all_cons, List.all_nil, List.any_cons, List.any_nil, Bool.and_true, Bool.true_and, Bool.and_false, Bool.false_and, Bool.or_true, Bool.or_false, kG, kConsts]
  refine br_cases (fun e1 => ?_) (fun e1 => ?_)
  · have e1 : 1 ≤ w.length := by have := of_decide_eq_true e1; omega
    simp only [↓br_true, ↓br_false, ↓op_some, ↓wp_bind, ↓wp_pure, ↓wp_fail, ↓wp_opt, ↓wp_guard, ↓wp_noX, ↓wp_v, ↓wp_vB, ↓wp_c, ↓wp_op2, ↓wp_op2L, ↓wp_t, ↓wp_tru, ↓wp_chain, ↓wp_andT, ↓wp_orT, ↓wp_notT, ↓wp_andV, ↓wp_orV, ↓wp_notV, ↓wp_if, ↓wp_nil, ↓wp_cons, ↓wp_tup, ↓wp_lst, ↓wp_D, ↓wp_cb, ↓wp_call, ↓wp_isi, ↓wp_neg, ↓wp_sl, ↓wp_noP, ↓wp_P, ↓wp_yes, ↓wp_items, ↓wp_signs, ↓wp_comp, ↓ws_seq, ↓thn_nx, ↓thn_rt, ↓thn_br, ↓thn_ct, ↓thn_exc, ↓ws_skip, ↓ws_break, ↓ws_cont, ↓ws_retN, ↓ws_set, ↓ws_own, ↓ws_ret, ↓ws_drop, ↓ws_if, ↓ws_asg, ↓ws_par, ↓ws_setC, ↓wp_newc, ↓ws_app, ↓ws_ext, ↓ws_setI, ↓ws_frz, ↓ws_for, ↓wl_nil, ↓wl_cons, ↓wf_run, ↓retS_nx, ↓retS_rt, ↓lpS_nx, ↓lpS_ct, ↓lpS_br, ↓lpS_rt, ↓turn_nx, ↓turn_ct, ↓turn_br, ↓turn_rt, ↓wp_addI, ↓wp_addS, ↓wp_subI, ↓wp_mulI, ↓wp_divI, ↓wp_modI, ↓wp_powI, ↓wp_cmpI, ↓wp_eq, ↓wp_ne, ↓wp_negI, ↓wp_seqE, ↓wp_lstE, ↓wp_ixL, ↓wp_ixT, ↓wp_ixC, ↓wp_ixS, ↓wp_lenS, ↓wp_lenL, ↓wp_lenT, ↓wp_lenC, ↓wp_absI, ↓wp_intI, ↓wp_intB, ↓wp_intS, ↓wp_strI, ↓wp_boolI, ↓wp_boolB, ↓wp_all, ↓wp_any, ↓wp_sum, ↓wp_max2, ↓wp_min2, ↓wp_list, ↓wp_tuple, ↓wp_sorted, ↓wp_slS, ↓wp_slT, ↓wp_slC, ↓wp_slL, ↓wp_range1, ↓wp_range2, ↓wp_enum, ↓wp_zip, ↓wp_cat, ↓wp_rep, ↓wp_inSg, ↓wp_notInSg, ↓wp_inL, ↓wp_inT, ↓wp_notIn, ↓wp_isN, ↓wp_notN, tt1, tt2, tt3, tt4, tt5, tt6, tu1, tu2, tu3, tu4, tu5, tu6, tu7, tu8, tu9, tu10, tu11, tu12, tu13, tu14, tu15, tu16, tu17, tu18, tu19, tu20, tu21, tu22, tu23, tu24, asB_bl, truD_non, truD_bl, truD_int, truD_str, truD_lst, truD_tup, asI_int, asS_str, items_lst, items_tup, valS_v, valB_v, valB_own, seqD_lst, seqD_tup, seqD_cell0, lstD_lst, lstD_cell0, cellL_0, own_lst, nonB_non, nonB_bl, nonB_int, nonB_str, nonB_lst, nonB_tup, nonB_cell, nonB_obj, bools_nil, bools_cons, ints_nil, ints_cons, eqD_ii, eqD_bb, eqD_ss, eqD_nn, eqD_ni, eqD_in, eqD_nb, eqD_bn, eqD_ns, eqD_sn, eqD_is, eqD_si, eqD_bs, eqD_sb, tag_non, tag_bl, tag_int, tag_str, tag_lst, tag_tup, tag_obj, bindP_nm, bindP_tp, bindPs_nil, bindPs_cons, EG.runs, EG.run, ev, evs, evo, evr, mkE, mkL, failL, bopF, copF, bltF, lbltF, env0, wipeE, isiAny, isi1, frzS, Cell.toD, atI_nn, setAt_nn, wp_inSg, List.map_cons, List.map_nil, List.length_cons, List.length_nil, List.append_nil, List.nil_append, List.cons_append, List.replicate, List.getElem?_cons_zero, List.getElem?_cons_succ, List.set_cons_zero, List.set_cons_succ, Int.reduceNeg, Int.reducePow, nA10, nA2, le_big, Nat.reducePow, Nat.zero_add, Option.map_some, Option.bind_some, Int.reduceLE, Int.reduceToNat, Int.reduceLT, Nat.reduceLT, Nat.reduceAdd, Nat.reduceSub, true_and, and_true, decide_true, decide_false, List.length_append, List.length_map, Nat.reduceLeDiff, Nat.reduceEqDiff, Bool.not_true, Bool.not_false, decide_eq_true_eq, reduceCtorEq, Option.some.injEq, id_eq, List.all_cons, List.all_nil, List.any_cons, List.any_nil, Bool.and_true, Bool.true_and, Bool.and_false, Bool.false_and, Bool.or_true, Bool.or_false, kG, kConsts]
    refine br_cases (fun e2 => ?_) (fun e2 => ?_)
    · have e2 : ¬ w.length ≤ 13 := fun z => by
        have z : (w.length : Int) ≤ 13 := by omega
        simp [z] at e2
      simp only [↓br_true, ↓br_false, ↓op_some, ↓wp_bind, ↓wp_pure, ↓wp_fail, ↓wp_opt, ↓wp_guard, ↓wp_noX, ↓wp_v, ↓wp_vB, ↓wp_c, ↓wp_op2, ↓wp_op2L, ↓wp_t, ↓wp_tru, ↓wp_chain, ↓wp_andT, ↓wp_orT, ↓wp_notT, ↓wp_andV, ↓wp_orV, ↓wp_notV, ↓wp_if, ↓wp_nil, ↓wp_cons, ↓wp_tup, ↓wp_lst, ↓wp_D, ↓wp_cb, ↓wp_call, ↓wp_isi, ↓wp_neg, ↓wp_sl, ↓wp_noP, ↓wp_P, ↓wp_yes, ↓wp_items, ↓wp_signs, ↓wp_comp, ↓ws_seq, ↓thn_nx, ↓thn_rt, ↓thn_br, ↓thn_ct, ↓thn_exc, ↓ws_skip, ↓ws_break, ↓ws_cont, ↓ws_retN, ↓ws_set, ↓ws_own, ↓ws_ret, ↓ws_drop, ↓ws_if, ↓ws_asg, ↓ws_par, ↓ws_setC, ↓wp_newc, ↓ws_app, ↓ws_ext, ↓ws_setI, ↓ws_frz, ↓ws_for, ↓wl_nil, ↓wl_cons, ↓wf_run, ↓retS_nx, ↓retS_rt, ↓lpS_nx, ↓lpS_ct, ↓lpS_br, ↓lpS_rt, ↓turn_nx, ↓turn_ct, ↓turn_br, ↓turn_rt, ↓wp_addI, ↓wp_addS, ↓wp_subI, ↓wp_mulI, ↓wp_divI, ↓wp_modI, ↓wp_powI, ↓wp_cmpI, ↓wp_eq, ↓wp_ne, ↓wp_negI, ↓wp_seqE, ↓wp_lstE, ↓wp_ixL, ↓wp_ixT, ↓wp_ixC, ↓wp_ixS, ↓wp_lenS, ↓wp_lenL, ↓wp_lenT, ↓wp_lenC, ↓wp_absI, ↓wp_intI, ↓wp_intB, ↓wp_intS, ↓wp_strI, ↓wp_boolI, ↓wp_boolB, ↓wp_all, ↓wp_any, ↓wp_sum, ↓wp_max2, ↓wp_min2, ↓wp_list, ↓wp_tuple, ↓wp_sorted, ↓wp_slS, ↓wp_slT, ↓wp_slC, ↓wp_slL, ↓wp_range1, ↓wp_range2, ↓wp_enum, ↓wp_zip, ↓wp_cat, ↓wp_rep, ↓wp_inSg, ↓wp_notInSg, ↓wp_inL, ↓wp_inT, ↓wp_notIn, ↓wp_isN, ↓wp_notN, tt1, tt2, tt3, tt4, tt5, tt6, tu1, tu2, tu3, tu4, tu5, tu6, tu7, tu8, tu9, tu10, tu11, tu12, tu13, tu14, tu15, tu16, tu17, tu18, tu19, tu20, tu21, tu22, tu23, tu24, asB_bl, truD_non, truD_bl, truD_int, truD_str, truD_lst, truD_tup, asI_int, asS_str, items_lst, items_tup, valS_v, valB_v, valB_own, seqD_lst, seqD_tup, seqD_cell0, lstD_lst, lstD_cell0, cellL_0, own_lst, nonB_non, nonB_bl, nonB_int, nonB_str, nonB_lst, nonB_tup, nonB_cell, nonB_obj, bools_nil, bools_cons, ints_nil, ints_cons, eqD_ii, eqD_bb, eqD_ss, eqD_nn, eqD_ni, eqD_in, eqD_nb, eqD_bn, eqD_ns, eqD_sn, eqD_is, eqD_si, eqD_bs, eqD_sb, tag_non, tag_bl, tag_int, tag_str, tag_lst, tag_tup, tag_obj, bindP_nm, bindP_tp, bindPs_nil, bindPs_cons, EG.runs, EG.run, ev, evs, evo, evr, mkE, mkL, failL, bopF, copF, bltF, lbltF, env0, wipeE, isiAny, isi1, frzS, Cell.toD, atI_nn, setAt_nn, wp_inSg, List.map_cons, List.map_nil, List.length_cons, List.length_nil, List.append_nil, List.nil_append, List.cons_append, List.replicate, List.getElem?_cons_zero, List.getElem?_cons_succ, List.set_cons_zero, List.set_cons_succ, Int.reduceNeg, Int.reducePow, nA10, nA2, le_big, Nat.reducePow, Nat.zero_add, Option.map_some, Option.bind_some, Int.reduceLE, Int.reduceToNat, Int.reduceLT, Nat.reduceLT, Nat.reduceAdd, Nat.reduceSub, true_and, and_true, decide_true, decide_false, List.length_append, List.length_map, Nat.reduceLeDiff, Nat.reduceEqDiff, Bool.not_true, Bool.not_false, decide_eq_true_eq, reduceCtorEq, Option.some.injEq, id_eq, List.all_cons, List.all_nil, List.any_cons, List.any_nil, Bool.and_true, Bool.true_and, Bool.and_false, Bool.false_and, Bool.or_true, Bool.or_false, kG, kConsts]
      exact no (by unfold goodB; simp [e2])
    · have e2 : w.length ≤ 13 := by have := of_decide_eq_true (by simpa using e2); omega
      obtain ⟨c0, r0, hc, hz⟩ := ch0 e1
      simp only [↓br_true, ↓br_false, ↓op_some, ↓wp_bind, ↓wp_pure, ↓wp_fail, ↓wp_opt, ↓wp_guard, ↓wp_noX, ↓wp_v, ↓wp_vB, ↓wp_c, ↓wp_op2, ↓wp_op2L, ↓wp_t, ↓wp_tru, ↓wp_chain, ↓wp_andT, ↓wp_orT, ↓wp_notT, ↓wp_andV, ↓wp_orV, ↓wp_notV, ↓wp_if, ↓wp_nil, ↓wp_cons, ↓wp_tup, ↓wp_lst, ↓wp_D, ↓wp_cb, ↓wp_call, ↓wp_isi, ↓wp_neg, ↓wp_sl, ↓wp_noP, ↓wp_P, ↓wp_yes, ↓wp_items, ↓wp_signs, ↓wp_comp, ↓ws_seq, ↓thn_nx, ↓thn_rt, ↓thn_br, ↓thn_ct, ↓thn_exc, ↓ws_skip, ↓ws_break, ↓ws_cont, ↓ws_retN, ↓ws_set, ↓ws_own, ↓ws_ret, ↓ws_drop, ↓ws_if, ↓ws_asg, ↓ws_par, ↓ws_setC, ↓wp_newc, ↓ws_app, ↓ws_ext, ↓ws_setI, ↓ws_frz, ↓ws_for, ↓wl_nil, ↓wl_cons, ↓wf_run, ↓retS_nx, ↓retS_rt, ↓lpS_nx, ↓lpS_ct, ↓lpS_br, ↓lpS_rt, ↓turn_nx, ↓turn_ct, ↓turn_br, ↓turn_rt, ↓wp_addI, ↓wp_addS, ↓wp_subI, ↓wp_mulI, ↓wp_divI, ↓wp_modI, ↓wp_powI, ↓wp_cmpI, ↓wp_eq, ↓wp_ne, ↓wp_negI, ↓wp_seqE, ↓wp_lstE, ↓wp_ixL, ↓wp_ixT, ↓wp_ixC, ↓wp_ixS, ↓wp_lenS, ↓wp_lenL, ↓wp_lenT, ↓wp_lenC, ↓wp_absI, ↓wp_intI, ↓wp_intB, ↓wp_intS, ↓wp_strI, ↓wp_boolI, ↓wp_boolB, ↓wp_all, ↓wp_any, ↓wp_sum, ↓wp_max2, ↓wp_min2, ↓wp_list, ↓wp_tuple, ↓wp_sorted, ↓wp_slS, ↓wp_slT, ↓wp_slC, ↓wp_slL, ↓wp_range1, ↓wp_range2, ↓wp_enum, ↓wp_zip, ↓wp_cat, ↓wp_rep, ↓wp_inSg, ↓wp_notInSg, ↓wp_inL, ↓wp_inT, ↓wp_notIn, ↓wp_isN, ↓wp_notN, tt1, tt2, tt3, tt4, tt5, tt6, tu1, tu2, tu3, tu4, tu5, tu6, tu7, tu8, tu9, tu10, tu11, tu12, tu13, tu14, tu15, tu16, tu17, tu18, tu19, tu20, tu21, tu22, tu23, tu24, asB_bl, truD_non, truD_bl, truD_int, truD_str, truD_lst, truD_tup, asI_int, asS_str, items_lst, items_tup, valS_v, valB_v, valB_own, seqD_lst, seqD_tup, seqD_cell0, lstD_lst, lstD_cell0, cellL_0, own_lst, nonB_non, nonB_bl, nonB_int, nonB_str, nonB_lst, nonB_tup, nonB_cell, nonB_obj, bools_nil, bools_cons, ints_nil, ints_cons, eqD_ii, eqD_bb, eqD_ss, eqD_nn, eqD_ni, eqD_in, eqD_nb, eqD_bn, eqD_ns, eqD_sn, eqD_is, eqD_si, eqD_bs, eqD_sb, tag_non, tag_bl, tag_int, tag_str, tag_lst, tag_tup, tag_obj, bindP_nm, bindP_tp, bindPs_nil, bindPs_cons, EG.runs, EG.run, ev, evs, evo, evr, mkE, mkL, failL, bopF, copF, bltF, lbltF, env0, wipeE, isiAny, isi1, frzS, Cell.toD, atI_nn, setAt_nn, wp_inSg, List.map_cons, List.map_nil, List.length_cons, List.length_nil, List.append_nil, List.nil_append, List.cons_append, List.replicate, List.getElem?_cons_zero, List.getElem?_cons_succ, List.set_cons_zero, List.set_cons_succ, Int.reduceNeg, Int.reducePow, nA10, nA2, le_big, Nat.reducePow, Nat.zero_add, Option.map_some, Option.bind_some, Int.reduceLE, Int.reduceToNat, Int.reduceLT, Nat.reduceLT, Nat.reduceAdd, Nat.reduceSub, true_and, and_true, decide_true, decide_false, List.length_append, List.length_map, Nat.reduceLeDiff, Nat.reduceEqDiff, Bool.not_true, Bool.not_false, decide_eq_true_eq, reduceCtorEq, Option.some.injEq, id_eq, List.all_cons, List.all_nil, List.any_cons, List.any_nil, Bool.and_true, Bool.true_and, Bool.and_false, Bool.false_and, Bool.or_true, Bool.or_false, kG, kConsts]
      refine wp_of_eq (compL_pure (fun _ => true) (fun d => .bl (sgB d)) (signs w) fun d hd => ?_) ?_
      · obtain ⟨c, rfl, hg⟩ := mem_signs hd
        refine ⟨_, bindP_nm, by simp only [↓br_true, ↓br_false, ↓op_some, ↓wp_bind, ↓wp_pure, ↓wp_fail, ↓wp_opt, ↓wp_guard, ↓wp_noX, ↓wp_v, ↓wp_vB, ↓wp_c, ↓wp_op2, ↓wp_op2L, ↓wp_t, ↓wp_tru, ↓wp_chain, ↓wp_andT, ↓wp_orT, ↓wp_notT, ↓wp_andV, ↓wp_orV, ↓wp_notV, ↓wp_if, ↓wp_nil, ↓wp_cons, ↓wp_tup, ↓wp_lst, ↓wp_D, ↓wp_cb, ↓wp_call, ↓wp_isi, ↓wp_neg, ↓wp_sl, ↓wp_noP, ↓wp_P, ↓wp_yes, ↓wp_items, ↓wp_signs, ↓wp_comp, ↓ws_seq, ↓thn_nx, ↓thn_rt, ↓thn_br, ↓thn_ct, ↓thn_exc, ↓ws_skip, ↓ws_break, ↓ws_cont, ↓ws_retN, ↓ws_set, ↓ws_own, ↓ws_ret, ↓ws_drop, ↓ws_if, ↓ws_asg, ↓ws_par, ↓ws_setC, ↓wp_newc, ↓ws_app, ↓ws_ext, ↓ws_setI, ↓ws_frz, ↓ws_for, ↓wl_nil, ↓wl_cons, ↓wf_run, ↓retS_nx, ↓retS_rt, ↓lpS_nx, ↓lpS_ct, ↓lpS_br, ↓lpS_rt, ↓turn_nx, ↓turn_ct, ↓turn_br, ↓turn_rt, ↓wp_addI, ↓wp_addS, ↓wp_subI, ↓wp_mulI, ↓wp_divI, ↓wp_modI, ↓wp_powI, ↓wp_cmpI, ↓wp_eq, ↓wp_ne, ↓wp_negI, ↓wp_seqE, ↓wp_lstE, ↓wp_ixL, ↓wp_ixT, ↓wp_ixC, ↓wp_ixS, ↓wp_lenS, ↓wp_lenL, ↓wp_lenT, ↓wp_lenC, ↓wp_absI, ↓wp_intI, ↓wp_intB, ↓wp_intS, ↓wp_strI, ↓wp_boolI, ↓wp_boolB, ↓wp_all, ↓wp_any, ↓wp_sum, ↓wp_max2, ↓wp_min2, ↓wp_list, ↓wp_tuple, ↓wp_sorted, ↓wp_slS, ↓wp_slT, ↓wp_slC, ↓wp_slL, ↓wp_range1, ↓wp_range2, ↓wp_enum, ↓wp_zip, ↓wp_cat, ↓wp_rep, ↓wp_inSg, ↓wp_notInSg, ↓wp_inL, ↓wp_inT, ↓wp_notIn, ↓wp_isN, ↓wp_notN, tt1, tt2, tt3, tt4, tt5, tt6, tu1, tu2, tu3, tu4, tu5, tu6, tu7, tu8, tu9, tu10, tu11, tu12, tu13, tu14, tu15, tu16, tu17, tu18, tu19, tu20, tu21, tu22, tu23, tu24, asB_bl, truD_non, truD_bl, truD_int, truD_str, truD_lst, truD_tup, asI_int, asS_str, items_lst, items_tup, valS_v, valB_v, valB_own, seqD_lst, seqD_tup, seqD_cell0, lstD_lst, lstD_cell0, cellL_0, own_lst, nonB_non, nonB_bl, nonB_int, nonB_str, nonB_lst, nonB_tup, nonB_cell, nonB_obj, bools_nil, bools_cons, ints_nil, ints_cons, eqD_ii, eqD_bb, eqD_ss, eqD_nn, eqD_ni, eqD_in, eqD_nb, eqD_bn, eqD_ns, eqD_sn, eqD_is, eqD_si, eqD_bs, eqD_sb, tag_non, tag_bl, tag_int, tag_str, tag_lst, tag_tup, tag_obj, bindP_nm, bindP_tp, bindPs_nil, bindPs_cons, EG.runs, EG.run, ev, evs, evo, evr, mkE, mkL, failL, bopF, copF, bltF, lbltF, env0, wipeE, isiAny, isi1, frzS, Cell.toD, atI_nn, setAt_nn, wp_inSg, List.map_cons, List.map_nil, List.length_cons, List.length_nil, List.append_nil, List.nil_append, List.cons_append, List.replicate, List.getElem?_cons_zero, List.getElem?_cons_succ, List.set_cons_zero, List.set_cons_succ, Int.reduceNeg, Int.reducePow, nA10, nA2, le_big, Nat.reducePow, Nat.zero_add, Option.map_some, Option.bind_some, Int.reduceLE, Int.reduceToNat, Int.reduceLT, Nat.reduceLT, Nat.reduceAdd, Nat.reduceSub, true_and, and_true, decide_true, decide_false, List.length_append, List.length_map, Nat.reduceLeDiff, Nat.reduceEqDiff, Bool.not_true, Bool.not_false, decide_eq_true_eq, reduceCtorEq, Option.some.injEq, id_eq, List.all_cons, List.all_nil, List.any_cons, List.any_nil, Bool.and_true, Bool.true_and, Bool.and_false, Bool.false_and, Bool.or_true, Bool.or_false, kG, kConsts], fun _ => ?_⟩
        simp only [↓br_true, ↓br_false, ↓op_some, ↓wp_bind, ↓wp_pure, ↓wp_fail, ↓wp_opt, ↓wp_guard, ↓wp_noX, ↓wp_v, ↓wp_vB, ↓wp_c, ↓wp_op2, ↓wp_op2L, ↓wp_t, ↓wp_tru, ↓wp_chain, ↓wp_andT, ↓wp_orT, ↓wp_notT, ↓wp_andV, ↓wp_orV, ↓wp_notV, ↓wp_if, ↓wp_nil, ↓wp_cons, ↓wp_tup, ↓wp_lst, ↓wp_D, ↓wp_cb, ↓wp_call, ↓wp_isi, ↓wp_neg, ↓wp_sl, ↓wp_noP, ↓wp_P, ↓wp_yes, ↓wp_items, ↓wp_signs, ↓wp_comp, ↓ws_seq, ↓thn_nx, ↓thn_rt, ↓thn_br, ↓thn_ct, ↓thn_exc, ↓ws_skip, ↓ws_break, ↓ws_cont, ↓ws_retN, ↓ws_set, ↓ws_own, ↓ws_ret, ↓ws_drop, ↓ws_if, ↓ws_asg, ↓ws_par, ↓ws_setC, ↓wp_newc, ↓ws_app, ↓ws_ext, ↓ws_setI, ↓ws_frz, ↓ws_for, ↓wl_nil, ↓wl_cons, ↓wf_run, ↓retS_nx, ↓retS_rt, ↓lpS_nx, ↓lpS_ct, ↓lpS_br, ↓lpS_rt, ↓turn_nx, ↓turn_ct, ↓turn_br, ↓turn_rt, ↓wp_addI, ↓wp_addS, ↓wp_subI, ↓wp_mulI, ↓wp_divI, ↓wp_modI, ↓wp_powI, ↓wp_cmpI, ↓wp_eq, ↓wp_ne, ↓wp_negI, ↓wp_seqE, ↓wp_lstE, ↓wp_ixL, ↓wp_ixT, ↓wp_ixC, ↓wp_ixS, ↓wp_lenS, ↓wp_lenL, ↓wp_lenT, ↓wp_lenC, ↓wp_absI, ↓wp_intI, ↓wp_intB, ↓wp_intS, ↓wp_strI, ↓wp_boolI, ↓wp_boolB, ↓wp_all, ↓wp_any, ↓wp_sum, ↓wp_max2, ↓wp_min2, ↓wp_list, ↓wp_tuple, ↓wp_sorted, ↓wp_slS, ↓wp_slT, ↓wp_slC, ↓wp_slL, ↓wp_range1, ↓wp_range2, ↓wp_enum, ↓wp_zip, ↓wp_cat, ↓wp_rep, ↓wp_inSg, ↓wp_notInSg, ↓wp_inL, ↓wp_inT, ↓wp_notIn, ↓wp_isN, ↓wp_notN, tt1, tt2, tt3, tt4, tt5, tt6, tu1, tu2, tu3, tu4, tu5, tu6, tu7, tu8, tu9, tu10, tu11, tu12, tu13, tu14, tu15, tu16, tu17, tu18, tu19, tu20, tu21, tu22, tu23, tu24, asB_bl, truD_non, truD_bl, truD_int, truD_str, truD_lst, truD_tup, asI_int, asS_str, items_lst, items_tup, valS_v, valB_v, valB_own, seqD_lst, seqD_tup, seqD_cell0, lstD_lst, lstD_cell0, cellL_0, own_lst, nonB_non, nonB_bl, nonB_int, nonB_str, nonB_lst, nonB_tup, nonB_cell, nonB_obj, bools_nil, bools_cons, ints_nil, ints_cons, eqD_ii, eqD_bb, eqD_ss, eqD_nn, eqD_ni, eqD_in, eqD_nb, eqD_bn, eqD_ns, eqD_sn, eqD_is, eqD_si, eqD_bs, eqD_sb, tag_non, tag_bl, tag_int, tag_str, tag_lst, tag_tup, tag_obj, bindP_nm, bindP_tp, bindPs_nil, bindPs_cons, EG.runs, EG.run, ev, evs, evo, evr, mkE, mkL, failL, bopF, copF, bltF, lbltF, env0, wipeE, isiAny, isi1, frzS, Cell.toD, atI_nn, setAt_nn, wp_inSg, List.map_cons, List.map_nil, List.length_cons, List.length_nil, List.append_nil, List.nil_append, List.cons_append, List.replicate, List.getElem?_cons_zero, List.getElem?_cons_succ, List.set_cons_zero, List.set_cons_succ, Int.reduceNeg, Int.reducePow, nA10, nA2, le_big, Nat.reducePow, Nat.zero_add, Option.map_some, Option.bind_some, Int.reduceLE, Int.reduceToNat, Int.reduceLT, Nat.reduceLT, Nat.reduceAdd, Nat.reduceSub, true_and, and_true, decide_true, decide_false, List.length_append, List.length_map, Nat.reduceLeDiff, Nat.reduceEqDiff, Bool.not_true, Bool.not_false, decide_eq_true_eq, reduceCtorEq, Option.some.injEq, id_eq, List.all_cons, List.all_nil, List.any_cons, List.any_nil, Bool.and_true, Bool.true_and, Bool.and_false, Bool.false_and, Bool.or_true, Bool.or_false, kG, kConsts]
        rfl
      · have hb := bools_signs w.cps.toList
        have hs : (signs w).filter (fun _ => true) = w.cps.toList.map fun c => D.str ⟨#[c]⟩ := List.filter_eq_self.mpr fun _ _ => rfl
        rw [hs]
        simp only [↓br_true, ↓br_false, ↓op_some, ↓wp_bind, ↓wp_pure, ↓wp_fail, ↓wp_opt, ↓wp_guard, ↓wp_noX, ↓wp_v, ↓wp_vB, ↓wp_c, ↓wp_op2, ↓wp_op2L, ↓wp_t, ↓wp_tru, ↓wp_chain, ↓wp_andT, ↓wp_orT, ↓wp_notT, ↓wp_andV, ↓wp_orV, ↓wp_notV, ↓wp_if, ↓wp_nil, ↓wp_cons, ↓wp_tup, ↓wp_lst, ↓wp_D, ↓wp_cb, ↓wp_call, ↓wp_isi, ↓wp_neg, ↓wp_sl, ↓wp_noP, ↓wp_P, ↓wp_yes, ↓wp_items, ↓wp_signs, ↓wp_comp, ↓ws_seq, ↓thn_nx, ↓thn_rt, ↓thn_br, ↓thn_ct, ↓thn_exc, ↓ws_skip, ↓ws_break, ↓ws_cont, ↓ws_retN, ↓ws_set, ↓ws_own, ↓ws_ret, ↓ws_drop, ↓ws_if, ↓ws_asg, ↓ws_par, ↓ws_setC, ↓wp_newc, ↓ws_app, ↓ws_ext, ↓ws_setI, ↓ws_frz, ↓ws_for, ↓wl_nil, ↓wl_cons, ↓wf_run, ↓retS_nx, ↓retS_rt, ↓lpS_nx, ↓lpS_ct, ↓lpS_br, ↓lpS_rt, ↓turn_nx, ↓turn_ct, ↓turn_br, ↓turn_rt, ↓wp_addI, ↓wp_addS, ↓wp_subI, ↓wp_mulI, ↓wp_divI, ↓wp_modI, ↓wp_powI, ↓wp_cmpI, ↓wp_eq, ↓wp_ne, ↓wp_negI, ↓wp_seqE, ↓wp_lstE, ↓wp_ixL, ↓wp_ixT, ↓wp_ixC, ↓wp_ixS, ↓wp_lenS, ↓wp_lenL, ↓wp_lenT, ↓wp_lenC, ↓wp_absI, ↓wp_intI, ↓wp_intB, ↓wp_intS, ↓wp_strI, ↓wp_boolI, ↓wp_boolB, ↓wp_all, ↓wp_any, ↓wp_sum, ↓wp_max2, ↓wp_min2, ↓wp_list, ↓wp_tuple, ↓wp_sorted, ↓wp_slS, ↓wp_slT, ↓wp_slC, ↓wp_slL, ↓wp_range1, ↓wp_range2, ↓wp_enum, ↓wp_zip, ↓wp_cat, ↓wp_rep, ↓wp_inSg, ↓wp_notInSg, ↓wp_inL, ↓wp_inT, ↓wp_notIn, ↓wp_isN, ↓wp_notN, tt1, tt2, tt3, tt4, tt5, tt6, tu1, tu2, tu3, tu4, tu5, tu6, tu7, tu8, tu9, tu10, tu11, tu12, tu13, tu14, tu15, tu16, tu17, tu18, tu19, tu20, tu21, tu22, tu23, tu24, asB_bl, truD_non, truD_bl, truD_int, truD_str, truD_lst, truD_tup, asI_int, asS_str, items_lst, items_tup, valS_v, valB_v, valB_own, seqD_lst, seqD_tup, seqD_cell0, lstD_lst, lstD_cell0, cellL_0, own_lst, nonB_non, nonB_bl, nonB_int, nonB_str, nonB_lst, nonB_tup, nonB_cell, nonB_obj, bools_nil, bools_cons, ints_nil, ints_cons, eqD_ii, eqD_bb, eqD_ss, eqD_nn, eqD_ni, eqD_in, eqD_nb, eqD_bn, eqD_ns, eqD_sn, eqD_is, eqD_si, eqD_bs, eqD_sb, tag_non, tag_bl, tag_int, tag_str, tag_lst, tag_tup, tag_obj, bindP_nm, bindP_tp, bindPs_nil, bindPs_cons, EG.runs, EG.run, ev, evs, evo, evr, mkE, mkL, failL, bopF, copF, bltF, lbltF, env0, wipeE, isiAny, isi1, frzS, Cell.toD, atI_nn, setAt_nn, wp_inSg, List.map_cons, List.map_nil, List.length_cons, List.length_nil, List.append_nil, List.nil_append, List.cons_append, List.replicate, List.getElem?_cons_zero, List.getElem?_cons_succ, List.set_cons_zero, List.set_cons_succ, Int.reduceNeg, Int.reducePow, nA10, nA2, le_big, Nat.reducePow, Nat.zero_add, Option.map_some, Option.bind_some, Int.reduceLE, Int.reduceToNat, Int.reduceLT, Nat.reduceLT, Nat.reduceAdd, Nat.reduceSub, true_and, and_true, decide_true, decide_false, List.length_append, List.length_map, Nat.reduceLeDiff, Nat.reduceEqDiff, Bool.not_true, Bool.not_false, decide_eq_true_eq, reduceCtorEq, Option.some.injEq, id_eq, List.all_cons, List.all_nil, List.any_cons, List.any_nil, Bool.and_true, Bool.true_and, Bool.and_false, Bool.false_and, Bool.or_true, Bool.or_false, kG, kConsts, hb, all_digs]
        refine br_cases (fun e3 => ?_) (fun e3 => ?_)
        · simp only [↓br_true, ↓br_false, ↓op_some, ↓wp_bind, ↓wp_pure, ↓wp_fail, ↓wp_opt, ↓wp_guard, ↓wp_noX, ↓wp_v, ↓wp_vB, ↓wp_c, ↓wp_op2, ↓wp_op2L, ↓wp_t, ↓wp_tru, ↓wp_chain, ↓wp_andT, ↓wp_orT, ↓wp_notT, ↓wp_andV, ↓wp_orV, ↓wp_notV, ↓wp_if, ↓wp_nil, ↓wp_cons, ↓wp_tup, ↓wp_lst, ↓wp_D, ↓wp_cb, ↓wp_call, ↓wp_isi, ↓wp_neg, ↓wp_sl, ↓wp_noP, ↓wp_P, ↓wp_yes, ↓wp_items, ↓wp_signs, ↓wp_comp, ↓ws_seq, ↓thn_nx, ↓thn_rt, ↓thn_br, ↓thn_ct, ↓thn_exc, ↓ws_skip, ↓ws_break, ↓ws_cont, ↓ws_retN, ↓ws_set, ↓ws_own, ↓ws_ret, ↓ws_drop, ↓ws_if, ↓ws_asg, ↓ws_par, ↓ws_setC, ↓wp_newc, ↓ws_app, ↓ws_ext, ↓ws_setI, ↓ws_frz, ↓ws_for, ↓wl_nil, ↓wl_cons, ↓wf_run, ↓retS_nx, ↓retS_rt, ↓lpS_nx, ↓lpS_ct, ↓lpS_br, ↓lpS_rt, ↓turn_nx, ↓turn_ct, ↓turn_br, ↓turn_rt, ↓wp_addI, ↓wp_addS, ↓wp_subI, ↓wp_mulI, ↓wp_divI, ↓wp_modI, ↓wp_powI, ↓wp_cmpI, ↓wp_eq, ↓wp_ne, ↓wp_negI, ↓wp_seqE, ↓wp_lstE, ↓wp_ixL, ↓wp_ixT, ↓wp_ixC, ↓wp_ixS, ↓wp_lenS, ↓wp_lenL, ↓wp_lenT, ↓wp_lenC, ↓wp_absI, ↓wp_intI, ↓wp_intB, ↓wp_intS, ↓wp_strI, ↓wp_boolI, ↓wp_boolB, ↓wp_all, ↓wp_any, ↓wp_sum, ↓wp_max2, ↓wp_min2, ↓wp_list, ↓wp_tuple, ↓wp_sorted, ↓wp_slS, ↓wp_slT, ↓wp_slC, ↓wp_slL, ↓wp_range1, ↓wp_range2, ↓wp_enum, ↓wp_zip, ↓wp_cat, ↓wp_rep, ↓wp_inSg, ↓wp_notInSg, ↓wp_inL, ↓wp_inT, ↓wp_notIn, ↓wp_isN, ↓wp_notN, tt1, tt2, tt3, tt4, tt5, tt6, tu1, tu2, tu3, tu4, tu5, tu6, tu7, tu8, tu9, tu10, tu11, tu12, tu13, tu14, tu15, tu16, tu17, tu18, tu19, tu20, tu21, tu22, tu23, tu24, asB_bl, truD_non, truD_bl, truD_int, truD_str, truD_lst, truD_tup, asI_int, asS_str, items_lst, items_tup, valS_v, valB_v, valB_own, seqD_lst, seqD_tup, seqD_cell0, lstD_lst, lstD_cell0, cellL_0, own_lst, nonB_non, nonB_bl, nonB_int, nonB_str, nonB_lst, nonB_tup, nonB_cell, nonB_obj, bools_nil, bools_cons, ints_nil, ints_cons, eqD_ii, eqD_bb, eqD_ss, eqD_nn, eqD_ni, eqD_in, eqD_nb, eqD_bn, eqD_ns, eqD_sn, eqD_is, eqD_si, eqD_bs, eqD_sb, tag_non, tag_bl, tag_int, tag_str, tag_lst, tag_tup, tag_obj, bindP_nm, bindP_tp, bindPs_nil, bindPs_cons, EG.runs, EG.run, ev, evs, evo, evr, mkE, mkL, failL, bopF, copF, bltF, lbltF, env0, wipeE, isiAny, isi1, frzS, Cell.toD, atI_nn, setAt_nn, wp_inSg, List.map_cons, List.map_nil, List.length_cons, List.length_nil, List.append_nil, List.nil_append, List.cons_append, List.replicate, List.getElem?_cons_zero, List.getElem?_cons_succ, List.set_cons_zero, List.set_cons_succ, Int.reduceNeg, Int.reducePow, nA10, nA2, le_big, Nat.reducePow, Nat.zero_add, Option.map_some, Option.bind_some, Int.reduceLE, Int.reduceToNat, Int.reduceLT, Nat.reduceLT, Nat.reduceAdd, Nat.reduceSub, true_and, and_true, decide_true, decide_false, List.length_append, List.length_map, Nat.reduceLeDiff, Nat.reduceEqDiff, Bool.not_true, Bool.not_false, decide_eq_true_eq, reduceCtorEq, Option.some.injEq, id_eq, List.all_cons, List.all_nil, List.any_cons, List.any_nil, Bool.and_true, Bool.true_and, Bool.and_false, Bool.false_and, Bool.or_true, Bool.or_false, kG, kConsts]
          exact no (by unfold goodB; rw [show digs w = false by simpa using e3]; simp)
        · have e3 : digs w = true := by simpa using e3
          have hi := int_digs e3 e1 hl
          simp only [↓br_true, ↓br_false, ↓op_some, ↓wp_bind, ↓wp_pure, ↓wp_fail, ↓wp_opt, ↓wp_guard, ↓wp_noX, ↓wp_v, ↓wp_vB, ↓wp_c, ↓wp_op2, ↓wp_op2L, ↓wp_t, ↓wp_tru, ↓wp_chain, ↓wp_andT, ↓wp_orT, ↓wp_notT, ↓wp_andV, ↓wp_orV, ↓wp_notV, ↓wp_if, ↓wp_nil, ↓wp_cons, ↓wp_tup, ↓wp_lst, ↓wp_D, ↓wp_cb, ↓wp_call, ↓wp_isi, ↓wp_neg, ↓wp_sl, ↓wp_noP, ↓wp_P, ↓wp_yes, ↓wp_items, ↓wp_signs, ↓wp_comp, ↓ws_seq, ↓thn_nx, ↓thn_rt, ↓thn_br, ↓thn_ct, ↓thn_exc, ↓ws_skip, ↓ws_break, ↓ws_cont, ↓ws_retN, ↓ws_set, ↓ws_own, ↓ws_ret, ↓ws_drop, ↓ws_if, ↓ws_asg, ↓ws_par, ↓ws_setC, ↓wp_newc, ↓ws_app, ↓ws_ext, ↓ws_setI, ↓ws_frz, ↓ws_for, ↓wl_nil, ↓wl_cons, ↓wf_run, ↓retS_nx, ↓retS_rt, ↓lpS_nx, ↓lpS_ct, ↓lpS_br, ↓lpS_rt, ↓turn_nx, ↓turn_ct, ↓turn_br, ↓turn_rt, ↓wp_addI, ↓wp_addS, ↓wp_subI, ↓wp_mulI, ↓wp_divI, ↓wp_modI, ↓wp_powI, ↓wp_cmpI, ↓wp_eq, ↓wp_ne, ↓wp_negI, ↓wp_seqE, ↓wp_lstE, ↓wp_ixL, ↓wp_ixT, ↓wp_ixC, ↓wp_ixS, ↓wp_lenS, ↓wp_lenL, ↓wp_lenT, ↓wp_lenC, ↓wp_absI, ↓wp_intI, ↓wp_intB, ↓wp_intS, ↓wp_strI, ↓wp_boolI, ↓wp_boolB, ↓wp_all, ↓wp_any, ↓wp_sum, ↓wp_max2, ↓wp_min2, ↓wp_list, ↓wp_tuple, ↓wp_sorted, ↓wp_slS, ↓wp_slT, ↓wp_slC, ↓wp_slL, ↓wp_range1, ↓wp_range2, ↓wp_enum, ↓wp_zip, ↓wp_cat, ↓wp_rep, ↓wp_inSg, ↓wp_notInSg, ↓wp_inL, ↓wp_inT, ↓wp_notIn, ↓wp_isN, ↓wp_notN, tt1, tt2, tt3, tt4, tt5, tt6, tu1, tu2, tu3, tu4, tu5, tu6, tu7, tu8, tu9, tu10, tu11, tu12, tu13, tu14, tu15, tu16, tu17, tu18, tu19, tu20, tu21, tu22, tu23, tu24, asB_bl, truD_non, truD_bl, truD_int, truD_str, truD_lst, truD_tup, asI_int, asS_str, items_lst, items_tup, valS_v, valB_v, valB_own, seqD_lst, seqD_tup, seqD_cell0, lstD_lst, lstD_cell0, cellL_0, own_lst, nonB_non, nonB_bl, nonB_int, nonB_str, nonB_lst, nonB_tup, nonB_cell, nonB_obj, bools_nil, bools_cons, ints_nil, ints_cons, eqD_ii, eqD_bb, eqD_ss, eqD_nn, eqD_ni, eqD_in, eqD_nb, eqD_bn, eqD_ns, eqD_sn, eqD_is, eqD_si, eqD_bs, eqD_sb, tag_non, tag_bl, tag_int, tag_str, tag_lst, tag_tup, tag_obj, bindP_nm, bindP_tp, bindPs_nil, bindPs_cons, EG.runs, EG.run, ev, evs, evo, evr, mkE, mkL, failL, bopF, copF, bltF, lbltF, env0, wipeE, isiAny, isi1, frzS, Cell.toD, atI_nn, setAt_nn, wp_inSg, List.map_cons, List.map_nil, List.length_cons, List.length_nil, List.append_nil, List.nil_append, List.cons_append, List.replicate, List.getElem?_cons_zero, List.getElem?_cons_succ, List.set_cons_zero, List.set_cons_succ, Int.reduceNeg, Int.reducePow, nA10, nA2, le_big, Nat.reducePow, Nat.zero_add, Option.map_some, Option.bind_some, Int.reduceLE, Int.reduceToNat, Int.reduceLT, Nat.reduceLT, Nat.reduceAdd, Nat.reduceSub, true_and, and_true, decide_true, decide_false, List.length_append, List.length_map, Nat.reduceLeDiff, Nat.reduceEqDiff, Bool.not_true, Bool.not_false, decide_eq_true_eq, reduceCtorEq, Option.some.injEq, id_eq, List.all_cons, List.all_nil, List.any_cons, List.any_nil, Bool.and_true, Bool.true_and, Bool.and_false, Bool.false_and, Bool.or_true, Bool.or_false, kG, kConsts]
          refine br_cases (fun e4 => ?_) (fun e4 => ?_)
          · simp only [↓br_true, ↓br_false, ↓op_some, ↓wp_bind, ↓wp_pure, ↓wp_fail, ↓wp_opt, ↓wp_guard, ↓wp_noX, ↓wp_v, ↓wp_vB, ↓wp_c, ↓wp_op2, ↓wp_op2L, ↓wp_t, ↓wp_tru, ↓wp_chain, ↓wp_andT, ↓wp_orT, ↓wp_notT, ↓wp_andV, ↓wp_orV, ↓wp_notV, ↓wp_if, ↓wp_nil, ↓wp_cons, ↓wp_tup, ↓wp_lst, ↓wp_D, ↓wp_cb, ↓wp_call, ↓wp_isi, ↓wp_neg, ↓wp_sl, ↓wp_noP, ↓wp_P, ↓wp_yes, ↓wp_items, ↓wp_signs, ↓wp_comp, ↓ws_seq, ↓thn_nx, ↓thn_rt, ↓thn_br, ↓thn_ct, ↓thn_exc, ↓ws_skip, ↓ws_break, ↓ws_cont, ↓ws_retN, ↓ws_set, ↓ws_own, ↓ws_ret, ↓ws_drop, ↓ws_if, ↓ws_asg, ↓ws_par, ↓ws_setC, ↓wp_newc, ↓ws_app, ↓ws_ext, ↓ws_setI, ↓ws_frz, ↓ws_for, ↓wl_nil, ↓wl_cons, ↓wf_run, ↓retS_nx, ↓retS_rt, ↓lpS_nx, ↓lpS_ct, ↓lpS_br, ↓lpS_rt, ↓turn_nx, ↓turn_ct, ↓turn_br, ↓turn_rt, ↓wp_addI, ↓wp_addS, ↓wp_subI, ↓wp_mulI, ↓wp_divI, ↓wp_modI, ↓wp_powI, ↓wp_cmpI, ↓wp_eq, ↓wp_ne, ↓wp_negI, ↓wp_seqE, ↓wp_lstE, ↓wp_ixL, ↓wp_ixT, ↓wp_ixC, ↓wp_ixS, ↓wp_lenS, ↓wp_lenL, ↓wp_lenT, ↓wp_lenC, ↓wp_absI, ↓wp_intI, ↓wp_intB, ↓wp_intS, ↓wp_strI, ↓wp_boolI, ↓wp_boolB, ↓wp_all, ↓wp_any, ↓wp_sum, ↓wp_max2, ↓wp_min2, ↓wp_list, ↓wp_tuple, ↓wp_sorted, ↓wp_slS, ↓wp_slT, ↓wp_slC, ↓wp_slL, ↓wp_range1, ↓wp_range2, ↓wp_enum, ↓wp_zip, ↓wp_cat, ↓wp_rep, ↓wp_inSg, ↓wp_notInSg, ↓wp_inL, ↓wp_inT, ↓wp_notIn, ↓wp_isN, ↓wp_notN, tt1, tt2, tt3, tt4, tt5, tt6, tu1, tu2, tu3, tu4, tu5, tu6, tu7, tu8, tu9, tu10, tu11, tu12, tu13, tu14, tu15, tu16, tu17, tu18, tu19, tu20, tu21, tu22, tu23, tu24, asB_bl, truD_non, truD_bl, truD_int, truD_str, truD_lst, truD_tup, asI_int, asS_str, items_lst, items_tup, valS_v, valB_v, valB_own, seqD_lst, seqD_tup, seqD_cell0, lstD_lst, lstD_cell0, cellL_0, own_lst, nonB_non, nonB_bl, nonB_int, nonB_str, nonB_lst, nonB_tup, nonB_cell, nonB_obj, bools_nil, bools_cons, ints_nil, ints_cons, eqD_ii, eqD_bb, eqD_ss, eqD_nn, eqD_ni, eqD_in, eqD_nb, eqD_bn, eqD_ns, eqD_sn, eqD_is, eqD_si, eqD_bs, eqD_sb, tag_non, tag_bl, tag_int, tag_str, tag_lst, tag_tup, tag_obj, bindP_nm, bindP_tp, bindPs_nil, bindPs_cons, EG.runs, EG.run, ev, evs, evo, evr, mkE, mkL, failL, bopF, copF, bltF, lbltF, env0, wipeE, isiAny, isi1, frzS, Cell.toD, atI_nn, setAt_nn, wp_inSg, List.map_cons, List.map_nil, List.length_cons, List.length_nil, List.append_nil, List.nil_append, List.cons_append, List.replicate, List.getElem?_cons_zero, List.getElem?_cons_succ, List.set_cons_zero, List.set_cons_succ, Int.reduceNeg, Int.reducePow, nA10, nA2, le_big, Nat.reducePow, Nat.zero_add, Option.map_some, Option.bind_some, Int.reduceLE, Int.reduceToNat, Int.reduceLT, Nat.reduceLT, Nat.reduceAdd, Nat.reduceSub, true_and, and_true, decide_true, decide_false, List.length_append, List.length_map, Nat.reduceLeDiff, Nat.reduceEqDiff, Bool.not_true, Bool.not_false, decide_eq_true_eq, reduceCtorEq, Option.some.injEq, id_eq, List.all_cons, List.all_nil, List.any_cons, List.any_nil, Bool.and_true, Bool.true_and, Bool.and_false, Bool.false_and, Bool.or_true, Bool.or_false, kG, kConsts, hc]
            rw [← hz]
            refine br_cases (fun e5 => ?_) (fun e5 => ?_)
            · simp only [↓br_true, ↓br_false, ↓op_some, ↓wp_bind, ↓wp_pure, ↓wp_fail, ↓wp_opt, ↓wp_guard, ↓wp_noX, ↓wp_v, ↓wp_vB, ↓wp_c, ↓wp_op2, ↓wp_op2L, ↓wp_t, ↓wp_tru, ↓wp_chain, ↓wp_andT, ↓wp_orT, ↓wp_notT, ↓wp_andV, ↓wp_orV, ↓wp_notV, ↓wp_if, ↓wp_nil, ↓wp_cons, ↓wp_tup, ↓wp_lst, ↓wp_D, ↓wp_cb, ↓wp_call, ↓wp_isi, ↓wp_neg, ↓wp_sl, ↓wp_noP, ↓wp_P, ↓wp_yes, ↓wp_items, ↓wp_signs, ↓wp_comp, ↓ws_seq, ↓thn_nx, ↓thn_rt, ↓thn_br, ↓thn_ct, ↓thn_exc, ↓ws_skip, ↓ws_break, ↓ws_cont, ↓ws_retN, ↓ws_set, ↓ws_own, ↓ws_ret, ↓ws_drop, ↓ws_if, ↓ws_asg, ↓ws_par, ↓ws_setC, ↓wp_newc, ↓ws_app, ↓ws_ext, ↓ws_setI, ↓ws_frz, ↓ws_for, ↓wl_nil, ↓wl_cons, ↓wf_run, ↓retS_nx, ↓retS_rt, ↓lpS_nx, ↓lpS_ct, ↓lpS_br, ↓lpS_rt, ↓turn_nx, ↓turn_ct, ↓turn_br, ↓turn_rt, ↓wp_addI, ↓wp_addS, ↓wp_subI, ↓wp_mulI, ↓wp_divI, ↓wp_modI, ↓wp_powI, ↓wp_cmpI, ↓wp_eq, ↓wp_ne, ↓wp_negI, ↓wp_seqE, ↓wp_lstE, ↓wp_ixL, ↓wp_ixT, ↓wp_ixC, ↓wp_ixS, ↓wp_lenS, ↓wp_lenL, ↓wp_lenT, ↓wp_lenC, ↓wp_absI, ↓wp_intI, ↓wp_intB, ↓wp_intS, ↓wp_strI, ↓wp_boolI, ↓wp_boolB, ↓wp_all, ↓wp_any, ↓wp_sum, ↓wp_max2, ↓wp_min2, ↓wp_list, ↓wp_tuple, ↓wp_sorted, ↓wp_slS, ↓wp_slT, ↓wp_slC, ↓wp_slL, ↓wp_range1, ↓wp_range2, ↓wp_enum, ↓wp_zip, ↓wp_cat, ↓wp_rep, ↓wp_inSg, ↓wp_notInSg, ↓wp_inL, ↓wp_inT, ↓wp_notIn, ↓wp_isN, ↓wp_notN, tt1, tt2, tt3, tt4, tt5, tt6, tu1, tu2, tu3, tu4, tu5, tu6, tu7, tu8, tu9, tu10, tu11, tu12, tu13, tu14, tu15, tu16, tu17, tu18, tu19, tu20, tu21, tu22, tu23, tu24, asB_bl, truD_non, truD_bl, truD_int, truD_str, truD_lst, truD_tup, asI_int, asS_str, items_lst, items_tup, valS_v, valB_v, valB_own, seqD_lst, seqD_tup, seqD_cell0, lstD_lst, lstD_cell0, cellL_0, own_lst, nonB_non, nonB_bl, nonB_int, nonB_str, nonB_lst, nonB_tup, nonB_cell, nonB_obj, bools_nil, bools_cons, ints_nil, ints_cons, eqD_ii, eqD_bb, eqD_ss, eqD_nn, eqD_ni, eqD_in, eqD_nb, eqD_bn, eqD_ns, eqD_sn, eqD_is, eqD_si, eqD_bs, eqD_sb, tag_non, tag_bl, tag_int, tag_str, tag_lst, tag_tup, tag_obj, bindP_nm, bindP_tp, bindPs_nil, bindPs_cons, EG.runs, EG.run, ev, evs, evo, evr, mkE, mkL, failL, bopF, copF, bltF, lbltF, env0, wipeE, isiAny, isi1, frzS, Cell.toD, atI_nn, setAt_nn, wp_inSg, List.map_cons, List.map_nil, List.length_cons, List.length_nil, List.append_nil, List.nil_append, List.cons_append, List.replicate, List.getElem?_cons_zero, List.getElem?_cons_succ, List.set_cons_zero, List.set_cons_succ, Int.reduceNeg, Int.reducePow, nA10, nA2, le_big, Nat.reducePow, Nat.zero_add, Option.map_some, Option.bind_some, Int.reduceLE, Int.reduceToNat, Int.reduceLT, Nat.reduceLT, Nat.reduceAdd, Nat.reduceSub, true_and, and_true, decide_true, decide_false, List.length_append, List.length_map, Nat.reduceLeDiff, Nat.reduceEqDiff, Bool.not_true, Bool.not_false, decide_eq_true_eq, reduceCtorEq, Option.some.injEq, id_eq, List.all_cons, List.all_nil, List.any_cons, List.any_nil, Bool.and_true, Bool.true_and, Bool.and_false, Bool.false_and, Bool.or_true, Bool.or_false, kG, kConsts]
              exact no (by unfold goodB; rw [e4, e5]; simp)
            · simp only [↓br_true, ↓br_false, ↓op_some, ↓wp_bind, ↓wp_pure, ↓wp_fail, ↓wp_opt, ↓wp_guard, ↓wp_noX, ↓wp_v, ↓wp_vB, ↓wp_c, ↓wp_op2, ↓wp_op2L, ↓wp_t, ↓wp_tru, ↓wp_chain, ↓wp_andT, ↓wp_orT, ↓wp_notT, ↓wp_andV, ↓wp_orV, ↓wp_notV, ↓wp_if, ↓wp_nil, ↓wp_cons, ↓wp_tup, ↓wp_lst, ↓wp_D, ↓wp_cb, ↓wp_call, ↓wp_isi, ↓wp_neg, ↓wp_sl, ↓wp_noP, ↓wp_P, ↓wp_yes, ↓wp_items, ↓wp_signs, ↓wp_comp, ↓ws_seq, ↓thn_nx, ↓thn_rt, ↓thn_br, ↓thn_ct, ↓thn_exc, ↓ws_skip, ↓ws_break, ↓ws_cont, ↓ws_retN, ↓ws_set, ↓ws_own, ↓ws_ret, ↓ws_drop, ↓ws_if, ↓ws_asg, ↓ws_par, ↓ws_setC, ↓wp_newc, ↓ws_app, ↓ws_ext, ↓ws_setI, ↓ws_frz, ↓ws_for, ↓wl_nil, ↓wl_cons, ↓wf_run, ↓retS_nx, ↓retS_rt, ↓lpS_nx, ↓lpS_ct, ↓lpS_br, ↓lpS_rt, ↓turn_nx, ↓turn_ct, ↓turn_br, ↓turn_rt, ↓wp_addI, ↓wp_addS, ↓wp_subI, ↓wp_mulI, ↓wp_divI, ↓wp_modI, ↓wp_powI, ↓wp_cmpI, ↓wp_eq, ↓wp_ne, ↓wp_negI, ↓wp_seqE, ↓wp_lstE, ↓wp_ixL, ↓wp_ixT, ↓wp_ixC, ↓wp_ixS, ↓wp_lenS, ↓wp_lenL, ↓wp_lenT, ↓wp_lenC, ↓wp_absI, ↓wp_intI, ↓wp_intB, ↓wp_intS, ↓wp_strI, ↓wp_boolI, ↓wp_boolB, ↓wp_all, ↓wp_any, ↓wp_sum, ↓wp_max2, ↓wp_min2, ↓wp_list, ↓wp_tuple, ↓wp_sorted, ↓wp_slS, ↓wp_slT, ↓wp_slC, ↓wp_slL, ↓wp_range1, ↓wp_range2, ↓wp_enum, ↓wp_zip, ↓wp_cat, ↓wp_rep, ↓wp_inSg, ↓wp_notInSg, ↓wp_inL, ↓wp_inT, ↓wp_notIn, ↓wp_isN, ↓wp_notN, tt1, tt2, tt3, tt4, tt5, tt6, tu1, tu2, tu3, tu4, tu5, tu6, tu7, tu8, tu9, tu10, tu11, tu12, tu13, tu14, tu15, tu16, tu17, tu18, tu19, tu20, tu21, tu22, tu23, tu24, asB_bl, truD_non, truD_bl, truD_int, truD_str, truD_lst, truD_tup, asI_int, asS_str, items_lst, items_tup, valS_v, valB_v, valB_own, seqD_lst, seqD_tup, seqD_cell0, lstD_lst, lstD_cell0, cellL_0, own_lst, nonB_non, nonB_bl, nonB_int, nonB_str, nonB_lst, nonB_tup, nonB_cell, nonB_obj, bools_nil, bools_cons, ints_nil, ints_cons, eqD_ii, eqD_bb, eqD_ss, eqD_nn, eqD_ni, eqD_in, eqD_nb, eqD_bn, eqD_ns, eqD_sn, eqD_is, eqD_si, eqD_bs, eqD_sb, tag_non, tag_bl, tag_int, tag_str, tag_lst, tag_tup, tag_obj, bindP_nm, bindP_tp, bindPs_nil, bindPs_cons, EG.runs, EG.run, ev, evs, evo, evr, mkE, mkL, failL, bopF, copF, bltF, lbltF, env0, wipeE, isiAny, isi1, frzS, Cell.toD, atI_nn, setAt_nn, wp_inSg, List.map_cons, List.map_nil, List.length_cons, List.length_nil, List.append_nil, List.nil_append, List.cons_append, List.replicate, List.getElem?_cons_zero, List.getElem?_cons_succ, List.set_cons_zero, List.set_cons_succ, Int.reduceNeg, Int.reducePow, nA10, nA2, le_big, Nat.reducePow, Nat.zero_add, Option.map_some, Option.bind_some, Int.reduceLE, Int.reduceToNat, Int.reduceLT, Nat.reduceLT, Nat.reduceAdd, Nat.reduceSub, true_and, and_true, decide_true, decide_false, List.length_append, List.length_map, Nat.reduceLeDiff, Nat.reduceEqDiff, Bool.not_true, Bool.not_false, decide_eq_true_eq, reduceCtorEq, Option.some.injEq, id_eq, List.all_cons, List.all_nil, List.any_cons, List.any_nil, Bool.and_true, Bool.true_and, Bool.and_false, Bool.false_and, Bool.or_true, Bool.or_false, kG, kConsts, hi]
              refine ⟨hl, br_cases (fun e6 => ?_) (fun e6 => ?_)⟩
              · simp only [↓br_true, ↓br_false, ↓op_some, ↓wp_bind, ↓wp_pure, ↓wp_fail, ↓wp_opt, ↓wp_guard, ↓wp_noX, ↓wp_v, ↓wp_vB, ↓wp_c, ↓wp_op2, ↓wp_op2L, ↓wp_t, ↓wp_tru, ↓wp_chain, ↓wp_andT, ↓wp_orT, ↓wp_notT, ↓wp_andV, ↓wp_orV, ↓wp_notV, ↓wp_if, ↓wp_nil, ↓wp_cons, ↓wp_tup, ↓wp_lst, ↓wp_D, ↓wp_cb, ↓wp_call, ↓wp_isi, ↓wp_neg, ↓wp_sl, ↓wp_noP, ↓wp_P, ↓wp_yes, ↓wp_items, ↓wp_signs, ↓wp_comp, ↓ws_seq, ↓thn_nx, ↓thn_rt, ↓thn_br, ↓thn_ct, ↓thn_exc, ↓ws_skip, ↓ws_break, ↓ws_cont, ↓ws_retN, ↓ws_set, ↓ws_own, ↓ws_ret, ↓ws_drop, ↓ws_if, ↓ws_asg, ↓ws_par, ↓ws_setC, ↓wp_newc, ↓ws_app, ↓ws_ext, ↓ws_setI, ↓ws_frz, ↓ws_for, ↓wl_nil, ↓wl_cons, ↓wf_run, ↓retS_nx, ↓retS_rt, ↓lpS_nx, ↓lpS_ct, ↓lpS_br, ↓lpS_rt, ↓turn_nx, ↓turn_ct, ↓turn_br, ↓turn_rt, ↓wp_addI, ↓wp_addS, ↓wp_subI, ↓wp_mulI, ↓wp_divI, ↓wp_modI, ↓wp_powI, ↓wp_cmpI, ↓wp_eq, ↓wp_ne, ↓wp_negI, ↓wp_seqE, ↓wp_lstE, ↓wp_ixL, ↓wp_ixT, ↓wp_ixC, ↓wp_ixS, ↓wp_lenS, ↓wp_lenL, ↓wp_lenT, ↓wp_lenC, ↓wp_absI, ↓wp_intI, ↓wp_intB, ↓wp_intS, ↓wp_strI, ↓wp_boolI, ↓wp_boolB, ↓wp_all, ↓wp_any, ↓wp_sum, ↓wp_max2, ↓wp_min2, ↓wp_list, ↓wp_tuple, ↓wp_sorted, ↓wp_slS, ↓wp_slT, ↓wp_slC, ↓wp_slL, ↓wp_range1, ↓wp_range2, ↓wp_enum, ↓wp_zip, ↓wp_cat, ↓wp_rep, ↓wp_inSg, ↓wp_notInSg, ↓wp_inL, ↓wp_inT, ↓wp_notIn, ↓wp_isN, ↓wp_notN, tt1, tt2, tt3, tt4, tt5, tt6, tu1, tu2, tu3, tu4, tu5, tu6, tu7, tu8, tu9, tu10, tu11, tu12, tu13, tu14, tu15, tu16, tu17, tu18, tu19, tu20, tu21, tu22, tu23, tu24, asB_bl, truD_non, truD_bl, truD_int, truD_str, truD_lst, truD_tup, asI_int, asS_str, items_lst, items_tup, valS_v, valB_v, valB_own, seqD_lst, seqD_tup, seqD_cell0, lstD_lst, lstD_cell0, cellL_0, own_lst, nonB_non, nonB_bl, nonB_int, nonB_str, nonB_lst, nonB_tup, nonB_cell, nonB_obj, bools_nil, bools_cons, ints_nil, ints_cons, eqD_ii, eqD_bb, eqD_ss, eqD_nn, eqD_ni, eqD_in, eqD_nb, eqD_bn, eqD_ns, eqD_sn, eqD_is, eqD_si, eqD_bs, eqD_sb, tag_non, tag_bl, tag_int, tag_str, tag_lst, tag_tup, tag_obj, bindP_nm, bindP_tp, bindPs_nil, bindPs_cons, EG.runs, EG.run, ev, evs, evo, evr, mkE, mkL, failL, bopF, copF, bltF, lbltF, env0, wipeE, isiAny, isi1, frzS, Cell.toD, atI_nn, setAt_nn, wp_inSg, List.map_cons, List.map_nil, List.length_cons, List.length_nil, List.append_nil, List.nil_append, List.cons_append, List.replicate, List.getElem?_cons_zero, List.getElem?_cons_succ, List.set_cons_zero, List.set_cons_succ, Int.reduceNeg, Int.reducePow, nA10, nA2, le_big, Nat.reducePow, Nat.zero_add, Option.map_some, Option.bind_some, Int.reduceLE, Int.reduceToNat, Int.reduceLT, Nat.reduceLT, Nat.reduceAdd, Nat.reduceSub, true_and, and_true, decide_true, decide_false, List.length_append, List.length_map, Nat.reduceLeDiff, Nat.reduceEqDiff, Bool.not_true, Bool.not_false, decide_eq_true_eq, reduceCtorEq, Option.some.injEq, id_eq, List.all_cons, List.all_nil, List.any_cons, List.any_nil, Bool.and_true, Bool.true_and, Bool.and_false, Bool.false_and, Bool.or_true, Bool.or_false, kG, kConsts, hi]
                exact ⟨hl, yes (by unfold goodB; simp [e1, e2, e3, e6, e5])⟩
              · simp only [↓br_true, ↓br_false, ↓op_some, ↓wp_bind, ↓wp_pure, ↓wp_fail, ↓wp_opt, ↓wp_guard, ↓wp_noX, ↓wp_v, ↓wp_vB, ↓wp_c, ↓wp_op2, ↓wp_op2L, ↓wp_t, ↓wp_tru, ↓wp_chain, ↓wp_andT, ↓wp_orT, ↓wp_notT, ↓wp_andV, ↓wp_orV, ↓wp_notV, ↓wp_if, ↓wp_nil, ↓wp_cons, ↓wp_tup, ↓wp_lst, ↓wp_D, ↓wp_cb, ↓wp_call, ↓wp_isi, ↓wp_neg, ↓wp_sl, ↓wp_noP, ↓wp_P, ↓wp_yes, ↓wp_items, ↓wp_signs, ↓wp_comp, ↓ws_seq, ↓thn_nx, ↓thn_rt, ↓thn_br, ↓thn_ct, ↓thn_exc, ↓ws_skip, ↓ws_break, ↓ws_cont, ↓ws_retN, ↓ws_set, ↓ws_own, ↓ws_ret, ↓ws_drop, ↓ws_if, ↓ws_asg, ↓ws_par, ↓ws_setC, ↓wp_newc, ↓ws_app, ↓ws_ext, ↓ws_setI, ↓ws_frz, ↓ws_for, ↓wl_nil, ↓wl_cons, ↓wf_run, ↓retS_nx, ↓retS_rt, ↓lpS_nx, ↓lpS_ct, ↓lpS_br, ↓lpS_rt, ↓turn_nx, ↓turn_ct, ↓turn_br, ↓turn_rt, ↓wp_addI, ↓wp_addS, ↓wp_subI, ↓wp_mulI, ↓wp_divI, ↓wp_modI, ↓wp_powI, ↓wp_cmpI, ↓wp_eq, ↓wp_ne, ↓wp_negI, ↓wp_seqE, ↓wp_lstE, ↓wp_ixL, ↓wp_ixT, ↓wp_ixC, ↓wp_ixS, ↓wp_lenS, ↓wp_lenL, ↓wp_lenT, ↓wp_lenC, ↓wp_absI, ↓wp_intI, ↓wp_intB, ↓wp_intS, ↓wp_strI, ↓wp_boolI, ↓wp_boolB, ↓wp_all, ↓wp_any, ↓wp_sum, ↓wp_max2, ↓wp_min2, ↓wp_list, ↓wp_tuple, ↓wp_sorted, ↓wp_slS, ↓wp_slT, ↓wp_slC, ↓wp_slL, ↓wp_range1, ↓wp_range2, ↓wp_enum, ↓wp_zip, ↓wp_cat, ↓wp_rep, ↓wp_inSg, ↓wp_notInSg, ↓wp_inL, ↓wp_inT, ↓wp_notIn, ↓wp_isN, ↓wp_notN, tt1, tt2, tt3, tt4, tt5, tt6, tu1, tu2, tu3, tu4, tu5, tu6, tu7, tu8, tu9, tu10, tu11, tu12, tu13, tu14, tu15, tu16, tu17, tu18, tu19, tu20, tu21, tu22, tu23, tu24, asB_bl, truD_non, truD_bl, truD_int, truD_str, truD_lst, truD_tup, asI_int, asS_str, items_lst, items_tup, valS_v, valB_v, valB_own, seqD_lst, seqD_tup, seqD_cell0, lstD_lst, lstD_cell0, cellL_0, own_lst, nonB_non, nonB_bl, nonB_int, nonB_str, nonB_lst, nonB_tup, nonB_cell, nonB_obj, bools_nil, bools_cons, ints_nil, ints_cons, eqD_ii, eqD_bb, eqD_ss, eqD_nn, eqD_ni, eqD_in, eqD_nb, eqD_bn, eqD_ns, eqD_sn, eqD_is, eqD_si, eqD_bs, eqD_sb, tag_non, tag_bl, tag_int, tag_str, tag_lst, tag_tup, tag_obj, bindP_nm, bindP_tp, bindPs_nil, bindPs_cons, EG.runs, EG.run, ev, evs, evo, evr, mkE, mkL, failL, bopF, copF, bltF, lbltF, env0, wipeE, isiAny, isi1, frzS, Cell.toD, atI_nn, setAt_nn, wp_inSg, List.map_cons, List.map_nil, List.length_cons, List.length_nil, List.append_nil, List.nil_append, List.cons_append, List.replicate, List.getElem?_cons_zero, List.getElem?_cons_succ, List.set_cons_zero, List.set_cons_succ, Int.reduceNeg, Int.reducePow, nA10, nA2, le_big, Nat.reducePow, Nat.zero_add, Option.map_some, Option.bind_some, Int.reduceLE, Int.reduceToNat, Int.reduceLT, Nat.reduceLT, Nat.reduceAdd, Nat.reduceSub, true_and, and_true, decide_true, decide_false, List.length_append, List.length_map, Nat.reduceLeDiff, Nat.reduceEqDiff, Bool.not_true, Bool.not_false, decide_eq_true_eq, reduceCtorEq, Option.some.injEq, id_eq, List.all_cons, List.all_nil, List.any_cons, List.any_nil, Bool.and_true, Bool.true_and, Bool.and_false, Bool.false_and, Bool.or_true, Bool.or_false, kG, kConsts]
                exact no (by unfold goodB; rw [e6]; simp)
          · simp only [↓br_true, ↓br_false, ↓op_some, ↓wp_bind, ↓wp_pure, ↓wp_fail, ↓wp_opt, ↓wp_guard, ↓wp_noX, ↓wp_v, ↓wp_vB, ↓wp_c, ↓wp_op2, ↓wp_op2L, ↓wp_t, ↓wp_tru, ↓wp_chain, ↓wp_andT, ↓wp_orT, ↓wp_notT, ↓wp_andV, ↓wp_orV, ↓wp_notV, ↓wp_if, ↓wp_nil, ↓wp_cons, ↓wp_tup, ↓wp_lst, ↓wp_D, ↓wp_cb, ↓wp_call, ↓wp_isi, ↓wp_neg, ↓wp_sl, ↓wp_noP, ↓wp_P, ↓wp_yes, ↓wp_items, ↓wp_signs, ↓wp_comp, ↓ws_seq, ↓thn_nx, ↓thn_rt, ↓thn_br, ↓thn_ct, ↓thn_exc, ↓ws_skip, ↓ws_break, ↓ws_cont, ↓ws_retN, ↓ws_set, ↓ws_own, ↓ws_ret, ↓ws_drop, ↓ws_if, ↓ws_asg, ↓ws_par, ↓ws_setC, ↓wp_newc, ↓ws_app, ↓ws_ext, ↓ws_setI, ↓ws_frz, ↓ws_for, ↓wl_nil, ↓wl_cons, ↓wf_run, ↓retS_nx, ↓retS_rt, ↓lpS_nx, ↓lpS_ct, ↓lpS_br, ↓lpS_rt, ↓turn_nx, ↓turn_ct, ↓turn_br, ↓turn_rt, ↓wp_addI, ↓wp_addS, ↓wp_subI, ↓wp_mulI, ↓wp_divI, ↓wp_modI, ↓wp_powI, ↓wp_cmpI, ↓wp_eq, ↓wp_ne, ↓wp_negI, ↓wp_seqE, ↓wp_lstE, ↓wp_ixL, ↓wp_ixT, ↓wp_ixC, ↓wp_ixS, ↓wp_lenS, ↓wp_lenL, ↓wp_lenT, ↓wp_lenC, ↓wp_absI, ↓wp_intI, ↓wp_intB, ↓wp_intS, ↓wp_strI, ↓wp_boolI, ↓wp_boolB, ↓wp_all, ↓wp_any, ↓wp_sum, ↓wp_max2, ↓wp_min2, ↓wp_list, ↓wp_tuple, ↓wp_sorted, ↓wp_slS, ↓wp_slT, ↓wp_slC, ↓wp_slL, ↓wp_range1, ↓wp_range2, ↓wp_enum, ↓wp_zip, ↓wp_cat, ↓wp_rep, ↓wp_inSg, ↓wp_notInSg, ↓wp_inL, ↓wp_inT, ↓wp_notIn, ↓wp_isN, ↓wp_notN, tt1, tt2, tt3, tt4, tt5, tt6, tu1, tu2, tu3, tu4, tu5, tu6, tu7, tu8, tu9, tu10, tu11, tu12, tu13, tu14, tu15, tu16, tu17, tu18, tu19, tu20, tu21, tu22, tu23, tu24, asB_bl, truD_non, truD_bl, truD_int, truD_str, truD_lst, truD_tup, asI_int, asS_str, items_lst, items_tup, valS_v, valB_v, valB_own, seqD_lst, seqD_tup, seqD_cell0, lstD_lst, lstD_cell0, cellL_0, own_lst, nonB_non, nonB_bl, nonB_int, nonB_str, nonB_lst, nonB_tup, nonB_cell, nonB_obj, bools_nil, bools_cons, ints_nil, ints_cons, eqD_ii, eqD_bb, eqD_ss, eqD_nn, eqD_ni, eqD_in, eqD_nb, eqD_bn, eqD_ns, eqD_sn, eqD_is, eqD_si, eqD_bs, eqD_sb, tag_non, tag_bl, tag_int, tag_str, tag_lst, tag_tup, tag_obj, bindP_nm, bindP_tp, bindPs_nil, bindPs_cons, EG.runs, EG.run, ev, evs, evo, evr, mkE, mkL, failL, bopF, copF, bltF, lbltF, env0, wipeE, isiAny, isi1, frzS, Cell.toD, atI_nn, setAt_nn, wp_inSg, List.map_cons, List.map_nil, List.length_cons, List.length_nil, List.append_nil, List.nil_append, List.cons_append, List.replicate, List.getElem?_cons_zero, List.getElem?_cons_succ, List.set_cons_zero, List.set_cons_succ, Int.reduceNeg, Int.reducePow, nA10, nA2, le_big, Nat.reducePow, Nat.zero_add, Option.map_some, Option.bind_some, Int.reduceLE, Int.reduceToNat, Int.reduceLT, Nat.reduceLT, Nat.reduceAdd, Nat.reduceSub, true_and, and_true, decide_true, decide_false, List.length_append, List.length_map, Nat.reduceLeDiff, Nat.reduceEqDiff, Bool.not_true, Bool.not_false, decide_eq_true_eq, reduceCtorEq, Option.some.injEq, id_eq, List.all_cons, List.all_nil, List.any_cons, List.any_nil, Bool.and_true, Bool.true_and, Bool.and_false, Bool.false_and, Bool.or_true, Bool.or_false, kG, kConsts, hi]
            refine ⟨hl, br_cases (fun e6 => ?_) (fun e6 => ?_)⟩
            · simp only [↓br_true, ↓br_false, ↓op_some, ↓wp_bind, ↓wp_pure, ↓wp_fail, ↓wp_opt, ↓wp_guard, ↓wp_noX, ↓wp_v, ↓wp_vB, ↓wp_c, ↓wp_op2, ↓wp_op2L, ↓wp_t, ↓wp_tru, ↓wp_chain, ↓wp_andT, ↓wp_orT, ↓wp_notT, ↓wp_andV, ↓wp_orV, ↓wp_notV, ↓wp_if, ↓wp_nil, ↓wp_cons, ↓wp_tup, ↓wp_lst, ↓wp_D, ↓wp_cb, ↓wp_call, ↓wp_isi, ↓wp_neg, ↓wp_sl, ↓wp_noP, ↓wp_P, ↓wp_yes, ↓wp_items, ↓wp_signs, ↓wp_comp, ↓ws_seq, ↓thn_nx, ↓thn_rt, ↓thn_br, ↓thn_ct, ↓thn_exc, ↓ws_skip, ↓ws_break, ↓ws_cont, ↓ws_retN, ↓ws_set, ↓ws_own, ↓ws_ret, ↓ws_drop, ↓ws_if, ↓ws_asg, ↓ws_par, ↓ws_setC, ↓wp_newc, ↓ws_app, ↓ws_ext, ↓ws_setI, ↓ws_frz, ↓ws_for, ↓wl_nil, ↓wl_cons, ↓wf_run, ↓retS_nx, ↓retS_rt, ↓lpS_nx, ↓lpS_ct, ↓lpS_br, ↓lpS_rt, ↓turn_nx, ↓turn_ct, ↓turn_br, ↓turn_rt, ↓wp_addI, ↓wp_addS, ↓wp_subI, ↓wp_mulI, ↓wp_divI, ↓wp_modI, ↓wp_powI, ↓wp_cmpI, ↓wp_eq, ↓wp_ne, ↓wp_negI, ↓wp_seqE, ↓wp_lstE, ↓wp_ixL, ↓wp_ixT, ↓wp_ixC, ↓wp_ixS, ↓wp_lenS, ↓wp_lenL, ↓wp_lenT, ↓wp_lenC, ↓wp_absI, ↓wp_intI, ↓wp_intB, ↓wp_intS, ↓wp_strI, ↓wp_boolI, ↓wp_boolB, ↓wp_all, ↓wp_any, ↓wp_sum, ↓wp_max2, ↓wp_min2, ↓wp_list, ↓wp_tuple, ↓wp_sorted, ↓wp_slS, ↓wp_slT, ↓wp_slC, ↓wp_slL, ↓wp_range1, ↓wp_range2, ↓wp_enum, ↓wp_zip, ↓wp_cat, ↓wp_rep, ↓wp_inSg, ↓wp_notInSg, ↓wp_inL, ↓wp_inT, ↓wp_notIn, ↓wp_isN, ↓wp_notN, tt1, tt2, tt3, tt4, tt5, tt6, tu1, tu2, tu3, tu4, tu5, tu6, tu7, tu8, tu9, tu10, tu11, tu12, tu13, tu14, tu15, tu16, tu17, tu18, tu19, tu20, tu21, tu22, tu23, tu24, asB_bl, truD_non, truD_bl, truD_int, truD_str, truD_lst, truD_tup, asI_int, asS_str, items_lst, items_tup, valS_v, valB_v, valB_own, seqD_lst, seqD_tup, seqD_cell0, lstD_lst, lstD_cell0, cellL_0, own_lst, nonB_non, nonB_bl, nonB_int, nonB_str, nonB_lst, nonB_tup, nonB_cell, nonB_obj, bools_nil, bools_cons, ints_nil, ints_cons, eqD_ii, eqD_bb, eqD_ss, eqD_nn, eqD_ni, eqD_in, eqD_nb, eqD_bn, eqD_ns, eqD_sn, eqD_is, eqD_si, eqD_bs, eqD_sb, tag_non, tag_bl, tag_int, tag_str, tag_lst, tag_tup, tag_obj, bindP_nm, bindP_tp, bindPs_nil, bindPs_cons, EG.runs, EG.run, ev, evs, evo, evr, mkE, mkL, failL, bopF, copF, bltF, lbltF, env0, wipeE, isiAny, isi1, frzS, Cell.toD, atI_nn, setAt_nn, wp_inSg, List.map_cons, List.map_nil, List.length_cons, List.length_nil, List.append_nil, List.nil_append, List.cons_append, List.replicate, List.getElem?_cons_zero, List.getElem?_cons_succ, List.set_cons_zero, List.set_cons_succ, Int.reduceNeg, Int.reducePow, nA10, nA2, le_big, Nat.reducePow, Nat.zero_add, Option.map_some, Option.bind_some, Int.reduceLE, Int.reduceToNat, Int.reduceLT, Nat.reduceLT, Nat.reduceAdd, Nat.reduceSub, true_and, and_true, decide_true, decide_false, List.length_append, List.length_map, Nat.reduceLeDiff, Nat.reduceEqDiff, Bool.not_true, Bool.not_false, decide_eq_true_eq, reduceCtorEq, Option.some.injEq, id_eq, List.all_cons, List.all_nil, List.any_cons, List.any_nil, Bool.and_true, Bool.true_and, Bool.and_false, Bool.false_and, Bool.or_true, Bool.or_false, kG, kConsts, hi]
              exact ⟨hl, yes (by rw [show w = ("0" : Str) by simpa using e4]; decide)⟩
            · simp only [↓br_true, ↓br_false, ↓op_some, ↓wp_bind, ↓wp_pure, ↓wp_fail, ↓wp_opt, ↓wp_guard, ↓wp_noX, ↓wp_v, ↓wp_vB, ↓wp_c, ↓wp_op2, ↓wp_op2L, ↓wp_t, ↓wp_tru, ↓wp_chain, ↓wp_andT, ↓wp_orT, ↓wp_notT, ↓wp_andV, ↓wp_orV, ↓wp_notV, ↓wp_if, ↓wp_nil, ↓wp_cons, ↓wp_tup, ↓wp_lst, ↓wp_D, ↓wp_cb, ↓wp_call, ↓wp_isi, ↓wp_neg, ↓wp_sl, ↓wp_noP, ↓wp_P, ↓wp_yes, ↓wp_items, ↓wp_signs, ↓wp_comp, ↓ws_seq, ↓thn_nx, ↓thn_rt, ↓thn_br, ↓thn_ct, ↓thn_exc, ↓ws_skip, ↓ws_break, ↓ws_cont, ↓ws_retN, ↓ws_set, ↓ws_own, ↓ws_ret, ↓ws_drop, ↓ws_if, ↓ws_asg, ↓ws_par, ↓ws_setC, ↓wp_newc, ↓ws_app, ↓ws_ext, ↓ws_setI, ↓ws_frz, ↓ws_for, ↓wl_nil, ↓wl_cons, ↓wf_run, ↓retS_nx, ↓retS_rt, ↓lpS_nx, ↓lpS_ct, ↓lpS_br, ↓lpS_rt, ↓turn_nx, ↓turn_ct, ↓turn_br, ↓turn_rt, ↓wp_addI, ↓wp_addS, ↓wp_subI, ↓wp_mulI, ↓wp_divI, ↓wp_modI, ↓wp_powI, ↓wp_cmpI, ↓wp_eq, ↓wp_ne, ↓wp_negI, ↓wp_seqE, ↓wp_lstE, ↓wp_ixL, ↓wp_ixT, ↓wp_ixC, ↓wp_ixS, ↓wp_lenS, ↓wp_lenL, ↓wp_lenT, ↓wp_lenC, ↓wp_absI, ↓wp_intI, ↓wp_intB, ↓wp_intS, ↓wp_strI, ↓wp_boolI, ↓wp_boolB, ↓wp_all, ↓wp_any, ↓wp_sum, ↓wp_max2, ↓wp_min2, ↓wp_list, ↓wp_tuple, ↓wp_sorted, ↓wp_slS, ↓wp_slT, ↓wp_slC, ↓wp_slL, ↓wp_range1, ↓wp_range2, ↓wp_enum, ↓wp_zip, ↓wp_cat, ↓wp_rep, ↓wp_inSg, ↓wp_notInSg, ↓wp_inL, ↓wp_inT, ↓wp_notIn, ↓wp_isN, ↓wp_notN, tt1, tt2, tt3, tt4, tt5, tt6, tu1, tu2, tu3, tu4, tu5, tu6, tu7, tu8, tu9, tu10, tu11, tu12, tu13, tu14, tu15, tu16, tu17, tu18, tu19, tu20, tu21, tu22, tu23, tu24, asB_bl, truD_non, truD_bl, truD_int, truD_str, truD_lst, truD_tup, asI_int, asS_str, items_lst, items_tup, valS_v, valB_v, valB_own, seqD_lst, seqD_tup, seqD_cell0, lstD_lst, lstD_cell0, cellL_0, own_lst, nonB_non, nonB_bl, nonB_int, nonB_str, nonB_lst, nonB_tup, nonB_cell, nonB_obj, bools_nil, bools_cons, ints_nil, ints_cons, eqD_ii, eqD_bb, eqD_ss, eqD_nn, eqD_ni, eqD_in, eqD_nb, eqD_bn, eqD_ns, eqD_sn, eqD_is, eqD_si, eqD_bs, eqD_sb, tag_non, tag_bl, tag_int, tag_str, tag_lst, tag_tup, tag_obj, bindP_nm, bindP_tp, bindPs_nil, bindPs_cons, EG.runs, EG.run, ev, evs, evo, evr, mkE, mkL, failL, bopF, copF, bltF, lbltF, env0, wipeE, isiAny, isi1, frzS, Cell.toD, atI_nn, setAt_nn, wp_inSg, List.map_cons, List.map_nil, List.length_cons, List.length_nil, List.append_nil, List.nil_append, List.cons_append, List.replicate, List.getElem?_cons_zero, List.getElem?_cons_succ, List.set_cons_zero, List.set_cons_succ, Int.reduceNeg, Int.reducePow, nA10, nA2, le_big, Nat.reducePow, Nat.zero_add, Option.map_some, Option.bind_some, Int.reduceLE, Int.reduceToNat, Int.reduceLT, Nat.reduceLT, Nat.reduceAdd, Nat.reduceSub, true_and, and_true, decide_true, decide_false, List.length_append, List.length_map, Nat.reduceLeDiff, Nat.reduceEqDiff, Bool.not_true, Bool.not_false, decide_eq_true_eq, reduceCtorEq, Option.some.injEq, id_eq, List.all_cons, List.all_nil, List.any_cons, List.any_nil, Bool.and_true, Bool.true_and, Bool.and_false, Bool.false_and, Bool.or_true, Bool.or_false, kG, kConsts]
              exact no (by unfold goodB; rw [e6]; simp)
  · have e1 : ¬ 1 ≤ w.length := by have := of_decide_eq_false e1; omega
    simp only [↓br_true, ↓br_false, ↓op_some, ↓wp_bind, ↓wp_pure, ↓wp_fail, ↓wp_opt, ↓wp_guard, ↓wp_noX, ↓wp_v, ↓wp_vB, ↓wp_c, ↓wp_op2, ↓wp_op2L, ↓wp_t, ↓wp_tru, ↓wp_chain, ↓wp_andT, ↓wp_orT, ↓wp_notT, ↓wp_andV, ↓wp_orV, ↓wp_notV, ↓wp_if, ↓wp_nil, ↓wp_cons, ↓wp_tup, ↓wp_lst, ↓wp_D, ↓wp_cb, ↓wp_call, ↓wp_isi, ↓wp_neg, ↓wp_sl, ↓wp_noP, ↓wp_P, ↓wp_yes, ↓wp_items, ↓wp_signs, ↓wp_comp, ↓ws_seq, ↓thn_nx, ↓thn_rt, ↓thn_br, ↓thn_ct, ↓thn_exc, ↓ws_skip, ↓ws_break, ↓ws_cont, ↓ws_retN, ↓ws_set, ↓ws_own, ↓ws_ret, ↓ws_drop, ↓ws_if, ↓ws_asg, ↓ws_par, ↓ws_setC, ↓wp_newc, ↓ws_app, ↓ws_ext, ↓ws_setI, ↓ws_frz, ↓ws_for, ↓wl_nil, ↓wl_cons, ↓wf_run, ↓retS_nx, ↓retS_rt, ↓lpS_nx, ↓lpS_ct, ↓lpS_br, ↓lpS_rt, ↓turn_nx, ↓turn_ct, ↓turn_br, ↓turn_rt, ↓wp_addI, ↓wp_addS, ↓wp_subI, ↓wp_mulI, ↓wp_divI, ↓wp_modI, ↓wp_powI, ↓wp_cmpI, ↓wp_eq, ↓wp_ne, ↓wp_negI, ↓wp_seqE, ↓wp_lstE, ↓wp_ixL, ↓wp_ixT, ↓wp_ixC, ↓wp_ixS, ↓wp_lenS, ↓wp_lenL, ↓wp_lenT, ↓wp_lenC, ↓wp_absI, ↓wp_intI, ↓wp_intB, ↓wp_intS, ↓wp_strI, ↓wp_boolI, ↓wp_boolB, ↓wp_all, ↓wp_any, ↓wp_sum, ↓wp_max2, ↓wp_min2, ↓wp_list, ↓wp_tuple, ↓wp_sorted, ↓wp_slS, ↓wp_slT, ↓wp_slC, ↓wp_slL, ↓wp_range1, ↓wp_range2, ↓wp_enum, ↓wp_zip, ↓wp_cat, ↓wp_rep, ↓wp_inSg, ↓wp_notInSg, ↓wp_inL, ↓wp_inT, ↓wp_notIn, ↓wp_isN, ↓wp_notN, tt1, tt2, tt3, tt4, tt5, tt6, tu1, tu2, tu3, tu4, tu5, tu6, tu7, tu8, tu9, tu10, tu11, tu12, tu13, tu14, tu15, tu16, tu17, tu18, tu19, tu20, tu21, tu22, tu23, tu24, asB_bl, truD_non, truD_bl, truD_int, truD_str, truD_lst, truD_tup, asI_int, asS_str, items_lst, items_tup, valS_v, valB_v, valB_own, seqD_lst, seqD_tup, seqD_cell0, lstD_lst, lstD_cell0, cellL_0, own_lst, nonB_non, nonB_bl, nonB_int, nonB_str, nonB_lst, nonB_tup, nonB_cell, nonB_obj, bools_nil, bools_cons, ints_nil, ints_cons, eqD_ii, eqD_bb, eqD_ss, eqD_nn, eqD_ni, eqD_in, eqD_nb, eqD_bn, eqD_ns, eqD_sn, eqD_is, eqD_si, eqD_bs, eqD_sb, tag_non, tag_bl, tag_int, tag_str, tag_lst, tag_tup, tag_obj, bindP_nm, bindP_tp, bindPs_nil, bindPs_cons, EG.runs, EG.run, ev, evs, evo, evr, mkE, mkL, failL, bopF, copF, bltF, lbltF, env0, wipeE, isiAny, isi1, frzS, Cell.toD, atI_nn, setAt_nn, wp_inSg, List.map_cons, List.map_nil, List.length_cons, List.length_nil, List.append_nil, List.nil_append, List.cons_append, List.replicate, List.getElem?_cons_zero, List.getElem?_cons_succ, List.set_cons_zero, List.set_cons_succ, Int.reduceNeg, Int.reducePow, nA10, nA2, le_big, Nat.reducePow, Nat.zero_add, Option.map_some, Option.bind_some, Int.reduceLE, Int.reduceToNat, Int.reduceLT, Nat.reduceLT, Nat.reduceAdd, Nat.reduceSub, true_and, and_true, decide_true, decide_false, List.length_append, List.length_map, Nat.reduceLeDiff, Nat.reduceEqDiff, Bool.not_true, Bool.not_false, decide_eq_true_eq, reduceCtorEq, Option.some.injEq, id_eq, List.all_cons, List.all_nil, List.any_cons, List.any_nil, Bool.and_true, Bool.true_and, Bool.and_false, Bool.false_and, Bool.or_true, Bool.or_false, kG, kConsts]
    exact no (by unfold goodB; simp [e1])
end
theorem str_ok {i : Int} (h : -(2 ^ 100) < i) (h2 : i < 2 ^ 100) : i.natAbs.log2 < 1920 ∧ (Str.ofString (toString i)).length ≤ big := by
  have h3 : i.natAbs.log2 < 1920 := by
    by_cases z : i.natAbs = 0
    · rw [z]; decide
    · exact (Nat.log2_lt z).mpr (Nat.lt_of_lt_of_le (show i.natAbs < 2 ^ 100 by omega) (Nat.pow_le_pow_right (by decide) (by decide)))
  exact ⟨h3, Nat.le_trans (PyProof.Rows.int_text_len_1921 h3) (by decide)⟩
theorem str_len {i : Int} (h : -(10 ^ 18) < i) (h2 : i < 10 ^ 18) : (Str.ofString (toString i)).length ≤ 20 := by
  by_cases z : 0 ≤ i
  · exact Nat.le_trans (PyProof.Rows.toString_length_le z (k := 18) (by decide) h2) (by decide)
  · rw [PyProof.Rows.len_text_neg (by omega)]
    have := PyProof.Rows.toString_length_le (v := 0 - i) (by omega) (k := 18) (by decide) (by omega)
    omega
theorem read_odd {d : D} {μ : Mu} {Q : D → Mu → Prop} {E : PX} (hd : d ∈ odds) (hn : d ≠ .str "1") (h : Q .non μ) : Wf F_read_amount [d] μ Q E := by
  simp only [odds, List.mem_cons, List.not_mem_nil, or_false] at hd
  have e0 : amt ("" : Str) = .non := by
    have : goodB ("" : Str) = false := by decide
    unfold amt; rw [this]
  rcases hd with rfl | rfl | rfl | rfl | rfl | rfl | rfl | rfl
  all_goals first
    | exact absurd rfl hn
    | exact read_spec (by decide) (by rw [e0]; exact h)
    | skip
  all_goals unfold F_read_amount C_read_amount G_read_amount
  all_goals simp only [↓br_true, ↓br_false, ↓op_some, ↓wp_bind, ↓wp_pure, ↓wp_fail, ↓wp_opt, ↓wp_guard, ↓wp_noX, ↓wp_v, ↓wp_vB, ↓wp_c, ↓wp_op2, ↓wp_op2L, ↓wp_t, ↓wp_tru, ↓wp_chain, ↓wp_andT, ↓wp_orT, ↓wp_notT, ↓wp_andV, ↓wp_orV, ↓wp_notV, ↓wp_if, ↓wp_nil, ↓wp_cons, ↓wp_tup, ↓wp_lst, ↓wp_D, ↓wp_cb, ↓wp_call, ↓wp_isi, ↓wp_neg, ↓wp_sl, ↓wp_noP, ↓wp_P, ↓wp_yes, ↓wp_items, ↓wp_signs, ↓wp_comp, ↓ws_seq, ↓thn_nx, ↓thn_rt, ↓thn_br, ↓thn_ct, ↓thn_exc, ↓ws_skip, ↓ws_break, ↓ws_cont, ↓ws_retN, ↓ws_set, ↓ws_own, ↓ws_ret, ↓ws_drop, ↓ws_if, ↓ws_asg, ↓ws_par, ↓ws_setC, ↓wp_newc, ↓ws_app, ↓ws_ext, ↓ws_setI, ↓ws_frz, ↓ws_for, ↓wl_nil, ↓wl_cons, ↓wf_run, ↓retS_nx, ↓retS_rt, ↓lpS_nx, ↓lpS_ct, ↓lpS_br, ↓lpS_rt, ↓turn_nx, ↓turn_ct, ↓turn_br, ↓turn_rt, ↓wp_addI, ↓wp_addS, ↓wp_subI, ↓wp_mulI, ↓wp_divI, ↓wp_modI, ↓wp_powI, ↓wp_cmpI, ↓wp_eq, ↓wp_ne, ↓wp_negI, ↓wp_seqE, ↓wp_lstE, ↓wp_ixL, ↓wp_ixT, ↓wp_ixC, ↓wp_ixS, ↓wp_lenS, ↓wp_lenL, ↓wp_lenT, ↓wp_lenC, ↓wp_absI, ↓wp_intI, ↓wp_intB, ↓wp_intS, ↓wp_strI, ↓wp_boolI, ↓wp_boolB, ↓wp_all, ↓wp_any, ↓wp_sum, ↓wp_max2, ↓wp_min2, ↓wp_list, ↓wp_tuple, ↓wp_sorted, ↓wp_slS, ↓wp_slT, ↓wp_slC, ↓wp_slL, ↓wp_range1, ↓wp_range2, ↓wp_enum, ↓wp_zip, ↓wp_cat, ↓wp_rep, ↓wp_inSg, ↓wp_notInSg, ↓wp_inL, ↓wp_inT, ↓wp_notIn, ↓wp_isN, ↓wp_notN, tt1, tt2, tt3, tt4, tt5, tt6, tu1, tu2, tu3, tu4, tu5, tu6, tu7, tu8, tu9, tu10, tu11, tu12, tu13, tu14, tu15, tu16, tu17, tu18, tu19, tu20, tu21, tu22, tu23, tu24, asB_bl, truD_non, truD_bl, truD_int, truD_str, truD_lst, truD_tup, asI_int, asS_str, items_lst, items_tup, valS_v, valB_v, valB_own, seqD_lst, seqD_tup, seqD_cell0, lstD_lst, lstD_cell0, cellL_0, own_lst, nonB_non, nonB_bl, nonB_int, nonB_str, nonB_lst, nonB_tup, nonB_cell, nonB_obj, bools_nil, bools_cons, ints_nil, ints_cons, eqD_ii, eqD_bb, eqD_ss, eqD_nn, eqD_ni, eqD_in, eqD_nb, eqD_bn, eqD_ns, eqD_sn, eqD_is, eqD_si, eqD_bs, eqD_sb, tag_non, tag_bl, tag_int, tag_str, tag_lst, tag_tup, tag_obj, bindP_nm, bindP_tp, bindPs_nil, bindPs_cons, EG.runs, EG.run, ev, evs, evo, evr, mkE, mkL, failL, bopF, copF, bltF, lbltF, env0, wipeE, isiAny, isi1, frzS, Cell.toD, atI_nn, setAt_nn, wp_inSg, List.map_cons, List.map_nil, List.length_cons, List.length_nil, List.append_nil, List.nil_append, List.cons_append, List.replicate, List.getElem?_cons_zero, List.getElem?_cons_succ, List.set_cons_zero, List.set_cons_succ, Int.reduceNeg, Int.reducePow, nA10, nA2, le_big, Nat.reducePow, Nat.zero_add, Option.map_some, Option.bind_some, Int.reduceLE, Int.reduceToNat, Int.reduceLT, Nat.reduceLT, Nat.reduceAdd, Nat.reduceSub, true_and, and_true, decide_true, decide_false, List.length_append, List.length_map, Nat.reduceLeDiff, Nat.reduceEqDiff, Bool.not_true, Bool.not_false, decide_eq_true_eq, reduceCtorEq, Option.some.injEq, id_eq, List.all_cons, List.all_nil, List.any_cons, List.any_nil, Bool.and_true, Bool.true_and, Bool.and_false, Bool.false_and, Bool.or_true, Bool.or_false, kG, kConsts]
  all_goals exact h
theorem le_big' {n : Nat} (h : n ≤ 16777216) : n ≤ big := h
theorem len_app (x y : Str) : (x ++ y).length = x.length + y.length := by
  show (x.cps ++ y.cps).size = _
  rw [Array.size_append]; rfl
theorem good_int {w : Str} (h : goodB w = true) : PySem.intText? w = some (val w) := by
  unfold goodB at h
  simp only [Bool.and_eq_true, decide_eq_true_eq] at h
  exact int_digs h.2.2.1 h.1 (by omega)
theorem ne1 {od : D} (h : od ∈ odds) : od = .str "1" ∨ (eqD od (.str "1") = some false ∧ od ≠ .str "1") := by
  simp only [odds, List.mem_cons, List.not_mem_nil, or_false] at h
  rcases h with rfl | rfl | rfl | rfl | rfl | rfl | rfl | rfl
  · exact .inr ⟨rfl, fun z => nomatch z⟩
  · exact .inr ⟨rfl, fun z => nomatch z⟩
  · exact .inl rfl
  · exact .inr ⟨by decide +kernel, fun z => nomatch z⟩
  · exact .inr ⟨by decide +kernel, fun z => nomatch z⟩
  · exact .inr ⟨by decide +kernel, fun z => nomatch z⟩
  · exact .inr ⟨rfl, fun z => nomatch z⟩
  · exact .inr ⟨by decide +kernel, fun z => by cases z⟩
theorem x0 {v : Int} {env : EG.Env} {μ : Mu} {Q : D → Mu → Prop} {E : PX} (he : env[3]? = some (.v (.int v))) (h : Q (.bl (decide (0 ≤ v) && decide (v ≤ 1000000000000))) μ) : Wp ((ev G_law X_law_0).e env) μ Q E := by
  unfold X_law_0 G_law
  simp only [↓br_true, ↓br_false, ↓op_some, ↓wp_bind, ↓wp_pure, ↓wp_fail, ↓wp_opt, ↓wp_guard, ↓wp_noX, ↓wp_v, ↓wp_vB, ↓wp_c, ↓wp_op2, ↓wp_op2L, ↓wp_t, ↓wp_tru, ↓wp_chain, ↓wp_andT, ↓wp_orT, ↓wp_notT, ↓wp_andV, ↓wp_orV, ↓wp_notV, ↓wp_if, ↓wp_nil, ↓wp_cons, ↓wp_tup, ↓wp_lst, ↓wp_D, ↓wp_cb, ↓wp_call, ↓wp_isi, ↓wp_neg, ↓wp_sl, ↓wp_noP, ↓wp_P, ↓wp_yes, ↓wp_items, ↓wp_signs, ↓wp_comp, ↓ws_seq, ↓thn_nx, ↓thn_rt, ↓thn_br, ↓thn_ct, ↓thn_exc, ↓ws_skip, ↓ws_break, ↓ws_cont, ↓ws_retN, ↓ws_set, ↓ws_own, ↓ws_ret, ↓ws_drop, ↓ws_if, ↓ws_asg, ↓ws_par, ↓ws_setC, ↓wp_newc, ↓ws_app, ↓ws_ext, ↓ws_setI, ↓ws_frz, ↓ws_for, ↓wl_nil, ↓wl_cons, ↓wf_run, ↓retS_nx, ↓retS_rt, ↓lpS_nx, ↓lpS_ct, ↓lpS_br, ↓lpS_rt, ↓turn_nx, ↓turn_ct, ↓turn_br, ↓turn_rt, ↓wp_addI, ↓wp_addS, ↓wp_subI, ↓wp_mulI, ↓wp_divI, ↓wp_modI, ↓wp_powI, ↓wp_cmpI, ↓wp_eq, ↓wp_ne, ↓wp_negI, ↓wp_seqE, ↓wp_lstE, ↓wp_ixL, ↓wp_ixT, ↓wp_ixC, ↓wp_ixS, ↓wp_lenS, ↓wp_lenL, ↓wp_lenT, ↓wp_lenC, ↓wp_absI, ↓wp_intI, ↓wp_intB, ↓wp_intS, ↓wp_strI, ↓wp_boolI, ↓wp_boolB, ↓wp_all, ↓wp_any, ↓wp_sum, ↓wp_max2, ↓wp_min2, ↓wp_list, ↓wp_tuple, ↓wp_sorted, ↓wp_slS, ↓wp_slT, ↓wp_slC, ↓wp_slL, ↓wp_range1, ↓wp_range2, ↓wp_enum, ↓wp_zip, ↓wp_cat, ↓wp_rep, ↓wp_inSg, ↓wp_notInSg, ↓wp_inL, ↓wp_inT, ↓wp_notIn, ↓wp_isN, ↓wp_notN, tt1, tt2, tt3, tt4, tt5, tt6, tu1, tu2, tu3, tu4, tu5, tu6, tu7, tu8, tu9, tu10, tu11, tu12, tu13, tu14, tu15, tu16, tu17, tu18, tu19, tu20, tu21, tu22, tu23, tu24, asB_bl, truD_non, truD_bl, truD_int, truD_str, truD_lst, truD_tup, asI_int, asS_str, items_lst, items_tup, valS_v, valB_v, valB_own, seqD_lst, seqD_tup, seqD_cell0, lstD_lst, lstD_cell0, cellL_0, own_lst, nonB_non, nonB_bl, nonB_int, nonB_str, nonB_lst, nonB_tup, nonB_cell, nonB_obj, bools_nil, bools_cons, ints_nil, ints_cons, eqD_ii, eqD_bb, eqD_ss, eqD_nn, eqD_ni, eqD_in, eqD_nb, eqD_bn, eqD_ns, eqD_sn, eqD_is, eqD_si, eqD_bs, eqD_sb, tag_non, tag_bl, tag_int, tag_str, tag_lst, tag_tup, tag_obj, bindP_nm, bindP_tp, bindPs_nil, bindPs_cons, EG.runs, EG.run, ev, evs, evo, evr, mkE, mkL, failL, bopF, copF, bltF, lbltF, env0, wipeE, isiAny, isi1, frzS, Cell.toD, atI_nn, setAt_nn, wp_inSg, List.map_cons, List.map_nil, List.length_cons, List.length_nil, List.append_nil, List.nil_append, List.cons_append, List.replicate, List.getElem?_cons_zero, List.getElem?_cons_succ, List.set_cons_zero, List.set_cons_succ, Int.reduceNeg, Int.reducePow, nA10, nA2, le_big, Nat.reducePow, Nat.zero_add, Option.map_some, Option.bind_some, Int.reduceLE, Int.reduceToNat, Int.reduceLT, Nat.reduceLT, Nat.reduceAdd, Nat.reduceSub, true_and, and_true, decide_true, decide_false, List.length_append, List.length_map, Nat.reduceLeDiff, Nat.reduceEqDiff, Bool.not_true, Bool.not_false, decide_eq_true_eq, reduceCtorEq, Option.some.injEq, id_eq, List.all_cons, List.all_nil, List.any_cons, List.any_nil, Bool.and_true, Bool.true_and, Bool.and_false, Bool.false_and, Bool.or_true, Bool.or_false, kG, kConsts, he]
  refine br_cases (fun e => ?_) (fun e => ?_)
  · simp only [↓br_true, ↓br_false, ↓op_some, ↓wp_bind, ↓wp_pure, ↓wp_fail, ↓wp_opt, ↓wp_guard, ↓wp_noX, ↓wp_v, ↓wp_vB, ↓wp_c, ↓wp_op2, ↓wp_op2L, ↓wp_t, ↓wp_tru, ↓wp_chain, ↓wp_andT, ↓wp_orT, ↓wp_notT, ↓wp_andV, ↓wp_orV, ↓wp_notV, ↓wp_if, ↓wp_nil, ↓wp_cons, ↓wp_tup, ↓wp_lst, ↓wp_D, ↓wp_cb, ↓wp_call, ↓wp_isi, ↓wp_neg, ↓wp_sl, ↓wp_noP, ↓wp_P, ↓wp_yes, ↓wp_items, ↓wp_signs, ↓wp_comp, ↓ws_seq, ↓thn_nx, ↓thn_rt, ↓thn_br, ↓thn_ct, ↓thn_exc, ↓ws_skip, ↓ws_break, ↓ws_cont, ↓ws_retN, ↓ws_set, ↓ws_own, ↓ws_ret, ↓ws_drop, ↓ws_if, ↓ws_asg, ↓ws_par, ↓ws_setC, ↓wp_newc, ↓ws_app, ↓ws_ext, ↓ws_setI, ↓ws_frz, ↓ws_for, ↓wl_nil, ↓wl_cons, ↓wf_run, ↓retS_nx, ↓retS_rt, ↓lpS_nx, ↓lpS_ct, ↓lpS_br, ↓lpS_rt, ↓turn_nx, ↓turn_ct, ↓turn_br, ↓turn_rt, ↓wp_addI, ↓wp_addS, ↓wp_subI, ↓wp_mulI, ↓wp_divI, ↓wp_modI, ↓wp_powI, ↓wp_cmpI, ↓wp_eq, ↓wp_ne, ↓wp_negI, ↓wp_seqE, ↓wp_lstE, ↓wp_ixL, ↓wp_ixT, ↓wp_ixC, ↓wp_ixS, ↓wp_lenS, ↓wp_lenL, ↓wp_lenT, ↓wp_lenC, ↓wp_absI, ↓wp_intI, ↓wp_intB, ↓wp_intS, ↓wp_strI, ↓wp_boolI, ↓wp_boolB, ↓wp_all, ↓wp_any, ↓wp_sum, ↓wp_max2, ↓wp_min2, ↓wp_list, ↓wp_tuple, ↓wp_sorted, ↓wp_slS, ↓wp_slT, ↓wp_slC, ↓wp_slL, ↓wp_range1, ↓wp_range2, ↓wp_enum, ↓wp_zip, ↓wp_cat, ↓wp_rep, ↓wp_inSg, ↓wp_notInSg, ↓wp_inL, ↓wp_inT, ↓wp_notIn, ↓wp_isN, ↓wp_notN, tt1, tt2, tt3, tt4, tt5, tt6, tu1, tu2, tu3, tu4, tu5, tu6, tu7, tu8, tu9, tu10, tu11, tu12, tu13, tu14, tu15, tu16, tu17, tu18, tu19, tu20, tu21, tu22, tu23, tu24, asB_bl, truD_non, truD_bl, truD_int, truD_str, truD_lst, truD_tup, asI_int, asS_str, items_lst, items_tup, valS_v, valB_v, valB_own, seqD_lst, seqD_tup, seqD_cell0, lstD_lst, lstD_cell0, cellL_0, own_lst, nonB_non, nonB_bl, nonB_int, nonB_str, nonB_lst, nonB_tup, nonB_cell, nonB_obj, bools_nil, bools_cons, ints_nil, ints_cons, eqD_ii, eqD_bb, eqD_ss, eqD_nn, eqD_ni, eqD_in, eqD_nb, eqD_bn, eqD_ns, eqD_sn, eqD_is, eqD_si, eqD_bs, eqD_sb, tag_non, tag_bl, tag_int, tag_str, tag_lst, tag_tup, tag_obj, bindP_nm, bindP_tp, bindPs_nil, bindPs_cons, EG.runs, EG.run, ev, evs, evo, evr, mkE, mkL, failL, bopF, copF, bltF, lbltF, env0, wipeE, isiAny, isi1, frzS, Cell.toD, atI_nn, setAt_nn, wp_inSg, List.map_cons, List.map_nil, List.length_cons, List.length_nil, List.append_nil, List.nil_append, List.cons_append, List.replicate, List.getElem?_cons_zero, List.getElem?_cons_succ, List.set_cons_zero, List.set_cons_succ, Int.reduceNeg, Int.reducePow, nA10, nA2, le_big, Nat.reducePow, Nat.zero_add, Option.map_some, Option.bind_some, Int.reduceLE, Int.reduceToNat, Int.reduceLT, Nat.reduceLT, Nat.reduceAdd, Nat.reduceSub, true_and, and_true, decide_true, decide_false, List.length_append, List.length_map, Nat.reduceLeDiff, Nat.reduceEqDiff, Bool.not_true, Bool.not_false, decide_eq_true_eq, reduceCtorEq, Option.some.injEq, id_eq, List.all_cons, List.all_nil, List.any_cons, List.any_nil, Bool.and_true, Bool.true_and, Bool.and_false, Bool.false_and, Bool.or_true, Bool.or_false, kG, kConsts]; rw [e] at h; exact h
  · rw [e] at h; exact h
def g1 (w : Str) : Bool := !decide (w = "") && (decide ((w.length : Int) < 14) && digs w)
theorem x1 {w : Str} {env : EG.Env} {μ : Mu} {Q : D → Mu → Prop} {E : PX} (he : env[6]? = some (.v (.str w))) (h8 : 8 < env.length) (h : Q (.bl (g1 w)) μ) : Wp ((ev G_law X_law_1).e env) μ Q E := by
  unfold X_law_1 G_law
  unfold g1 at h
  simp only [↓br_true, ↓br_false, ↓op_some, ↓wp_bind, ↓wp_pure, ↓wp_fail, ↓wp_opt, ↓wp_guard, ↓wp_noX, ↓wp_v, ↓wp_vB, ↓wp_c, ↓wp_op2, ↓wp_op2L, ↓wp_t, ↓wp_tru, ↓wp_chain, ↓wp_andT, ↓wp_orT, ↓wp_notT, ↓wp_andV, ↓wp_orV, ↓wp_notV, ↓wp_if, ↓wp_nil, ↓wp_cons, ↓wp_tup, ↓wp_lst, ↓wp_D, ↓wp_cb, ↓wp_call, ↓wp_isi, ↓wp_neg, ↓wp_sl, ↓wp_noP, ↓wp_P, ↓wp_yes, ↓wp_items, ↓wp_signs, ↓wp_comp, ↓ws_seq, ↓thn_nx, ↓thn_rt, ↓thn_br, ↓thn_ct, ↓thn_exc, ↓ws_skip, ↓ws_break, ↓ws_cont, ↓ws_retN, ↓ws_set, ↓ws_own, ↓ws_ret, ↓ws_drop, ↓ws_if, ↓ws_asg, ↓ws_par, ↓ws_setC, ↓wp_newc, ↓ws_app, ↓ws_ext, ↓ws_setI, ↓ws_frz, ↓ws_for, ↓wl_nil, ↓wl_cons, ↓wf_run, ↓retS_nx, ↓retS_rt, ↓lpS_nx, ↓lpS_ct, ↓lpS_br, ↓lpS_rt, ↓turn_nx, ↓turn_ct, ↓turn_br, ↓turn_rt, ↓wp_addI, ↓wp_addS, ↓wp_subI, ↓wp_mulI, ↓wp_divI, ↓wp_modI, ↓wp_powI, ↓wp_cmpI, ↓wp_eq, ↓wp_ne, ↓wp_negI, ↓wp_seqE, ↓wp_lstE, ↓wp_ixL, ↓wp_ixT, ↓wp_ixC, ↓wp_ixS, ↓wp_lenS, ↓wp_lenL, ↓wp_lenT, ↓wp_lenC, ↓wp_absI, ↓wp_intI, ↓wp_intB, ↓wp_intS, ↓wp_strI, ↓wp_boolI, ↓wp_boolB, ↓wp_all, ↓wp_any, ↓wp_sum, ↓wp_max2, ↓wp_min2, ↓wp_list, ↓wp_tuple, ↓wp_sorted, ↓wp_slS, ↓wp_slT, ↓wp_slC, ↓wp_slL, ↓wp_range1, ↓wp_range2, ↓wp_enum, ↓wp_zip, ↓wp_cat, ↓wp_rep, ↓wp_inSg, ↓wp_notInSg, ↓wp_inL, ↓wp_inT, ↓wp_notIn, ↓wp_isN, ↓wp_notN, tt1, tt2, tt3, tt4, tt5, tt6, tu1, tu2, tu3, tu4, tu5, tu6, tu7, tu8, tu9, tu10, tu11, tu12, tu13, tu14, tu15, tu16, tu17, tu18, tu19, tu20, tu21, tu22, tu23, tu24, asB_bl, truD_non, truD_bl, truD_int, truD_str, truD_lst, truD_tup, asI_int, asS_str, items_lst, items_tup, valS_v, valB_v, valB_own, seqD_lst, seqD_tup, seqD_cell0, lstD_lst, lstD_cell0, cellL_0, own_lst, nonB_non, nonB_bl, nonB_int, nonB_str, nonB_lst, nonB_tup, nonB_cell, nonB_obj, bools_nil, bools_cons, ints_nil, ints_cons, eqD_ii, eqD_bb, eqD_ss, eqD_nn, eqD_ni, eqD_in, eqD_nb, eqD_bn, eqD_ns, eqD_sn, eqD_is, eqD_si, eqD_bs, eqD_sb, tag_non, tag_bl, tag_int, tag_str, tag_lst, tag_tup, tag_obj, bindP_nm, bindP_tp, bindPs_nil, bindPs_cons, EG.runs, EG.run, ev, evs, evo, evr, mkE, mkL, failL, bopF, copF, bltF, lbltF, env0, wipeE, isiAny, isi1, frzS, Cell.toD, atI_nn, setAt_nn, wp_inSg, List.map_cons, List.map_nil, List.length_cons, List.length_nil, List.append_nil, List.nil_append, List.cons_append, List.replicate, List.getElem?_cons_zero, List.getElem?_cons_succ, List.set_cons_zero, List.set_cons_succ, Int.reduceNeg, Int.reducePow, nA10, nA2, le_big, Nat.reducePow, Nat.zero_add, Option.map_some, Option.bind_some, Int.reduceLE, Int.reduceToNat, Int.reduceLT, Nat.reduceLT, Nat.reduceAdd, Nat.reduceSub, true_and, and_true, decide_true, decide_false, List.length_append, List.length_map, Nat.reduceLeDiff, Nat.reduceEqDiff, Bool.not_true, Bool.not_false, decide_eq_true_eq, reduceCtorEq, Option.some.injEq, id_eq, List.all_cons, List.all_nil, List.any_cons, List.any_nil, Bool.and_true, Bool.true_and, Bool.and_false, Bool.false_and, Bool.or_true, Bool.or_false, kG, kConsts, he]
  refine br_cases (fun e => ?_) (fun e => ?_)
  · rw [e] at h
    simp only [↓br_true, ↓br_false, ↓op_some, ↓wp_bind, ↓wp_pure, ↓wp_fail, ↓wp_opt, ↓wp_guard, ↓wp_noX, ↓wp_v, ↓wp_vB, ↓wp_c, ↓wp_op2, ↓wp_op2L, ↓wp_t, ↓wp_tru, ↓wp_chain, ↓wp_andT, ↓wp_orT, ↓wp_notT, ↓wp_andV, ↓wp_orV, ↓wp_notV, ↓wp_if, ↓wp_nil, ↓wp_cons, ↓wp_tup, ↓wp_lst, ↓wp_D, ↓wp_cb, ↓wp_call, ↓wp_isi, ↓wp_neg, ↓wp_sl, ↓wp_noP, ↓wp_P, ↓wp_yes, ↓wp_items, ↓wp_signs, ↓wp_comp, ↓ws_seq, ↓thn_nx, ↓thn_rt, ↓thn_br, ↓thn_ct, ↓thn_exc, ↓ws_skip, ↓ws_break, ↓ws_cont, ↓ws_retN, ↓ws_set, ↓ws_own, ↓ws_ret, ↓ws_drop, ↓ws_if, ↓ws_asg, ↓ws_par, ↓ws_setC, ↓wp_newc, ↓ws_app, ↓ws_ext, ↓ws_setI, ↓ws_frz, ↓ws_for, ↓wl_nil, ↓wl_cons, ↓wf_run, ↓retS_nx, ↓retS_rt, ↓lpS_nx, ↓lpS_ct, ↓lpS_br, ↓lpS_rt, ↓turn_nx, ↓turn_ct, ↓turn_br, ↓turn_rt, ↓wp_addI, ↓wp_addS, ↓wp_subI, ↓wp_mulI, ↓wp_divI, ↓wp_modI, ↓wp_powI, ↓wp_cmpI, ↓wp_eq, ↓wp_ne, ↓wp_negI, ↓wp_seqE, ↓wp_lstE, ↓wp_ixL, ↓wp_ixT, ↓wp_ixC, ↓wp_ixS, ↓wp_lenS, ↓wp_lenL, ↓wp_lenT, ↓wp_lenC, ↓wp_absI, ↓wp_intI, ↓wp_intB, ↓wp_intS, ↓wp_strI, ↓wp_boolI, ↓wp_boolB, ↓wp_all, ↓wp_any, ↓wp_sum, ↓wp_max2, ↓wp_min2, ↓wp_list, ↓wp_tuple, ↓wp_sorted, ↓wp_slS, ↓wp_slT, ↓wp_slC, ↓wp_slL, ↓wp_range1, ↓wp_range2, ↓wp_enum, ↓wp_zip, ↓wp_cat, ↓wp_rep, ↓wp_inSg, ↓wp_notInSg, ↓wp_inL, ↓wp_inT, ↓wp_notIn, ↓wp_isN, ↓wp_notN, tt1, tt2, tt3, tt4, tt5, tt6, tu1, tu2, tu3, tu4, tu5, tu6, tu7, tu8, tu9, tu10, tu11, tu12, tu13, tu14, tu15, tu16, tu17, tu18, tu19, tu20, tu21, tu22, tu23, tu24, asB_bl, truD_non, truD_bl, truD_int, truD_str, truD_lst, truD_tup, asI_int, asS_str, items_lst, items_tup, valS_v, valB_v, valB_own, seqD_lst, seqD_tup, seqD_cell0, lstD_lst, lstD_cell0, cellL_0, own_lst, nonB_non, nonB_bl, nonB_int, nonB_str, nonB_lst, nonB_tup, nonB_cell, nonB_obj, bools_nil, bools_cons, ints_nil, ints_cons, eqD_ii, eqD_bb, eqD_ss, eqD_nn, eqD_ni, eqD_in, eqD_nb, eqD_bn, eqD_ns, eqD_sn, eqD_is, eqD_si, eqD_bs, eqD_sb, tag_non, tag_bl, tag_int, tag_str, tag_lst, tag_tup, tag_obj, bindP_nm, bindP_tp, bindPs_nil, bindPs_cons, EG.runs, EG.run, ev, evs, evo, evr, mkE, mkL, failL, bopF, copF, bltF, lbltF, env0, wipeE, isiAny, isi1, frzS, Cell.toD, atI_nn, setAt_nn, wp_inSg, List.map_cons, List.map_nil, List.length_cons, List.length_nil, List.append_nil, List.nil_append, List.cons_append, List.replicate, List.getElem?_cons_zero, List.getElem?_cons_succ, List.set_cons_zero, List.set_cons_succ, Int.reduceNeg, Int.reducePow, nA10, nA2, le_big, Nat.reducePow, Nat.zero_add, Option.map_some, Option.bind_some, Int.reduceLE, Int.reduceToNat, Int.reduceLT, Nat.reduceLT, Nat.reduceAdd, Nat.reduceSub, true_and, and_true, decide_true, decide_false, List.length_append, List.length_map, Nat.reduceLeDiff, Nat.reduceEqDiff, Bool.not_true, Bool.not_false, decide_eq_true_eq, reduceCtorEq, Option.some.injEq, id_eq, List.all_cons, List.all_nil, List.any_cons, List.any_nil, Bool.and_true, Bool.true_and, Bool.and_false, Bool.false_and, Bool.or_true, Bool.or_false, kG, kConsts, he]
    refine br_cases (fun e2 => ?_) (fun e2 => ?_)
    · rw [e2] at h
      simp only [↓br_true, ↓br_false, ↓op_some, ↓wp_bind, ↓wp_pure, ↓wp_fail, ↓wp_opt, ↓wp_guard, ↓wp_noX, ↓wp_v, ↓wp_vB, ↓wp_c, ↓wp_op2, ↓wp_op2L, ↓wp_t, ↓wp_tru, ↓wp_chain, ↓wp_andT, ↓wp_orT, ↓wp_notT, ↓wp_andV, ↓wp_orV, ↓wp_notV, ↓wp_if, ↓wp_nil, ↓wp_cons, ↓wp_tup, ↓wp_lst, ↓wp_D, ↓wp_cb, ↓wp_call, ↓wp_isi, ↓wp_neg, ↓wp_sl, ↓wp_noP, ↓wp_P, ↓wp_yes, ↓wp_items, ↓wp_signs, ↓wp_comp, ↓ws_seq, ↓thn_nx, ↓thn_rt, ↓thn_br, ↓thn_ct, ↓thn_exc, ↓ws_skip, ↓ws_break, ↓ws_cont, ↓ws_retN, ↓ws_set, ↓ws_own, ↓ws_ret, ↓ws_drop, ↓ws_if, ↓ws_asg, ↓ws_par, ↓ws_setC, ↓wp_newc, ↓ws_app, ↓ws_ext, ↓ws_setI, ↓ws_frz, ↓ws_for, ↓wl_nil, ↓wl_cons, ↓wf_run, ↓retS_nx, ↓retS_rt, ↓lpS_nx, ↓lpS_ct, ↓lpS_br, ↓lpS_rt, ↓turn_nx, ↓turn_ct, ↓turn_br, ↓turn_rt, ↓wp_addI, ↓wp_addS, ↓wp_subI, ↓wp_mulI, ↓wp_divI, ↓wp_modI, ↓wp_powI, ↓wp_cmpI, ↓wp_eq, ↓wp_ne, ↓wp_negI, ↓wp_seqE, ↓wp_lstE, ↓wp_ixL, ↓wp_ixT, ↓wp_ixC, ↓wp_ixS, ↓wp_lenS, ↓wp_lenL, ↓wp_lenT, ↓wp_lenC, ↓wp_absI, ↓wp_intI, ↓wp_intB, ↓wp_intS, ↓wp_strI, ↓wp_boolI, ↓wp_boolB, ↓wp_all, ↓wp_any, ↓wp_sum, ↓wp_max2, ↓wp_min2, ↓wp_list, ↓wp_tuple, ↓wp_sorted, ↓wp_slS, ↓wp_slT, ↓wp_slC, ↓wp_slL, ↓wp_range1, ↓wp_range2, ↓wp_enum, ↓wp_zip, ↓wp_cat, ↓wp_rep, ↓wp_inSg, ↓wp_notInSg, ↓wp_inL, ↓wp_inT, ↓wp_notIn, ↓wp_isN, ↓wp_notN, tt1, tt2, tt3, tt4, tt5, tt6, tu1, tu2, tu3, tu4, tu5, tu6, tu7, tu8, tu9, tu10, tu11, tu12, tu13, tu14, tu15, tu16, tu17, tu18, tu19, tu20, tu21, tu22, tu23, tu24, asB_bl, truD_non, truD_bl, truD_int, truD_str, truD_lst, truD_tup, asI_int, asS_str, items_lst, items_tup, valS_v, valB_v, valB_own, seqD_lst, seqD_tup, seqD_cell0, lstD_lst, lstD_cell0, cellL_0, own_lst, nonB_non, nonB_bl, nonB_int, nonB_str, nonB_lst, nonB_tup, nonB_cell, nonB_obj, bools_nil, bools_cons, ints_nil, ints_cons, eqD_ii, eqD_bb, eqD_ss, eqD_nn, eqD_ni, eqD_in, eqD_nb, eqD_bn, eqD_ns, eqD_sn, eqD_is, eqD_si, eqD_bs, eqD_sb, tag_non, tag_bl, tag_int, tag_str, tag_lst, tag_tup, tag_obj, bindP_nm, bindP_tp, bindPs_nil, bindPs_cons, EG.runs, EG.run, ev, evs, evo, evr, mkE, mkL, failL, bopF, copF, bltF, lbltF, env0, wipeE, isiAny, isi1, frzS, Cell.toD, atI_nn, setAt_nn, wp_inSg, List.map_cons, List.map_nil, List.length_cons, List.length_nil, List.append_nil, List.nil_append, List.cons_append, List.replicate, List.getElem?_cons_zero, List.getElem?_cons_succ, List.set_cons_zero, List.set_cons_succ, Int.reduceNeg, Int.reducePow, nA10, nA2, le_big, Nat.reducePow, Nat.zero_add, Option.map_some, Option.bind_some, Int.reduceLE, Int.reduceToNat, Int.reduceLT, Nat.reduceLT, Nat.reduceAdd, Nat.reduceSub, true_and, and_true, decide_true, decide_false, List.length_append, List.length_map, Nat.reduceLeDiff, Nat.reduceEqDiff, Bool.not_true, Bool.not_false, decide_eq_true_eq, reduceCtorEq, Option.some.injEq, id_eq, List.all_cons, List.all_nil, List.any_cons, List.any_nil, Bool.and_true, Bool.true_and, Bool.and_false, Bool.false_and, Bool.or_true, Bool.or_false, kG, kConsts, he]
      have hw : (env.set 8 Slot.no)[6]? = some (.v (.str w)) := by rw [List.getElem?_set_ne (by decide)]; exact he
      refine wp_of_eq (compL_pure sgB id (signs w) fun d hd => ?_) ?_
      · obtain ⟨c, rfl, hg⟩ := mem_signs hd
        have h9 : ((env.set 8 Slot.no).set 8 (Slot.v (D.str ⟨#[c]⟩)))[8]? = some (Slot.v (D.str ⟨#[c]⟩)) := List.getElem?_set_self (by rw [List.length_set]; exact h8)
        refine ⟨_, bindP_nm, ?_, fun _ => ?_⟩
        · simp only [↓br_true, ↓br_false, ↓op_some, ↓wp_bind, ↓wp_pure, ↓wp_fail, ↓wp_opt, ↓wp_guard, ↓wp_noX, ↓wp_v, ↓wp_vB, ↓wp_c, ↓wp_op2, ↓wp_op2L, ↓wp_t, ↓wp_tru, ↓wp_chain, ↓wp_andT, ↓wp_orT, ↓wp_notT, ↓wp_andV, ↓wp_orV, ↓wp_notV, ↓wp_if, ↓wp_nil, ↓wp_cons, ↓wp_tup, ↓wp_lst, ↓wp_D, ↓wp_cb, ↓wp_call, ↓wp_isi, ↓wp_neg, ↓wp_sl, ↓wp_noP, ↓wp_P, ↓wp_yes, ↓wp_items, ↓wp_signs, ↓wp_comp, ↓ws_seq, ↓thn_nx, ↓thn_rt, ↓thn_br, ↓thn_ct, ↓thn_exc, ↓ws_skip, ↓ws_break, ↓ws_cont, ↓ws_retN, ↓ws_set, ↓ws_own, ↓ws_ret, ↓ws_drop, ↓ws_if, ↓ws_asg, ↓ws_par, ↓ws_setC, ↓wp_newc, ↓ws_app, ↓ws_ext, ↓ws_setI, ↓ws_frz, ↓ws_for, ↓wl_nil, ↓wl_cons, ↓wf_run, ↓retS_nx, ↓retS_rt, ↓lpS_nx, ↓lpS_ct, ↓lpS_br, ↓lpS_rt, ↓turn_nx, ↓turn_ct, ↓turn_br, ↓turn_rt, ↓wp_addI, ↓wp_addS, ↓wp_subI, ↓wp_mulI, ↓wp_divI, ↓wp_modI, ↓wp_powI, ↓wp_cmpI, ↓wp_eq, ↓wp_ne, ↓wp_negI, ↓wp_seqE, ↓wp_lstE, ↓wp_ixL, ↓wp_ixT, ↓wp_ixC, ↓wp_ixS, ↓wp_lenS, ↓wp_lenL, ↓wp_lenT, ↓wp_lenC, ↓wp_absI, ↓wp_intI, ↓wp_intB, ↓wp_intS, ↓wp_strI, ↓wp_boolI, ↓wp_boolB, ↓wp_all, ↓wp_any, ↓wp_sum, ↓wp_max2, ↓wp_min2, ↓wp_list, ↓wp_tuple, ↓wp_sorted, ↓wp_slS, ↓wp_slT, ↓wp_slC, ↓wp_slL, ↓wp_range1, ↓wp_range2, ↓wp_enum, ↓wp_zip, ↓wp_cat, ↓wp_rep, ↓wp_inSg, ↓wp_notInSg, ↓wp_inL, ↓wp_inT, ↓wp_notIn, ↓wp_isN, ↓wp_notN, tt1, tt2, tt3, tt4, tt5, tt6, tu1, tu2, tu3, tu4, tu5, tu6, tu7, tu8, tu9, tu10, tu11, tu12, tu13, tu14, tu15, tu16, tu17, tu18, tu19, tu20, tu21, tu22, tu23, tu24, asB_bl, truD_non, truD_bl, truD_int, truD_str, truD_lst, truD_tup, asI_int, asS_str, items_lst, items_tup, valS_v, valB_v, valB_own, seqD_lst, seqD_tup, seqD_cell0, lstD_lst, lstD_cell0, cellL_0, own_lst, nonB_non, nonB_bl, nonB_int, nonB_str, nonB_lst, nonB_tup, nonB_cell, nonB_obj, bools_nil, bools_cons, ints_nil, ints_cons, eqD_ii, eqD_bb, eqD_ss, eqD_nn, eqD_ni, eqD_in, eqD_nb, eqD_bn, eqD_ns, eqD_sn, eqD_is, eqD_si, eqD_bs, eqD_sb, tag_non, tag_bl, tag_int, tag_str, tag_lst, tag_tup, tag_obj, bindP_nm, bindP_tp, bindPs_nil, bindPs_cons, EG.runs, EG.run, ev, evs, evo, evr, mkE, mkL, failL, bopF, copF, bltF, lbltF, env0, wipeE, isiAny, isi1, frzS, Cell.toD, atI_nn, setAt_nn, wp_inSg, List.map_cons, List.map_nil, List.length_cons, List.length_nil, List.append_nil, List.nil_append, List.cons_append, List.replicate, List.getElem?_cons_zero, List.getElem?_cons_succ, List.set_cons_zero, List.set_cons_succ, Int.reduceNeg, Int.reducePow, nA10, nA2, le_big, Nat.reducePow, Nat.zero_add, Option.map_some, Option.bind_some, Int.reduceLE, Int.reduceToNat, Int.reduceLT, Nat.reduceLT, Nat.reduceAdd, Nat.reduceSub, true_and, and_true, decide_true, decide_false, List.length_append, List.length_map, Nat.reduceLeDiff, Nat.reduceEqDiff, Bool.not_true, Bool.not_false, decide_eq_true_eq, reduceCtorEq, Option.some.injEq, id_eq, List.all_cons, List.all_nil, List.any_cons, List.any_nil, Bool.and_true, Bool.true_and, Bool.and_false, Bool.false_and, Bool.or_true, Bool.or_false, kG, kConsts, h9]
          exact hg.symm
        · simp only [↓br_true, ↓br_false, ↓op_some, ↓wp_bind, ↓wp_pure, ↓wp_fail, ↓wp_opt, ↓wp_guard, ↓wp_noX, ↓wp_v, ↓wp_vB, ↓wp_c, ↓wp_op2, ↓wp_op2L, ↓wp_t, ↓wp_tru, ↓wp_chain, ↓wp_andT, ↓wp_orT, ↓wp_notT, ↓wp_andV, ↓wp_orV, ↓wp_notV, ↓wp_if, ↓wp_nil, ↓wp_cons, ↓wp_tup, ↓wp_lst, ↓wp_D, ↓wp_cb, ↓wp_call, ↓wp_isi, ↓wp_neg, ↓wp_sl, ↓wp_noP, ↓wp_P, ↓wp_yes, ↓wp_items, ↓wp_signs, ↓wp_comp, ↓ws_seq, ↓thn_nx, ↓thn_rt, ↓thn_br, ↓thn_ct, ↓thn_exc, ↓ws_skip, ↓ws_break, ↓ws_cont, ↓ws_retN, ↓ws_set, ↓ws_own, ↓ws_ret, ↓ws_drop, ↓ws_if, ↓ws_asg, ↓ws_par, ↓ws_setC, ↓wp_newc, ↓ws_app, ↓ws_ext, ↓ws_setI, ↓ws_frz, ↓ws_for, ↓wl_nil, ↓wl_cons, ↓wf_run, ↓retS_nx, ↓retS_rt, ↓lpS_nx, ↓lpS_ct, ↓lpS_br, ↓lpS_rt, ↓turn_nx, ↓turn_ct, ↓turn_br, ↓turn_rt, ↓wp_addI, ↓wp_addS, ↓wp_subI, ↓wp_mulI, ↓wp_divI, ↓wp_modI, ↓wp_powI, ↓wp_cmpI, ↓wp_eq, ↓wp_ne, ↓wp_negI, ↓wp_seqE, ↓wp_lstE, ↓wp_ixL, ↓wp_ixT, ↓wp_ixC, ↓wp_ixS, ↓wp_lenS, ↓wp_lenL, ↓wp_lenT, ↓wp_lenC, ↓wp_absI, ↓wp_intI, ↓wp_intB, ↓wp_intS, ↓wp_strI, ↓wp_boolI, ↓wp_boolB, ↓wp_all, ↓wp_any, ↓wp_sum, ↓wp_max2, ↓wp_min2, ↓wp_list, ↓wp_tuple, ↓wp_sorted, ↓wp_slS, ↓wp_slT, ↓wp_slC, ↓wp_slL, ↓wp_range1, ↓wp_range2, ↓wp_enum, ↓wp_zip, ↓wp_cat, ↓wp_rep, ↓wp_inSg, ↓wp_notInSg, ↓wp_inL, ↓wp_inT, ↓wp_notIn, ↓wp_isN, ↓wp_notN, tt1, tt2, tt3, tt4, tt5, tt6, tu1, tu2, tu3, tu4, tu5, tu6, tu7, tu8, tu9, tu10, tu11, tu12, tu13, tu14, tu15, tu16, tu17, tu18, tu19, tu20, tu21, tu22, tu23, tu24, asB_bl, truD_non, truD_bl, truD_int, truD_str, truD_lst, truD_tup, asI_int, asS_str, items_lst, items_tup, valS_v, valB_v, valB_own, seqD_lst, seqD_tup, seqD_cell0, lstD_lst, lstD_cell0, cellL_0, own_lst, nonB_non, nonB_bl, nonB_int, nonB_str, nonB_lst, nonB_tup, nonB_cell, nonB_obj, bools_nil, bools_cons, ints_nil, ints_cons, eqD_ii, eqD_bb, eqD_ss, eqD_nn, eqD_ni, eqD_in, eqD_nb, eqD_bn, eqD_ns, eqD_sn, eqD_is, eqD_si, eqD_bs, eqD_sb, tag_non, tag_bl, tag_int, tag_str, tag_lst, tag_tup, tag_obj, bindP_nm, bindP_tp, bindPs_nil, bindPs_cons, EG.runs, EG.run, ev, evs, evo, evr, mkE, mkL, failL, bopF, copF, bltF, lbltF, env0, wipeE, isiAny, isi1, frzS, Cell.toD, atI_nn, setAt_nn, wp_inSg, List.map_cons, List.map_nil, List.length_cons, List.length_nil, List.append_nil, List.nil_append, List.cons_append, List.replicate, List.getElem?_cons_zero, List.getElem?_cons_succ, List.set_cons_zero, List.set_cons_succ, Int.reduceNeg, Int.reducePow, nA10, nA2, le_big, Nat.reducePow, Nat.zero_add, Option.map_some, Option.bind_some, Int.reduceLE, Int.reduceToNat, Int.reduceLT, Nat.reduceLT, Nat.reduceAdd, Nat.reduceSub, true_and, and_true, decide_true, decide_false, List.length_append, List.length_map, Nat.reduceLeDiff, Nat.reduceEqDiff, Bool.not_true, Bool.not_false, decide_eq_true_eq, reduceCtorEq, Option.some.injEq, id_eq, List.all_cons, List.all_nil, List.any_cons, List.any_nil, Bool.and_true, Bool.true_and, Bool.and_false, Bool.false_and, Bool.or_true, Bool.or_false, kG, kConsts, h9]
      · have hs : (signs w).filter sgB = (w.cps.toList.map fun c => D.str ⟨#[c]⟩).filter sgB := rfl
        simp only [↓br_true, ↓br_false, ↓op_some, ↓wp_bind, ↓wp_pure, ↓wp_fail, ↓wp_opt, ↓wp_guard, ↓wp_noX, ↓wp_v, ↓wp_vB, ↓wp_c, ↓wp_op2, ↓wp_op2L, ↓wp_t, ↓wp_tru, ↓wp_chain, ↓wp_andT, ↓wp_orT, ↓wp_notT, ↓wp_andV, ↓wp_orV, ↓wp_notV, ↓wp_if, ↓wp_nil, ↓wp_cons, ↓wp_tup, ↓wp_lst, ↓wp_D, ↓wp_cb, ↓wp_call, ↓wp_isi, ↓wp_neg, ↓wp_sl, ↓wp_noP, ↓wp_P, ↓wp_yes, ↓wp_items, ↓wp_signs, ↓wp_comp, ↓ws_seq, ↓thn_nx, ↓thn_rt, ↓thn_br, ↓thn_ct, ↓thn_exc, ↓ws_skip, ↓ws_break, ↓ws_cont, ↓ws_retN, ↓ws_set, ↓ws_own, ↓ws_ret, ↓ws_drop, ↓ws_if, ↓ws_asg, ↓ws_par, ↓ws_setC, ↓wp_newc, ↓ws_app, ↓ws_ext, ↓ws_setI, ↓ws_frz, ↓ws_for, ↓wl_nil, ↓wl_cons, ↓wf_run, ↓retS_nx, ↓retS_rt, ↓lpS_nx, ↓lpS_ct, ↓lpS_br, ↓lpS_rt, ↓turn_nx, ↓turn_ct, ↓turn_br, ↓turn_rt, ↓wp_addI, ↓wp_addS, ↓wp_subI, ↓wp_mulI, ↓wp_divI, ↓wp_modI, ↓wp_powI, ↓wp_cmpI, ↓wp_eq, ↓wp_ne, ↓wp_negI, ↓wp_seqE, ↓wp_lstE, ↓wp_ixL, ↓wp_ixT, ↓wp_ixC, ↓wp_ixS, ↓wp_lenS, ↓wp_lenL, ↓wp_lenT, ↓wp_lenC, ↓wp_absI, ↓wp_intI, ↓wp_intB, ↓wp_intS, ↓wp_strI, ↓wp_boolI, ↓wp_boolB, ↓wp_all, ↓wp_any, ↓wp_sum, ↓wp_max2, ↓wp_min2, ↓wp_list, ↓wp_tuple, ↓wp_sorted, ↓wp_slS, ↓wp_slT, ↓wp_slC, ↓wp_slL, ↓wp_range1, ↓wp_range2, ↓wp_enum, ↓wp_zip, ↓wp_cat, ↓wp_rep, ↓wp_inSg, ↓wp_notInSg, ↓wp_inL, ↓wp_inT, ↓wp_notIn, ↓wp_isN, ↓wp_notN, tt1, tt2, tt3, tt4, tt5, tt6, tu1, tu2, tu3, tu4, tu5, tu6, tu7, tu8, tu9, tu10, tu11, tu12, tu13, tu14, tu15, tu16, tu17, tu18, tu19, tu20, tu21, tu22, tu23, tu24, asB_bl, truD_non, truD_bl, truD_int, truD_str, truD_lst, truD_tup, asI_int, asS_str, items_lst, items_tup, valS_v, valB_v, valB_own, seqD_lst, seqD_tup, seqD_cell0, lstD_lst, lstD_cell0, cellL_0, own_lst, nonB_non, nonB_bl, nonB_int, nonB_str, nonB_lst, nonB_tup, nonB_cell, nonB_obj, bools_nil, bools_cons, ints_nil, ints_cons, eqD_ii, eqD_bb, eqD_ss, eqD_nn, eqD_ni, eqD_in, eqD_nb, eqD_bn, eqD_ns, eqD_sn, eqD_is, eqD_si, eqD_bs, eqD_sb, tag_non, tag_bl, tag_int, tag_str, tag_lst, tag_tup, tag_obj, bindP_nm, bindP_tp, bindPs_nil, bindPs_cons, EG.runs, EG.run, ev, evs, evo, evr, mkE, mkL, failL, bopF, copF, bltF, lbltF, env0, wipeE, isiAny, isi1, frzS, Cell.toD, atI_nn, setAt_nn, wp_inSg, List.map_cons, List.map_nil, List.length_cons, List.length_nil, List.append_nil, List.nil_append, List.cons_append, List.replicate, List.getElem?_cons_zero, List.getElem?_cons_succ, List.set_cons_zero, List.set_cons_succ, Int.reduceNeg, Int.reducePow, nA10, nA2, le_big, Nat.reducePow, Nat.zero_add, Option.map_some, Option.bind_some, Int.reduceLE, Int.reduceToNat, Int.reduceLT, Nat.reduceLT, Nat.reduceAdd, Nat.reduceSub, true_and, and_true, decide_true, decide_false, List.length_append, List.length_map, Nat.reduceLeDiff, Nat.reduceEqDiff, Bool.not_true, Bool.not_false, decide_eq_true_eq, reduceCtorEq, Option.some.injEq, id_eq, List.all_cons, List.all_nil, List.any_cons, List.any_nil, Bool.and_true, Bool.true_and, Bool.and_false, Bool.false_and, Bool.or_true, Bool.or_false, kG, kConsts, he, hs, List.map_id, filt_signs]
        have e5 : decide (((w.cps.toList.filter dg).length : Int) = (w.length : Int)) = digs w := by
          have hlen : w.length = w.cps.toList.length := rfl
          rw [hlen]
          unfold digs
          cases q : w.cps.toList.all dg with
          | true =>
            rw [List.filter_eq_self.mpr (List.all_eq_true.mp q)]
            exact decide_eq_true rfl
          | false =>
            refine decide_eq_false fun z => ?_
            have z : (w.cps.toList.filter dg).length = w.cps.toList.length := by omega
            rw [List.length_filter_eq_length_iff] at z
            rw [List.all_eq_true.mpr z] at q
            cases q
        rw [e5]
        exact h
    · rw [e2] at h
      exact h
  · rw [e] at h
    exact h
theorem cut1 {w : Str} {c : Nat} {r : List Nat} (hc : w.cps.toList = c :: r) : cutS w none (some 1) = ⟨#[c]⟩ := by
  unfold cutS
  rw [show w.length = w.cps.toList.length from rfl, hc]
  simp [HT.sIx]
theorem x2 {w : Str} {env : EG.Env} {μ : Mu} {Q : D → Mu → Prop} {E : PX} (he : env[6]? = some (.v (.str w))) (h7 : env[7]? = some (.v (.bl (g1 w)))) (h : Q (.bl (goodB w)) μ) : Wp ((ev G_law X_law_2).e env) μ Q E := by
  unfold X_law_2 G_law
  simp only [↓br_true, ↓br_false, ↓op_some, ↓wp_bind, ↓wp_pure, ↓wp_fail, ↓wp_opt, ↓wp_guard, ↓wp_noX, ↓wp_v, ↓wp_vB, ↓wp_c, ↓wp_op2, ↓wp_op2L, ↓wp_t, ↓wp_tru, ↓wp_chain, ↓wp_andT, ↓wp_orT, ↓wp_notT, ↓wp_andV, ↓wp_orV, ↓wp_notV, ↓wp_if, ↓wp_nil, ↓wp_cons, ↓wp_tup, ↓wp_lst, ↓wp_D, ↓wp_cb, ↓wp_call, ↓wp_isi, ↓wp_neg, ↓wp_sl, ↓wp_noP, ↓wp_P, ↓wp_yes, ↓wp_items, ↓wp_signs, ↓wp_comp, ↓ws_seq, ↓thn_nx, ↓thn_rt, ↓thn_br, ↓thn_ct, ↓thn_exc, ↓ws_skip, ↓ws_break, ↓ws_cont, ↓ws_retN, ↓ws_set, ↓ws_own, ↓ws_ret, ↓ws_drop, ↓ws_if, ↓ws_asg, ↓ws_par, ↓ws_setC, ↓wp_newc, ↓ws_app, ↓ws_ext, ↓ws_setI, ↓ws_frz, ↓ws_for, ↓wl_nil, ↓wl_cons, ↓wf_run, ↓retS_nx, ↓retS_rt, ↓lpS_nx, ↓lpS_ct, ↓lpS_br, ↓lpS_rt, ↓turn_nx, ↓turn_ct, ↓turn_br, ↓turn_rt, ↓wp_addI, ↓wp_addS, ↓wp_subI, ↓wp_mulI, ↓wp_divI, ↓wp_modI, ↓wp_powI, ↓wp_cmpI, ↓wp_eq, ↓wp_ne, ↓wp_negI, ↓wp_seqE, ↓wp_lstE, ↓wp_ixL, ↓wp_ixT, ↓wp_ixC, ↓wp_ixS, ↓wp_lenS, ↓wp_lenL, ↓wp_lenT, ↓wp_lenC, ↓wp_absI, ↓wp_intI, ↓wp_intB, ↓wp_intS, ↓wp_strI, ↓wp_boolI, ↓wp_boolB, ↓wp_all, ↓wp_any, ↓wp_sum, ↓wp_max2, ↓wp_min2, ↓wp_list, ↓wp_tuple, ↓wp_sorted, ↓wp_slS, ↓wp_slT, ↓wp_slC, ↓wp_slL, ↓wp_range1, ↓wp_range2, ↓wp_enum, ↓wp_zip, ↓wp_cat, ↓wp_rep, ↓wp_inSg, ↓wp_notInSg, ↓wp_inL, ↓wp_inT, ↓wp_notIn, ↓wp_isN, ↓wp_notN, tt1, tt2, tt3, tt4, tt5, tt6, tu1, tu2, tu3, tu4, tu5, tu6, tu7, tu8, tu9, tu10, tu11, tu12, tu13, tu14, tu15, tu16, tu17, tu18, tu19, tu20, tu21, tu22, tu23, tu24, asB_bl, truD_non, truD_bl, truD_int, truD_str, truD_lst, truD_tup, asI_int, asS_str, items_lst, items_tup, valS_v, valB_v, valB_own, seqD_lst, seqD_tup, seqD_cell0, lstD_lst, lstD_cell0, cellL_0, own_lst, nonB_non, nonB_bl, nonB_int, nonB_str, nonB_lst, nonB_tup, nonB_cell, nonB_obj, bools_nil, bools_cons, ints_nil, ints_cons, eqD_ii, eqD_bb, eqD_ss, eqD_nn, eqD_ni, eqD_in, eqD_nb, eqD_bn, eqD_ns, eqD_sn, eqD_is, eqD_si, eqD_bs, eqD_sb, tag_non, tag_bl, tag_int, tag_str, tag_lst, tag_tup, tag_obj, bindP_nm, bindP_tp, bindPs_nil, bindPs_cons, EG.runs, EG.run, ev, evs, evo, evr, mkE, mkL, failL, bopF, copF, bltF, lbltF, env0, wipeE, isiAny, isi1, frzS, Cell.toD, atI_nn, setAt_nn, wp_inSg, List.map_cons, List.map_nil, List.length_cons, List.length_nil, List.append_nil, List.nil_append, List.cons_append, List.replicate, List.getElem?_cons_zero, List.getElem?_cons_succ, List.set_cons_zero, List.set_cons_succ, Int.reduceNeg, Int.reducePow, nA10, nA2, le_big, Nat.reducePow, Nat.zero_add, Option.map_some, Option.bind_some, Int.reduceLE, Int.reduceToNat, Int.reduceLT, Nat.reduceLT, Nat.reduceAdd, Nat.reduceSub, true_and, and_true, decide_true, decide_false, List.length_append, List.length_map, Nat.reduceLeDiff, Nat.reduceEqDiff, Bool.not_true, Bool.not_false, decide_eq_true_eq, reduceCtorEq, Option.some.injEq, id_eq, List.all_cons, List.all_nil, List.any_cons, List.any_nil, Bool.and_true, Bool.true_and, Bool.and_false, Bool.false_and, Bool.or_true, Bool.or_false, kG, kConsts, he, h7]
  refine br_cases (fun e => ?_) (fun e => ?_)
  · have e' := e
    unfold g1 at e
    simp only [Bool.and_eq_true, Bool.not_eq_true', decide_eq_true_eq, decide_eq_false_iff_not] at e
    obtain ⟨a1, a2, a3⟩ := e
    have b1 : 1 ≤ w.length := by
      by_cases z : 1 ≤ w.length
      · exact z
      · exfalso
        have z : w.cps.toList = [] := List.length_eq_zero_iff.mp (by have : w.length = w.cps.toList.length := rfl; omega)
        apply a1
        obtain ⟨⟨l⟩⟩ := w
        cases z
        rfl
    have b2 : w.length ≤ 13 := by omega
    have hi := int_digs a3 b1 (by omega)
    obtain ⟨c0, r0, hc, hz⟩ := ch0 b1
    unfold goodB at h
    simp only [b1, b2, a3, decide_true, Bool.true_and, hz] at h
    simp only [↓br_true, ↓br_false, ↓op_some, ↓wp_bind, ↓wp_pure, ↓wp_fail, ↓wp_opt, ↓wp_guard, ↓wp_noX, ↓wp_v, ↓wp_vB, ↓wp_c, ↓wp_op2, ↓wp_op2L, ↓wp_t, ↓wp_tru, ↓wp_chain, ↓wp_andT, ↓wp_orT, ↓wp_notT, ↓wp_andV, ↓wp_orV, ↓wp_notV, ↓wp_if, ↓wp_nil, ↓wp_cons, ↓wp_tup, ↓wp_lst, ↓wp_D, ↓wp_cb, ↓wp_call, ↓wp_isi, ↓wp_neg, ↓wp_sl, ↓wp_noP, ↓wp_P, ↓wp_yes, ↓wp_items, ↓wp_signs, ↓wp_comp, ↓ws_seq, ↓thn_nx, ↓thn_rt, ↓thn_br, ↓thn_ct, ↓thn_exc, ↓ws_skip, ↓ws_break, ↓ws_cont, ↓ws_retN, ↓ws_set, ↓ws_own, ↓ws_ret, ↓ws_drop, ↓ws_if, ↓ws_asg, ↓ws_par, ↓ws_setC, ↓wp_newc, ↓ws_app, ↓ws_ext, ↓ws_setI, ↓ws_frz, ↓ws_for, ↓wl_nil, ↓wl_cons, ↓wf_run, ↓retS_nx, ↓retS_rt, ↓lpS_nx, ↓lpS_ct, ↓lpS_br, ↓lpS_rt, ↓turn_nx, ↓turn_ct, ↓turn_br, ↓turn_rt, ↓wp_addI, ↓wp_addS, ↓wp_subI, ↓wp_mulI, ↓wp_divI, ↓wp_modI, ↓wp_powI, ↓wp_cmpI, ↓wp_eq, ↓wp_ne, ↓wp_negI, ↓wp_seqE, ↓wp_lstE, ↓wp_ixL, ↓wp_ixT, ↓wp_ixC, ↓wp_ixS, ↓wp_lenS, ↓wp_lenL, ↓wp_lenT, ↓wp_lenC, ↓wp_absI, ↓wp_intI, ↓wp_intB, ↓wp_intS, ↓wp_strI, ↓wp_boolI, ↓wp_boolB, ↓wp_all, ↓wp_any, ↓wp_sum, ↓wp_max2, ↓wp_min2, ↓wp_list, ↓wp_tuple, ↓wp_sorted, ↓wp_slS, ↓wp_slT, ↓wp_slC, ↓wp_slL, ↓wp_range1, ↓wp_range2, ↓wp_enum, ↓wp_zip, ↓wp_cat, ↓wp_rep, ↓wp_inSg, ↓wp_notInSg, ↓wp_inL, ↓wp_inT, ↓wp_notIn, ↓wp_isN, ↓wp_notN, tt1, tt2, tt3, tt4, tt5, tt6, tu1, tu2, tu3, tu4, tu5, tu6, tu7, tu8, tu9, tu10, tu11, tu12, tu13, tu14, tu15, tu16, tu17, tu18, tu19, tu20, tu21, tu22, tu23, tu24, asB_bl, truD_non, truD_bl, truD_int, truD_str, truD_lst, truD_tup, asI_int, asS_str, items_lst, items_tup, valS_v, valB_v, valB_own, seqD_lst, seqD_tup, seqD_cell0, lstD_lst, lstD_cell0, cellL_0, own_lst, nonB_non, nonB_bl, nonB_int, nonB_str, nonB_lst, nonB_tup, nonB_cell, nonB_obj, bools_nil, bools_cons, ints_nil, ints_cons, eqD_ii, eqD_bb, eqD_ss, eqD_nn, eqD_ni, eqD_in, eqD_nb, eqD_bn, eqD_ns, eqD_sn, eqD_is, eqD_si, eqD_bs, eqD_sb, tag_non, tag_bl, tag_int, tag_str, tag_lst, tag_tup, tag_obj, bindP_nm, bindP_tp, bindPs_nil, bindPs_cons, EG.runs, EG.run, ev, evs, evo, evr, mkE, mkL, failL, bopF, copF, bltF, lbltF, env0, wipeE, isiAny, isi1, frzS, Cell.toD, atI_nn, setAt_nn, wp_inSg, List.map_cons, List.map_nil, List.length_cons, List.length_nil, List.append_nil, List.nil_append, List.cons_append, List.replicate, List.getElem?_cons_zero, List.getElem?_cons_succ, List.set_cons_zero, List.set_cons_succ, Int.reduceNeg, Int.reducePow, nA10, nA2, le_big, Nat.reducePow, Nat.zero_add, Option.map_some, Option.bind_some, Int.reduceLE, Int.reduceToNat, Int.reduceLT, Nat.reduceLT, Nat.reduceAdd, Nat.reduceSub, true_and, and_true, decide_true, decide_false, List.length_append, List.length_map, Nat.reduceLeDiff, Nat.reduceEqDiff, Bool.not_true, Bool.not_false, decide_eq_true_eq, reduceCtorEq, Option.some.injEq, id_eq, List.all_cons, List.all_nil, List.any_cons, List.any_nil, Bool.and_true, Bool.true_and, Bool.and_false, Bool.false_and, Bool.or_true, Bool.or_false, kG, kConsts, he]
    refine br_cases (fun e2 => ?_) (fun e2 => ?_)
    · rw [e2] at h
      simp only [↓br_true, ↓br_false, ↓op_some, ↓wp_bind, ↓wp_pure, ↓wp_fail, ↓wp_opt, ↓wp_guard, ↓wp_noX, ↓wp_v, ↓wp_vB, ↓wp_c, ↓wp_op2, ↓wp_op2L, ↓wp_t, ↓wp_tru, ↓wp_chain, ↓wp_andT, ↓wp_orT, ↓wp_notT, ↓wp_andV, ↓wp_orV, ↓wp_notV, ↓wp_if, ↓wp_nil, ↓wp_cons, ↓wp_tup, ↓wp_lst, ↓wp_D, ↓wp_cb, ↓wp_call, ↓wp_isi, ↓wp_neg, ↓wp_sl, ↓wp_noP, ↓wp_P, ↓wp_yes, ↓wp_items, ↓wp_signs, ↓wp_comp, ↓ws_seq, ↓thn_nx, ↓thn_rt, ↓thn_br, ↓thn_ct, ↓thn_exc, ↓ws_skip, ↓ws_break, ↓ws_cont, ↓ws_retN, ↓ws_set, ↓ws_own, ↓ws_ret, ↓ws_drop, ↓ws_if, ↓ws_asg, ↓ws_par, ↓ws_setC, ↓wp_newc, ↓ws_app, ↓ws_ext, ↓ws_setI, ↓ws_frz, ↓ws_for, ↓wl_nil, ↓wl_cons, ↓wf_run, ↓retS_nx, ↓retS_rt, ↓lpS_nx, ↓lpS_ct, ↓lpS_br, ↓lpS_rt, ↓turn_nx, ↓turn_ct, ↓turn_br, ↓turn_rt, ↓wp_addI, ↓wp_addS, ↓wp_subI, ↓wp_mulI, ↓wp_divI, ↓wp_modI, ↓wp_powI, ↓wp_cmpI, ↓wp_eq, ↓wp_ne, ↓wp_negI, ↓wp_seqE, ↓wp_lstE, ↓wp_ixL, ↓wp_ixT, ↓wp_ixC, ↓wp_ixS, ↓wp_lenS, ↓wp_lenL, ↓wp_lenT, ↓wp_lenC, ↓wp_absI, ↓wp_intI, ↓wp_intB, ↓wp_intS, ↓wp_strI, ↓wp_boolI, ↓wp_boolB, ↓wp_all, ↓wp_any, ↓wp_sum, ↓wp_max2, ↓wp_min2, ↓wp_list, ↓wp_tuple, ↓wp_sorted, ↓wp_slS, ↓wp_slT, ↓wp_slC, ↓wp_slL, ↓wp_range1, ↓wp_range2, ↓wp_enum, ↓wp_zip, ↓wp_cat, ↓wp_rep, ↓wp_inSg, ↓wp_notInSg, ↓wp_inL, ↓wp_inT, ↓wp_notIn, ↓wp_isN, ↓wp_notN, tt1, tt2, tt3, tt4, tt5, tt6, tu1, tu2, tu3, tu4, tu5, tu6, tu7, tu8, tu9, tu10, tu11, tu12, tu13, tu14, tu15, tu16, tu17, tu18, tu19, tu20, tu21, tu22, tu23, tu24, asB_bl, truD_non, truD_bl, truD_int, truD_str, truD_lst, truD_tup, asI_int, asS_str, items_lst, items_tup, valS_v, valB_v, valB_own, seqD_lst, seqD_tup, seqD_cell0, lstD_lst, lstD_cell0, cellL_0, own_lst, nonB_non, nonB_bl, nonB_int, nonB_str, nonB_lst, nonB_tup, nonB_cell, nonB_obj, bools_nil, bools_cons, ints_nil, ints_cons, eqD_ii, eqD_bb, eqD_ss, eqD_nn, eqD_ni, eqD_in, eqD_nb, eqD_bn, eqD_ns, eqD_sn, eqD_is, eqD_si, eqD_bs, eqD_sb, tag_non, tag_bl, tag_int, tag_str, tag_lst, tag_tup, tag_obj, bindP_nm, bindP_tp, bindPs_nil, bindPs_cons, EG.runs, EG.run, ev, evs, evo, evr, mkE, mkL, failL, bopF, copF, bltF, lbltF, env0, wipeE, isiAny, isi1, frzS, Cell.toD, atI_nn, setAt_nn, wp_inSg, List.map_cons, List.map_nil, List.length_cons, List.length_nil, List.append_nil, List.nil_append, List.cons_append, List.replicate, List.getElem?_cons_zero, List.getElem?_cons_succ, List.set_cons_zero, List.set_cons_succ, Int.reduceNeg, Int.reducePow, nA10, nA2, le_big, Nat.reducePow, Nat.zero_add, Option.map_some, Option.bind_some, Int.reduceLE, Int.reduceToNat, Int.reduceLT, Nat.reduceLT, Nat.reduceAdd, Nat.reduceSub, true_and, and_true, decide_true, decide_false, List.length_append, List.length_map, Nat.reduceLeDiff, Nat.reduceEqDiff, Bool.not_true, Bool.not_false, decide_eq_true_eq, reduceCtorEq, Option.some.injEq, id_eq, List.all_cons, List.all_nil, List.any_cons, List.any_nil, Bool.and_true, Bool.true_and, Bool.and_false, Bool.false_and, Bool.or_true, Bool.or_false, kG, kConsts, he, hi]
      exact ⟨by omega, by simpa using h⟩
    · rw [e2] at h
      simp only [↓br_true, ↓br_false, ↓op_some, ↓wp_bind, ↓wp_pure, ↓wp_fail, ↓wp_opt, ↓wp_guard, ↓wp_noX, ↓wp_v, ↓wp_vB, ↓wp_c, ↓wp_op2, ↓wp_op2L, ↓wp_t, ↓wp_tru, ↓wp_chain, ↓wp_andT, ↓wp_orT, ↓wp_notT, ↓wp_andV, ↓wp_orV, ↓wp_notV, ↓wp_if, ↓wp_nil, ↓wp_cons, ↓wp_tup, ↓wp_lst, ↓wp_D, ↓wp_cb, ↓wp_call, ↓wp_isi, ↓wp_neg, ↓wp_sl, ↓wp_noP, ↓wp_P, ↓wp_yes, ↓wp_items, ↓wp_signs, ↓wp_comp, ↓ws_seq, ↓thn_nx, ↓thn_rt, ↓thn_br, ↓thn_ct, ↓thn_exc, ↓ws_skip, ↓ws_break, ↓ws_cont, ↓ws_retN, ↓ws_set, ↓ws_own, ↓ws_ret, ↓ws_drop, ↓ws_if, ↓ws_asg, ↓ws_par, ↓ws_setC, ↓wp_newc, ↓ws_app, ↓ws_ext, ↓ws_setI, ↓ws_frz, ↓ws_for, ↓wl_nil, ↓wl_cons, ↓wf_run, ↓retS_nx, ↓retS_rt, ↓lpS_nx, ↓lpS_ct, ↓lpS_br, ↓lpS_rt, ↓turn_nx, ↓turn_ct, ↓turn_br, ↓turn_rt, ↓wp_addI, ↓wp_addS, ↓wp_subI, ↓wp_mulI, ↓wp_divI, ↓wp_modI, ↓wp_powI, ↓wp_cmpI, ↓wp_eq, ↓wp_ne, ↓wp_negI, ↓wp_seqE, ↓wp_lstE, ↓wp_ixL, ↓wp_ixT, ↓wp_ixC, ↓wp_ixS, ↓wp_lenS, ↓wp_lenL, ↓wp_lenT, ↓wp_lenC, ↓wp_absI, ↓wp_intI, ↓wp_intB, ↓wp_intS, ↓wp_strI, ↓wp_boolI, ↓wp_boolB, ↓wp_all, ↓wp_any, ↓wp_sum, ↓wp_max2, ↓wp_min2, ↓wp_list, ↓wp_tuple, ↓wp_sorted, ↓wp_slS, ↓wp_slT, ↓wp_slC, ↓wp_slL, ↓wp_range1, ↓wp_range2, ↓wp_enum, ↓wp_zip, ↓wp_cat, ↓wp_rep, ↓wp_inSg, ↓wp_notInSg, ↓wp_inL, ↓wp_inT, ↓wp_notIn, ↓wp_isN, ↓wp_notN, tt1, tt2, tt3, tt4, tt5, tt6, tu1, tu2, tu3, tu4, tu5, tu6, tu7, tu8, tu9, tu10, tu11, tu12, tu13, tu14, tu15, tu16, tu17, tu18, tu19, tu20, tu21, tu22, tu23, tu24, asB_bl, truD_non, truD_bl, truD_int, truD_str, truD_lst, truD_tup, asI_int, asS_str, items_lst, items_tup, valS_v, valB_v, valB_own, seqD_lst, seqD_tup, seqD_cell0, lstD_lst, lstD_cell0, cellL_0, own_lst, nonB_non, nonB_bl, nonB_int, nonB_str, nonB_lst, nonB_tup, nonB_cell, nonB_obj, bools_nil, bools_cons, ints_nil, ints_cons, eqD_ii, eqD_bb, eqD_ss, eqD_nn, eqD_ni, eqD_in, eqD_nb, eqD_bn, eqD_ns, eqD_sn, eqD_is, eqD_si, eqD_bs, eqD_sb, tag_non, tag_bl, tag_int, tag_str, tag_lst, tag_tup, tag_obj, bindP_nm, bindP_tp, bindPs_nil, bindPs_cons, EG.runs, EG.run, ev, evs, evo, evr, mkE, mkL, failL, bopF, copF, bltF, lbltF, env0, wipeE, isiAny, isi1, frzS, Cell.toD, atI_nn, setAt_nn, wp_inSg, List.map_cons, List.map_nil, List.length_cons, List.length_nil, List.append_nil, List.nil_append, List.cons_append, List.replicate, List.getElem?_cons_zero, List.getElem?_cons_succ, List.set_cons_zero, List.set_cons_succ, Int.reduceNeg, Int.reducePow, nA10, nA2, le_big, Nat.reducePow, Nat.zero_add, Option.map_some, Option.bind_some, Int.reduceLE, Int.reduceToNat, Int.reduceLT, Nat.reduceLT, Nat.reduceAdd, Nat.reduceSub, true_and, and_true, decide_true, decide_false, List.length_append, List.length_map, Nat.reduceLeDiff, Nat.reduceEqDiff, Bool.not_true, Bool.not_false, decide_eq_true_eq, reduceCtorEq, Option.some.injEq, id_eq, List.all_cons, List.all_nil, List.any_cons, List.any_nil, Bool.and_true, Bool.true_and, Bool.and_false, Bool.false_and, Bool.or_true, Bool.or_false, kG, kConsts, he, cut1 hc]
      refine br_cases (fun e3 => ?_) (fun e3 => ?_)
      · rw [show decide ((⟨#[c0]⟩ : Str) = "0") = false by simpa using e3] at h
        simp only [↓br_true, ↓br_false, ↓op_some, ↓wp_bind, ↓wp_pure, ↓wp_fail, ↓wp_opt, ↓wp_guard, ↓wp_noX, ↓wp_v, ↓wp_vB, ↓wp_c, ↓wp_op2, ↓wp_op2L, ↓wp_t, ↓wp_tru, ↓wp_chain, ↓wp_andT, ↓wp_orT, ↓wp_notT, ↓wp_andV, ↓wp_orV, ↓wp_notV, ↓wp_if, ↓wp_nil, ↓wp_cons, ↓wp_tup, ↓wp_lst, ↓wp_D, ↓wp_cb, ↓wp_call, ↓wp_isi, ↓wp_neg, ↓wp_sl, ↓wp_noP, ↓wp_P, ↓wp_yes, ↓wp_items, ↓wp_signs, ↓wp_comp, ↓ws_seq, ↓thn_nx, ↓thn_rt, ↓thn_br, ↓thn_ct, ↓thn_exc, ↓ws_skip, ↓ws_break, ↓ws_cont, ↓ws_retN, ↓ws_set, ↓ws_own, ↓ws_ret, ↓ws_drop, ↓ws_if, ↓ws_asg, ↓ws_par, ↓ws_setC, ↓wp_newc, ↓ws_app, ↓ws_ext, ↓ws_setI, ↓ws_frz, ↓ws_for, ↓wl_nil, ↓wl_cons, ↓wf_run, ↓retS_nx, ↓retS_rt, ↓lpS_nx, ↓lpS_ct, ↓lpS_br, ↓lpS_rt, ↓turn_nx, ↓turn_ct, ↓turn_br, ↓turn_rt, ↓wp_addI, ↓wp_addS, ↓wp_subI, ↓wp_mulI, ↓wp_divI, ↓wp_modI, ↓wp_powI, ↓wp_cmpI, ↓wp_eq, ↓wp_ne, ↓wp_negI, ↓wp_seqE, ↓wp_lstE, ↓wp_ixL, ↓wp_ixT, ↓wp_ixC, ↓wp_ixS, ↓wp_lenS, ↓wp_lenL, ↓wp_lenT, ↓wp_lenC, ↓wp_absI, ↓wp_intI, ↓wp_intB, ↓wp_intS, ↓wp_strI, ↓wp_boolI, ↓wp_boolB, ↓wp_all, ↓wp_any, ↓wp_sum, ↓wp_max2, ↓wp_min2, ↓wp_list, ↓wp_tuple, ↓wp_sorted, ↓wp_slS, ↓wp_slT, ↓wp_slC, ↓wp_slL, ↓wp_range1, ↓wp_range2, ↓wp_enum, ↓wp_zip, ↓wp_cat, ↓wp_rep, ↓wp_inSg, ↓wp_notInSg, ↓wp_inL, ↓wp_inT, ↓wp_notIn, ↓wp_isN, ↓wp_notN, tt1, tt2, tt3, tt4, tt5, tt6, tu1, tu2, tu3, tu4, tu5, tu6, tu7, tu8, tu9, tu10, tu11, tu12, tu13, tu14, tu15, tu16, tu17, tu18, tu19, tu20, tu21, tu22, tu23, tu24, asB_bl, truD_non, truD_bl, truD_int, truD_str, truD_lst, truD_tup, asI_int, asS_str, items_lst, items_tup, valS_v, valB_v, valB_own, seqD_lst, seqD_tup, seqD_cell0, lstD_lst, lstD_cell0, cellL_0, own_lst, nonB_non, nonB_bl, nonB_int, nonB_str, nonB_lst, nonB_tup, nonB_cell, nonB_obj, bools_nil, bools_cons, ints_nil, ints_cons, eqD_ii, eqD_bb, eqD_ss, eqD_nn, eqD_ni, eqD_in, eqD_nb, eqD_bn, eqD_ns, eqD_sn, eqD_is, eqD_si, eqD_bs, eqD_sb, tag_non, tag_bl, tag_int, tag_str, tag_lst, tag_tup, tag_obj, bindP_nm, bindP_tp, bindPs_nil, bindPs_cons, EG.runs, EG.run, ev, evs, evo, evr, mkE, mkL, failL, bopF, copF, bltF, lbltF, env0, wipeE, isiAny, isi1, frzS, Cell.toD, atI_nn, setAt_nn, wp_inSg, List.map_cons, List.map_nil, List.length_cons, List.length_nil, List.append_nil, List.nil_append, List.cons_append, List.replicate, List.getElem?_cons_zero, List.getElem?_cons_succ, List.set_cons_zero, List.set_cons_succ, Int.reduceNeg, Int.reducePow, nA10, nA2, le_big, Nat.reducePow, Nat.zero_add, Option.map_some, Option.bind_some, Int.reduceLE, Int.reduceToNat, Int.reduceLT, Nat.reduceLT, Nat.reduceAdd, Nat.reduceSub, true_and, and_true, decide_true, decide_false, List.length_append, List.length_map, Nat.reduceLeDiff, Nat.reduceEqDiff, Bool.not_true, Bool.not_false, decide_eq_true_eq, reduceCtorEq, Option.some.injEq, id_eq, List.all_cons, List.all_nil, List.any_cons, List.any_nil, Bool.and_true, Bool.true_and, Bool.and_false, Bool.false_and, Bool.or_true, Bool.or_false, kG, kConsts, he, hi]
        exact ⟨by omega, by simpa using h⟩
      · rw [show decide ((⟨#[c0]⟩ : Str) = "0") = true by simpa using e3] at h
        simpa using h
  · have : goodB w = false := by
      unfold goodB
      unfold g1 at e
      cases a3 : digs w with
      | false => simp
      | true =>
        rw [a3] at e
        simp only [Bool.and_true, Bool.and_eq_false_iff, Bool.not_eq_false', decide_eq_true_eq, decide_eq_false_iff_not] at e
        rcases e with rfl | e
        · decide
        · have : ¬ w.length ≤ 13 := by omega
          simp [this]
    rw [this] at h
    exact h
def Inv (ns : List Int) : List D → EG.Env → Mu → Prop := fun _ env μ => (∃ s2 s3 s4 s5 s6 s7 s8, env = [.v (.scr ns), .v (.cell 0), s2, s3, s4, s5, s6, s7, s8]) ∧ ∃ b, BagOk b ∧ μ = [b]
theorem law_wf (ns : List Int) : Wf F_law [.scr ns] [] (fun d _ => d = .bl true) (fun _ _ _ => False) := by
  unfold F_law C_law G_law
  simp only [↓br_true, ↓br_false, ↓op_some, ↓wp_bind, ↓wp_pure, ↓wp_fail, ↓wp_opt, ↓wp_guard, ↓wp_noX, ↓wp_v, ↓wp_vB, ↓wp_c, ↓wp_op2, ↓wp_op2L, ↓wp_t, ↓wp_tru, ↓wp_chain, ↓wp_andT, ↓wp_orT, ↓wp_notT, ↓wp_andV, ↓wp_orV, ↓wp_notV, ↓wp_if, ↓wp_nil, ↓wp_cons, ↓wp_tup, ↓wp_lst, ↓wp_D, ↓wp_cb, ↓wp_call, ↓wp_isi, ↓wp_neg, ↓wp_sl, ↓wp_noP, ↓wp_P, ↓wp_yes, ↓wp_items, ↓wp_signs, ↓wp_comp, ↓ws_seq, ↓thn_nx, ↓thn_rt, ↓thn_br, ↓thn_ct, ↓thn_exc, ↓ws_skip, ↓ws_break, ↓ws_cont, ↓ws_retN, ↓ws_set, ↓ws_own, ↓ws_ret, ↓ws_drop, ↓ws_if, ↓ws_asg, ↓ws_par, ↓ws_setC, ↓wp_newc, ↓ws_app, ↓ws_ext, ↓ws_setI, ↓ws_frz, ↓ws_for, ↓wl_nil, ↓wl_cons, ↓wf_run, ↓retS_nx, ↓retS_rt, ↓lpS_nx, ↓lpS_ct, ↓lpS_br, ↓lpS_rt, ↓turn_nx, ↓turn_ct, ↓turn_br, ↓turn_rt, ↓wp_addI, ↓wp_addS, ↓wp_subI, ↓wp_mulI, ↓wp_divI, ↓wp_modI, ↓wp_powI, ↓wp_cmpI, ↓wp_eq, ↓wp_ne, ↓wp_negI, ↓wp_seqE, ↓wp_lstE, ↓wp_ixL, ↓wp_ixT, ↓wp_ixC, ↓wp_ixS, ↓wp_lenS, ↓wp_lenL, ↓wp_lenT, ↓wp_lenC, ↓wp_absI, ↓wp_intI, ↓wp_intB, ↓wp_intS, ↓wp_strI, ↓wp_boolI, ↓wp_boolB, ↓wp_all, ↓wp_any, ↓wp_sum, ↓wp_max2, ↓wp_min2, ↓wp_list, ↓wp_tuple, ↓wp_sorted, ↓wp_slS, ↓wp_slT, ↓wp_slC, ↓wp_slL, ↓wp_range1, ↓wp_range2, ↓wp_enum, ↓wp_zip, ↓wp_cat, ↓wp_rep, ↓wp_inSg, ↓wp_notInSg, ↓wp_inL, ↓wp_inT, ↓wp_notIn, ↓wp_isN, ↓wp_notN, tt1, tt2, tt3, tt4, tt5, tt6, tu1, tu2, tu3, tu4, tu5, tu6, tu7, tu8, tu9, tu10, tu11, tu12, tu13, tu14, tu15, tu16, tu17, tu18, tu19, tu20, tu21, tu22, tu23, tu24, asB_bl, truD_non, truD_bl, truD_int, truD_str, truD_lst, truD_tup, asI_int, asS_str, items_lst, items_tup, valS_v, valB_v, valB_own, seqD_lst, seqD_tup, seqD_cell0, lstD_lst, lstD_cell0, cellL_0, own_lst, nonB_non, nonB_bl, nonB_int, nonB_str, nonB_lst, nonB_tup, nonB_cell, nonB_obj, bools_nil, bools_cons, ints_nil, ints_cons, eqD_ii, eqD_bb, eqD_ss, eqD_nn, eqD_ni, eqD_in, eqD_nb, eqD_bn, eqD_ns, eqD_sn, eqD_is, eqD_si, eqD_bs, eqD_sb, tag_non, tag_bl, tag_int, tag_str, tag_lst, tag_tup, tag_obj, bindP_nm, bindP_tp, bindPs_nil, bindPs_cons, EG.runs, EG.run, ev, evs, evo, evr, mkE, mkL, failL, bopF, copF, bltF, lbltF, env0, wipeE, isiAny, isi1, frzS, Cell.toD, atI_nn, setAt_nn, wp_inSg, List.map_cons, List.map_nil, List.length_cons, List.length_nil, List.append_nil, List.nil_append, List.cons_append, List.replicate, List.getElem?_cons_zero, List.getElem?_cons_succ, List.set_cons_zero, List.set_cons_succ, Int.reduceNeg, Int.reducePow, nA10, nA2, le_big, Nat.reducePow, Nat.zero_add, Option.map_some, Option.bind_some, Int.reduceLE, Int.reduceToNat, Int.reduceLT, Nat.reduceLT, Nat.reduceAdd, Nat.reduceSub, true_and, and_true, decide_true, decide_false, List.length_append, List.length_map, Nat.reduceLeDiff, Nat.reduceEqDiff, Bool.not_true, Bool.not_false, decide_eq_true_eq, reduceCtorEq, Option.some.injEq, id_eq, List.all_cons, List.all_nil, List.any_cons, List.any_nil, Bool.and_true, Bool.true_and, Bool.and_false, Bool.false_and, Bool.or_true, Bool.or_false, kG, kConsts]
  refine bag_spec fun b hb => ?_
  simp only [↓br_true, ↓br_false, ↓op_some, ↓wp_bind, ↓wp_pure, ↓wp_fail, ↓wp_opt, ↓wp_guard, ↓wp_noX, ↓wp_v, ↓wp_vB, ↓wp_c, ↓wp_op2, ↓wp_op2L, ↓wp_t, ↓wp_tru, ↓wp_chain, ↓wp_andT, ↓wp_orT, ↓wp_notT, ↓wp_andV, ↓wp_orV, ↓wp_notV, ↓wp_if, ↓wp_nil, ↓wp_cons, ↓wp_tup, ↓wp_lst, ↓wp_D, ↓wp_cb, ↓wp_call, ↓wp_isi, ↓wp_neg, ↓wp_sl, ↓wp_noP, ↓wp_P, ↓wp_yes, ↓wp_items, ↓wp_signs, ↓wp_comp, ↓ws_seq, ↓thn_nx, ↓thn_rt, ↓thn_br, ↓thn_ct, ↓thn_exc, ↓ws_skip, ↓ws_break, ↓ws_cont, ↓ws_retN, ↓ws_set, ↓ws_own, ↓ws_ret, ↓ws_drop, ↓ws_if, ↓ws_asg, ↓ws_par, ↓ws_setC, ↓wp_newc, ↓ws_app, ↓ws_ext, ↓ws_setI, ↓ws_frz, ↓ws_for, ↓wl_nil, ↓wl_cons, ↓wf_run, ↓retS_nx, ↓retS_rt, ↓lpS_nx, ↓lpS_ct, ↓lpS_br, ↓lpS_rt, ↓turn_nx, ↓turn_ct, ↓turn_br, ↓turn_rt, ↓wp_addI, ↓wp_addS, ↓wp_subI, ↓wp_mulI, ↓wp_divI, ↓wp_modI, ↓wp_powI, ↓wp_cmpI, ↓wp_eq, ↓wp_ne, ↓wp_negI, ↓wp_seqE, ↓wp_lstE, ↓wp_ixL, ↓wp_ixT, ↓wp_ixC, ↓wp_ixS, ↓wp_lenS, ↓wp_lenL, ↓wp_lenT, ↓wp_lenC, ↓wp_absI, ↓wp_intI, ↓wp_intB, ↓wp_intS, ↓wp_strI, ↓wp_boolI, ↓wp_boolB, ↓wp_all, ↓wp_any, ↓wp_sum, ↓wp_max2, ↓wp_min2, ↓wp_list, ↓wp_tuple, ↓wp_sorted, ↓wp_slS, ↓wp_slT, ↓wp_slC, ↓wp_slL, ↓wp_range1, ↓wp_range2, ↓wp_enum, ↓wp_zip, ↓wp_cat, ↓wp_rep, ↓wp_inSg, ↓wp_notInSg, ↓wp_inL, ↓wp_inT, ↓wp_notIn, ↓wp_isN, ↓wp_notN, tt1, tt2, tt3, tt4, tt5, tt6, tu1, tu2, tu3, tu4, tu5, tu6, tu7, tu8, tu9, tu10, tu11, tu12, tu13, tu14, tu15, tu16, tu17, tu18, tu19, tu20, tu21, tu22, tu23, tu24, asB_bl, truD_non, truD_bl, truD_int, truD_str, truD_lst, truD_tup, asI_int, asS_str, items_lst, items_tup, valS_v, valB_v, valB_own, seqD_lst, seqD_tup, seqD_cell0, lstD_lst, lstD_cell0, cellL_0, own_lst, nonB_non, nonB_bl, nonB_int, nonB_str, nonB_lst, nonB_tup, nonB_cell, nonB_obj, bools_nil, bools_cons, ints_nil, ints_cons, eqD_ii, eqD_bb, eqD_ss, eqD_nn, eqD_ni, eqD_in, eqD_nb, eqD_bn, eqD_ns, eqD_sn, eqD_is, eqD_si, eqD_bs, eqD_sb, tag_non, tag_bl, tag_int, tag_str, tag_lst, tag_tup, tag_obj, bindP_nm, bindP_tp, bindPs_nil, bindPs_cons, EG.runs, EG.run, ev, evs, evo, evr, mkE, mkL, failL, bopF, copF, bltF, lbltF, env0, wipeE, isiAny, isi1, frzS, Cell.toD, atI_nn, setAt_nn, wp_inSg, List.map_cons, List.map_nil, List.length_cons, List.length_nil, List.append_nil, List.nil_append, List.cons_append, List.replicate, List.getElem?_cons_zero, List.getElem?_cons_succ, List.set_cons_zero, List.set_cons_succ, Int.reduceNeg, Int.reducePow, nA10, nA2, le_big, Nat.reducePow, Nat.zero_add, Option.map_some, Option.bind_some, Int.reduceLE, Int.reduceToNat, Int.reduceLT, Nat.reduceLT, Nat.reduceAdd, Nat.reduceSub, true_and, and_true, decide_true, decide_false, List.length_append, List.length_map, Nat.reduceLeDiff, Nat.reduceEqDiff, Bool.not_true, Bool.not_false, decide_eq_true_eq, reduceCtorEq, Option.some.injEq, id_eq, List.all_cons, List.all_nil, List.any_cons, List.any_nil, Bool.and_true, Bool.true_and, Bool.and_false, Bool.false_and, Bool.or_true, Bool.or_false, kG, kConsts]
  refine wl_inv (Inv ns) ?_ ?_ _ _ _ ⟨⟨_, _, _, _, _, _, _, rfl⟩, b, hb, rfl⟩
  · rintro d r env μ ⟨⟨s2, s3, s4, s5, s6, s7, s8, rfl⟩, b, hb, rfl⟩
    refine ⟨_, bindP_nm, ?_⟩
    simp only [↓br_true, ↓br_false, ↓op_some, ↓wp_bind, ↓wp_pure, ↓wp_fail, ↓wp_opt, ↓wp_guard, ↓wp_noX, ↓wp_v, ↓wp_vB, ↓wp_c, ↓wp_op2, ↓wp_op2L, ↓wp_t, ↓wp_tru, ↓wp_chain, ↓wp_andT, ↓wp_orT, ↓wp_notT, ↓wp_andV, ↓wp_orV, ↓wp_notV, ↓wp_if, ↓wp_nil, ↓wp_cons, ↓wp_tup, ↓wp_lst, ↓wp_D, ↓wp_cb, ↓wp_call, ↓wp_isi, ↓wp_neg, ↓wp_sl, ↓wp_noP, ↓wp_P, ↓wp_yes, ↓wp_items, ↓wp_signs, ↓wp_comp, ↓ws_seq, ↓thn_nx, ↓thn_rt, ↓thn_br, ↓thn_ct, ↓thn_exc, ↓ws_skip, ↓ws_break, ↓ws_cont, ↓ws_retN, ↓ws_set, ↓ws_own, ↓ws_ret, ↓ws_drop, ↓ws_if, ↓ws_asg, ↓ws_par, ↓ws_setC, ↓wp_newc, ↓ws_app, ↓ws_ext, ↓ws_setI, ↓ws_frz, ↓ws_for, ↓wl_nil, ↓wl_cons, ↓wf_run, ↓retS_nx, ↓retS_rt, ↓lpS_nx, ↓lpS_ct, ↓lpS_br, ↓lpS_rt, ↓turn_nx, ↓turn_ct, ↓turn_br, ↓turn_rt, ↓wp_addI, ↓wp_addS, ↓wp_subI, ↓wp_mulI, ↓wp_divI, ↓wp_modI, ↓wp_powI, ↓wp_cmpI, ↓wp_eq, ↓wp_ne, ↓wp_negI, ↓wp_seqE, ↓wp_lstE, ↓wp_ixL, ↓wp_ixT, ↓wp_ixC, ↓wp_ixS, ↓wp_lenS, ↓wp_lenL, ↓wp_lenT, ↓wp_lenC, ↓wp_absI, ↓wp_intI, ↓wp_intB, ↓wp_intS, ↓wp_strI, ↓wp_boolI, ↓wp_boolB, ↓wp_all, ↓wp_any, ↓wp_sum, ↓wp_max2, ↓wp_min2, ↓wp_list, ↓wp_tuple, ↓wp_sorted, ↓wp_slS, ↓wp_slT, ↓wp_slC, ↓wp_slL, ↓wp_range1, ↓wp_range2, ↓wp_enum, ↓wp_zip, ↓wp_cat, ↓wp_rep, ↓wp_inSg, ↓wp_notInSg, ↓wp_inL, ↓wp_inT, ↓wp_notIn, ↓wp_isN, ↓wp_notN, tt1, tt2, tt3, tt4, tt5, tt6, tu1, tu2, tu3, tu4, tu5, tu6, tu7, tu8, tu9, tu10, tu11, tu12, tu13, tu14, tu15, tu16, tu17, tu18, tu19, tu20, tu21, tu22, tu23, tu24, asB_bl, truD_non, truD_bl, truD_int, truD_str, truD_lst, truD_tup, asI_int, asS_str, items_lst, items_tup, valS_v, valB_v, valB_own, seqD_lst, seqD_tup, seqD_cell0, lstD_lst, lstD_cell0, cellL_0, own_lst, nonB_non, nonB_bl, nonB_int, nonB_str, nonB_lst, nonB_tup, nonB_cell, nonB_obj, bools_nil, bools_cons, ints_nil, ints_cons, eqD_ii, eqD_bb, eqD_ss, eqD_nn, eqD_ni, eqD_in, eqD_nb, eqD_bn, eqD_ns, eqD_sn, eqD_is, eqD_si, eqD_bs, eqD_sb, tag_non, tag_bl, tag_int, tag_str, tag_lst, tag_tup, tag_obj, bindP_nm, bindP_tp, bindPs_nil, bindPs_cons, EG.runs, EG.run, ev, evs, evo, evr, mkE, mkL, failL, bopF, copF, bltF, lbltF, env0, wipeE, isiAny, isi1, frzS, Cell.toD, atI_nn, setAt_nn, wp_inSg, List.map_cons, List.map_nil, List.length_cons, List.length_nil, List.append_nil, List.nil_append, List.cons_append, List.replicate, List.getElem?_cons_zero, List.getElem?_cons_succ, List.set_cons_zero, List.set_cons_succ, Int.reduceNeg, Int.reducePow, nA10, nA2, le_big, Nat.reducePow, Nat.zero_add, Option.map_some, Option.bind_some, Int.reduceLE, Int.reduceToNat, Int.reduceLT, Nat.reduceLT, Nat.reduceAdd, Nat.reduceSub, true_and, and_true, decide_true, decide_false, List.length_append, List.length_map, Nat.reduceLeDiff, Nat.reduceEqDiff, Bool.not_true, Bool.not_false, decide_eq_true_eq, reduceCtorEq, Option.some.injEq, id_eq, List.all_cons, List.all_nil, List.any_cons, List.any_nil, Bool.and_true, Bool.true_and, Bool.and_false, Bool.false_and, Bool.or_true, Bool.or_false, kG, kConsts]
    refine vast_spec hb fun v0 b hv1 hv2 hb => ?_
    simp only [↓br_true, ↓br_false, ↓op_some, ↓wp_bind, ↓wp_pure, ↓wp_fail, ↓wp_opt, ↓wp_guard, ↓wp_noX, ↓wp_v, ↓wp_vB, ↓wp_c, ↓wp_op2, ↓wp_op2L, ↓wp_t, ↓wp_tru, ↓wp_chain, ↓wp_andT, ↓wp_orT, ↓wp_notT, ↓wp_andV, ↓wp_orV, ↓wp_notV, ↓wp_if, ↓wp_nil, ↓wp_cons, ↓wp_tup, ↓wp_lst, ↓wp_D, ↓wp_cb, ↓wp_call, ↓wp_isi, ↓wp_neg, ↓wp_sl, ↓wp_noP, ↓wp_P, ↓wp_yes, ↓wp_items, ↓wp_signs, ↓wp_comp, ↓ws_seq, ↓thn_nx, ↓thn_rt, ↓thn_br, ↓thn_ct, ↓thn_exc, ↓ws_skip, ↓ws_break, ↓ws_cont, ↓ws_retN, ↓ws_set, ↓ws_own, ↓ws_ret, ↓ws_drop, ↓ws_if, ↓ws_asg, ↓ws_par, ↓ws_setC, ↓wp_newc, ↓ws_app, ↓ws_ext, ↓ws_setI, ↓ws_frz, ↓ws_for, ↓wl_nil, ↓wl_cons, ↓wf_run, ↓retS_nx, ↓retS_rt, ↓lpS_nx, ↓lpS_ct, ↓lpS_br, ↓lpS_rt, ↓turn_nx, ↓turn_ct, ↓turn_br, ↓turn_rt, ↓wp_addI, ↓wp_addS, ↓wp_subI, ↓wp_mulI, ↓wp_divI, ↓wp_modI, ↓wp_powI, ↓wp_cmpI, ↓wp_eq, ↓wp_ne, ↓wp_negI, ↓wp_seqE, ↓wp_lstE, ↓wp_ixL, ↓wp_ixT, ↓wp_ixC, ↓wp_ixS, ↓wp_lenS, ↓wp_lenL, ↓wp_lenT, ↓wp_lenC, ↓wp_absI, ↓wp_intI, ↓wp_intB, ↓wp_intS, ↓wp_strI, ↓wp_boolI, ↓wp_boolB, ↓wp_all, ↓wp_any, ↓wp_sum, ↓wp_max2, ↓wp_min2, ↓wp_list, ↓wp_tuple, ↓wp_sorted, ↓wp_slS, ↓wp_slT, ↓wp_slC, ↓wp_slL, ↓wp_range1, ↓wp_range2, ↓wp_enum, ↓wp_zip, ↓wp_cat, ↓wp_rep, ↓wp_inSg, ↓wp_notInSg, ↓wp_inL, ↓wp_inT, ↓wp_notIn, ↓wp_isN, ↓wp_notN, tt1, tt2, tt3, tt4, tt5, tt6, tu1, tu2, tu3, tu4, tu5, tu6, tu7, tu8, tu9, tu10, tu11, tu12, tu13, tu14, tu15, tu16, tu17, tu18, tu19, tu20, tu21, tu22, tu23, tu24, asB_bl, truD_non, truD_bl, truD_int, truD_str, truD_lst, truD_tup, asI_int, asS_str, items_lst, items_tup, valS_v, valB_v, valB_own, seqD_lst, seqD_tup, seqD_cell0, lstD_lst, lstD_cell0, cellL_0, own_lst, nonB_non, nonB_bl, nonB_int, nonB_str, nonB_lst, nonB_tup, nonB_cell, nonB_obj, bools_nil, bools_cons, ints_nil, ints_cons, eqD_ii, eqD_bb, eqD_ss, eqD_nn, eqD_ni, eqD_in, eqD_nb, eqD_bn, eqD_ns, eqD_sn, eqD_is, eqD_si, eqD_bs, eqD_sb, tag_non, tag_bl, tag_int, tag_str, tag_lst, tag_tup, tag_obj, bindP_nm, bindP_tp, bindPs_nil, bindPs_cons, EG.runs, EG.run, ev, evs, evo, evr, mkE, mkL, failL, bopF, copF, bltF, lbltF, env0, wipeE, isiAny, isi1, frzS, Cell.toD, atI_nn, setAt_nn, wp_inSg, List.map_cons, List.map_nil, List.length_cons, List.length_nil, List.append_nil, List.nil_append, List.cons_append, List.replicate, List.getElem?_cons_zero, List.getElem?_cons_succ, List.set_cons_zero, List.set_cons_succ, Int.reduceNeg, Int.reducePow, nA10, nA2, le_big, Nat.reducePow, Nat.zero_add, Option.map_some, Option.bind_some, Int.reduceLE, Int.reduceToNat, Int.reduceLT, Nat.reduceLT, Nat.reduceAdd, Nat.reduceSub, true_and, and_true, decide_true, decide_false, List.length_append, List.length_map, Nat.reduceLeDiff, Nat.reduceEqDiff, Bool.not_true, Bool.not_false, decide_eq_true_eq, reduceCtorEq, Option.some.injEq, id_eq, List.all_cons, List.all_nil, List.any_cons, List.any_nil, Bool.and_true, Bool.true_and, Bool.and_false, Bool.false_and, Bool.or_true, Bool.or_false, kG, kConsts]
    refine pull_spec (Γ := G_law_pull) hb (by decide) (by decide) fun r1 b h1 h1' hb => ?_
    simp only [↓br_true, ↓br_false, ↓op_some, ↓wp_bind, ↓wp_pure, ↓wp_fail, ↓wp_opt, ↓wp_guard, ↓wp_noX, ↓wp_v, ↓wp_vB, ↓wp_c, ↓wp_op2, ↓wp_op2L, ↓wp_t, ↓wp_tru, ↓wp_chain, ↓wp_andT, ↓wp_orT, ↓wp_notT, ↓wp_andV, ↓wp_orV, ↓wp_notV, ↓wp_if, ↓wp_nil, ↓wp_cons, ↓wp_tup, ↓wp_lst, ↓wp_D, ↓wp_cb, ↓wp_call, ↓wp_isi, ↓wp_neg, ↓wp_sl, ↓wp_noP, ↓wp_P, ↓wp_yes, ↓wp_items, ↓wp_signs, ↓wp_comp, ↓ws_seq, ↓thn_nx, ↓thn_rt, ↓thn_br, ↓thn_ct, ↓thn_exc, ↓ws_skip, ↓ws_break, ↓ws_cont, ↓ws_retN, ↓ws_set, ↓ws_own, ↓ws_ret, ↓ws_drop, ↓ws_if, ↓ws_asg, ↓ws_par, ↓ws_setC, ↓wp_newc, ↓ws_app, ↓ws_ext, ↓ws_setI, ↓ws_frz, ↓ws_for, ↓wl_nil, ↓wl_cons, ↓wf_run, ↓retS_nx, ↓retS_rt, ↓lpS_nx, ↓lpS_ct, ↓lpS_br, ↓lpS_rt, ↓turn_nx, ↓turn_ct, ↓turn_br, ↓turn_rt, ↓wp_addI, ↓wp_addS, ↓wp_subI, ↓wp_mulI, ↓wp_divI, ↓wp_modI, ↓wp_powI, ↓wp_cmpI, ↓wp_eq, ↓wp_ne, ↓wp_negI, ↓wp_seqE, ↓wp_lstE, ↓wp_ixL, ↓wp_ixT, ↓wp_ixC, ↓wp_ixS, ↓wp_lenS, ↓wp_lenL, ↓wp_lenT, ↓wp_lenC, ↓wp_absI, ↓wp_intI, ↓wp_intB, ↓wp_intS, ↓wp_strI, ↓wp_boolI, ↓wp_boolB, ↓wp_all, ↓wp_any, ↓wp_sum, ↓wp_max2, ↓wp_min2, ↓wp_list, ↓wp_tuple, ↓wp_sorted, ↓wp_slS, ↓wp_slT, ↓wp_slC, ↓wp_slL, ↓wp_range1, ↓wp_range2, ↓wp_enum, ↓wp_zip, ↓wp_cat, ↓wp_rep, ↓wp_inSg, ↓wp_notInSg, ↓wp_inL, ↓wp_inT, ↓wp_notIn, ↓wp_isN, ↓wp_notN, tt1, tt2, tt3, tt4, tt5, tt6, tu1, tu2, tu3, tu4, tu5, tu6, tu7, tu8, tu9, tu10, tu11, tu12, tu13, tu14, tu15, tu16, tu17, tu18, tu19, tu20, tu21, tu22, tu23, tu24, asB_bl, truD_non, truD_bl, truD_int, truD_str, truD_lst, truD_tup, asI_int, asS_str, items_lst, items_tup, valS_v, valB_v, valB_own, seqD_lst, seqD_tup, seqD_cell0, lstD_lst, lstD_cell0, cellL_0, own_lst, nonB_non, nonB_bl, nonB_int, nonB_str, nonB_lst, nonB_tup, nonB_cell, nonB_obj, bools_nil, bools_cons, ints_nil, ints_cons, eqD_ii, eqD_bb, eqD_ss, eqD_nn, eqD_ni, eqD_in, eqD_nb, eqD_bn, eqD_ns, eqD_sn, eqD_is, eqD_si, eqD_bs, eqD_sb, tag_non, tag_bl, tag_int, tag_str, tag_lst, tag_tup, tag_obj, bindP_nm, bindP_tp, bindPs_nil, bindPs_cons, EG.runs, EG.run, ev, evs, evo, evr, mkE, mkL, failL, bopF, copF, bltF, lbltF, env0, wipeE, isiAny, isi1, frzS, Cell.toD, atI_nn, setAt_nn, wp_inSg, List.map_cons, List.map_nil, List.length_cons, List.length_nil, List.append_nil, List.nil_append, List.cons_append, List.replicate, List.getElem?_cons_zero, List.getElem?_cons_succ, List.set_cons_zero, List.set_cons_succ, Int.reduceNeg, Int.reducePow, nA10, nA2, le_big, Nat.reducePow, Nat.zero_add, Option.map_some, Option.bind_some, Int.reduceLE, Int.reduceToNat, Int.reduceLT, Nat.reduceLT, Nat.reduceAdd, Nat.reduceSub, true_and, and_true, decide_true, decide_false, List.length_append, List.length_map, Nat.reduceLeDiff, Nat.reduceEqDiff, Bool.not_true, Bool.not_false, decide_eq_true_eq, reduceCtorEq, Option.some.injEq, id_eq, List.all_cons, List.all_nil, List.any_cons, List.any_nil, Bool.and_true, Bool.true_and, Bool.and_false, Bool.false_and, Bool.or_true, Bool.or_false, kG, kConsts]
    refine pull_spec (Γ := G_law_pull) hb (by decide) (by decide) fun r2 b h2 h2' hb => ?_
    simp only [↓br_true, ↓br_false, ↓op_some, ↓wp_bind, ↓wp_pure, ↓wp_fail, ↓wp_opt, ↓wp_guard, ↓wp_noX, ↓wp_v, ↓wp_vB, ↓wp_c, ↓wp_op2, ↓wp_op2L, ↓wp_t, ↓wp_tru, ↓wp_chain, ↓wp_andT, ↓wp_orT, ↓wp_notT, ↓wp_andV, ↓wp_orV, ↓wp_notV, ↓wp_if, ↓wp_nil, ↓wp_cons, ↓wp_tup, ↓wp_lst, ↓wp_D, ↓wp_cb, ↓wp_call, ↓wp_isi, ↓wp_neg, ↓wp_sl, ↓wp_noP, ↓wp_P, ↓wp_yes, ↓wp_items, ↓wp_signs, ↓wp_comp, ↓ws_seq, ↓thn_nx, ↓thn_rt, ↓thn_br, ↓thn_ct, ↓thn_exc, ↓ws_skip, ↓ws_break, ↓ws_cont, ↓ws_retN, ↓ws_set, ↓ws_own, ↓ws_ret, ↓ws_drop, ↓ws_if, ↓ws_asg, ↓ws_par, ↓ws_setC, ↓wp_newc, ↓ws_app, ↓ws_ext, ↓ws_setI, ↓ws_frz, ↓ws_for, ↓wl_nil, ↓wl_cons, ↓wf_run, ↓retS_nx, ↓retS_rt, ↓lpS_nx, ↓lpS_ct, ↓lpS_br, ↓lpS_rt, ↓turn_nx, ↓turn_ct, ↓turn_br, ↓turn_rt, ↓wp_addI, ↓wp_addS, ↓wp_subI, ↓wp_mulI, ↓wp_divI, ↓wp_modI, ↓wp_powI, ↓wp_cmpI, ↓wp_eq, ↓wp_ne, ↓wp_negI, ↓wp_seqE, ↓wp_lstE, ↓wp_ixL, ↓wp_ixT, ↓wp_ixC, ↓wp_ixS, ↓wp_lenS, ↓wp_lenL, ↓wp_lenT, ↓wp_lenC, ↓wp_absI, ↓wp_intI, ↓wp_intB, ↓wp_intS, ↓wp_strI, ↓wp_boolI, ↓wp_boolB, ↓wp_all, ↓wp_any, ↓wp_sum, ↓wp_max2, ↓wp_min2, ↓wp_list, ↓wp_tuple, ↓wp_sorted, ↓wp_slS, ↓wp_slT, ↓wp_slC, ↓wp_slL, ↓wp_range1, ↓wp_range2, ↓wp_enum, ↓wp_zip, ↓wp_cat, ↓wp_rep, ↓wp_inSg, ↓wp_notInSg, ↓wp_inL, ↓wp_inT, ↓wp_notIn, ↓wp_isN, ↓wp_notN, tt1, tt2, tt3, tt4, tt5, tt6, tu1, tu2, tu3, tu4, tu5, tu6, tu7, tu8, tu9, tu10, tu11, tu12, tu13, tu14, tu15, tu16, tu17, tu18, tu19, tu20, tu21, tu22, tu23, tu24, asB_bl, truD_non, truD_bl, truD_int, truD_str, truD_lst, truD_tup, asI_int, asS_str, items_lst, items_tup, valS_v, valB_v, valB_own, seqD_lst, seqD_tup, seqD_cell0, lstD_lst, lstD_cell0, cellL_0, own_lst, nonB_non, nonB_bl, nonB_int, nonB_str, nonB_lst, nonB_tup, nonB_cell, nonB_obj, bools_nil, bools_cons, ints_nil, ints_cons, eqD_ii, eqD_bb, eqD_ss, eqD_nn, eqD_ni, eqD_in, eqD_nb, eqD_bn, eqD_ns, eqD_sn, eqD_is, eqD_si, eqD_bs, eqD_sb, tag_non, tag_bl, tag_int, tag_str, tag_lst, tag_tup, tag_obj, bindP_nm, bindP_tp, bindPs_nil, bindPs_cons, EG.runs, EG.run, ev, evs, evo, evr, mkE, mkL, failL, bopF, copF, bltF, lbltF, env0, wipeE, isiAny, isi1, frzS, Cell.toD, atI_nn, setAt_nn, wp_inSg, List.map_cons, List.map_nil, List.length_cons, List.length_nil, List.append_nil, List.nil_append, List.cons_append, List.replicate, List.getElem?_cons_zero, List.getElem?_cons_succ, List.set_cons_zero, List.set_cons_succ, Int.reduceNeg, Int.reducePow, nA10, nA2, le_big, Nat.reducePow, Nat.zero_add, Option.map_some, Option.bind_some, Int.reduceLE, Int.reduceToNat, Int.reduceLT, Nat.reduceLT, Nat.reduceAdd, Nat.reduceSub, true_and, and_true, decide_true, decide_false, List.length_append, List.length_map, Nat.reduceLeDiff, Nat.reduceEqDiff, Bool.not_true, Bool.not_false, decide_eq_true_eq, reduceCtorEq, Option.some.injEq, id_eq, List.all_cons, List.all_nil, List.any_cons, List.any_nil, Bool.and_true, Bool.true_and, Bool.and_false, Bool.false_and, Bool.or_true, Bool.or_false, kG, kConsts]
    refine of_spec (F := F_law_pull) (Γ := G_law_pull) (Γ' := G_law_of) (lv := 1) rfl rfl hb (List.cons_ne_nil _ _) (by simp) fun d b hd hb => ?_
    obtain ⟨v, rfl, w1, w2⟩ : ∃ v : Int, d = .int v ∧ -(10 ^ 18) < v ∧ v < 10 ^ 18 := by
      simp only [List.mem_cons, List.not_mem_nil, or_false] at hd
      rcases hd with rfl | rfl | rfl | rfl | rfl <;> exact ⟨_, rfl, by omega, by omega⟩
    simp only [↓br_true, ↓br_false, ↓op_some, ↓wp_bind, ↓wp_pure, ↓wp_fail, ↓wp_opt, ↓wp_guard, ↓wp_noX, ↓wp_v, ↓wp_vB, ↓wp_c, ↓wp_op2, ↓wp_op2L, ↓wp_t, ↓wp_tru, ↓wp_chain, ↓wp_andT, ↓wp_orT, ↓wp_notT, ↓wp_andV, ↓wp_orV, ↓wp_notV, ↓wp_if, ↓wp_nil, ↓wp_cons, ↓wp_tup, ↓wp_lst, ↓wp_D, ↓wp_cb, ↓wp_call, ↓wp_isi, ↓wp_neg, ↓wp_sl, ↓wp_noP, ↓wp_P, ↓wp_yes, ↓wp_items, ↓wp_signs, ↓wp_comp, ↓ws_seq, ↓thn_nx, ↓thn_rt, ↓thn_br, ↓thn_ct, ↓thn_exc, ↓ws_skip, ↓ws_break, ↓ws_cont, ↓ws_retN, ↓ws_set, ↓ws_own, ↓ws_ret, ↓ws_drop, ↓ws_if, ↓ws_asg, ↓ws_par, ↓ws_setC, ↓wp_newc, ↓ws_app, ↓ws_ext, ↓ws_setI, ↓ws_frz, ↓ws_for, ↓wl_nil, ↓wl_cons, ↓wf_run, ↓retS_nx, ↓retS_rt, ↓lpS_nx, ↓lpS_ct, ↓lpS_br, ↓lpS_rt, ↓turn_nx, ↓turn_ct, ↓turn_br, ↓turn_rt, ↓wp_addI, ↓wp_addS, ↓wp_subI, ↓wp_mulI, ↓wp_divI, ↓wp_modI, ↓wp_powI, ↓wp_cmpI, ↓wp_eq, ↓wp_ne, ↓wp_negI, ↓wp_seqE, ↓wp_lstE, ↓wp_ixL, ↓wp_ixT, ↓wp_ixC, ↓wp_ixS, ↓wp_lenS, ↓wp_lenL, ↓wp_lenT, ↓wp_lenC, ↓wp_absI, ↓wp_intI, ↓wp_intB, ↓wp_intS, ↓wp_strI, ↓wp_boolI, ↓wp_boolB, ↓wp_all, ↓wp_any, ↓wp_sum, ↓wp_max2, ↓wp_min2, ↓wp_list, ↓wp_tuple, ↓wp_sorted, ↓wp_slS, ↓wp_slT, ↓wp_slC, ↓wp_slL, ↓wp_range1, ↓wp_range2, ↓wp_enum, ↓wp_zip, ↓wp_cat, ↓wp_rep, ↓wp_inSg, ↓wp_notInSg, ↓wp_inL, ↓wp_inT, ↓wp_notIn, ↓wp_isN, ↓wp_notN, tt1, tt2, tt3, tt4, tt5, tt6, tu1, tu2, tu3, tu4, tu5, tu6, tu7, tu8, tu9, tu10, tu11, tu12, tu13, tu14, tu15, tu16, tu17, tu18, tu19, tu20, tu21, tu22, tu23, tu24, asB_bl, truD_non, truD_bl, truD_int, truD_str, truD_lst, truD_tup, asI_int, asS_str, items_lst, items_tup, valS_v, valB_v, valB_own, seqD_lst, seqD_tup, seqD_cell0, lstD_lst, lstD_cell0, cellL_0, own_lst, nonB_non, nonB_bl, nonB_int, nonB_str, nonB_lst, nonB_tup, nonB_cell, nonB_obj, bools_nil, bools_cons, ints_nil, ints_cons, eqD_ii, eqD_bb, eqD_ss, eqD_nn, eqD_ni, eqD_in, eqD_nb, eqD_bn, eqD_ns, eqD_sn, eqD_is, eqD_si, eqD_bs, eqD_sb, tag_non, tag_bl, tag_int, tag_str, tag_lst, tag_tup, tag_obj, bindP_nm, bindP_tp, bindPs_nil, bindPs_cons, EG.runs, EG.run, ev, evs, evo, evr, mkE, mkL, failL, bopF, copF, bltF, lbltF, env0, wipeE, isiAny, isi1, frzS, Cell.toD, atI_nn, setAt_nn, wp_inSg, List.map_cons, List.map_nil, List.length_cons, List.length_nil, List.append_nil, List.nil_append, List.cons_append, List.replicate, List.getElem?_cons_zero, List.getElem?_cons_succ, List.set_cons_zero, List.set_cons_succ, Int.reduceNeg, Int.reducePow, nA10, nA2, le_big, Nat.reducePow, Nat.zero_add, Option.map_some, Option.bind_some, Int.reduceLE, Int.reduceToNat, Int.reduceLT, Nat.reduceLT, Nat.reduceAdd, Nat.reduceSub, true_and, and_true, decide_true, decide_false, List.length_append, List.length_map, Nat.reduceLeDiff, Nat.reduceEqDiff, Bool.not_true, Bool.not_false, decide_eq_true_eq, reduceCtorEq, Option.some.injEq, id_eq, List.all_cons, List.all_nil, List.any_cons, List.any_nil, Bool.and_true, Bool.true_and, Bool.and_false, Bool.false_and, Bool.or_true, Bool.or_false, kG, kConsts]
    refine odd_spec hb fun od b hod hb => ?_
    simp only [↓br_true, ↓br_false, ↓op_some, ↓wp_bind, ↓wp_pure, ↓wp_fail, ↓wp_opt, ↓wp_guard, ↓wp_noX, ↓wp_v, ↓wp_vB, ↓wp_c, ↓wp_op2, ↓wp_op2L, ↓wp_t, ↓wp_tru, ↓wp_chain, ↓wp_andT, ↓wp_orT, ↓wp_notT, ↓wp_andV, ↓wp_orV, ↓wp_notV, ↓wp_if, ↓wp_nil, ↓wp_cons, ↓wp_tup, ↓wp_lst, ↓wp_D, ↓wp_cb, ↓wp_call, ↓wp_isi, ↓wp_neg, ↓wp_sl, ↓wp_noP, ↓wp_P, ↓wp_yes, ↓wp_items, ↓wp_signs, ↓wp_comp, ↓ws_seq, ↓thn_nx, ↓thn_rt, ↓thn_br, ↓thn_ct, ↓thn_exc, ↓ws_skip, ↓ws_break, ↓ws_cont, ↓ws_retN, ↓ws_set, ↓ws_own, ↓ws_ret, ↓ws_drop, ↓ws_if, ↓ws_asg, ↓ws_par, ↓ws_setC, ↓wp_newc, ↓ws_app, ↓ws_ext, ↓ws_setI, ↓ws_frz, ↓ws_for, ↓wl_nil, ↓wl_cons, ↓wf_run, ↓retS_nx, ↓retS_rt, ↓lpS_nx, ↓lpS_ct, ↓lpS_br, ↓lpS_rt, ↓turn_nx, ↓turn_ct, ↓turn_br, ↓turn_rt, ↓wp_addI, ↓wp_addS, ↓wp_subI, ↓wp_mulI, ↓wp_divI, ↓wp_modI, ↓wp_powI, ↓wp_cmpI, ↓wp_eq, ↓wp_ne, ↓wp_negI, ↓wp_seqE, ↓wp_lstE, ↓wp_ixL, ↓wp_ixT, ↓wp_ixC, ↓wp_ixS, ↓wp_lenS, ↓wp_lenL, ↓wp_lenT, ↓wp_lenC, ↓wp_absI, ↓wp_intI, ↓wp_intB, ↓wp_intS, ↓wp_strI, ↓wp_boolI, ↓wp_boolB, ↓wp_all, ↓wp_any, ↓wp_sum, ↓wp_max2, ↓wp_min2, ↓wp_list, ↓wp_tuple, ↓wp_sorted, ↓wp_slS, ↓wp_slT, ↓wp_slC, ↓wp_slL, ↓wp_range1, ↓wp_range2, ↓wp_enum, ↓wp_zip, ↓wp_cat, ↓wp_rep, ↓wp_inSg, ↓wp_notInSg, ↓wp_inL, ↓wp_inT, ↓wp_notIn, ↓wp_isN, ↓wp_notN, tt1, tt2, tt3, tt4, tt5, tt6, tu1, tu2, tu3, tu4, tu5, tu6, tu7, tu8, tu9, tu10, tu11, tu12, tu13, tu14, tu15, tu16, tu17, tu18, tu19, tu20, tu21, tu22, tu23, tu24, asB_bl, truD_non, truD_bl, truD_int, truD_str, truD_lst, truD_tup, asI_int, asS_str, items_lst, items_tup, valS_v, valB_v, valB_own, seqD_lst, seqD_tup, seqD_cell0, lstD_lst, lstD_cell0, cellL_0, own_lst, nonB_non, nonB_bl, nonB_int, nonB_str, nonB_lst, nonB_tup, nonB_cell, nonB_obj, bools_nil, bools_cons, ints_nil, ints_cons, eqD_ii, eqD_bb, eqD_ss, eqD_nn, eqD_ni, eqD_in, eqD_nb, eqD_bn, eqD_ns, eqD_sn, eqD_is, eqD_si, eqD_bs, eqD_sb, tag_non, tag_bl, tag_int, tag_str, tag_lst, tag_tup, tag_obj, bindP_nm, bindP_tp, bindPs_nil, bindPs_cons, EG.runs, EG.run, ev, evs, evo, evr, mkE, mkL, failL, bopF, copF, bltF, lbltF, env0, wipeE, isiAny, isi1, frzS, Cell.toD, atI_nn, setAt_nn, wp_inSg, List.map_cons, List.map_nil, List.length_cons, List.length_nil, List.append_nil, List.nil_append, List.cons_append, List.replicate, List.getElem?_cons_zero, List.getElem?_cons_succ, List.set_cons_zero, List.set_cons_succ, Int.reduceNeg, Int.reducePow, nA10, nA2, le_big, Nat.reducePow, Nat.zero_add, Option.map_some, Option.bind_some, Int.reduceLE, Int.reduceToNat, Int.reduceLT, Nat.reduceLT, Nat.reduceAdd, Nat.reduceSub, true_and, and_true, decide_true, decide_false, List.length_append, List.length_map, Nat.reduceLeDiff, Nat.reduceEqDiff, Bool.not_true, Bool.not_false, decide_eq_true_eq, reduceCtorEq, Option.some.injEq, id_eq, List.all_cons, List.all_nil, List.any_cons, List.any_nil, Bool.and_true, Bool.true_and, Bool.and_false, Bool.false_and, Bool.or_true, Bool.or_false, kG, kConsts]
    refine x0 (v := v) rfl ?_
    simp only [↓br_true, ↓br_false, ↓op_some, ↓wp_bind, ↓wp_pure, ↓wp_fail, ↓wp_opt, ↓wp_guard, ↓wp_noX, ↓wp_v, ↓wp_vB, ↓wp_c, ↓wp_op2, ↓wp_op2L, ↓wp_t, ↓wp_tru, ↓wp_chain, ↓wp_andT, ↓wp_orT, ↓wp_notT, ↓wp_andV, ↓wp_orV, ↓wp_notV, ↓wp_if, ↓wp_nil, ↓wp_cons, ↓wp_tup, ↓wp_lst, ↓wp_D, ↓wp_cb, ↓wp_call, ↓wp_isi, ↓wp_neg, ↓wp_sl, ↓wp_noP, ↓wp_P, ↓wp_yes, ↓wp_items, ↓wp_signs, ↓wp_comp, ↓ws_seq, ↓thn_nx, ↓thn_rt, ↓thn_br, ↓thn_ct, ↓thn_exc, ↓ws_skip, ↓ws_break, ↓ws_cont, ↓ws_retN, ↓ws_set, ↓ws_own, ↓ws_ret, ↓ws_drop, ↓ws_if, ↓ws_asg, ↓ws_par, ↓ws_setC, ↓wp_newc, ↓ws_app, ↓ws_ext, ↓ws_setI, ↓ws_frz, ↓ws_for, ↓wl_nil, ↓wl_cons, ↓wf_run, ↓retS_nx, ↓retS_rt, ↓lpS_nx, ↓lpS_ct, ↓lpS_br, ↓lpS_rt, ↓turn_nx, ↓turn_ct, ↓turn_br, ↓turn_rt, ↓wp_addI, ↓wp_addS, ↓wp_subI, ↓wp_mulI, ↓wp_divI, ↓wp_modI, ↓wp_powI, ↓wp_cmpI, ↓wp_eq, ↓wp_ne, ↓wp_negI, ↓wp_seqE, ↓wp_lstE, ↓wp_ixL, ↓wp_ixT, ↓wp_ixC, ↓wp_ixS, ↓wp_lenS, ↓wp_lenL, ↓wp_lenT, ↓wp_lenC, ↓wp_absI, ↓wp_intI, ↓wp_intB, ↓wp_intS, ↓wp_strI, ↓wp_boolI, ↓wp_boolB, ↓wp_all, ↓wp_any, ↓wp_sum, ↓wp_max2, ↓wp_min2, ↓wp_list, ↓wp_tuple, ↓wp_sorted, ↓wp_slS, ↓wp_slT, ↓wp_slC, ↓wp_slL, ↓wp_range1, ↓wp_range2, ↓wp_enum, ↓wp_zip, ↓wp_cat, ↓wp_rep, ↓wp_inSg, ↓wp_notInSg, ↓wp_inL, ↓wp_inT, ↓wp_notIn, ↓wp_isN, ↓wp_notN, tt1, tt2, tt3, tt4, tt5, tt6, tu1, tu2, tu3, tu4, tu5, tu6, tu7, tu8, tu9, tu10, tu11, tu12, tu13, tu14, tu15, tu16, tu17, tu18, tu19, tu20, tu21, tu22, tu23, tu24, asB_bl, truD_non, truD_bl, truD_int, truD_str, truD_lst, truD_tup, asI_int, asS_str, items_lst, items_tup, valS_v, valB_v, valB_own, seqD_lst, seqD_tup, seqD_cell0, lstD_lst, lstD_cell0, cellL_0, own_lst, nonB_non, nonB_bl, nonB_int, nonB_str, nonB_lst, nonB_tup, nonB_cell, nonB_obj, bools_nil, bools_cons, ints_nil, ints_cons, eqD_ii, eqD_bb, eqD_ss, eqD_nn, eqD_ni, eqD_in, eqD_nb, eqD_bn, eqD_ns, eqD_sn, eqD_is, eqD_si, eqD_bs, eqD_sb, tag_non, tag_bl, tag_int, tag_str, tag_lst, tag_tup, tag_obj, bindP_nm, bindP_tp, bindPs_nil, bindPs_cons, EG.runs, EG.run, ev, evs, evo, evr, mkE, mkL, failL, bopF, copF, bltF, lbltF, env0, wipeE, isiAny, isi1, frzS, Cell.toD, atI_nn, setAt_nn, wp_inSg, List.map_cons, List.map_nil, List.length_cons, List.length_nil, List.append_nil, List.nil_append, List.cons_append, List.replicate, List.getElem?_cons_zero, List.getElem?_cons_succ, List.set_cons_zero, List.set_cons_succ, Int.reduceNeg, Int.reducePow, nA10, nA2, le_big, Nat.reducePow, Nat.zero_add, Option.map_some, Option.bind_some, Int.reduceLE, Int.reduceToNat, Int.reduceLT, Nat.reduceLT, Nat.reduceAdd, Nat.reduceSub, true_and, and_true, decide_true, decide_false, List.length_append, List.length_map, Nat.reduceLeDiff, Nat.reduceEqDiff, Bool.not_true, Bool.not_false, decide_eq_true_eq, reduceCtorEq, Option.some.injEq, id_eq, List.all_cons, List.all_nil, List.any_cons, List.any_nil, Bool.and_true, Bool.true_and, Bool.and_false, Bool.false_and, Bool.or_true, Bool.or_false, kG, kConsts]
    refine amt_int ?_
    simp only [↓br_true, ↓br_false, ↓op_some, ↓wp_bind, ↓wp_pure, ↓wp_fail, ↓wp_opt, ↓wp_guard, ↓wp_noX, ↓wp_v, ↓wp_vB, ↓wp_c, ↓wp_op2, ↓wp_op2L, ↓wp_t, ↓wp_tru, ↓wp_chain, ↓wp_andT, ↓wp_orT, ↓wp_notT, ↓wp_andV, ↓wp_orV, ↓wp_notV, ↓wp_if, ↓wp_nil, ↓wp_cons, ↓wp_tup, ↓wp_lst, ↓wp_D, ↓wp_cb, ↓wp_call, ↓wp_isi, ↓wp_neg, ↓wp_sl, ↓wp_noP, ↓wp_P, ↓wp_yes, ↓wp_items, ↓wp_signs, ↓wp_comp, ↓ws_seq, ↓thn_nx, ↓thn_rt, ↓thn_br, ↓thn_ct, ↓thn_exc, ↓ws_skip, ↓ws_break, ↓ws_cont, ↓ws_retN, ↓ws_set, ↓ws_own, ↓ws_ret, ↓ws_drop, ↓ws_if, ↓ws_asg, ↓ws_par, ↓ws_setC, ↓wp_newc, ↓ws_app, ↓ws_ext, ↓ws_setI, ↓ws_frz, ↓ws_for, ↓wl_nil, ↓wl_cons, ↓wf_run, ↓retS_nx, ↓retS_rt, ↓lpS_nx, ↓lpS_ct, ↓lpS_br, ↓lpS_rt, ↓turn_nx, ↓turn_ct, ↓turn_br, ↓turn_rt, ↓wp_addI, ↓wp_addS, ↓wp_subI, ↓wp_mulI, ↓wp_divI, ↓wp_modI, ↓wp_powI, ↓wp_cmpI, ↓wp_eq, ↓wp_ne, ↓wp_negI, ↓wp_seqE, ↓wp_lstE, ↓wp_ixL, ↓wp_ixT, ↓wp_ixC, ↓wp_ixS, ↓wp_lenS, ↓wp_lenL, ↓wp_lenT, ↓wp_lenC, ↓wp_absI, ↓wp_intI, ↓wp_intB, ↓wp_intS, ↓wp_strI, ↓wp_boolI, ↓wp_boolB, ↓wp_all, ↓wp_any, ↓wp_sum, ↓wp_max2, ↓wp_min2, ↓wp_list, ↓wp_tuple, ↓wp_sorted, ↓wp_slS, ↓wp_slT, ↓wp_slC, ↓wp_slL, ↓wp_range1, ↓wp_range2, ↓wp_enum, ↓wp_zip, ↓wp_cat, ↓wp_rep, ↓wp_inSg, ↓wp_notInSg, ↓wp_inL, ↓wp_inT, ↓wp_notIn, ↓wp_isN, ↓wp_notN, tt1, tt2, tt3, tt4, tt5, tt6, tu1, tu2, tu3, tu4, tu5, tu6, tu7, tu8, tu9, tu10, tu11, tu12, tu13, tu14, tu15, tu16, tu17, tu18, tu19, tu20, tu21, tu22, tu23, tu24, asB_bl, truD_non, truD_bl, truD_int, truD_str, truD_lst, truD_tup, asI_int, asS_str, items_lst, items_tup, valS_v, valB_v, valB_own, seqD_lst, seqD_tup, seqD_cell0, lstD_lst, lstD_cell0, cellL_0, own_lst, nonB_non, nonB_bl, nonB_int, nonB_str, nonB_lst, nonB_tup, nonB_cell, nonB_obj, bools_nil, bools_cons, ints_nil, ints_cons, eqD_ii, eqD_bb, eqD_ss, eqD_nn, eqD_ni, eqD_in, eqD_nb, eqD_bn, eqD_ns, eqD_sn, eqD_is, eqD_si, eqD_bs, eqD_sb, tag_non, tag_bl, tag_int, tag_str, tag_lst, tag_tup, tag_obj, bindP_nm, bindP_tp, bindPs_nil, bindPs_cons, EG.runs, EG.run, ev, evs, evo, evr, mkE, mkL, failL, bopF, copF, bltF, lbltF, env0, wipeE, isiAny, isi1, frzS, Cell.toD, atI_nn, setAt_nn, wp_inSg, List.map_cons, List.map_nil, List.length_cons, List.length_nil, List.append_nil, List.nil_append, List.cons_append, List.replicate, List.getElem?_cons_zero, List.getElem?_cons_succ, List.set_cons_zero, List.set_cons_succ, Int.reduceNeg, Int.reducePow, nA10, nA2, le_big, Nat.reducePow, Nat.zero_add, Option.map_some, Option.bind_some, Int.reduceLE, Int.reduceToNat, Int.reduceLT, Nat.reduceLT, Nat.reduceAdd, Nat.reduceSub, true_and, and_true, decide_true, decide_false, List.length_append, List.length_map, Nat.reduceLeDiff, Nat.reduceEqDiff, Bool.not_true, Bool.not_false, decide_eq_true_eq, reduceCtorEq, Option.some.injEq, id_eq, List.all_cons, List.all_nil, List.any_cons, List.any_nil, Bool.and_true, Bool.true_and, Bool.and_false, Bool.false_and, Bool.or_true, Bool.or_false, kG, kConsts]
    refine num_int ?_
    simp only [↓br_true, ↓br_false, ↓op_some, ↓wp_bind, ↓wp_pure, ↓wp_fail, ↓wp_opt, ↓wp_guard, ↓wp_noX, ↓wp_v, ↓wp_vB, ↓wp_c, ↓wp_op2, ↓wp_op2L, ↓wp_t, ↓wp_tru, ↓wp_chain, ↓wp_andT, ↓wp_orT, ↓wp_notT, ↓wp_andV, ↓wp_orV, ↓wp_notV, ↓wp_if, ↓wp_nil, ↓wp_cons, ↓wp_tup, ↓wp_lst, ↓wp_D, ↓wp_cb, ↓wp_call, ↓wp_isi, ↓wp_neg, ↓wp_sl, ↓wp_noP, ↓wp_P, ↓wp_yes, ↓wp_items, ↓wp_signs, ↓wp_comp, ↓ws_seq, ↓thn_nx, ↓thn_rt, ↓thn_br, ↓thn_ct, ↓thn_exc, ↓ws_skip, ↓ws_break, ↓ws_cont, ↓ws_retN, ↓ws_set, ↓ws_own, ↓ws_ret, ↓ws_drop, ↓ws_if, ↓ws_asg, ↓ws_par, ↓ws_setC, ↓wp_newc, ↓ws_app, ↓ws_ext, ↓ws_setI, ↓ws_frz, ↓ws_for, ↓wl_nil, ↓wl_cons, ↓wf_run, ↓retS_nx, ↓retS_rt, ↓lpS_nx, ↓lpS_ct, ↓lpS_br, ↓lpS_rt, ↓turn_nx, ↓turn_ct, ↓turn_br, ↓turn_rt, ↓wp_addI, ↓wp_addS, ↓wp_subI, ↓wp_mulI, ↓wp_divI, ↓wp_modI, ↓wp_powI, ↓wp_cmpI, ↓wp_eq, ↓wp_ne, ↓wp_negI, ↓wp_seqE, ↓wp_lstE, ↓wp_ixL, ↓wp_ixT, ↓wp_ixC, ↓wp_ixS, ↓wp_lenS, ↓wp_lenL, ↓wp_lenT, ↓wp_lenC, ↓wp_absI, ↓wp_intI, ↓wp_intB, ↓wp_intS, ↓wp_strI, ↓wp_boolI, ↓wp_boolB, ↓wp_all, ↓wp_any, ↓wp_sum, ↓wp_max2, ↓wp_min2, ↓wp_list, ↓wp_tuple, ↓wp_sorted, ↓wp_slS, ↓wp_slT, ↓wp_slC, ↓wp_slL, ↓wp_range1, ↓wp_range2, ↓wp_enum, ↓wp_zip, ↓wp_cat, ↓wp_rep, ↓wp_inSg, ↓wp_notInSg, ↓wp_inL, ↓wp_inT, ↓wp_notIn, ↓wp_isN, ↓wp_notN, tt1, tt2, tt3, tt4, tt5, tt6, tu1, tu2, tu3, tu4, tu5, tu6, tu7, tu8, tu9, tu10, tu11, tu12, tu13, tu14, tu15, tu16, tu17, tu18, tu19, tu20, tu21, tu22, tu23, tu24, asB_bl, truD_non, truD_bl, truD_int, truD_str, truD_lst, truD_tup, asI_int, asS_str, items_lst, items_tup, valS_v, valB_v, valB_own, seqD_lst, seqD_tup, seqD_cell0, lstD_lst, lstD_cell0, cellL_0, own_lst, nonB_non, nonB_bl, nonB_int, nonB_str, nonB_lst, nonB_tup, nonB_cell, nonB_obj, bools_nil, bools_cons, ints_nil, ints_cons, eqD_ii, eqD_bb, eqD_ss, eqD_nn, eqD_ni, eqD_in, eqD_nb, eqD_bn, eqD_ns, eqD_sn, eqD_is, eqD_si, eqD_bs, eqD_sb, tag_non, tag_bl, tag_int, tag_str, tag_lst, tag_tup, tag_obj, bindP_nm, bindP_tp, bindPs_nil, bindPs_cons, EG.runs, EG.run, ev, evs, evo, evr, mkE, mkL, failL, bopF, copF, bltF, lbltF, env0, wipeE, isiAny, isi1, frzS, Cell.toD, atI_nn, setAt_nn, wp_inSg, List.map_cons, List.map_nil, List.length_cons, List.length_nil, List.append_nil, List.nil_append, List.cons_append, List.replicate, List.getElem?_cons_zero, List.getElem?_cons_succ, List.set_cons_zero, List.set_cons_succ, Int.reduceNeg, Int.reducePow, nA10, nA2, le_big, Nat.reducePow, Nat.zero_add, Option.map_some, Option.bind_some, Int.reduceLE, Int.reduceToNat, Int.reduceLT, Nat.reduceLT, Nat.reduceAdd, Nat.reduceSub, true_and, and_true, decide_true, decide_false, List.length_append, List.length_map, Nat.reduceLeDiff, Nat.reduceEqDiff, Bool.not_true, Bool.not_false, decide_eq_true_eq, reduceCtorEq, Option.some.injEq, id_eq, List.all_cons, List.all_nil, List.any_cons, List.any_nil, Bool.and_true, Bool.true_and, Bool.and_false, Bool.false_and, Bool.or_true, Bool.or_false, kG, kConsts]
    refine amt_odd hod ?_
    simp only [↓br_true, ↓br_false, ↓op_some, ↓wp_bind, ↓wp_pure, ↓wp_fail, ↓wp_opt, ↓wp_guard, ↓wp_noX, ↓wp_v, ↓wp_vB, ↓wp_c, ↓wp_op2, ↓wp_op2L, ↓wp_t, ↓wp_tru, ↓wp_chain, ↓wp_andT, ↓wp_orT, ↓wp_notT, ↓wp_andV, ↓wp_orV, ↓wp_notV, ↓wp_if, ↓wp_nil, ↓wp_cons, ↓wp_tup, ↓wp_lst, ↓wp_D, ↓wp_cb, ↓wp_call, ↓wp_isi, ↓wp_neg, ↓wp_sl, ↓wp_noP, ↓wp_P, ↓wp_yes, ↓wp_items, ↓wp_signs, ↓wp_comp, ↓ws_seq, ↓thn_nx, ↓thn_rt, ↓thn_br, ↓thn_ct, ↓thn_exc, ↓ws_skip, ↓ws_break, ↓ws_cont, ↓ws_retN, ↓ws_set, ↓ws_own, ↓ws_ret, ↓ws_drop, ↓ws_if, ↓ws_asg, ↓ws_par, ↓ws_setC, ↓wp_newc, ↓ws_app, ↓ws_ext, ↓ws_setI, ↓ws_frz, ↓ws_for, ↓wl_nil, ↓wl_cons, ↓wf_run, ↓retS_nx, ↓retS_rt, ↓lpS_nx, ↓lpS_ct, ↓lpS_br, ↓lpS_rt, ↓turn_nx, ↓turn_ct, ↓turn_br, ↓turn_rt, ↓wp_addI, ↓wp_addS, ↓wp_subI, ↓wp_mulI, ↓wp_divI, ↓wp_modI, ↓wp_powI, ↓wp_cmpI, ↓wp_eq, ↓wp_ne, ↓wp_negI, ↓wp_seqE, ↓wp_lstE, ↓wp_ixL, ↓wp_ixT, ↓wp_ixC, ↓wp_ixS, ↓wp_lenS, ↓wp_lenL, ↓wp_lenT, ↓wp_lenC, ↓wp_absI, ↓wp_intI, ↓wp_intB, ↓wp_intS, ↓wp_strI, ↓wp_boolI, ↓wp_boolB, ↓wp_all, ↓wp_any, ↓wp_sum, ↓wp_max2, ↓wp_min2, ↓wp_list, ↓wp_tuple, ↓wp_sorted, ↓wp_slS, ↓wp_slT, ↓wp_slC, ↓wp_slL, ↓wp_range1, ↓wp_range2, ↓wp_enum, ↓wp_zip, ↓wp_cat, ↓wp_rep, ↓wp_inSg, ↓wp_notInSg, ↓wp_inL, ↓wp_inT, ↓wp_notIn, ↓wp_isN, ↓wp_notN, tt1, tt2, tt3, tt4, tt5, tt6, tu1, tu2, tu3, tu4, tu5, tu6, tu7, tu8, tu9, tu10, tu11, tu12, tu13, tu14, tu15, tu16, tu17, tu18, tu19, tu20, tu21, tu22, tu23, tu24, asB_bl, truD_non, truD_bl, truD_int, truD_str, truD_lst, truD_tup, asI_int, asS_str, items_lst, items_tup, valS_v, valB_v, valB_own, seqD_lst, seqD_tup, seqD_cell0, lstD_lst, lstD_cell0, cellL_0, own_lst, nonB_non, nonB_bl, nonB_int, nonB_str, nonB_lst, nonB_tup, nonB_cell, nonB_obj, bools_nil, bools_cons, ints_nil, ints_cons, eqD_ii, eqD_bb, eqD_ss, eqD_nn, eqD_ni, eqD_in, eqD_nb, eqD_bn, eqD_ns, eqD_sn, eqD_is, eqD_si, eqD_bs, eqD_sb, tag_non, tag_bl, tag_int, tag_str, tag_lst, tag_tup, tag_obj, bindP_nm, bindP_tp, bindPs_nil, bindPs_cons, EG.runs, EG.run, ev, evs, evo, evr, mkE, mkL, failL, bopF, copF, bltF, lbltF, env0, wipeE, isiAny, isi1, frzS, Cell.toD, atI_nn, setAt_nn, wp_inSg, List.map_cons, List.map_nil, List.length_cons, List.length_nil, List.append_nil, List.nil_append, List.cons_append, List.replicate, List.getElem?_cons_zero, List.getElem?_cons_succ, List.set_cons_zero, List.set_cons_succ, Int.reduceNeg, Int.reducePow, nA10, nA2, le_big, Nat.reducePow, Nat.zero_add, Option.map_some, Option.bind_some, Int.reduceLE, Int.reduceToNat, Int.reduceLT, Nat.reduceLT, Nat.reduceAdd, Nat.reduceSub, true_and, and_true, decide_true, decide_false, List.length_append, List.length_map, Nat.reduceLeDiff, Nat.reduceEqDiff, Bool.not_true, Bool.not_false, decide_eq_true_eq, reduceCtorEq, Option.some.injEq, id_eq, List.all_cons, List.all_nil, List.any_cons, List.any_nil, Bool.and_true, Bool.true_and, Bool.and_false, Bool.false_and, Bool.or_true, Bool.or_false, kG, kConsts]
    refine num_odd hod ?_
    rw [show (match od with | .bl _ => false | _ => false) = false by cases od <;> rfl]
    simp only [↓br_true, ↓br_false, ↓op_some, ↓wp_bind, ↓wp_pure, ↓wp_fail, ↓wp_opt, ↓wp_guard, ↓wp_noX, ↓wp_v, ↓wp_vB, ↓wp_c, ↓wp_op2, ↓wp_op2L, ↓wp_t, ↓wp_tru, ↓wp_chain, ↓wp_andT, ↓wp_orT, ↓wp_notT, ↓wp_andV, ↓wp_orV, ↓wp_notV, ↓wp_if, ↓wp_nil, ↓wp_cons, ↓wp_tup, ↓wp_lst, ↓wp_D, ↓wp_cb, ↓wp_call, ↓wp_isi, ↓wp_neg, ↓wp_sl, ↓wp_noP, ↓wp_P, ↓wp_yes, ↓wp_items, ↓wp_signs, ↓wp_comp, ↓ws_seq, ↓thn_nx, ↓thn_rt, ↓thn_br, ↓thn_ct, ↓thn_exc, ↓ws_skip, ↓ws_break, ↓ws_cont, ↓ws_retN, ↓ws_set, ↓ws_own, ↓ws_ret, ↓ws_drop, ↓ws_if, ↓ws_asg, ↓ws_par, ↓ws_setC, ↓wp_newc, ↓ws_app, ↓ws_ext, ↓ws_setI, ↓ws_frz, ↓ws_for, ↓wl_nil, ↓wl_cons, ↓wf_run, ↓retS_nx, ↓retS_rt, ↓lpS_nx, ↓lpS_ct, ↓lpS_br, ↓lpS_rt, ↓turn_nx, ↓turn_ct, ↓turn_br, ↓turn_rt, ↓wp_addI, ↓wp_addS, ↓wp_subI, ↓wp_mulI, ↓wp_divI, ↓wp_modI, ↓wp_powI, ↓wp_cmpI, ↓wp_eq, ↓wp_ne, ↓wp_negI, ↓wp_seqE, ↓wp_lstE, ↓wp_ixL, ↓wp_ixT, ↓wp_ixC, ↓wp_ixS, ↓wp_lenS, ↓wp_lenL, ↓wp_lenT, ↓wp_lenC, ↓wp_absI, ↓wp_intI, ↓wp_intB, ↓wp_intS, ↓wp_strI, ↓wp_boolI, ↓wp_boolB, ↓wp_all, ↓wp_any, ↓wp_sum, ↓wp_max2, ↓wp_min2, ↓wp_list, ↓wp_tuple, ↓wp_sorted, ↓wp_slS, ↓wp_slT, ↓wp_slC, ↓wp_slL, ↓wp_range1, ↓wp_range2, ↓wp_enum, ↓wp_zip, ↓wp_cat, ↓wp_rep, ↓wp_inSg, ↓wp_notInSg, ↓wp_inL, ↓wp_inT, ↓wp_notIn, ↓wp_isN, ↓wp_notN, tt1, tt2, tt3, tt4, tt5, tt6, tu1, tu2, tu3, tu4, tu5, tu6, tu7, tu8, tu9, tu10, tu11, tu12, tu13, tu14, tu15, tu16, tu17, tu18, tu19, tu20, tu21, tu22, tu23, tu24, asB_bl, truD_non, truD_bl, truD_int, truD_str, truD_lst, truD_tup, asI_int, asS_str, items_lst, items_tup, valS_v, valB_v, valB_own, seqD_lst, seqD_tup, seqD_cell0, lstD_lst, lstD_cell0, cellL_0, own_lst, nonB_non, nonB_bl, nonB_int, nonB_str, nonB_lst, nonB_tup, nonB_cell, nonB_obj, bools_nil, bools_cons, ints_nil, ints_cons, eqD_ii, eqD_bb, eqD_ss, eqD_nn, eqD_ni, eqD_in, eqD_nb, eqD_bn, eqD_ns, eqD_sn, eqD_is, eqD_si, eqD_bs, eqD_sb, tag_non, tag_bl, tag_int, tag_str, tag_lst, tag_tup, tag_obj, bindP_nm, bindP_tp, bindPs_nil, bindPs_cons, EG.runs, EG.run, ev, evs, evo, evr, mkE, mkL, failL, bopF, copF, bltF, lbltF, env0, wipeE, isiAny, isi1, frzS, Cell.toD, atI_nn, setAt_nn, wp_inSg, List.map_cons, List.map_nil, List.length_cons, List.length_nil, List.append_nil, List.nil_append, List.cons_append, List.replicate, List.getElem?_cons_zero, List.getElem?_cons_succ, List.set_cons_zero, List.set_cons_succ, Int.reduceNeg, Int.reducePow, nA10, nA2, le_big, Nat.reducePow, Nat.zero_add, Option.map_some, Option.bind_some, Int.reduceLE, Int.reduceToNat, Int.reduceLT, Nat.reduceLT, Nat.reduceAdd, Nat.reduceSub, true_and, and_true, decide_true, decide_false, List.length_append, List.length_map, Nat.reduceLeDiff, Nat.reduceEqDiff, Bool.not_true, Bool.not_false, decide_eq_true_eq, reduceCtorEq, Option.some.injEq, id_eq, List.all_cons, List.all_nil, List.any_cons, List.any_nil, Bool.and_true, Bool.true_and, Bool.and_false, Bool.false_and, Bool.or_true, Bool.or_false, kG, kConsts]
    refine same_spec (F := F_law_same) (G := fun n => kG [⟨"_law_same", 2, F_law_same n, n + 0, []⟩]) (lv := fun n => n + 0) (fun _ => rfl) (fun _ => rfl) 6 _ _ _ _ rfl ?_
    simp only [↓br_true, ↓br_false, ↓op_some, ↓wp_bind, ↓wp_pure, ↓wp_fail, ↓wp_opt, ↓wp_guard, ↓wp_noX, ↓wp_v, ↓wp_vB, ↓wp_c, ↓wp_op2, ↓wp_op2L, ↓wp_t, ↓wp_tru, ↓wp_chain, ↓wp_andT, ↓wp_orT, ↓wp_notT, ↓wp_andV, ↓wp_orV, ↓wp_notV, ↓wp_if, ↓wp_nil, ↓wp_cons, ↓wp_tup, ↓wp_lst, ↓wp_D, ↓wp_cb, ↓wp_call, ↓wp_isi, ↓wp_neg, ↓wp_sl, ↓wp_noP, ↓wp_P, ↓wp_yes, ↓wp_items, ↓wp_signs, ↓wp_comp, ↓ws_seq, ↓thn_nx, ↓thn_rt, ↓thn_br, ↓thn_ct, ↓thn_exc, ↓ws_skip, ↓ws_break, ↓ws_cont, ↓ws_retN, ↓ws_set, ↓ws_own, ↓ws_ret, ↓ws_drop, ↓ws_if, ↓ws_asg, ↓ws_par, ↓ws_setC, ↓wp_newc, ↓ws_app, ↓ws_ext, ↓ws_setI, ↓ws_frz, ↓ws_for, ↓wl_nil, ↓wl_cons, ↓wf_run, ↓retS_nx, ↓retS_rt, ↓lpS_nx, ↓lpS_ct, ↓lpS_br, ↓lpS_rt, ↓turn_nx, ↓turn_ct, ↓turn_br, ↓turn_rt, ↓wp_addI, ↓wp_addS, ↓wp_subI, ↓wp_mulI, ↓wp_divI, ↓wp_modI, ↓wp_powI, ↓wp_cmpI, ↓wp_eq, ↓wp_ne, ↓wp_negI, ↓wp_seqE, ↓wp_lstE, ↓wp_ixL, ↓wp_ixT, ↓wp_ixC, ↓wp_ixS, ↓wp_lenS, ↓wp_lenL, ↓wp_lenT, ↓wp_lenC, ↓wp_absI, ↓wp_intI, ↓wp_intB, ↓wp_intS, ↓wp_strI, ↓wp_boolI, ↓wp_boolB, ↓wp_all, ↓wp_any, ↓wp_sum, ↓wp_max2, ↓wp_min2, ↓wp_list, ↓wp_tuple, ↓wp_sorted, ↓wp_slS, ↓wp_slT, ↓wp_slC, ↓wp_slL, ↓wp_range1, ↓wp_range2, ↓wp_enum, ↓wp_zip, ↓wp_cat, ↓wp_rep, ↓wp_inSg, ↓wp_notInSg, ↓wp_inL, ↓wp_inT, ↓wp_notIn, ↓wp_isN, ↓wp_notN, tt1, tt2, tt3, tt4, tt5, tt6, tu1, tu2, tu3, tu4, tu5, tu6, tu7, tu8, tu9, tu10, tu11, tu12, tu13, tu14, tu15, tu16, tu17, tu18, tu19, tu20, tu21, tu22, tu23, tu24, asB_bl, truD_non, truD_bl, truD_int, truD_str, truD_lst, truD_tup, asI_int, asS_str, items_lst, items_tup, valS_v, valB_v, valB_own, seqD_lst, seqD_tup, seqD_cell0, lstD_lst, lstD_cell0, cellL_0, own_lst, nonB_non, nonB_bl, nonB_int, nonB_str, nonB_lst, nonB_tup, nonB_cell, nonB_obj, bools_nil, bools_cons, ints_nil, ints_cons, eqD_ii, eqD_bb, eqD_ss, eqD_nn, eqD_ni, eqD_in, eqD_nb, eqD_bn, eqD_ns, eqD_sn, eqD_is, eqD_si, eqD_bs, eqD_sb, tag_non, tag_bl, tag_int, tag_str, tag_lst, tag_tup, tag_obj, bindP_nm, bindP_tp, bindPs_nil, bindPs_cons, EG.runs, EG.run, ev, evs, evo, evr, mkE, mkL, failL, bopF, copF, bltF, lbltF, env0, wipeE, isiAny, isi1, frzS, Cell.toD, atI_nn, setAt_nn, wp_inSg, List.map_cons, List.map_nil, List.length_cons, List.length_nil, List.append_nil, List.nil_append, List.cons_append, List.replicate, List.getElem?_cons_zero, List.getElem?_cons_succ, List.set_cons_zero, List.set_cons_succ, Int.reduceNeg, Int.reducePow, nA10, nA2, le_big, Nat.reducePow, Nat.zero_add, Option.map_some, Option.bind_some, Int.reduceLE, Int.reduceToNat, Int.reduceLT, Nat.reduceLT, Nat.reduceAdd, Nat.reduceSub, true_and, and_true, decide_true, decide_false, List.length_append, List.length_map, Nat.reduceLeDiff, Nat.reduceEqDiff, Bool.not_true, Bool.not_false, decide_eq_true_eq, reduceCtorEq, Option.some.injEq, id_eq, List.all_cons, List.all_nil, List.any_cons, List.any_nil, Bool.and_true, Bool.true_and, Bool.and_false, Bool.false_and, Bool.or_true, Bool.or_false, kG, kConsts]
    refine of_spec (F := F_law_pull) (Γ := G_law_pull) (Γ' := G_law_of) (lv := 1) rfl rfl hb (List.cons_ne_nil _ _) (by simp) fun d b hd hb => ?_
    obtain ⟨p, rfl, p1⟩ : ∃ p : Str, d = .str p ∧ p.length ≤ 2 := by
      simp only [List.mem_cons, List.not_mem_nil, or_false] at hd
      rcases hd with rfl | rfl | rfl <;> exact ⟨_, rfl, by decide⟩
    have sl := str_len w1 w2
    simp only [↓br_true, ↓br_false, ↓op_some, ↓wp_bind, ↓wp_pure, ↓wp_fail, ↓wp_opt, ↓wp_guard, ↓wp_noX, ↓wp_v, ↓wp_vB, ↓wp_c, ↓wp_op2, ↓wp_op2L, ↓wp_t, ↓wp_tru, ↓wp_chain, ↓wp_andT, ↓wp_orT, ↓wp_notT, ↓wp_andV, ↓wp_orV, ↓wp_notV, ↓wp_if, ↓wp_nil, ↓wp_cons, ↓wp_tup, ↓wp_lst, ↓wp_D, ↓wp_cb, ↓wp_call, ↓wp_isi, ↓wp_neg, ↓wp_sl, ↓wp_noP, ↓wp_P, ↓wp_yes, ↓wp_items, ↓wp_signs, ↓wp_comp, ↓ws_seq, ↓thn_nx, ↓thn_rt, ↓thn_br, ↓thn_ct, ↓thn_exc, ↓ws_skip, ↓ws_break, ↓ws_cont, ↓ws_retN, ↓ws_set, ↓ws_own, ↓ws_ret, ↓ws_drop, ↓ws_if, ↓ws_asg, ↓ws_par, ↓ws_setC, ↓wp_newc, ↓ws_app, ↓ws_ext, ↓ws_setI, ↓ws_frz, ↓ws_for, ↓wl_nil, ↓wl_cons, ↓wf_run, ↓retS_nx, ↓retS_rt, ↓lpS_nx, ↓lpS_ct, ↓lpS_br, ↓lpS_rt, ↓turn_nx, ↓turn_ct, ↓turn_br, ↓turn_rt, ↓wp_addI, ↓wp_addS, ↓wp_subI, ↓wp_mulI, ↓wp_divI, ↓wp_modI, ↓wp_powI, ↓wp_cmpI, ↓wp_eq, ↓wp_ne, ↓wp_negI, ↓wp_seqE, ↓wp_lstE, ↓wp_ixL, ↓wp_ixT, ↓wp_ixC, ↓wp_ixS, ↓wp_lenS, ↓wp_lenL, ↓wp_lenT, ↓wp_lenC, ↓wp_absI, ↓wp_intI, ↓wp_intB, ↓wp_intS, ↓wp_strI, ↓wp_boolI, ↓wp_boolB, ↓wp_all, ↓wp_any, ↓wp_sum, ↓wp_max2, ↓wp_min2, ↓wp_list, ↓wp_tuple, ↓wp_sorted, ↓wp_slS, ↓wp_slT, ↓wp_slC, ↓wp_slL, ↓wp_range1, ↓wp_range2, ↓wp_enum, ↓wp_zip, ↓wp_cat, ↓wp_rep, ↓wp_inSg, ↓wp_notInSg, ↓wp_inL, ↓wp_inT, ↓wp_notIn, ↓wp_isN, ↓wp_notN, tt1, tt2, tt3, tt4, tt5, tt6, tu1, tu2, tu3, tu4, tu5, tu6, tu7, tu8, tu9, tu10, tu11, tu12, tu13, tu14, tu15, tu16, tu17, tu18, tu19, tu20, tu21, tu22, tu23, tu24, asB_bl, truD_non, truD_bl, truD_int, truD_str, truD_lst, truD_tup, asI_int, asS_str, items_lst, items_tup, valS_v, valB_v, valB_own, seqD_lst, seqD_tup, seqD_cell0, lstD_lst, lstD_cell0, cellL_0, own_lst, nonB_non, nonB_bl, nonB_int, nonB_str, nonB_lst, nonB_tup, nonB_cell, nonB_obj, bools_nil, bools_cons, ints_nil, ints_cons, eqD_ii, eqD_bb, eqD_ss, eqD_nn, eqD_ni, eqD_in, eqD_nb, eqD_bn, eqD_ns, eqD_sn, eqD_is, eqD_si, eqD_bs, eqD_sb, tag_non, tag_bl, tag_int, tag_str, tag_lst, tag_tup, tag_obj, bindP_nm, bindP_tp, bindPs_nil, bindPs_cons, EG.runs, EG.run, ev, evs, evo, evr, mkE, mkL, failL, bopF, copF, bltF, lbltF, env0, wipeE, isiAny, isi1, frzS, Cell.toD, atI_nn, setAt_nn, wp_inSg, List.map_cons, List.map_nil, List.length_cons, List.length_nil, List.append_nil, List.nil_append, List.cons_append, List.replicate, List.getElem?_cons_zero, List.getElem?_cons_succ, List.set_cons_zero, List.set_cons_succ, Int.reduceNeg, Int.reducePow, nA10, nA2, le_big, Nat.reducePow, Nat.zero_add, Option.map_some, Option.bind_some, Int.reduceLE, Int.reduceToNat, Int.reduceLT, Nat.reduceLT, Nat.reduceAdd, Nat.reduceSub, true_and, and_true, decide_true, decide_false, List.length_append, List.length_map, Nat.reduceLeDiff, Nat.reduceEqDiff, Bool.not_true, Bool.not_false, decide_eq_true_eq, reduceCtorEq, Option.some.injEq, id_eq, List.all_cons, List.all_nil, List.any_cons, List.any_nil, Bool.and_true, Bool.true_and, Bool.and_false, Bool.false_and, Bool.or_true, Bool.or_false, kG, kConsts]
    refine ⟨str_ok (by omega) (by omega), le_big' (by omega), ?_⟩
    refine ⟨str_ok (by omega) (by omega), ?_⟩
    refine of_spec (F := F_law_pull) (Γ := G_law_pull) (Γ' := G_law_of) (lv := 1) rfl rfl hb (List.cons_ne_nil _ _) (by simp) fun d b hd hb => ?_
    obtain ⟨q, rfl, q1⟩ : ∃ p : Str, d = .str p ∧ p.length ≤ 2 := by
      simp only [List.mem_cons, List.not_mem_nil, or_false] at hd
      rcases hd with rfl | rfl | rfl | rfl | rfl | rfl <;> exact ⟨_, rfl, by decide⟩
    simp only [↓br_true, ↓br_false, ↓op_some, ↓wp_bind, ↓wp_pure, ↓wp_fail, ↓wp_opt, ↓wp_guard, ↓wp_noX, ↓wp_v, ↓wp_vB, ↓wp_c, ↓wp_op2, ↓wp_op2L, ↓wp_t, ↓wp_tru, ↓wp_chain, ↓wp_andT, ↓wp_orT, ↓wp_notT, ↓wp_andV, ↓wp_orV, ↓wp_notV, ↓wp_if, ↓wp_nil, ↓wp_cons, ↓wp_tup, ↓wp_lst, ↓wp_D, ↓wp_cb, ↓wp_call, ↓wp_isi, ↓wp_neg, ↓wp_sl, ↓wp_noP, ↓wp_P, ↓wp_yes, ↓wp_items, ↓wp_signs, ↓wp_comp, ↓ws_seq, ↓thn_nx, ↓thn_rt, ↓thn_br, ↓thn_ct, ↓thn_exc, ↓ws_skip, ↓ws_break, ↓ws_cont, ↓ws_retN, ↓ws_set, ↓ws_own, ↓ws_ret, ↓ws_drop, ↓ws_if, ↓ws_asg, ↓ws_par, ↓ws_setC, ↓wp_newc, ↓ws_app, ↓ws_ext, ↓ws_setI, ↓ws_frz, ↓ws_for, ↓wl_nil, ↓wl_cons, ↓wf_run, ↓retS_nx, ↓retS_rt, ↓lpS_nx, ↓lpS_ct, ↓lpS_br, ↓lpS_rt, ↓turn_nx, ↓turn_ct, ↓turn_br, ↓turn_rt, ↓wp_addI, ↓wp_addS, ↓wp_subI, ↓wp_mulI, ↓wp_divI, ↓wp_modI, ↓wp_powI, ↓wp_cmpI, ↓wp_eq, ↓wp_ne, ↓wp_negI, ↓wp_seqE, ↓wp_lstE, ↓wp_ixL, ↓wp_ixT, ↓wp_ixC, ↓wp_ixS, ↓wp_lenS, ↓wp_lenL, ↓wp_lenT, ↓wp_lenC, ↓wp_absI, ↓wp_intI, ↓wp_intB, ↓wp_intS, ↓wp_strI, ↓wp_boolI, ↓wp_boolB, ↓wp_all, ↓wp_any, ↓wp_sum, ↓wp_max2, ↓wp_min2, ↓wp_list, ↓wp_tuple, ↓wp_sorted, ↓wp_slS, ↓wp_slT, ↓wp_slC, ↓wp_slL, ↓wp_range1, ↓wp_range2, ↓wp_enum, ↓wp_zip, ↓wp_cat, ↓wp_rep, ↓wp_inSg, ↓wp_notInSg, ↓wp_inL, ↓wp_inT, ↓wp_notIn, ↓wp_isN, ↓wp_notN, tt1, tt2, tt3, tt4, tt5, tt6, tu1, tu2, tu3, tu4, tu5, tu6, tu7, tu8, tu9, tu10, tu11, tu12, tu13, tu14, tu15, tu16, tu17, tu18, tu19, tu20, tu21, tu22, tu23, tu24, asB_bl, truD_non, truD_bl, truD_int, truD_str, truD_lst, truD_tup, asI_int, asS_str, items_lst, items_tup, valS_v, valB_v, valB_own, seqD_lst, seqD_tup, seqD_cell0, lstD_lst, lstD_cell0, cellL_0, own_lst, nonB_non, nonB_bl, nonB_int, nonB_str, nonB_lst, nonB_tup, nonB_cell, nonB_obj, bools_nil, bools_cons, ints_nil, ints_cons, eqD_ii, eqD_bb, eqD_ss, eqD_nn, eqD_ni, eqD_in, eqD_nb, eqD_bn, eqD_ns, eqD_sn, eqD_is, eqD_si, eqD_bs, eqD_sb, tag_non, tag_bl, tag_int, tag_str, tag_lst, tag_tup, tag_obj, bindP_nm, bindP_tp, bindPs_nil, bindPs_cons, EG.runs, EG.run, ev, evs, evo, evr, mkE, mkL, failL, bopF, copF, bltF, lbltF, env0, wipeE, isiAny, isi1, frzS, Cell.toD, atI_nn, setAt_nn, wp_inSg, List.map_cons, List.map_nil, List.length_cons, List.length_nil, List.append_nil, List.nil_append, List.cons_append, List.replicate, List.getElem?_cons_zero, List.getElem?_cons_succ, List.set_cons_zero, List.set_cons_succ, Int.reduceNeg, Int.reducePow, nA10, nA2, le_big, Nat.reducePow, Nat.zero_add, Option.map_some, Option.bind_some, Int.reduceLE, Int.reduceToNat, Int.reduceLT, Nat.reduceLT, Nat.reduceAdd, Nat.reduceSub, true_and, and_true, decide_true, decide_false, List.length_append, List.length_map, Nat.reduceLeDiff, Nat.reduceEqDiff, Bool.not_true, Bool.not_false, decide_eq_true_eq, reduceCtorEq, Option.some.injEq, id_eq, List.all_cons, List.all_nil, List.any_cons, List.any_nil, Bool.and_true, Bool.true_and, Bool.and_false, Bool.false_and, Bool.or_true, Bool.or_false, kG, kConsts, len_app]
    refine ⟨le_big' (by omega), ?_⟩
    refine of_spec (F := F_law_pull) (Γ := G_law_pull) (Γ' := G_law_of) (lv := 1) rfl rfl hb (List.cons_ne_nil _ _) (by simp) fun d b hd hb => ?_
    obtain ⟨w, rfl, hw⟩ : ∃ p : Str, d = .str p ∧ p.length ≤ 40 := by
      simp only [List.mem_cons, List.not_mem_nil, or_false] at hd
      rcases hd with rfl | rfl | rfl
      · exact ⟨_, rfl, by rw [len_app]; omega⟩
      · exact ⟨_, rfl, by omega⟩
      · exact ⟨_, rfl, by rw [len_app, len_app]; omega⟩
    simp only [↓br_true, ↓br_false, ↓op_some, ↓wp_bind, ↓wp_pure, ↓wp_fail, ↓wp_opt, ↓wp_guard, ↓wp_noX, ↓wp_v, ↓wp_vB, ↓wp_c, ↓wp_op2, ↓wp_op2L, ↓wp_t, ↓wp_tru, ↓wp_chain, ↓wp_andT, ↓wp_orT, ↓wp_notT, ↓wp_andV, ↓wp_orV, ↓wp_notV, ↓wp_if, ↓wp_nil, ↓wp_cons, ↓wp_tup, ↓wp_lst, ↓wp_D, ↓wp_cb, ↓wp_call, ↓wp_isi, ↓wp_neg, ↓wp_sl, ↓wp_noP, ↓wp_P, ↓wp_yes, ↓wp_items, ↓wp_signs, ↓wp_comp, ↓ws_seq, ↓thn_nx, ↓thn_rt, ↓thn_br, ↓thn_ct, ↓thn_exc, ↓ws_skip, ↓ws_break, ↓ws_cont, ↓ws_retN, ↓ws_set, ↓ws_own, ↓ws_ret, ↓ws_drop, ↓ws_if, ↓ws_asg, ↓ws_par, ↓ws_setC, ↓wp_newc, ↓ws_app, ↓ws_ext, ↓ws_setI, ↓ws_frz, ↓ws_for, ↓wl_nil, ↓wl_cons, ↓wf_run, ↓retS_nx, ↓retS_rt, ↓lpS_nx, ↓lpS_ct, ↓lpS_br, ↓lpS_rt, ↓turn_nx, ↓turn_ct, ↓turn_br, ↓turn_rt, ↓wp_addI, ↓wp_addS, ↓wp_subI, ↓wp_mulI, ↓wp_divI, ↓wp_modI, ↓wp_powI, ↓wp_cmpI, ↓wp_eq, ↓wp_ne, ↓wp_negI, ↓wp_seqE, ↓wp_lstE, ↓wp_ixL, ↓wp_ixT, ↓wp_ixC, ↓wp_ixS, ↓wp_lenS, ↓wp_lenL, ↓wp_lenT, ↓wp_lenC, ↓wp_absI, ↓wp_intI, ↓wp_intB, ↓wp_intS, ↓wp_strI, ↓wp_boolI, ↓wp_boolB, ↓wp_all, ↓wp_any, ↓wp_sum, ↓wp_max2, ↓wp_min2, ↓wp_list, ↓wp_tuple, ↓wp_sorted, ↓wp_slS, ↓wp_slT, ↓wp_slC, ↓wp_slL, ↓wp_range1, ↓wp_range2, ↓wp_enum, ↓wp_zip, ↓wp_cat, ↓wp_rep, ↓wp_inSg, ↓wp_notInSg, ↓wp_inL, ↓wp_inT, ↓wp_notIn, ↓wp_isN, ↓wp_notN, tt1, tt2, tt3, tt4, tt5, tt6, tu1, tu2, tu3, tu4, tu5, tu6, tu7, tu8, tu9, tu10, tu11, tu12, tu13, tu14, tu15, tu16, tu17, tu18, tu19, tu20, tu21, tu22, tu23, tu24, asB_bl, truD_non, truD_bl, truD_int, truD_str, truD_lst, truD_tup, asI_int, asS_str, items_lst, items_tup, valS_v, valB_v, valB_own, seqD_lst, seqD_tup, seqD_cell0, lstD_lst, lstD_cell0, cellL_0, own_lst, nonB_non, nonB_bl, nonB_int, nonB_str, nonB_lst, nonB_tup, nonB_cell, nonB_obj, bools_nil, bools_cons, ints_nil, ints_cons, eqD_ii, eqD_bb, eqD_ss, eqD_nn, eqD_ni, eqD_in, eqD_nb, eqD_bn, eqD_ns, eqD_sn, eqD_is, eqD_si, eqD_bs, eqD_sb, tag_non, tag_bl, tag_int, tag_str, tag_lst, tag_tup, tag_obj, bindP_nm, bindP_tp, bindPs_nil, bindPs_cons, EG.runs, EG.run, ev, evs, evo, evr, mkE, mkL, failL, bopF, copF, bltF, lbltF, env0, wipeE, isiAny, isi1, frzS, Cell.toD, atI_nn, setAt_nn, wp_inSg, List.map_cons, List.map_nil, List.length_cons, List.length_nil, List.append_nil, List.nil_append, List.cons_append, List.replicate, List.getElem?_cons_zero, List.getElem?_cons_succ, List.set_cons_zero, List.set_cons_succ, Int.reduceNeg, Int.reducePow, nA10, nA2, le_big, Nat.reducePow, Nat.zero_add, Option.map_some, Option.bind_some, Int.reduceLE, Int.reduceToNat, Int.reduceLT, Nat.reduceLT, Nat.reduceAdd, Nat.reduceSub, true_and, and_true, decide_true, decide_false, List.length_append, List.length_map, Nat.reduceLeDiff, Nat.reduceEqDiff, Bool.not_true, Bool.not_false, decide_eq_true_eq, reduceCtorEq, Option.some.injEq, id_eq, List.all_cons, List.all_nil, List.any_cons, List.any_nil, Bool.and_true, Bool.true_and, Bool.and_false, Bool.false_and, Bool.or_true, Bool.or_false, kG, kConsts]
    refine x1 (w := w) rfl (by simp) ?_
    simp only [↓br_true, ↓br_false, ↓op_some, ↓wp_bind, ↓wp_pure, ↓wp_fail, ↓wp_opt, ↓wp_guard, ↓wp_noX, ↓wp_v, ↓wp_vB, ↓wp_c, ↓wp_op2, ↓wp_op2L, ↓wp_t, ↓wp_tru, ↓wp_chain, ↓wp_andT, ↓wp_orT, ↓wp_notT, ↓wp_andV, ↓wp_orV, ↓wp_notV, ↓wp_if, ↓wp_nil, ↓wp_cons, ↓wp_tup, ↓wp_lst, ↓wp_D, ↓wp_cb, ↓wp_call, ↓wp_isi, ↓wp_neg, ↓wp_sl, ↓wp_noP, ↓wp_P, ↓wp_yes, ↓wp_items, ↓wp_signs, ↓wp_comp, ↓ws_seq, ↓thn_nx, ↓thn_rt, ↓thn_br, ↓thn_ct, ↓thn_exc, ↓ws_skip, ↓ws_break, ↓ws_cont, ↓ws_retN, ↓ws_set, ↓ws_own, ↓ws_ret, ↓ws_drop, ↓ws_if, ↓ws_asg, ↓ws_par, ↓ws_setC, ↓wp_newc, ↓ws_app, ↓ws_ext, ↓ws_setI, ↓ws_frz, ↓ws_for, ↓wl_nil, ↓wl_cons, ↓wf_run, ↓retS_nx, ↓retS_rt, ↓lpS_nx, ↓lpS_ct, ↓lpS_br, ↓lpS_rt, ↓turn_nx, ↓turn_ct, ↓turn_br, ↓turn_rt, ↓wp_addI, ↓wp_addS, ↓wp_subI, ↓wp_mulI, ↓wp_divI, ↓wp_modI, ↓wp_powI, ↓wp_cmpI, ↓wp_eq, ↓wp_ne, ↓wp_negI, ↓wp_seqE, ↓wp_lstE, ↓wp_ixL, ↓wp_ixT, ↓wp_ixC, ↓wp_ixS, ↓wp_lenS, ↓wp_lenL, ↓wp_lenT, ↓wp_lenC, ↓wp_absI, ↓wp_intI, ↓wp_intB, ↓wp_intS, ↓wp_strI, ↓wp_boolI, ↓wp_boolB, ↓wp_all, ↓wp_any, ↓wp_sum, ↓wp_max2, ↓wp_min2, ↓wp_list, ↓wp_tuple, ↓wp_sorted, ↓wp_slS, ↓wp_slT, ↓wp_slC, ↓wp_slL, ↓wp_range1, ↓wp_range2, ↓wp_enum, ↓wp_zip, ↓wp_cat, ↓wp_rep, ↓wp_inSg, ↓wp_notInSg, ↓wp_inL, ↓wp_inT, ↓wp_notIn, ↓wp_isN, ↓wp_notN, tt1, tt2, tt3, tt4, tt5, tt6, tu1, tu2, tu3, tu4, tu5, tu6, tu7, tu8, tu9, tu10, tu11, tu12, tu13, tu14, tu15, tu16, tu17, tu18, tu19, tu20, tu21, tu22, tu23, tu24, asB_bl, truD_non, truD_bl, truD_int, truD_str, truD_lst, truD_tup, asI_int, asS_str, items_lst, items_tup, valS_v, valB_v, valB_own, seqD_lst, seqD_tup, seqD_cell0, lstD_lst, lstD_cell0, cellL_0, own_lst, nonB_non, nonB_bl, nonB_int, nonB_str, nonB_lst, nonB_tup, nonB_cell, nonB_obj, bools_nil, bools_cons, ints_nil, ints_cons, eqD_ii, eqD_bb, eqD_ss, eqD_nn, eqD_ni, eqD_in, eqD_nb, eqD_bn, eqD_ns, eqD_sn, eqD_is, eqD_si, eqD_bs, eqD_sb, tag_non, tag_bl, tag_int, tag_str, tag_lst, tag_tup, tag_obj, bindP_nm, bindP_tp, bindPs_nil, bindPs_cons, EG.runs, EG.run, ev, evs, evo, evr, mkE, mkL, failL, bopF, copF, bltF, lbltF, env0, wipeE, isiAny, isi1, frzS, Cell.toD, atI_nn, setAt_nn, wp_inSg, List.map_cons, List.map_nil, List.length_cons, List.length_nil, List.append_nil, List.nil_append, List.cons_append, List.replicate, List.getElem?_cons_zero, List.getElem?_cons_succ, List.set_cons_zero, List.set_cons_succ, Int.reduceNeg, Int.reducePow, nA10, nA2, le_big, Nat.reducePow, Nat.zero_add, Option.map_some, Option.bind_some, Int.reduceLE, Int.reduceToNat, Int.reduceLT, Nat.reduceLT, Nat.reduceAdd, Nat.reduceSub, true_and, and_true, decide_true, decide_false, List.length_append, List.length_map, Nat.reduceLeDiff, Nat.reduceEqDiff, Bool.not_true, Bool.not_false, decide_eq_true_eq, reduceCtorEq, Option.some.injEq, id_eq, List.all_cons, List.all_nil, List.any_cons, List.any_nil, Bool.and_true, Bool.true_and, Bool.and_false, Bool.false_and, Bool.or_true, Bool.or_false, kG, kConsts]
    refine x2 (w := w) rfl rfl ?_
    simp only [↓br_true, ↓br_false, ↓op_some, ↓wp_bind, ↓wp_pure, ↓wp_fail, ↓wp_opt, ↓wp_guard, ↓wp_noX, ↓wp_v, ↓wp_vB, ↓wp_c, ↓wp_op2, ↓wp_op2L, ↓wp_t, ↓wp_tru, ↓wp_chain, ↓wp_andT, ↓wp_orT, ↓wp_notT, ↓wp_andV, ↓wp_orV, ↓wp_notV, ↓wp_if, ↓wp_nil, ↓wp_cons, ↓wp_tup, ↓wp_lst, ↓wp_D, ↓wp_cb, ↓wp_call, ↓wp_isi, ↓wp_neg, ↓wp_sl, ↓wp_noP, ↓wp_P, ↓wp_yes, ↓wp_items, ↓wp_signs, ↓wp_comp, ↓ws_seq, ↓thn_nx, ↓thn_rt, ↓thn_br, ↓thn_ct, ↓thn_exc, ↓ws_skip, ↓ws_break, ↓ws_cont, ↓ws_retN, ↓ws_set, ↓ws_own, ↓ws_ret, ↓ws_drop, ↓ws_if, ↓ws_asg, ↓ws_par, ↓ws_setC, ↓wp_newc, ↓ws_app, ↓ws_ext, ↓ws_setI, ↓ws_frz, ↓ws_for, ↓wl_nil, ↓wl_cons, ↓wf_run, ↓retS_nx, ↓retS_rt, ↓lpS_nx, ↓lpS_ct, ↓lpS_br, ↓lpS_rt, ↓turn_nx, ↓turn_ct, ↓turn_br, ↓turn_rt, ↓wp_addI, ↓wp_addS, ↓wp_subI, ↓wp_mulI, ↓wp_divI, ↓wp_modI, ↓wp_powI, ↓wp_cmpI, ↓wp_eq, ↓wp_ne, ↓wp_negI, ↓wp_seqE, ↓wp_lstE, ↓wp_ixL, ↓wp_ixT, ↓wp_ixC, ↓wp_ixS, ↓wp_lenS, ↓wp_lenL, ↓wp_lenT, ↓wp_lenC, ↓wp_absI, ↓wp_intI, ↓wp_intB, ↓wp_intS, ↓wp_strI, ↓wp_boolI, ↓wp_boolB, ↓wp_all, ↓wp_any, ↓wp_sum, ↓wp_max2, ↓wp_min2, ↓wp_list, ↓wp_tuple, ↓wp_sorted, ↓wp_slS, ↓wp_slT, ↓wp_slC, ↓wp_slL, ↓wp_range1, ↓wp_range2, ↓wp_enum, ↓wp_zip, ↓wp_cat, ↓wp_rep, ↓wp_inSg, ↓wp_notInSg, ↓wp_inL, ↓wp_inT, ↓wp_notIn, ↓wp_isN, ↓wp_notN, tt1, tt2, tt3, tt4, tt5, tt6, tu1, tu2, tu3, tu4, tu5, tu6, tu7, tu8, tu9, tu10, tu11, tu12, tu13, tu14, tu15, tu16, tu17, tu18, tu19, tu20, tu21, tu22, tu23, tu24, asB_bl, truD_non, truD_bl, truD_int, truD_str, truD_lst, truD_tup, asI_int, asS_str, items_lst, items_tup, valS_v, valB_v, valB_own, seqD_lst, seqD_tup, seqD_cell0, lstD_lst, lstD_cell0, cellL_0, own_lst, nonB_non, nonB_bl, nonB_int, nonB_str, nonB_lst, nonB_tup, nonB_cell, nonB_obj, bools_nil, bools_cons, ints_nil, ints_cons, eqD_ii, eqD_bb, eqD_ss, eqD_nn, eqD_ni, eqD_in, eqD_nb, eqD_bn, eqD_ns, eqD_sn, eqD_is, eqD_si, eqD_bs, eqD_sb, tag_non, tag_bl, tag_int, tag_str, tag_lst, tag_tup, tag_obj, bindP_nm, bindP_tp, bindPs_nil, bindPs_cons, EG.runs, EG.run, ev, evs, evo, evr, mkE, mkL, failL, bopF, copF, bltF, lbltF, env0, wipeE, isiAny, isi1, frzS, Cell.toD, atI_nn, setAt_nn, wp_inSg, List.map_cons, List.map_nil, List.length_cons, List.length_nil, List.append_nil, List.nil_append, List.cons_append, List.replicate, List.getElem?_cons_zero, List.getElem?_cons_succ, List.set_cons_zero, List.set_cons_succ, Int.reduceNeg, Int.reducePow, nA10, nA2, le_big, Nat.reducePow, Nat.zero_add, Option.map_some, Option.bind_some, Int.reduceLE, Int.reduceToNat, Int.reduceLT, Nat.reduceLT, Nat.reduceAdd, Nat.reduceSub, true_and, and_true, decide_true, decide_false, List.length_append, List.length_map, Nat.reduceLeDiff, Nat.reduceEqDiff, Bool.not_true, Bool.not_false, decide_eq_true_eq, reduceCtorEq, Option.some.injEq, id_eq, List.all_cons, List.all_nil, List.any_cons, List.any_nil, Bool.and_true, Bool.true_and, Bool.and_false, Bool.false_and, Bool.or_true, Bool.or_false, kG, kConsts]
    refine read_spec (by omega) ?_
    simp only [↓br_true, ↓br_false, ↓op_some, ↓wp_bind, ↓wp_pure, ↓wp_fail, ↓wp_opt, ↓wp_guard, ↓wp_noX, ↓wp_v, ↓wp_vB, ↓wp_c, ↓wp_op2, ↓wp_op2L, ↓wp_t, ↓wp_tru, ↓wp_chain, ↓wp_andT, ↓wp_orT, ↓wp_notT, ↓wp_andV, ↓wp_orV, ↓wp_notV, ↓wp_if, ↓wp_nil, ↓wp_cons, ↓wp_tup, ↓wp_lst, ↓wp_D, ↓wp_cb, ↓wp_call, ↓wp_isi, ↓wp_neg, ↓wp_sl, ↓wp_noP, ↓wp_P, ↓wp_yes, ↓wp_items, ↓wp_signs, ↓wp_comp, ↓ws_seq, ↓thn_nx, ↓thn_rt, ↓thn_br, ↓thn_ct, ↓thn_exc, ↓ws_skip, ↓ws_break, ↓ws_cont, ↓ws_retN, ↓ws_set, ↓ws_own, ↓ws_ret, ↓ws_drop, ↓ws_if, ↓ws_asg, ↓ws_par, ↓ws_setC, ↓wp_newc, ↓ws_app, ↓ws_ext, ↓ws_setI, ↓ws_frz, ↓ws_for, ↓wl_nil, ↓wl_cons, ↓wf_run, ↓retS_nx, ↓retS_rt, ↓lpS_nx, ↓lpS_ct, ↓lpS_br, ↓lpS_rt, ↓turn_nx, ↓turn_ct, ↓turn_br, ↓turn_rt, ↓wp_addI, ↓wp_addS, ↓wp_subI, ↓wp_mulI, ↓wp_divI, ↓wp_modI, ↓wp_powI, ↓wp_cmpI, ↓wp_eq, ↓wp_ne, ↓wp_negI, ↓wp_seqE, ↓wp_lstE, ↓wp_ixL, ↓wp_ixT, ↓wp_ixC, ↓wp_ixS, ↓wp_lenS, ↓wp_lenL, ↓wp_lenT, ↓wp_lenC, ↓wp_absI, ↓wp_intI, ↓wp_intB, ↓wp_intS, ↓wp_strI, ↓wp_boolI, ↓wp_boolB, ↓wp_all, ↓wp_any, ↓wp_sum, ↓wp_max2, ↓wp_min2, ↓wp_list, ↓wp_tuple, ↓wp_sorted, ↓wp_slS, ↓wp_slT, ↓wp_slC, ↓wp_slL, ↓wp_range1, ↓wp_range2, ↓wp_enum, ↓wp_zip, ↓wp_cat, ↓wp_rep, ↓wp_inSg, ↓wp_notInSg, ↓wp_inL, ↓wp_inT, ↓wp_notIn, ↓wp_isN, ↓wp_notN, tt1, tt2, tt3, tt4, tt5, tt6, tu1, tu2, tu3, tu4, tu5, tu6, tu7, tu8, tu9, tu10, tu11, tu12, tu13, tu14, tu15, tu16, tu17, tu18, tu19, tu20, tu21, tu22, tu23, tu24, asB_bl, truD_non, truD_bl, truD_int, truD_str, truD_lst, truD_tup, asI_int, asS_str, items_lst, items_tup, valS_v, valB_v, valB_own, seqD_lst, seqD_tup, seqD_cell0, lstD_lst, lstD_cell0, cellL_0, own_lst, nonB_non, nonB_bl, nonB_int, nonB_str, nonB_lst, nonB_tup, nonB_cell, nonB_obj, bools_nil, bools_cons, ints_nil, ints_cons, eqD_ii, eqD_bb, eqD_ss, eqD_nn, eqD_ni, eqD_in, eqD_nb, eqD_bn, eqD_ns, eqD_sn, eqD_is, eqD_si, eqD_bs, eqD_sb, tag_non, tag_bl, tag_int, tag_str, tag_lst, tag_tup, tag_obj, bindP_nm, bindP_tp, bindPs_nil, bindPs_cons, EG.runs, EG.run, ev, evs, evo, evr, mkE, mkL, failL, bopF, copF, bltF, lbltF, env0, wipeE, isiAny, isi1, frzS, Cell.toD, atI_nn, setAt_nn, wp_inSg, List.map_cons, List.map_nil, List.length_cons, List.length_nil, List.append_nil, List.nil_append, List.cons_append, List.replicate, List.getElem?_cons_zero, List.getElem?_cons_succ, List.set_cons_zero, List.set_cons_succ, Int.reduceNeg, Int.reducePow, nA10, nA2, le_big, Nat.reducePow, Nat.zero_add, Option.map_some, Option.bind_some, Int.reduceLE, Int.reduceToNat, Int.reduceLT, Nat.reduceLT, Nat.reduceAdd, Nat.reduceSub, true_and, and_true, decide_true, decide_false, List.length_append, List.length_map, Nat.reduceLeDiff, Nat.reduceEqDiff, Bool.not_true, Bool.not_false, decide_eq_true_eq, reduceCtorEq, Option.some.injEq, id_eq, List.all_cons, List.all_nil, List.any_cons, List.any_nil, Bool.and_true, Bool.true_and, Bool.and_false, Bool.false_and, Bool.or_true, Bool.or_false, kG, kConsts]
    rcases ne1 hod with rfl | ⟨h8, h9⟩
    · simp only [↓br_true, ↓br_false, ↓op_some, ↓wp_bind, ↓wp_pure, ↓wp_fail, ↓wp_opt, ↓wp_guard, ↓wp_noX, ↓wp_v, ↓wp_vB, ↓wp_c, ↓wp_op2, ↓wp_op2L, ↓wp_t, ↓wp_tru, ↓wp_chain, ↓wp_andT, ↓wp_orT, ↓wp_notT, ↓wp_andV, ↓wp_orV, ↓wp_notV, ↓wp_if, ↓wp_nil, ↓wp_cons, ↓wp_tup, ↓wp_lst, ↓wp_D, ↓wp_cb, ↓wp_call, ↓wp_isi, ↓wp_neg, ↓wp_sl, ↓wp_noP, ↓wp_P, ↓wp_yes, ↓wp_items, ↓wp_signs, ↓wp_comp, ↓ws_seq, ↓thn_nx, ↓thn_rt, ↓thn_br, ↓thn_ct, ↓thn_exc, ↓ws_skip, ↓ws_break, ↓ws_cont, ↓ws_retN, ↓ws_set, ↓ws_own, ↓ws_ret, ↓ws_drop, ↓ws_if, ↓ws_asg, ↓ws_par, ↓ws_setC, ↓wp_newc, ↓ws_app, ↓ws_ext, ↓ws_setI, ↓ws_frz, ↓ws_for, ↓wl_nil, ↓wl_cons, ↓wf_run, ↓retS_nx, ↓retS_rt, ↓lpS_nx, ↓lpS_ct, ↓lpS_br, ↓lpS_rt, ↓turn_nx, ↓turn_ct, ↓turn_br, ↓turn_rt, ↓wp_addI, ↓wp_addS, ↓wp_subI, ↓wp_mulI, ↓wp_divI, ↓wp_modI, ↓wp_powI, ↓wp_cmpI, ↓wp_eq, ↓wp_ne, ↓wp_negI, ↓wp_seqE, ↓wp_lstE, ↓wp_ixL, ↓wp_ixT, ↓wp_ixC, ↓wp_ixS, ↓wp_lenS, ↓wp_lenL, ↓wp_lenT, ↓wp_lenC, ↓wp_absI, ↓wp_intI, ↓wp_intB, ↓wp_intS, ↓wp_strI, ↓wp_boolI, ↓wp_boolB, ↓wp_all, ↓wp_any, ↓wp_sum, ↓wp_max2, ↓wp_min2, ↓wp_list, ↓wp_tuple, ↓wp_sorted, ↓wp_slS, ↓wp_slT, ↓wp_slC, ↓wp_slL, ↓wp_range1, ↓wp_range2, ↓wp_enum, ↓wp_zip, ↓wp_cat, ↓wp_rep, ↓wp_inSg, ↓wp_notInSg, ↓wp_inL, ↓wp_inT, ↓wp_notIn, ↓wp_isN, ↓wp_notN, tt1, tt2, tt3, tt4, tt5, tt6, tu1, tu2, tu3, tu4, tu5, tu6, tu7, tu8, tu9, tu10, tu11, tu12, tu13, tu14, tu15, tu16, tu17, tu18, tu19, tu20, tu21, tu22, tu23, tu24, asB_bl, truD_non, truD_bl, truD_int, truD_str, truD_lst, truD_tup, asI_int, asS_str, items_lst, items_tup, valS_v, valB_v, valB_own, seqD_lst, seqD_tup, seqD_cell0, lstD_lst, lstD_cell0, cellL_0, own_lst, nonB_non, nonB_bl, nonB_int, nonB_str, nonB_lst, nonB_tup, nonB_cell, nonB_obj, bools_nil, bools_cons, ints_nil, ints_cons, eqD_ii, eqD_bb, eqD_ss, eqD_nn, eqD_ni, eqD_in, eqD_nb, eqD_bn, eqD_ns, eqD_sn, eqD_is, eqD_si, eqD_bs, eqD_sb, tag_non, tag_bl, tag_int, tag_str, tag_lst, tag_tup, tag_obj, bindP_nm, bindP_tp, bindPs_nil, bindPs_cons, EG.runs, EG.run, ev, evs, evo, evr, mkE, mkL, failL, bopF, copF, bltF, lbltF, env0, wipeE, isiAny, isi1, frzS, Cell.toD, atI_nn, setAt_nn, wp_inSg, List.map_cons, List.map_nil, List.length_cons, List.length_nil, List.append_nil, List.nil_append, List.cons_append, List.replicate, List.getElem?_cons_zero, List.getElem?_cons_succ, List.set_cons_zero, List.set_cons_succ, Int.reduceNeg, Int.reducePow, nA10, nA2, le_big, Nat.reducePow, Nat.zero_add, Option.map_some, Option.bind_some, Int.reduceLE, Int.reduceToNat, Int.reduceLT, Nat.reduceLT, Nat.reduceAdd, Nat.reduceSub, true_and, and_true, decide_true, decide_false, List.length_append, List.length_map, Nat.reduceLeDiff, Nat.reduceEqDiff, Bool.not_true, Bool.not_false, decide_eq_true_eq, reduceCtorEq, Option.some.injEq, id_eq, List.all_cons, List.all_nil, List.any_cons, List.any_nil, Bool.and_true, Bool.true_and, Bool.and_false, Bool.false_and, Bool.or_true, Bool.or_false, kG, kConsts]
      refine read_odd (by unfold odds; exact List.mem_cons_self ..) (fun z => nomatch z) ?_
      simp only [↓br_true, ↓br_false, ↓op_some, ↓wp_bind, ↓wp_pure, ↓wp_fail, ↓wp_opt, ↓wp_guard, ↓wp_noX, ↓wp_v, ↓wp_vB, ↓wp_c, ↓wp_op2, ↓wp_op2L, ↓wp_t, ↓wp_tru, ↓wp_chain, ↓wp_andT, ↓wp_orT, ↓wp_notT, ↓wp_andV, ↓wp_orV, ↓wp_notV, ↓wp_if, ↓wp_nil, ↓wp_cons, ↓wp_tup, ↓wp_lst, ↓wp_D, ↓wp_cb, ↓wp_call, ↓wp_isi, ↓wp_neg, ↓wp_sl, ↓wp_noP, ↓wp_P, ↓wp_yes, ↓wp_items, ↓wp_signs, ↓wp_comp, ↓ws_seq, ↓thn_nx, ↓thn_rt, ↓thn_br, ↓thn_ct, ↓thn_exc, ↓ws_skip, ↓ws_break, ↓ws_cont, ↓ws_retN, ↓ws_set, ↓ws_own, ↓ws_ret, ↓ws_drop, ↓ws_if, ↓ws_asg, ↓ws_par, ↓ws_setC, ↓wp_newc, ↓ws_app, ↓ws_ext, ↓ws_setI, ↓ws_frz, ↓ws_for, ↓wl_nil, ↓wl_cons, ↓wf_run, ↓retS_nx, ↓retS_rt, ↓lpS_nx, ↓lpS_ct, ↓lpS_br, ↓lpS_rt, ↓turn_nx, ↓turn_ct, ↓turn_br, ↓turn_rt, ↓wp_addI, ↓wp_addS, ↓wp_subI, ↓wp_mulI, ↓wp_divI, ↓wp_modI, ↓wp_powI, ↓wp_cmpI, ↓wp_eq, ↓wp_ne, ↓wp_negI, ↓wp_seqE, ↓wp_lstE, ↓wp_ixL, ↓wp_ixT, ↓wp_ixC, ↓wp_ixS, ↓wp_lenS, ↓wp_lenL, ↓wp_lenT, ↓wp_lenC, ↓wp_absI, ↓wp_intI, ↓wp_intB, ↓wp_intS, ↓wp_strI, ↓wp_boolI, ↓wp_boolB, ↓wp_all, ↓wp_any, ↓wp_sum, ↓wp_max2, ↓wp_min2, ↓wp_list, ↓wp_tuple, ↓wp_sorted, ↓wp_slS, ↓wp_slT, ↓wp_slC, ↓wp_slL, ↓wp_range1, ↓wp_range2, ↓wp_enum, ↓wp_zip, ↓wp_cat, ↓wp_rep, ↓wp_inSg, ↓wp_notInSg, ↓wp_inL, ↓wp_inT, ↓wp_notIn, ↓wp_isN, ↓wp_notN, tt1, tt2, tt3, tt4, tt5, tt6, tu1, tu2, tu3, tu4, tu5, tu6, tu7, tu8, tu9, tu10, tu11, tu12, tu13, tu14, tu15, tu16, tu17, tu18, tu19, tu20, tu21, tu22, tu23, tu24, asB_bl, truD_non, truD_bl, truD_int, truD_str, truD_lst, truD_tup, asI_int, asS_str, items_lst, items_tup, valS_v, valB_v, valB_own, seqD_lst, seqD_tup, seqD_cell0, lstD_lst, lstD_cell0, cellL_0, own_lst, nonB_non, nonB_bl, nonB_int, nonB_str, nonB_lst, nonB_tup, nonB_cell, nonB_obj, bools_nil, bools_cons, ints_nil, ints_cons, eqD_ii, eqD_bb, eqD_ss, eqD_nn, eqD_ni, eqD_in, eqD_nb, eqD_bn, eqD_ns, eqD_sn, eqD_is, eqD_si, eqD_bs, eqD_sb, tag_non, tag_bl, tag_int, tag_str, tag_lst, tag_tup, tag_obj, bindP_nm, bindP_tp, bindPs_nil, bindPs_cons, EG.runs, EG.run, ev, evs, evo, evr, mkE, mkL, failL, bopF, copF, bltF, lbltF, env0, wipeE, isiAny, isi1, frzS, Cell.toD, atI_nn, setAt_nn, wp_inSg, List.map_cons, List.map_nil, List.length_cons, List.length_nil, List.append_nil, List.nil_append, List.cons_append, List.replicate, List.getElem?_cons_zero, List.getElem?_cons_succ, List.set_cons_zero, List.set_cons_succ, Int.reduceNeg, Int.reducePow, nA10, nA2, le_big, Nat.reducePow, Nat.zero_add, Option.map_some, Option.bind_some, Int.reduceLE, Int.reduceToNat, Int.reduceLT, Nat.reduceLT, Nat.reduceAdd, Nat.reduceSub, true_and, and_true, decide_true, decide_false, List.length_append, List.length_map, Nat.reduceLeDiff, Nat.reduceEqDiff, Bool.not_true, Bool.not_false, decide_eq_true_eq, reduceCtorEq, Option.some.injEq, id_eq, List.all_cons, List.all_nil, List.any_cons, List.any_nil, Bool.and_true, Bool.true_and, Bool.and_false, Bool.false_and, Bool.or_true, Bool.or_false, kG, kConsts]
      refine br_cases (fun e => ?_) (fun e => ?_)
      · simp only [↓br_true, ↓br_false, ↓op_some, ↓wp_bind, ↓wp_pure, ↓wp_fail, ↓wp_opt, ↓wp_guard, ↓wp_noX, ↓wp_v, ↓wp_vB, ↓wp_c, ↓wp_op2, ↓wp_op2L, ↓wp_t, ↓wp_tru, ↓wp_chain, ↓wp_andT, ↓wp_orT, ↓wp_notT, ↓wp_andV, ↓wp_orV, ↓wp_notV, ↓wp_if, ↓wp_nil, ↓wp_cons, ↓wp_tup, ↓wp_lst, ↓wp_D, ↓wp_cb, ↓wp_call, ↓wp_isi, ↓wp_neg, ↓wp_sl, ↓wp_noP, ↓wp_P, ↓wp_yes, ↓wp_items, ↓wp_signs, ↓wp_comp, ↓ws_seq, ↓thn_nx, ↓thn_rt, ↓thn_br, ↓thn_ct, ↓thn_exc, ↓ws_skip, ↓ws_break, ↓ws_cont, ↓ws_retN, ↓ws_set, ↓ws_own, ↓ws_ret, ↓ws_drop, ↓ws_if, ↓ws_asg, ↓ws_par, ↓ws_setC, ↓wp_newc, ↓ws_app, ↓ws_ext, ↓ws_setI, ↓ws_frz, ↓ws_for, ↓wl_nil, ↓wl_cons, ↓wf_run, ↓retS_nx, ↓retS_rt, ↓lpS_nx, ↓lpS_ct, ↓lpS_br, ↓lpS_rt, ↓turn_nx, ↓turn_ct, ↓turn_br, ↓turn_rt, ↓wp_addI, ↓wp_addS, ↓wp_subI, ↓wp_mulI, ↓wp_divI, ↓wp_modI, ↓wp_powI, ↓wp_cmpI, ↓wp_eq, ↓wp_ne, ↓wp_negI, ↓wp_seqE, ↓wp_lstE, ↓wp_ixL, ↓wp_ixT, ↓wp_ixC, ↓wp_ixS, ↓wp_lenS, ↓wp_lenL, ↓wp_lenT, ↓wp_lenC, ↓wp_absI, ↓wp_intI, ↓wp_intB, ↓wp_intS, ↓wp_strI, ↓wp_boolI, ↓wp_boolB, ↓wp_all, ↓wp_any, ↓wp_sum, ↓wp_max2, ↓wp_min2, ↓wp_list, ↓wp_tuple, ↓wp_sorted, ↓wp_slS, ↓wp_slT, ↓wp_slC, ↓wp_slL, ↓wp_range1, ↓wp_range2, ↓wp_enum, ↓wp_zip, ↓wp_cat, ↓wp_rep, ↓wp_inSg, ↓wp_notInSg, ↓wp_inL, ↓wp_inT, ↓wp_notIn, ↓wp_isN, ↓wp_notN, tt1, tt2, tt3, tt4, tt5, tt6, tu1, tu2, tu3, tu4, tu5, tu6, tu7, tu8, tu9, tu10, tu11, tu12, tu13, tu14, tu15, tu16, tu17, tu18, tu19, tu20, tu21, tu22, tu23, tu24, asB_bl, truD_non, truD_bl, truD_int, truD_str, truD_lst, truD_tup, asI_int, asS_str, items_lst, items_tup, valS_v, valB_v, valB_own, seqD_lst, seqD_tup, seqD_cell0, lstD_lst, lstD_cell0, cellL_0, own_lst, nonB_non, nonB_bl, nonB_int, nonB_str, nonB_lst, nonB_tup, nonB_cell, nonB_obj, bools_nil, bools_cons, ints_nil, ints_cons, eqD_ii, eqD_bb, eqD_ss, eqD_nn, eqD_ni, eqD_in, eqD_nb, eqD_bn, eqD_ns, eqD_sn, eqD_is, eqD_si, eqD_bs, eqD_sb, tag_non, tag_bl, tag_int, tag_str, tag_lst, tag_tup, tag_obj, bindP_nm, bindP_tp, bindPs_nil, bindPs_cons, EG.runs, EG.run, ev, evs, evo, evr, mkE, mkL, failL, bopF, copF, bltF, lbltF, env0, wipeE, isiAny, isi1, frzS, Cell.toD, atI_nn, setAt_nn, wp_inSg, List.map_cons, List.map_nil, List.length_cons, List.length_nil, List.append_nil, List.nil_append, List.cons_append, List.replicate, List.getElem?_cons_zero, List.getElem?_cons_succ, List.set_cons_zero, List.set_cons_succ, Int.reduceNeg, Int.reducePow, nA10, nA2, le_big, Nat.reducePow, Nat.zero_add, Option.map_some, Option.bind_some, Int.reduceLE, Int.reduceToNat, Int.reduceLT, Nat.reduceLT, Nat.reduceAdd, Nat.reduceSub, true_and, and_true, decide_true, decide_false, List.length_append, List.length_map, Nat.reduceLeDiff, Nat.reduceEqDiff, Bool.not_true, Bool.not_false, decide_eq_true_eq, reduceCtorEq, Option.some.injEq, id_eq, List.all_cons, List.all_nil, List.any_cons, List.any_nil, Bool.and_true, Bool.true_and, Bool.and_false, Bool.false_and, Bool.or_true, Bool.or_false, kG, kConsts, good_int e]
        rw [show amt w = .int (val w) by unfold amt; rw [e]]
        refine ⟨by omega, same_spec (F := F_law_same) (G := fun n => kG [⟨"_law_same", 2, F_law_same n, n + 0, []⟩]) (lv := fun n => n + 0) (fun _ => rfl) (fun _ => rfl) 6 _ _ _ _ rfl ?_⟩
        simp only [↓br_true, ↓br_false, ↓op_some, ↓wp_bind, ↓wp_pure, ↓wp_fail, ↓wp_opt, ↓wp_guard, ↓wp_noX, ↓wp_v, ↓wp_vB, ↓wp_c, ↓wp_op2, ↓wp_op2L, ↓wp_t, ↓wp_tru, ↓wp_chain, ↓wp_andT, ↓wp_orT, ↓wp_notT, ↓wp_andV, ↓wp_orV, ↓wp_notV, ↓wp_if, ↓wp_nil, ↓wp_cons, ↓wp_tup, ↓wp_lst, ↓wp_D, ↓wp_cb, ↓wp_call, ↓wp_isi, ↓wp_neg, ↓wp_sl, ↓wp_noP, ↓wp_P, ↓wp_yes, ↓wp_items, ↓wp_signs, ↓wp_comp, ↓ws_seq, ↓thn_nx, ↓thn_rt, ↓thn_br, ↓thn_ct, ↓thn_exc, ↓ws_skip, ↓ws_break, ↓ws_cont, ↓ws_retN, ↓ws_set, ↓ws_own, ↓ws_ret, ↓ws_drop, ↓ws_if, ↓ws_asg, ↓ws_par, ↓ws_setC, ↓wp_newc, ↓ws_app, ↓ws_ext, ↓ws_setI, ↓ws_frz, ↓ws_for, ↓wl_nil, ↓wl_cons, ↓wf_run, ↓retS_nx, ↓retS_rt, ↓lpS_nx, ↓lpS_ct, ↓lpS_br, ↓lpS_rt, ↓turn_nx, ↓turn_ct, ↓turn_br, ↓turn_rt, ↓wp_addI, ↓wp_addS, ↓wp_subI, ↓wp_mulI, ↓wp_divI, ↓wp_modI, ↓wp_powI, ↓wp_cmpI, ↓wp_eq, ↓wp_ne, ↓wp_negI, ↓wp_seqE, ↓wp_lstE, ↓wp_ixL, ↓wp_ixT, ↓wp_ixC, ↓wp_ixS, ↓wp_lenS, ↓wp_lenL, ↓wp_lenT, ↓wp_lenC, ↓wp_absI, ↓wp_intI, ↓wp_intB, ↓wp_intS, ↓wp_strI, ↓wp_boolI, ↓wp_boolB, ↓wp_all, ↓wp_any, ↓wp_sum, ↓wp_max2, ↓wp_min2, ↓wp_list, ↓wp_tuple, ↓wp_sorted, ↓wp_slS, ↓wp_slT, ↓wp_slC, ↓wp_slL, ↓wp_range1, ↓wp_range2, ↓wp_enum, ↓wp_zip, ↓wp_cat, ↓wp_rep, ↓wp_inSg, ↓wp_notInSg, ↓wp_inL, ↓wp_inT, ↓wp_notIn, ↓wp_isN, ↓wp_notN, tt1, tt2, tt3, tt4, tt5, tt6, tu1, tu2, tu3, tu4, tu5, tu6, tu7, tu8, tu9, tu10, tu11, tu12, tu13, tu14, tu15, tu16, tu17, tu18, tu19, tu20, tu21, tu22, tu23, tu24, asB_bl, truD_non, truD_bl, truD_int, truD_str, truD_lst, truD_tup, asI_int, asS_str, items_lst, items_tup, valS_v, valB_v, valB_own, seqD_lst, seqD_tup, seqD_cell0, lstD_lst, lstD_cell0, cellL_0, own_lst, nonB_non, nonB_bl, nonB_int, nonB_str, nonB_lst, nonB_tup, nonB_cell, nonB_obj, bools_nil, bools_cons, ints_nil, ints_cons, eqD_ii, eqD_bb, eqD_ss, eqD_nn, eqD_ni, eqD_in, eqD_nb, eqD_bn, eqD_ns, eqD_sn, eqD_is, eqD_si, eqD_bs, eqD_sb, tag_non, tag_bl, tag_int, tag_str, tag_lst, tag_tup, tag_obj, bindP_nm, bindP_tp, bindPs_nil, bindPs_cons, EG.runs, EG.run, ev, evs, evo, evr, mkE, mkL, failL, bopF, copF, bltF, lbltF, env0, wipeE, isiAny, isi1, frzS, Cell.toD, atI_nn, setAt_nn, wp_inSg, List.map_cons, List.map_nil, List.length_cons, List.length_nil, List.append_nil, List.nil_append, List.cons_append, List.replicate, List.getElem?_cons_zero, List.getElem?_cons_succ, List.set_cons_zero, List.set_cons_succ, Int.reduceNeg, Int.reducePow, nA10, nA2, le_big, Nat.reducePow, Nat.zero_add, Option.map_some, Option.bind_some, Int.reduceLE, Int.reduceToNat, Int.reduceLT, Nat.reduceLT, Nat.reduceAdd, Nat.reduceSub, true_and, and_true, decide_true, decide_false, List.length_append, List.length_map, Nat.reduceLeDiff, Nat.reduceEqDiff, Bool.not_true, Bool.not_false, decide_eq_true_eq, reduceCtorEq, Option.some.injEq, id_eq, List.all_cons, List.all_nil, List.any_cons, List.any_nil, Bool.and_true, Bool.true_and, Bool.and_false, Bool.false_and, Bool.or_true, Bool.or_false, kG, kConsts]
        exact ⟨⟨_, _, _, _, _, _, _, rfl⟩, b, hb, rfl⟩
      · simp only [↓br_true, ↓br_false, ↓op_some, ↓wp_bind, ↓wp_pure, ↓wp_fail, ↓wp_opt, ↓wp_guard, ↓wp_noX, ↓wp_v, ↓wp_vB, ↓wp_c, ↓wp_op2, ↓wp_op2L, ↓wp_t, ↓wp_tru, ↓wp_chain, ↓wp_andT, ↓wp_orT, ↓wp_notT, ↓wp_andV, ↓wp_orV, ↓wp_notV, ↓wp_if, ↓wp_nil, ↓wp_cons, ↓wp_tup, ↓wp_lst, ↓wp_D, ↓wp_cb, ↓wp_call, ↓wp_isi, ↓wp_neg, ↓wp_sl, ↓wp_noP, ↓wp_P, ↓wp_yes, ↓wp_items, ↓wp_signs, ↓wp_comp, ↓ws_seq, ↓thn_nx, ↓thn_rt, ↓thn_br, ↓thn_ct, ↓thn_exc, ↓ws_skip, ↓ws_break, ↓ws_cont, ↓ws_retN, ↓ws_set, ↓ws_own, ↓ws_ret, ↓ws_drop, ↓ws_if, ↓ws_asg, ↓ws_par, ↓ws_setC, ↓wp_newc, ↓ws_app, ↓ws_ext, ↓ws_setI, ↓ws_frz, ↓ws_for, ↓wl_nil, ↓wl_cons, ↓wf_run, ↓retS_nx, ↓retS_rt, ↓lpS_nx, ↓lpS_ct, ↓lpS_br, ↓lpS_rt, ↓turn_nx, ↓turn_ct, ↓turn_br, ↓turn_rt, ↓wp_addI, ↓wp_addS, ↓wp_subI, ↓wp_mulI, ↓wp_divI, ↓wp_modI, ↓wp_powI, ↓wp_cmpI, ↓wp_eq, ↓wp_ne, ↓wp_negI, ↓wp_seqE, ↓wp_lstE, ↓wp_ixL, ↓wp_ixT, ↓wp_ixC, ↓wp_ixS, ↓wp_lenS, ↓wp_lenL, ↓wp_lenT, ↓wp_lenC, ↓wp_absI, ↓wp_intI, ↓wp_intB, ↓wp_intS, ↓wp_strI, ↓wp_boolI, ↓wp_boolB, ↓wp_all, ↓wp_any, ↓wp_sum, ↓wp_max2, ↓wp_min2, ↓wp_list, ↓wp_tuple, ↓wp_sorted, ↓wp_slS, ↓wp_slT, ↓wp_slC, ↓wp_slL, ↓wp_range1, ↓wp_range2, ↓wp_enum, ↓wp_zip, ↓wp_cat, ↓wp_rep, ↓wp_inSg, ↓wp_notInSg, ↓wp_inL, ↓wp_inT, ↓wp_notIn, ↓wp_isN, ↓wp_notN, tt1, tt2, tt3, tt4, tt5, tt6, tu1, tu2, tu3, tu4, tu5, tu6, tu7, tu8, tu9, tu10, tu11, tu12, tu13, tu14, tu15, tu16, tu17, tu18, tu19, tu20, tu21, tu22, tu23, tu24, asB_bl, truD_non, truD_bl, truD_int, truD_str, truD_lst, truD_tup, asI_int, asS_str, items_lst, items_tup, valS_v, valB_v, valB_own, seqD_lst, seqD_tup, seqD_cell0, lstD_lst, lstD_cell0, cellL_0, own_lst, nonB_non, nonB_bl, nonB_int, nonB_str, nonB_lst, nonB_tup, nonB_cell, nonB_obj, bools_nil, bools_cons, ints_nil, ints_cons, eqD_ii, eqD_bb, eqD_ss, eqD_nn, eqD_ni, eqD_in, eqD_nb, eqD_bn, eqD_ns, eqD_sn, eqD_is, eqD_si, eqD_bs, eqD_sb, tag_non, tag_bl, tag_int, tag_str, tag_lst, tag_tup, tag_obj, bindP_nm, bindP_tp, bindPs_nil, bindPs_cons, EG.runs, EG.run, ev, evs, evo, evr, mkE, mkL, failL, bopF, copF, bltF, lbltF, env0, wipeE, isiAny, isi1, frzS, Cell.toD, atI_nn, setAt_nn, wp_inSg, List.map_cons, List.map_nil, List.length_cons, List.length_nil, List.append_nil, List.nil_append, List.cons_append, List.replicate, List.getElem?_cons_zero, List.getElem?_cons_succ, List.set_cons_zero, List.set_cons_succ, Int.reduceNeg, Int.reducePow, nA10, nA2, le_big, Nat.reducePow, Nat.zero_add, Option.map_some, Option.bind_some, Int.reduceLE, Int.reduceToNat, Int.reduceLT, Nat.reduceLT, Nat.reduceAdd, Nat.reduceSub, true_and, and_true, decide_true, decide_false, List.length_append, List.length_map, Nat.reduceLeDiff, Nat.reduceEqDiff, Bool.not_true, Bool.not_false, decide_eq_true_eq, reduceCtorEq, Option.some.injEq, id_eq, List.all_cons, List.all_nil, List.any_cons, List.any_nil, Bool.and_true, Bool.true_and, Bool.and_false, Bool.false_and, Bool.or_true, Bool.or_false, kG, kConsts]
        rw [show amt w = .non by unfold amt; rw [e]]
        refine same_spec (F := F_law_same) (G := fun n => kG [⟨"_law_same", 2, F_law_same n, n + 0, []⟩]) (lv := fun n => n + 0) (fun _ => rfl) (fun _ => rfl) 6 _ _ _ _ rfl ?_
        simp only [↓br_true, ↓br_false, ↓op_some, ↓wp_bind, ↓wp_pure, ↓wp_fail, ↓wp_opt, ↓wp_guard, ↓wp_noX, ↓wp_v, ↓wp_vB, ↓wp_c, ↓wp_op2, ↓wp_op2L, ↓wp_t, ↓wp_tru, ↓wp_chain, ↓wp_andT, ↓wp_orT, ↓wp_notT, ↓wp_andV, ↓wp_orV, ↓wp_notV, ↓wp_if, ↓wp_nil, ↓wp_cons, ↓wp_tup, ↓wp_lst, ↓wp_D, ↓wp_cb, ↓wp_call, ↓wp_isi, ↓wp_neg, ↓wp_sl, ↓wp_noP, ↓wp_P, ↓wp_yes, ↓wp_items, ↓wp_signs, ↓wp_comp, ↓ws_seq, ↓thn_nx, ↓thn_rt, ↓thn_br, ↓thn_ct, ↓thn_exc, ↓ws_skip, ↓ws_break, ↓ws_cont, ↓ws_retN, ↓ws_set, ↓ws_own, ↓ws_ret, ↓ws_drop, ↓ws_if, ↓ws_asg, ↓ws_par, ↓ws_setC, ↓wp_newc, ↓ws_app, ↓ws_ext, ↓ws_setI, ↓ws_frz, ↓ws_for, ↓wl_nil, ↓wl_cons, ↓wf_run, ↓retS_nx, ↓retS_rt, ↓lpS_nx, ↓lpS_ct, ↓lpS_br, ↓lpS_rt, ↓turn_nx, ↓turn_ct, ↓turn_br, ↓turn_rt, ↓wp_addI, ↓wp_addS, ↓wp_subI, ↓wp_mulI, ↓wp_divI, ↓wp_modI, ↓wp_powI, ↓wp_cmpI, ↓wp_eq, ↓wp_ne, ↓wp_negI, ↓wp_seqE, ↓wp_lstE, ↓wp_ixL, ↓wp_ixT, ↓wp_ixC, ↓wp_ixS, ↓wp_lenS, ↓wp_lenL, ↓wp_lenT, ↓wp_lenC, ↓wp_absI, ↓wp_intI, ↓wp_intB, ↓wp_intS, ↓wp_strI, ↓wp_boolI, ↓wp_boolB, ↓wp_all, ↓wp_any, ↓wp_sum, ↓wp_max2, ↓wp_min2, ↓wp_list, ↓wp_tuple, ↓wp_sorted, ↓wp_slS, ↓wp_slT, ↓wp_slC, ↓wp_slL, ↓wp_range1, ↓wp_range2, ↓wp_enum, ↓wp_zip, ↓wp_cat, ↓wp_rep, ↓wp_inSg, ↓wp_notInSg, ↓wp_inL, ↓wp_inT, ↓wp_notIn, ↓wp_isN, ↓wp_notN, tt1, tt2, tt3, tt4, tt5, tt6, tu1, tu2, tu3, tu4, tu5, tu6, tu7, tu8, tu9, tu10, tu11, tu12, tu13, tu14, tu15, tu16, tu17, tu18, tu19, tu20, tu21, tu22, tu23, tu24, asB_bl, truD_non, truD_bl, truD_int, truD_str, truD_lst, truD_tup, asI_int, asS_str, items_lst, items_tup, valS_v, valB_v, valB_own, seqD_lst, seqD_tup, seqD_cell0, lstD_lst, lstD_cell0, cellL_0, own_lst, nonB_non, nonB_bl, nonB_int, nonB_str, nonB_lst, nonB_tup, nonB_cell, nonB_obj, bools_nil, bools_cons, ints_nil, ints_cons, eqD_ii, eqD_bb, eqD_ss, eqD_nn, eqD_ni, eqD_in, eqD_nb, eqD_bn, eqD_ns, eqD_sn, eqD_is, eqD_si, eqD_bs, eqD_sb, tag_non, tag_bl, tag_int, tag_str, tag_lst, tag_tup, tag_obj, bindP_nm, bindP_tp, bindPs_nil, bindPs_cons, EG.runs, EG.run, ev, evs, evo, evr, mkE, mkL, failL, bopF, copF, bltF, lbltF, env0, wipeE, isiAny, isi1, frzS, Cell.toD, atI_nn, setAt_nn, wp_inSg, List.map_cons, List.map_nil, List.length_cons, List.length_nil, List.append_nil, List.nil_append, List.cons_append, List.replicate, List.getElem?_cons_zero, List.getElem?_cons_succ, List.set_cons_zero, List.set_cons_succ, Int.reduceNeg, Int.reducePow, nA10, nA2, le_big, Nat.reducePow, Nat.zero_add, Option.map_some, Option.bind_some, Int.reduceLE, Int.reduceToNat, Int.reduceLT, Nat.reduceLT, Nat.reduceAdd, Nat.reduceSub, true_and, and_true, decide_true, decide_false, List.length_append, List.length_map, Nat.reduceLeDiff, Nat.reduceEqDiff, Bool.not_true, Bool.not_false, decide_eq_true_eq, reduceCtorEq, Option.some.injEq, id_eq, List.all_cons, List.all_nil, List.any_cons, List.any_nil, Bool.and_true, Bool.true_and, Bool.and_false, Bool.false_and, Bool.or_true, Bool.or_false, kG, kConsts]
        exact ⟨⟨_, _, _, _, _, _, _, rfl⟩, b, hb, rfl⟩
    · simp only [↓br_true, ↓br_false, ↓op_some, ↓wp_bind, ↓wp_pure, ↓wp_fail, ↓wp_opt, ↓wp_guard, ↓wp_noX, ↓wp_v, ↓wp_vB, ↓wp_c, ↓wp_op2, ↓wp_op2L, ↓wp_t, ↓wp_tru, ↓wp_chain, ↓wp_andT, ↓wp_orT, ↓wp_notT, ↓wp_andV, ↓wp_orV, ↓wp_notV, ↓wp_if, ↓wp_nil, ↓wp_cons, ↓wp_tup, ↓wp_lst, ↓wp_D, ↓wp_cb, ↓wp_call, ↓wp_isi, ↓wp_neg, ↓wp_sl, ↓wp_noP, ↓wp_P, ↓wp_yes, ↓wp_items, ↓wp_signs, ↓wp_comp, ↓ws_seq, ↓thn_nx, ↓thn_rt, ↓thn_br, ↓thn_ct, ↓thn_exc, ↓ws_skip, ↓ws_break, ↓ws_cont, ↓ws_retN, ↓ws_set, ↓ws_own, ↓ws_ret, ↓ws_drop, ↓ws_if, ↓ws_asg, ↓ws_par, ↓ws_setC, ↓wp_newc, ↓ws_app, ↓ws_ext, ↓ws_setI, ↓ws_frz, ↓ws_for, ↓wl_nil, ↓wl_cons, ↓wf_run, ↓retS_nx, ↓retS_rt, ↓lpS_nx, ↓lpS_ct, ↓lpS_br, ↓lpS_rt, ↓turn_nx, ↓turn_ct, ↓turn_br, ↓turn_rt, ↓wp_addI, ↓wp_addS, ↓wp_subI, ↓wp_mulI, ↓wp_divI, ↓wp_modI, ↓wp_powI, ↓wp_cmpI, ↓wp_eq, ↓wp_ne, ↓wp_negI, ↓wp_seqE, ↓wp_lstE, ↓wp_ixL, ↓wp_ixT, ↓wp_ixC, ↓wp_ixS, ↓wp_lenS, ↓wp_lenL, ↓wp_lenT, ↓wp_lenC, ↓wp_absI, ↓wp_intI, ↓wp_intB, ↓wp_intS, ↓wp_strI, ↓wp_boolI, ↓wp_boolB, ↓wp_all, ↓wp_any, ↓wp_sum, ↓wp_max2, ↓wp_min2, ↓wp_list, ↓wp_tuple, ↓wp_sorted, ↓wp_slS, ↓wp_slT, ↓wp_slC, ↓wp_slL, ↓wp_range1, ↓wp_range2, ↓wp_enum, ↓wp_zip, ↓wp_cat, ↓wp_rep, ↓wp_inSg, ↓wp_notInSg, ↓wp_inL, ↓wp_inT, ↓wp_notIn, ↓wp_isN, ↓wp_notN, tt1, tt2, tt3, tt4, tt5, tt6, tu1, tu2, tu3, tu4, tu5, tu6, tu7, tu8, tu9, tu10, tu11, tu12, tu13, tu14, tu15, tu16, tu17, tu18, tu19, tu20, tu21, tu22, tu23, tu24, asB_bl, truD_non, truD_bl, truD_int, truD_str, truD_lst, truD_tup, asI_int, asS_str, items_lst, items_tup, valS_v, valB_v, valB_own, seqD_lst, seqD_tup, seqD_cell0, lstD_lst, lstD_cell0, cellL_0, own_lst, nonB_non, nonB_bl, nonB_int, nonB_str, nonB_lst, nonB_tup, nonB_cell, nonB_obj, bools_nil, bools_cons, ints_nil, ints_cons, eqD_ii, eqD_bb, eqD_ss, eqD_nn, eqD_ni, eqD_in, eqD_nb, eqD_bn, eqD_ns, eqD_sn, eqD_is, eqD_si, eqD_bs, eqD_sb, tag_non, tag_bl, tag_int, tag_str, tag_lst, tag_tup, tag_obj, bindP_nm, bindP_tp, bindPs_nil, bindPs_cons, EG.runs, EG.run, ev, evs, evo, evr, mkE, mkL, failL, bopF, copF, bltF, lbltF, env0, wipeE, isiAny, isi1, frzS, Cell.toD, atI_nn, setAt_nn, wp_inSg, List.map_cons, List.map_nil, List.length_cons, List.length_nil, List.append_nil, List.nil_append, List.cons_append, List.replicate, List.getElem?_cons_zero, List.getElem?_cons_succ, List.set_cons_zero, List.set_cons_succ, Int.reduceNeg, Int.reducePow, nA10, nA2, le_big, Nat.reducePow, Nat.zero_add, Option.map_some, Option.bind_some, Int.reduceLE, Int.reduceToNat, Int.reduceLT, Nat.reduceLT, Nat.reduceAdd, Nat.reduceSub, true_and, and_true, decide_true, decide_false, List.length_append, List.length_map, Nat.reduceLeDiff, Nat.reduceEqDiff, Bool.not_true, Bool.not_false, decide_eq_true_eq, reduceCtorEq, Option.some.injEq, id_eq, List.all_cons, List.all_nil, List.any_cons, List.any_nil, Bool.and_true, Bool.true_and, Bool.and_false, Bool.false_and, Bool.or_true, Bool.or_false, kG, kConsts, h8]
      refine read_odd hod h9 ?_
      simp only [↓br_true, ↓br_false, ↓op_some, ↓wp_bind, ↓wp_pure, ↓wp_fail, ↓wp_opt, ↓wp_guard, ↓wp_noX, ↓wp_v, ↓wp_vB, ↓wp_c, ↓wp_op2, ↓wp_op2L, ↓wp_t, ↓wp_tru, ↓wp_chain, ↓wp_andT, ↓wp_orT, ↓wp_notT, ↓wp_andV, ↓wp_orV, ↓wp_notV, ↓wp_if, ↓wp_nil, ↓wp_cons, ↓wp_tup, ↓wp_lst, ↓wp_D, ↓wp_cb, ↓wp_call, ↓wp_isi, ↓wp_neg, ↓wp_sl, ↓wp_noP, ↓wp_P, ↓wp_yes, ↓wp_items, ↓wp_signs, ↓wp_comp, ↓ws_seq, ↓thn_nx, ↓thn_rt, ↓thn_br, ↓thn_ct, ↓thn_exc, ↓ws_skip, ↓ws_break, ↓ws_cont, ↓ws_retN, ↓ws_set, ↓ws_own, ↓ws_ret, ↓ws_drop, ↓ws_if, ↓ws_asg, ↓ws_par, ↓ws_setC, ↓wp_newc, ↓ws_app, ↓ws_ext, ↓ws_setI, ↓ws_frz, ↓ws_for, ↓wl_nil, ↓wl_cons, ↓wf_run, ↓retS_nx, ↓retS_rt, ↓lpS_nx, ↓lpS_ct, ↓lpS_br, ↓lpS_rt, ↓turn_nx, ↓turn_ct, ↓turn_br, ↓turn_rt, ↓wp_addI, ↓wp_addS, ↓wp_subI, ↓wp_mulI, ↓wp_divI, ↓wp_modI, ↓wp_powI, ↓wp_cmpI, ↓wp_eq, ↓wp_ne, ↓wp_negI, ↓wp_seqE, ↓wp_lstE, ↓wp_ixL, ↓wp_ixT, ↓wp_ixC, ↓wp_ixS, ↓wp_lenS, ↓wp_lenL, ↓wp_lenT, ↓wp_lenC, ↓wp_absI, ↓wp_intI, ↓wp_intB, ↓wp_intS, ↓wp_strI, ↓wp_boolI, ↓wp_boolB, ↓wp_all, ↓wp_any, ↓wp_sum, ↓wp_max2, ↓wp_min2, ↓wp_list, ↓wp_tuple, ↓wp_sorted, ↓wp_slS, ↓wp_slT, ↓wp_slC, ↓wp_slL, ↓wp_range1, ↓wp_range2, ↓wp_enum, ↓wp_zip, ↓wp_cat, ↓wp_rep, ↓wp_inSg, ↓wp_notInSg, ↓wp_inL, ↓wp_inT, ↓wp_notIn, ↓wp_isN, ↓wp_notN, tt1, tt2, tt3, tt4, tt5, tt6, tu1, tu2, tu3, tu4, tu5, tu6, tu7, tu8, tu9, tu10, tu11, tu12, tu13, tu14, tu15, tu16, tu17, tu18, tu19, tu20, tu21, tu22, tu23, tu24, asB_bl, truD_non, truD_bl, truD_int, truD_str, truD_lst, truD_tup, asI_int, asS_str, items_lst, items_tup, valS_v, valB_v, valB_own, seqD_lst, seqD_tup, seqD_cell0, lstD_lst, lstD_cell0, cellL_0, own_lst, nonB_non, nonB_bl, nonB_int, nonB_str, nonB_lst, nonB_tup, nonB_cell, nonB_obj, bools_nil, bools_cons, ints_nil, ints_cons, eqD_ii, eqD_bb, eqD_ss, eqD_nn, eqD_ni, eqD_in, eqD_nb, eqD_bn, eqD_ns, eqD_sn, eqD_is, eqD_si, eqD_bs, eqD_sb, tag_non, tag_bl, tag_int, tag_str, tag_lst, tag_tup, tag_obj, bindP_nm, bindP_tp, bindPs_nil, bindPs_cons, EG.runs, EG.run, ev, evs, evo, evr, mkE, mkL, failL, bopF, copF, bltF, lbltF, env0, wipeE, isiAny, isi1, frzS, Cell.toD, atI_nn, setAt_nn, wp_inSg, List.map_cons, List.map_nil, List.length_cons, List.length_nil, List.append_nil, List.nil_append, List.cons_append, List.replicate, List.getElem?_cons_zero, List.getElem?_cons_succ, List.set_cons_zero, List.set_cons_succ, Int.reduceNeg, Int.reducePow, nA10, nA2, le_big, Nat.reducePow, Nat.zero_add, Option.map_some, Option.bind_some, Int.reduceLE, Int.reduceToNat, Int.reduceLT, Nat.reduceLT, Nat.reduceAdd, Nat.reduceSub, true_and, and_true, decide_true, decide_false, List.length_append, List.length_map, Nat.reduceLeDiff, Nat.reduceEqDiff, Bool.not_true, Bool.not_false, decide_eq_true_eq, reduceCtorEq, Option.some.injEq, id_eq, List.all_cons, List.all_nil, List.any_cons, List.any_nil, Bool.and_true, Bool.true_and, Bool.and_false, Bool.false_and, Bool.or_true, Bool.or_false, kG, kConsts]
      refine br_cases (fun e => ?_) (fun e => ?_)
      · simp only [↓br_true, ↓br_false, ↓op_some, ↓wp_bind, ↓wp_pure, ↓wp_fail, ↓wp_opt, ↓wp_guard, ↓wp_noX, ↓wp_v, ↓wp_vB, ↓wp_c, ↓wp_op2, ↓wp_op2L, ↓wp_t, ↓wp_tru, ↓wp_chain, ↓wp_andT, ↓wp_orT, ↓wp_notT, ↓wp_andV, ↓wp_orV, ↓wp_notV, ↓wp_if, ↓wp_nil, ↓wp_cons, ↓wp_tup, ↓wp_lst, ↓wp_D, ↓wp_cb, ↓wp_call, ↓wp_isi, ↓wp_neg, ↓wp_sl, ↓wp_noP, ↓wp_P, ↓wp_yes, ↓wp_items, ↓wp_signs, ↓wp_comp, ↓ws_seq, ↓thn_nx, ↓thn_rt, ↓thn_br, ↓thn_ct, ↓thn_exc, ↓ws_skip, ↓ws_break, ↓ws_cont, ↓ws_retN, ↓ws_set, ↓ws_own, ↓ws_ret, ↓ws_drop, ↓ws_if, ↓ws_asg, ↓ws_par, ↓ws_setC, ↓wp_newc, ↓ws_app, ↓ws_ext, ↓ws_setI, ↓ws_frz, ↓ws_for, ↓wl_nil, ↓wl_cons, ↓wf_run, ↓retS_nx, ↓retS_rt, ↓lpS_nx, ↓lpS_ct, ↓lpS_br, ↓lpS_rt, ↓turn_nx, ↓turn_ct, ↓turn_br, ↓turn_rt, ↓wp_addI, ↓wp_addS, ↓wp_subI, ↓wp_mulI, ↓wp_divI, ↓wp_modI, ↓wp_powI, ↓wp_cmpI, ↓wp_eq, ↓wp_ne, ↓wp_negI, ↓wp_seqE, ↓wp_lstE, ↓wp_ixL, ↓wp_ixT, ↓wp_ixC, ↓wp_ixS, ↓wp_lenS, ↓wp_lenL, ↓wp_lenT, ↓wp_lenC, ↓wp_absI, ↓wp_intI, ↓wp_intB, ↓wp_intS, ↓wp_strI, ↓wp_boolI, ↓wp_boolB, ↓wp_all, ↓wp_any, ↓wp_sum, ↓wp_max2, ↓wp_min2, ↓wp_list, ↓wp_tuple, ↓wp_sorted, ↓wp_slS, ↓wp_slT, ↓wp_slC, ↓wp_slL, ↓wp_range1, ↓wp_range2, ↓wp_enum, ↓wp_zip, ↓wp_cat, ↓wp_rep, ↓wp_inSg, ↓wp_notInSg, ↓wp_inL, ↓wp_inT, ↓wp_notIn, ↓wp_isN, ↓wp_notN, tt1, tt2, tt3, tt4, tt5, tt6, tu1, tu2, tu3, tu4, tu5, tu6, tu7, tu8, tu9, tu10, tu11, tu12, tu13, tu14, tu15, tu16, tu17, tu18, tu19, tu20, tu21, tu22, tu23, tu24, asB_bl, truD_non, truD_bl, truD_int, truD_str, truD_lst, truD_tup, asI_int, asS_str, items_lst, items_tup, valS_v, valB_v, valB_own, seqD_lst, seqD_tup, seqD_cell0, lstD_lst, lstD_cell0, cellL_0, own_lst, nonB_non, nonB_bl, nonB_int, nonB_str, nonB_lst, nonB_tup, nonB_cell, nonB_obj, bools_nil, bools_cons, ints_nil, ints_cons, eqD_ii, eqD_bb, eqD_ss, eqD_nn, eqD_ni, eqD_in, eqD_nb, eqD_bn, eqD_ns, eqD_sn, eqD_is, eqD_si, eqD_bs, eqD_sb, tag_non, tag_bl, tag_int, tag_str, tag_lst, tag_tup, tag_obj, bindP_nm, bindP_tp, bindPs_nil, bindPs_cons, EG.runs, EG.run, ev, evs, evo, evr, mkE, mkL, failL, bopF, copF, bltF, lbltF, env0, wipeE, isiAny, isi1, frzS, Cell.toD, atI_nn, setAt_nn, wp_inSg, List.map_cons, List.map_nil, List.length_cons, List.length_nil, List.append_nil, List.nil_append, List.cons_append, List.replicate, List.getElem?_cons_zero, List.getElem?_cons_succ, List.set_cons_zero, List.set_cons_succ, Int.reduceNeg, Int.reducePow, nA10, nA2, le_big, Nat.reducePow, Nat.zero_add, Option.map_some, Option.bind_some, Int.reduceLE, Int.reduceToNat, Int.reduceLT, Nat.reduceLT, Nat.reduceAdd, Nat.reduceSub, true_and, and_true, decide_true, decide_false, List.length_append, List.length_map, Nat.reduceLeDiff, Nat.reduceEqDiff, Bool.not_true, Bool.not_false, decide_eq_true_eq, reduceCtorEq, Option.some.injEq, id_eq, List.all_cons, List.all_nil, List.any_cons, List.any_nil, Bool.and_true, Bool.true_and, Bool.and_false, Bool.false_and, Bool.or_true, Bool.or_false, kG, kConsts, good_int e]
        rw [show amt w = .int (val w) by unfold amt; rw [e]]
        refine ⟨by omega, same_spec (F := F_law_same) (G := fun n => kG [⟨"_law_same", 2, F_law_same n, n + 0, []⟩]) (lv := fun n => n + 0) (fun _ => rfl) (fun _ => rfl) 6 _ _ _ _ rfl ?_⟩
        simp only [↓br_true, ↓br_false, ↓op_some, ↓wp_bind, ↓wp_pure, ↓wp_fail, ↓wp_opt, ↓wp_guard, ↓wp_noX, ↓wp_v, ↓wp_vB, ↓wp_c, ↓wp_op2, ↓wp_op2L, ↓wp_t, ↓wp_tru, ↓wp_chain, ↓wp_andT, ↓wp_orT, ↓wp_notT, ↓wp_andV, ↓wp_orV, ↓wp_notV, ↓wp_if, ↓wp_nil, ↓wp_cons, ↓wp_tup, ↓wp_lst, ↓wp_D, ↓wp_cb, ↓wp_call, ↓wp_isi, ↓wp_neg, ↓wp_sl, ↓wp_noP, ↓wp_P, ↓wp_yes, ↓wp_items, ↓wp_signs, ↓wp_comp, ↓ws_seq, ↓thn_nx, ↓thn_rt, ↓thn_br, ↓thn_ct, ↓thn_exc, ↓ws_skip, ↓ws_break, ↓ws_cont, ↓ws_retN, ↓ws_set, ↓ws_own, ↓ws_ret, ↓ws_drop, ↓ws_if, ↓ws_asg, ↓ws_par, ↓ws_setC, ↓wp_newc, ↓ws_app, ↓ws_ext, ↓ws_setI, ↓ws_frz, ↓ws_for, ↓wl_nil, ↓wl_cons, ↓wf_run, ↓retS_nx, ↓retS_rt, ↓lpS_nx, ↓lpS_ct, ↓lpS_br, ↓lpS_rt, ↓turn_nx, ↓turn_ct, ↓turn_br, ↓turn_rt, ↓wp_addI, ↓wp_addS, ↓wp_subI, ↓wp_mulI, ↓wp_divI, ↓wp_modI, ↓wp_powI, ↓wp_cmpI, ↓wp_eq, ↓wp_ne, ↓wp_negI, ↓wp_seqE, ↓wp_lstE, ↓wp_ixL, ↓wp_ixT, ↓wp_ixC, ↓wp_ixS, ↓wp_lenS, ↓wp_lenL, ↓wp_lenT, ↓wp_lenC, ↓wp_absI, ↓wp_intI, ↓wp_intB, ↓wp_intS, ↓wp_strI, ↓wp_boolI, ↓wp_boolB, ↓wp_all, ↓wp_any, ↓wp_sum, ↓wp_max2, ↓wp_min2, ↓wp_list, ↓wp_tuple, ↓wp_sorted, ↓wp_slS, ↓wp_slT, ↓wp_slC, ↓wp_slL, ↓wp_range1, ↓wp_range2, ↓wp_enum, ↓wp_zip, ↓wp_cat, ↓wp_rep, ↓wp_inSg, ↓wp_notInSg, ↓wp_inL, ↓wp_inT, ↓wp_notIn, ↓wp_isN, ↓wp_notN, tt1, tt2, tt3, tt4, tt5, tt6, tu1, tu2, tu3, tu4, tu5, tu6, tu7, tu8, tu9, tu10, tu11, tu12, tu13, tu14, tu15, tu16, tu17, tu18, tu19, tu20, tu21, tu22, tu23, tu24, asB_bl, truD_non, truD_bl, truD_int, truD_str, truD_lst, truD_tup, asI_int, asS_str, items_lst, items_tup, valS_v, valB_v, valB_own, seqD_lst, seqD_tup, seqD_cell0, lstD_lst, lstD_cell0, cellL_0, own_lst, nonB_non, nonB_bl, nonB_int, nonB_str, nonB_lst, nonB_tup, nonB_cell, nonB_obj, bools_nil, bools_cons, ints_nil, ints_cons, eqD_ii, eqD_bb, eqD_ss, eqD_nn, eqD_ni, eqD_in, eqD_nb, eqD_bn, eqD_ns, eqD_sn, eqD_is, eqD_si, eqD_bs, eqD_sb, tag_non, tag_bl, tag_int, tag_str, tag_lst, tag_tup, tag_obj, bindP_nm, bindP_tp, bindPs_nil, bindPs_cons, EG.runs, EG.run, ev, evs, evo, evr, mkE, mkL, failL, bopF, copF, bltF, lbltF, env0, wipeE, isiAny, isi1, frzS, Cell.toD, atI_nn, setAt_nn, wp_inSg, List.map_cons, List.map_nil, List.length_cons, List.length_nil, List.append_nil, List.nil_append, List.cons_append, List.replicate, List.getElem?_cons_zero, List.getElem?_cons_succ, List.set_cons_zero, List.set_cons_succ, Int.reduceNeg, Int.reducePow, nA10, nA2, le_big, Nat.reducePow, Nat.zero_add, Option.map_some, Option.bind_some, Int.reduceLE, Int.reduceToNat, Int.reduceLT, Nat.reduceLT, Nat.reduceAdd, Nat.reduceSub, true_and, and_true, decide_true, decide_false, List.length_append, List.length_map, Nat.reduceLeDiff, Nat.reduceEqDiff, Bool.not_true, Bool.not_false, decide_eq_true_eq, reduceCtorEq, Option.some.injEq, id_eq, List.all_cons, List.all_nil, List.any_cons, List.any_nil, Bool.and_true, Bool.true_and, Bool.and_false, Bool.false_and, Bool.or_true, Bool.or_false, kG, kConsts]
        exact ⟨⟨_, _, _, _, _, _, _, rfl⟩, b, hb, rfl⟩
      · simp only [↓br_true, ↓br_false, ↓op_some, ↓wp_bind, ↓wp_pure, ↓wp_fail, ↓wp_opt, ↓wp_guard, ↓wp_noX, ↓wp_v, ↓wp_vB, ↓wp_c, ↓wp_op2, ↓wp_op2L, ↓wp_t, ↓wp_tru, ↓wp_chain, ↓wp_andT, ↓wp_orT, ↓wp_notT, ↓wp_andV, ↓wp_orV, ↓wp_notV, ↓wp_if, ↓wp_nil, ↓wp_cons, ↓wp_tup, ↓wp_lst, ↓wp_D, ↓wp_cb, ↓wp_call, ↓wp_isi, ↓wp_neg, ↓wp_sl, ↓wp_noP, ↓wp_P, ↓wp_yes, ↓wp_items, ↓wp_signs, ↓wp_comp, ↓ws_seq, ↓thn_nx, ↓thn_rt, ↓thn_br, ↓thn_ct, ↓thn_exc, ↓ws_skip, ↓ws_break, ↓ws_cont, ↓ws_retN, ↓ws_set, ↓ws_own, ↓ws_ret, ↓ws_drop, ↓ws_if, ↓ws_asg, ↓ws_par, ↓ws_setC, ↓wp_newc, ↓ws_app, ↓ws_ext, ↓ws_setI, ↓ws_frz, ↓ws_for, ↓wl_nil, ↓wl_cons, ↓wf_run, ↓retS_nx, ↓retS_rt, ↓lpS_nx, ↓lpS_ct, ↓lpS_br, ↓lpS_rt, ↓turn_nx, ↓turn_ct, ↓turn_br, ↓turn_rt, ↓wp_addI, ↓wp_addS, ↓wp_subI, ↓wp_mulI, ↓wp_divI, ↓wp_modI, ↓wp_powI, ↓wp_cmpI, ↓wp_eq, ↓wp_ne, ↓wp_negI, ↓wp_seqE, ↓wp_lstE, ↓wp_ixL, ↓wp_ixT, ↓wp_ixC, ↓wp_ixS, ↓wp_lenS, ↓wp_lenL, ↓wp_lenT, ↓wp_lenC, ↓wp_absI, ↓wp_intI, ↓wp_intB, ↓wp_intS, ↓wp_strI, ↓wp_boolI, ↓wp_boolB, ↓wp_all, ↓wp_any, ↓wp_sum, ↓wp_max2, ↓wp_min2, ↓wp_list, ↓wp_tuple, ↓wp_sorted, ↓wp_slS, ↓wp_slT, ↓wp_slC, ↓wp_slL, ↓wp_range1, ↓wp_range2, ↓wp_enum, ↓wp_zip, ↓wp_cat, ↓wp_rep, ↓wp_inSg, ↓wp_notInSg, ↓wp_inL, ↓wp_inT, ↓wp_notIn, ↓wp_isN, ↓wp_notN, tt1, tt2, tt3, tt4, tt5, tt6, tu1, tu2, tu3, tu4, tu5, tu6, tu7, tu8, tu9, tu10, tu11, tu12, tu13, tu14, tu15, tu16, tu17, tu18, tu19, tu20, tu21, tu22, tu23, tu24, asB_bl, truD_non, truD_bl, truD_int, truD_str, truD_lst, truD_tup, asI_int, asS_str, items_lst, items_tup, valS_v, valB_v, valB_own, seqD_lst, seqD_tup, seqD_cell0, lstD_lst, lstD_cell0, cellL_0, own_lst, nonB_non, nonB_bl, nonB_int, nonB_str, nonB_lst, nonB_tup, nonB_cell, nonB_obj, bools_nil, bools_cons, ints_nil, ints_cons, eqD_ii, eqD_bb, eqD_ss, eqD_nn, eqD_ni, eqD_in, eqD_nb, eqD_bn, eqD_ns, eqD_sn, eqD_is, eqD_si, eqD_bs, eqD_sb, tag_non, tag_bl, tag_int, tag_str, tag_lst, tag_tup, tag_obj, bindP_nm, bindP_tp, bindPs_nil, bindPs_cons, EG.runs, EG.run, ev, evs, evo, evr, mkE, mkL, failL, bopF, copF, bltF, lbltF, env0, wipeE, isiAny, isi1, frzS, Cell.toD, atI_nn, setAt_nn, wp_inSg, List.map_cons, List.map_nil, List.length_cons, List.length_nil, List.append_nil, List.nil_append, List.cons_append, List.replicate, List.getElem?_cons_zero, List.getElem?_cons_succ, List.set_cons_zero, List.set_cons_succ, Int.reduceNeg, Int.reducePow, nA10, nA2, le_big, Nat.reducePow, Nat.zero_add, Option.map_some, Option.bind_some, Int.reduceLE, Int.reduceToNat, Int.reduceLT, Nat.reduceLT, Nat.reduceAdd, Nat.reduceSub, true_and, and_true, decide_true, decide_false, List.length_append, List.length_map, Nat.reduceLeDiff, Nat.reduceEqDiff, Bool.not_true, Bool.not_false, decide_eq_true_eq, reduceCtorEq, Option.some.injEq, id_eq, List.all_cons, List.all_nil, List.any_cons, List.any_nil, Bool.and_true, Bool.true_and, Bool.and_false, Bool.false_and, Bool.or_true, Bool.or_false, kG, kConsts]
        rw [show amt w = .non by unfold amt; rw [e]]
        refine same_spec (F := F_law_same) (G := fun n => kG [⟨"_law_same", 2, F_law_same n, n + 0, []⟩]) (lv := fun n => n + 0) (fun _ => rfl) (fun _ => rfl) 6 _ _ _ _ rfl ?_
        simp only [↓br_true, ↓br_false, ↓op_some, ↓wp_bind, ↓wp_pure, ↓wp_fail, ↓wp_opt, ↓wp_guard, ↓wp_noX, ↓wp_v, ↓wp_vB, ↓wp_c, ↓wp_op2, ↓wp_op2L, ↓wp_t, ↓wp_tru, ↓wp_chain, ↓wp_andT, ↓wp_orT, ↓wp_notT, ↓wp_andV, ↓wp_orV, ↓wp_notV, ↓wp_if, ↓wp_nil, ↓wp_cons, ↓wp_tup, ↓wp_lst, ↓wp_D, ↓wp_cb, ↓wp_call, ↓wp_isi, ↓wp_neg, ↓wp_sl, ↓wp_noP, ↓wp_P, ↓wp_yes, ↓wp_items, ↓wp_signs, ↓wp_comp, ↓ws_seq, ↓thn_nx, ↓thn_rt, ↓thn_br, ↓thn_ct, ↓thn_exc, ↓ws_skip, ↓ws_break, ↓ws_cont, ↓ws_retN, ↓ws_set, ↓ws_own, ↓ws_ret, ↓ws_drop, ↓ws_if, ↓ws_asg, ↓ws_par, ↓ws_setC, ↓wp_newc, ↓ws_app, ↓ws_ext, ↓ws_setI, ↓ws_frz, ↓ws_for, ↓wl_nil, ↓wl_cons, ↓wf_run, ↓retS_nx, ↓retS_rt, ↓lpS_nx, ↓lpS_ct, ↓lpS_br, ↓lpS_rt, ↓turn_nx, ↓turn_ct, ↓turn_br, ↓turn_rt, ↓wp_addI, ↓wp_addS, ↓wp_subI, ↓wp_mulI, ↓wp_divI, ↓wp_modI, ↓wp_powI, ↓wp_cmpI, ↓wp_eq, ↓wp_ne, ↓wp_negI, ↓wp_seqE, ↓wp_lstE, ↓wp_ixL, ↓wp_ixT, ↓wp_ixC, ↓wp_ixS, ↓wp_lenS, ↓wp_lenL, ↓wp_lenT, ↓wp_lenC, ↓wp_absI, ↓wp_intI, ↓wp_intB, ↓wp_intS, ↓wp_strI, ↓wp_boolI, ↓wp_boolB, ↓wp_all, ↓wp_any, ↓wp_sum, ↓wp_max2, ↓wp_min2, ↓wp_list, ↓wp_tuple, ↓wp_sorted, ↓wp_slS, ↓wp_slT, ↓wp_slC, ↓wp_slL, ↓wp_range1, ↓wp_range2, ↓wp_enum, ↓wp_zip, ↓wp_cat, ↓wp_rep, ↓wp_inSg, ↓wp_notInSg, ↓wp_inL, ↓wp_inT, ↓wp_notIn, ↓wp_isN, ↓wp_notN, tt1, tt2, tt3, tt4, tt5, tt6, tu1, tu2, tu3, tu4, tu5, tu6, tu7, tu8, tu9, tu10, tu11, tu12, tu13, tu14, tu15, tu16, tu17, tu18, tu19, tu20, tu21, tu22, tu23, tu24, asB_bl, truD_non, truD_bl, truD_int, truD_str, truD_lst, truD_tup, asI_int, asS_str, items_lst, items_tup, valS_v, valB_v, valB_own, seqD_lst, seqD_tup, seqD_cell0, lstD_lst, lstD_cell0, cellL_0, own_lst, nonB_non, nonB_bl, nonB_int, nonB_str, nonB_lst, nonB_tup, nonB_cell, nonB_obj, bools_nil, bools_cons, ints_nil, ints_cons, eqD_ii, eqD_bb, eqD_ss, eqD_nn, eqD_ni, eqD_in, eqD_nb, eqD_bn, eqD_ns, eqD_sn, eqD_is, eqD_si, eqD_bs, eqD_sb, tag_non, tag_bl, tag_int, tag_str, tag_lst, tag_tup, tag_obj, bindP_nm, bindP_tp, bindPs_nil, bindPs_cons, EG.runs, EG.run, ev, evs, evo, evr, mkE, mkL, failL, bopF, copF, bltF, lbltF, env0, wipeE, isiAny, isi1, frzS, Cell.toD, atI_nn, setAt_nn, wp_inSg, List.map_cons, List.map_nil, List.length_cons, List.length_nil, List.append_nil, List.nil_append, List.cons_append, List.replicate, List.getElem?_cons_zero, List.getElem?_cons_succ, List.set_cons_zero, List.set_cons_succ, Int.reduceNeg, Int.reducePow, nA10, nA2, le_big, Nat.reducePow, Nat.zero_add, Option.map_some, Option.bind_some, Int.reduceLE, Int.reduceToNat, Int.reduceLT, Nat.reduceLT, Nat.reduceAdd, Nat.reduceSub, true_and, and_true, decide_true, decide_false, List.length_append, List.length_map, Nat.reduceLeDiff, Nat.reduceEqDiff, Bool.not_true, Bool.not_false, decide_eq_true_eq, reduceCtorEq, Option.some.injEq, id_eq, List.all_cons, List.all_nil, List.any_cons, List.any_nil, Bool.and_true, Bool.true_and, Bool.and_false, Bool.false_and, Bool.or_true, Bool.or_false, kG, kConsts]
        exact ⟨⟨_, _, _, _, _, _, _, rfl⟩, b, hb, rfl⟩
  · rintro env μ ⟨⟨s2, s3, s4, s5, s6, s7, s8, rfl⟩, b, hb, rfl⟩
    have hv : goodB (toString (1000000000000 : Int) : String) = true := by decide +kernel
    have hv2 : val (toString (1000000000000 : Int) : String) = 1000000000000 := by decide +kernel
    have hu : goodB (toString (1000000000000 + 1 : Int) : String) = false := by decide +kernel
    have hw : goodB ("" : Str) = false := by decide
    simp only [↓br_true, ↓br_false, ↓op_some, ↓wp_bind, ↓wp_pure, ↓wp_fail, ↓wp_opt, ↓wp_guard, ↓wp_noX, ↓wp_v, ↓wp_vB, ↓wp_c, ↓wp_op2, ↓wp_op2L, ↓wp_t, ↓wp_tru, ↓wp_chain, ↓wp_andT, ↓wp_orT, ↓wp_notT, ↓wp_andV, ↓wp_orV, ↓wp_notV, ↓wp_if, ↓wp_nil, ↓wp_cons, ↓wp_tup, ↓wp_lst, ↓wp_D, ↓wp_cb, ↓wp_call, ↓wp_isi, ↓wp_neg, ↓wp_sl, ↓wp_noP, ↓wp_P, ↓wp_yes, ↓wp_items, ↓wp_signs, ↓wp_comp, ↓ws_seq, ↓thn_nx, ↓thn_rt, ↓thn_br, ↓thn_ct, ↓thn_exc, ↓ws_skip, ↓ws_break, ↓ws_cont, ↓ws_retN, ↓ws_set, ↓ws_own, ↓ws_ret, ↓ws_drop, ↓ws_if, ↓ws_asg, ↓ws_par, ↓ws_setC, ↓wp_newc, ↓ws_app, ↓ws_ext, ↓ws_setI, ↓ws_frz, ↓ws_for, ↓wl_nil, ↓wl_cons, ↓wf_run, ↓retS_nx, ↓retS_rt, ↓lpS_nx, ↓lpS_ct, ↓lpS_br, ↓lpS_rt, ↓turn_nx, ↓turn_ct, ↓turn_br, ↓turn_rt, ↓wp_addI, ↓wp_addS, ↓wp_subI, ↓wp_mulI, ↓wp_divI, ↓wp_modI, ↓wp_powI, ↓wp_cmpI, ↓wp_eq, ↓wp_ne, ↓wp_negI, ↓wp_seqE, ↓wp_lstE, ↓wp_ixL, ↓wp_ixT, ↓wp_ixC, ↓wp_ixS, ↓wp_lenS, ↓wp_lenL, ↓wp_lenT, ↓wp_lenC, ↓wp_absI, ↓wp_intI, ↓wp_intB, ↓wp_intS, ↓wp_strI, ↓wp_boolI, ↓wp_boolB, ↓wp_all, ↓wp_any, ↓wp_sum, ↓wp_max2, ↓wp_min2, ↓wp_list, ↓wp_tuple, ↓wp_sorted, ↓wp_slS, ↓wp_slT, ↓wp_slC, ↓wp_slL, ↓wp_range1, ↓wp_range2, ↓wp_enum, ↓wp_zip, ↓wp_cat, ↓wp_rep, ↓wp_inSg, ↓wp_notInSg, ↓wp_inL, ↓wp_inT, ↓wp_notIn, ↓wp_isN, ↓wp_notN, tt1, tt2, tt3, tt4, tt5, tt6, tu1, tu2, tu3, tu4, tu5, tu6, tu7, tu8, tu9, tu10, tu11, tu12, tu13, tu14, tu15, tu16, tu17, tu18, tu19, tu20, tu21, tu22, tu23, tu24, asB_bl, truD_non, truD_bl, truD_int, truD_str, truD_lst, truD_tup, asI_int, asS_str, items_lst, items_tup, valS_v, valB_v, valB_own, seqD_lst, seqD_tup, seqD_cell0, lstD_lst, lstD_cell0, cellL_0, own_lst, nonB_non, nonB_bl, nonB_int, nonB_str, nonB_lst, nonB_tup, nonB_cell, nonB_obj, bools_nil, bools_cons, ints_nil, ints_cons, eqD_ii, eqD_bb, eqD_ss, eqD_nn, eqD_ni, eqD_in, eqD_nb, eqD_bn, eqD_ns, eqD_sn, eqD_is, eqD_si, eqD_bs, eqD_sb, tag_non, tag_bl, tag_int, tag_str, tag_lst, tag_tup, tag_obj, bindP_nm, bindP_tp, bindPs_nil, bindPs_cons, EG.runs, EG.run, ev, evs, evo, evr, mkE, mkL, failL, bopF, copF, bltF, lbltF, env0, wipeE, isiAny, isi1, frzS, Cell.toD, atI_nn, setAt_nn, wp_inSg, List.map_cons, List.map_nil, List.length_cons, List.length_nil, List.append_nil, List.nil_append, List.cons_append, List.replicate, List.getElem?_cons_zero, List.getElem?_cons_succ, List.set_cons_zero, List.set_cons_succ, Int.reduceNeg, Int.reducePow, nA10, nA2, le_big, Nat.reducePow, Nat.zero_add, Option.map_some, Option.bind_some, Int.reduceLE, Int.reduceToNat, Int.reduceLT, Nat.reduceLT, Nat.reduceAdd, Nat.reduceSub, true_and, and_true, decide_true, decide_false, List.length_append, List.length_map, Nat.reduceLeDiff, Nat.reduceEqDiff, Bool.not_true, Bool.not_false, decide_eq_true_eq, reduceCtorEq, Option.some.injEq, id_eq, List.all_cons, List.all_nil, List.any_cons, List.any_nil, Bool.and_true, Bool.true_and, Bool.and_false, Bool.false_and, Bool.or_true, Bool.or_false, kG, kConsts]
    refine ⟨str_ok (by decide) (by decide), read_spec (by decide +kernel) ?_⟩
    simp only [↓br_true, ↓br_false, ↓op_some, ↓wp_bind, ↓wp_pure, ↓wp_fail, ↓wp_opt, ↓wp_guard, ↓wp_noX, ↓wp_v, ↓wp_vB, ↓wp_c, ↓wp_op2, ↓wp_op2L, ↓wp_t, ↓wp_tru, ↓wp_chain, ↓wp_andT, ↓wp_orT, ↓wp_notT, ↓wp_andV, ↓wp_orV, ↓wp_notV, ↓wp_if, ↓wp_nil, ↓wp_cons, ↓wp_tup, ↓wp_lst, ↓wp_D, ↓wp_cb, ↓wp_call, ↓wp_isi, ↓wp_neg, ↓wp_sl, ↓wp_noP, ↓wp_P, ↓wp_yes, ↓wp_items, ↓wp_signs, ↓wp_comp, ↓ws_seq, ↓thn_nx, ↓thn_rt, ↓thn_br, ↓thn_ct, ↓thn_exc, ↓ws_skip, ↓ws_break, ↓ws_cont, ↓ws_retN, ↓ws_set, ↓ws_own, ↓ws_ret, ↓ws_drop, ↓ws_if, ↓ws_asg, ↓ws_par, ↓ws_setC, ↓wp_newc, ↓ws_app, ↓ws_ext, ↓ws_setI, ↓ws_frz, ↓ws_for, ↓wl_nil, ↓wl_cons, ↓wf_run, ↓retS_nx, ↓retS_rt, ↓lpS_nx, ↓lpS_ct, ↓lpS_br, ↓lpS_rt, ↓turn_nx, ↓turn_ct, ↓turn_br, ↓turn_rt, ↓wp_addI, ↓wp_addS, ↓wp_subI, ↓wp_mulI, ↓wp_divI, ↓wp_modI, ↓wp_powI, ↓wp_cmpI, ↓wp_eq, ↓wp_ne, ↓wp_negI, ↓wp_seqE, ↓wp_lstE, ↓wp_ixL, ↓wp_ixT, ↓wp_ixC, ↓wp_ixS, ↓wp_lenS, ↓wp_lenL, ↓wp_lenT, ↓wp_lenC, ↓wp_absI, ↓wp_intI, ↓wp_intB, ↓wp_intS, ↓wp_strI, ↓wp_boolI, ↓wp_boolB, ↓wp_all, ↓wp_any, ↓wp_sum, ↓wp_max2, ↓wp_min2, ↓wp_list, ↓wp_tuple, ↓wp_sorted, ↓wp_slS, ↓wp_slT, ↓wp_slC, ↓wp_slL, ↓wp_range1, ↓wp_range2, ↓wp_enum, ↓wp_zip, ↓wp_cat, ↓wp_rep, ↓wp_inSg, ↓wp_notInSg, ↓wp_inL, ↓wp_inT, ↓wp_notIn, ↓wp_isN, ↓wp_notN, tt1, tt2, tt3, tt4, tt5, tt6, tu1, tu2, tu3, tu4, tu5, tu6, tu7, tu8, tu9, tu10, tu11, tu12, tu13, tu14, tu15, tu16, tu17, tu18, tu19, tu20, tu21, tu22, tu23, tu24, asB_bl, truD_non, truD_bl, truD_int, truD_str, truD_lst, truD_tup, asI_int, asS_str, items_lst, items_tup, valS_v, valB_v, valB_own, seqD_lst, seqD_tup, seqD_cell0, lstD_lst, lstD_cell0, cellL_0, own_lst, nonB_non, nonB_bl, nonB_int, nonB_str, nonB_lst, nonB_tup, nonB_cell, nonB_obj, bools_nil, bools_cons, ints_nil, ints_cons, eqD_ii, eqD_bb, eqD_ss, eqD_nn, eqD_ni, eqD_in, eqD_nb, eqD_bn, eqD_ns, eqD_sn, eqD_is, eqD_si, eqD_bs, eqD_sb, tag_non, tag_bl, tag_int, tag_str, tag_lst, tag_tup, tag_obj, bindP_nm, bindP_tp, bindPs_nil, bindPs_cons, EG.runs, EG.run, ev, evs, evo, evr, mkE, mkL, failL, bopF, copF, bltF, lbltF, env0, wipeE, isiAny, isi1, frzS, Cell.toD, atI_nn, setAt_nn, wp_inSg, List.map_cons, List.map_nil, List.length_cons, List.length_nil, List.append_nil, List.nil_append, List.cons_append, List.replicate, List.getElem?_cons_zero, List.getElem?_cons_succ, List.set_cons_zero, List.set_cons_succ, Int.reduceNeg, Int.reducePow, nA10, nA2, le_big, Nat.reducePow, Nat.zero_add, Option.map_some, Option.bind_some, Int.reduceLE, Int.reduceToNat, Int.reduceLT, Nat.reduceLT, Nat.reduceAdd, Nat.reduceSub, true_and, and_true, decide_true, decide_false, List.length_append, List.length_map, Nat.reduceLeDiff, Nat.reduceEqDiff, Bool.not_true, Bool.not_false, decide_eq_true_eq, reduceCtorEq, Option.some.injEq, id_eq, List.all_cons, List.all_nil, List.any_cons, List.any_nil, Bool.and_true, Bool.true_and, Bool.and_false, Bool.false_and, Bool.or_true, Bool.or_false, kG, kConsts]
    refine ⟨str_ok (by decide) (by decide), read_spec (by decide +kernel) ?_⟩
    simp only [↓br_true, ↓br_false, ↓op_some, ↓wp_bind, ↓wp_pure, ↓wp_fail, ↓wp_opt, ↓wp_guard, ↓wp_noX, ↓wp_v, ↓wp_vB, ↓wp_c, ↓wp_op2, ↓wp_op2L, ↓wp_t, ↓wp_tru, ↓wp_chain, ↓wp_andT, ↓wp_orT, ↓wp_notT, ↓wp_andV, ↓wp_orV, ↓wp_notV, ↓wp_if, ↓wp_nil, ↓wp_cons, ↓wp_tup, ↓wp_lst, ↓wp_D, ↓wp_cb, ↓wp_call, ↓wp_isi, ↓wp_neg, ↓wp_sl, ↓wp_noP, ↓wp_P, ↓wp_yes, ↓wp_items, ↓wp_signs, ↓wp_comp, ↓ws_seq, ↓thn_nx, ↓thn_rt, ↓thn_br, ↓thn_ct, ↓thn_exc, ↓ws_skip, ↓ws_break, ↓ws_cont, ↓ws_retN, ↓ws_set, ↓ws_own, ↓ws_ret, ↓ws_drop, ↓ws_if, ↓ws_asg, ↓ws_par, ↓ws_setC, ↓wp_newc, ↓ws_app, ↓ws_ext, ↓ws_setI, ↓ws_frz, ↓ws_for, ↓wl_nil, ↓wl_cons, ↓wf_run, ↓retS_nx, ↓retS_rt, ↓lpS_nx, ↓lpS_ct, ↓lpS_br, ↓lpS_rt, ↓turn_nx, ↓turn_ct, ↓turn_br, ↓turn_rt, ↓wp_addI, ↓wp_addS, ↓wp_subI, ↓wp_mulI, ↓wp_divI, ↓wp_modI, ↓wp_powI, ↓wp_cmpI, ↓wp_eq, ↓wp_ne, ↓wp_negI, ↓wp_seqE, ↓wp_lstE, ↓wp_ixL, ↓wp_ixT, ↓wp_ixC, ↓wp_ixS, ↓wp_lenS, ↓wp_lenL, ↓wp_lenT, ↓wp_lenC, ↓wp_absI, ↓wp_intI, ↓wp_intB, ↓wp_intS, ↓wp_strI, ↓wp_boolI, ↓wp_boolB, ↓wp_all, ↓wp_any, ↓wp_sum, ↓wp_max2, ↓wp_min2, ↓wp_list, ↓wp_tuple, ↓wp_sorted, ↓wp_slS, ↓wp_slT, ↓wp_slC, ↓wp_slL, ↓wp_range1, ↓wp_range2, ↓wp_enum, ↓wp_zip, ↓wp_cat, ↓wp_rep, ↓wp_inSg, ↓wp_notInSg, ↓wp_inL, ↓wp_inT, ↓wp_notIn, ↓wp_isN, ↓wp_notN, tt1, tt2, tt3, tt4, tt5, tt6, tu1, tu2, tu3, tu4, tu5, tu6, tu7, tu8, tu9, tu10, tu11, tu12, tu13, tu14, tu15, tu16, tu17, tu18, tu19, tu20, tu21, tu22, tu23, tu24, asB_bl, truD_non, truD_bl, truD_int, truD_str, truD_lst, truD_tup, asI_int, asS_str, items_lst, items_tup, valS_v, valB_v, valB_own, seqD_lst, seqD_tup, seqD_cell0, lstD_lst, lstD_cell0, cellL_0, own_lst, nonB_non, nonB_bl, nonB_int, nonB_str, nonB_lst, nonB_tup, nonB_cell, nonB_obj, bools_nil, bools_cons, ints_nil, ints_cons, eqD_ii, eqD_bb, eqD_ss, eqD_nn, eqD_ni, eqD_in, eqD_nb, eqD_bn, eqD_ns, eqD_sn, eqD_is, eqD_si, eqD_bs, eqD_sb, tag_non, tag_bl, tag_int, tag_str, tag_lst, tag_tup, tag_obj, bindP_nm, bindP_tp, bindPs_nil, bindPs_cons, EG.runs, EG.run, ev, evs, evo, evr, mkE, mkL, failL, bopF, copF, bltF, lbltF, env0, wipeE, isiAny, isi1, frzS, Cell.toD, atI_nn, setAt_nn, wp_inSg, List.map_cons, List.map_nil, List.length_cons, List.length_nil, List.append_nil, List.nil_append, List.cons_append, List.replicate, List.getElem?_cons_zero, List.getElem?_cons_succ, List.set_cons_zero, List.set_cons_succ, Int.reduceNeg, Int.reducePow, nA10, nA2, le_big, Nat.reducePow, Nat.zero_add, Option.map_some, Option.bind_some, Int.reduceLE, Int.reduceToNat, Int.reduceLT, Nat.reduceLT, Nat.reduceAdd, Nat.reduceSub, true_and, and_true, decide_true, decide_false, List.length_append, List.length_map, Nat.reduceLeDiff, Nat.reduceEqDiff, Bool.not_true, Bool.not_false, decide_eq_true_eq, reduceCtorEq, Option.some.injEq, id_eq, List.all_cons, List.all_nil, List.any_cons, List.any_nil, Bool.and_true, Bool.true_and, Bool.and_false, Bool.false_and, Bool.or_true, Bool.or_false, kG, kConsts]
    refine read_spec (by decide +kernel) ?_
    simp only [↓br_true, ↓br_false, ↓op_some, ↓wp_bind, ↓wp_pure, ↓wp_fail, ↓wp_opt, ↓wp_guard, ↓wp_noX, ↓wp_v, ↓wp_vB, ↓wp_c, ↓wp_op2, ↓wp_op2L, ↓wp_t, ↓wp_tru, ↓wp_chain, ↓wp_andT, ↓wp_orT, ↓wp_notT, ↓wp_andV, ↓wp_orV, ↓wp_notV, ↓wp_if, ↓wp_nil, ↓wp_cons, ↓wp_tup, ↓wp_lst, ↓wp_D, ↓wp_cb, ↓wp_call, ↓wp_isi, ↓wp_neg, ↓wp_sl, ↓wp_noP, ↓wp_P, ↓wp_yes, ↓wp_items, ↓wp_signs, ↓wp_comp, ↓ws_seq, ↓thn_nx, ↓thn_rt, ↓thn_br, ↓thn_ct, ↓thn_exc, ↓ws_skip, ↓ws_break, ↓ws_cont, ↓ws_retN, ↓ws_set, ↓ws_own, ↓ws_ret, ↓ws_drop, ↓ws_if, ↓ws_asg, ↓ws_par, ↓ws_setC, ↓wp_newc, ↓ws_app, ↓ws_ext, ↓ws_setI, ↓ws_frz, ↓ws_for, ↓wl_nil, ↓wl_cons, ↓wf_run, ↓retS_nx, ↓retS_rt, ↓lpS_nx, ↓lpS_ct, ↓lpS_br, ↓lpS_rt, ↓turn_nx, ↓turn_ct, ↓turn_br, ↓turn_rt, ↓wp_addI, ↓wp_addS, ↓wp_subI, ↓wp_mulI, ↓wp_divI, ↓wp_modI, ↓wp_powI, ↓wp_cmpI, ↓wp_eq, ↓wp_ne, ↓wp_negI, ↓wp_seqE, ↓wp_lstE, ↓wp_ixL, ↓wp_ixT, ↓wp_ixC, ↓wp_ixS, ↓wp_lenS, ↓wp_lenL, ↓wp_lenT, ↓wp_lenC, ↓wp_absI, ↓wp_intI, ↓wp_intB, ↓wp_intS, ↓wp_strI, ↓wp_boolI, ↓wp_boolB, ↓wp_all, ↓wp_any, ↓wp_sum, ↓wp_max2, ↓wp_min2, ↓wp_list, ↓wp_tuple, ↓wp_sorted, ↓wp_slS, ↓wp_slT, ↓wp_slC, ↓wp_slL, ↓wp_range1, ↓wp_range2, ↓wp_enum, ↓wp_zip, ↓wp_cat, ↓wp_rep, ↓wp_inSg, ↓wp_notInSg, ↓wp_inL, ↓wp_inT, ↓wp_notIn, ↓wp_isN, ↓wp_notN, tt1, tt2, tt3, tt4, tt5, tt6, tu1, tu2, tu3, tu4, tu5, tu6, tu7, tu8, tu9, tu10, tu11, tu12, tu13, tu14, tu15, tu16, tu17, tu18, tu19, tu20, tu21, tu22, tu23, tu24, asB_bl, truD_non, truD_bl, truD_int, truD_str, truD_lst, truD_tup, asI_int, asS_str, items_lst, items_tup, valS_v, valB_v, valB_own, seqD_lst, seqD_tup, seqD_cell0, lstD_lst, lstD_cell0, cellL_0, own_lst, nonB_non, nonB_bl, nonB_int, nonB_str, nonB_lst, nonB_tup, nonB_cell, nonB_obj, bools_nil, bools_cons, ints_nil, ints_cons, eqD_ii, eqD_bb, eqD_ss, eqD_nn, eqD_ni, eqD_in, eqD_nb, eqD_bn, eqD_ns, eqD_sn, eqD_is, eqD_si, eqD_bs, eqD_sb, tag_non, tag_bl, tag_int, tag_str, tag_lst, tag_tup, tag_obj, bindP_nm, bindP_tp, bindPs_nil, bindPs_cons, EG.runs, EG.run, ev, evs, evo, evr, mkE, mkL, failL, bopF, copF, bltF, lbltF, env0, wipeE, isiAny, isi1, frzS, Cell.toD, atI_nn, setAt_nn, wp_inSg, List.map_cons, List.map_nil, List.length_cons, List.length_nil, List.append_nil, List.nil_append, List.cons_append, List.replicate, List.getElem?_cons_zero, List.getElem?_cons_succ, List.set_cons_zero, List.set_cons_succ, Int.reduceNeg, Int.reducePow, nA10, nA2, le_big, Nat.reducePow, Nat.zero_add, Option.map_some, Option.bind_some, Int.reduceLE, Int.reduceToNat, Int.reduceLT, Nat.reduceLT, Nat.reduceAdd, Nat.reduceSub, true_and, and_true, decide_true, decide_false, List.length_append, List.length_map, Nat.reduceLeDiff, Nat.reduceEqDiff, Bool.not_true, Bool.not_false, decide_eq_true_eq, reduceCtorEq, Option.some.injEq, id_eq, List.all_cons, List.all_nil, List.any_cons, List.any_nil, Bool.and_true, Bool.true_and, Bool.and_false, Bool.false_and, Bool.or_true, Bool.or_false, kG, kConsts]
    unfold amt
    simp only [hv, hu, hw, hv2]
    refine same_spec (F := F_law_same) (G := fun n => kG [⟨"_law_same", 2, F_law_same n, n + 0, []⟩]) (lv := fun n => n + 0) (fun _ => rfl) (fun _ => rfl) 6 _ _ _ _ rfl ?_
    simp only [↓br_true, ↓br_false, ↓op_some, ↓wp_bind, ↓wp_pure, ↓wp_fail, ↓wp_opt, ↓wp_guard, ↓wp_noX, ↓wp_v, ↓wp_vB, ↓wp_c, ↓wp_op2, ↓wp_op2L, ↓wp_t, ↓wp_tru, ↓wp_chain, ↓wp_andT, ↓wp_orT, ↓wp_notT, ↓wp_andV, ↓wp_orV, ↓wp_notV, ↓wp_if, ↓wp_nil, ↓wp_cons, ↓wp_tup, ↓wp_lst, ↓wp_D, ↓wp_cb, ↓wp_call, ↓wp_isi, ↓wp_neg, ↓wp_sl, ↓wp_noP, ↓wp_P, ↓wp_yes, ↓wp_items, ↓wp_signs, ↓wp_comp, ↓ws_seq, ↓thn_nx, ↓thn_rt, ↓thn_br, ↓thn_ct, ↓thn_exc, ↓ws_skip, ↓ws_break, ↓ws_cont, ↓ws_retN, ↓ws_set, ↓ws_own, ↓ws_ret, ↓ws_drop, ↓ws_if, ↓ws_asg, ↓ws_par, ↓ws_setC, ↓wp_newc, ↓ws_app, ↓ws_ext, ↓ws_setI, ↓ws_frz, ↓ws_for, ↓wl_nil, ↓wl_cons, ↓wf_run, ↓retS_nx, ↓retS_rt, ↓lpS_nx, ↓lpS_ct, ↓lpS_br, ↓lpS_rt, ↓turn_nx, ↓turn_ct, ↓turn_br, ↓turn_rt, ↓wp_addI, ↓wp_addS, ↓wp_subI, ↓wp_mulI, ↓wp_divI, ↓wp_modI, ↓wp_powI, ↓wp_cmpI, ↓wp_eq, ↓wp_ne, ↓wp_negI, ↓wp_seqE, ↓wp_lstE, ↓wp_ixL, ↓wp_ixT, ↓wp_ixC, ↓wp_ixS, ↓wp_lenS, ↓wp_lenL, ↓wp_lenT, ↓wp_lenC, ↓wp_absI, ↓wp_intI, ↓wp_intB, ↓wp_intS, ↓wp_strI, ↓wp_boolI, ↓wp_boolB, ↓wp_all, ↓wp_any, ↓wp_sum, ↓wp_max2, ↓wp_min2, ↓wp_list, ↓wp_tuple, ↓wp_sorted, ↓wp_slS, ↓wp_slT, ↓wp_slC, ↓wp_slL, ↓wp_range1, ↓wp_range2, ↓wp_enum, ↓wp_zip, ↓wp_cat, ↓wp_rep, ↓wp_inSg, ↓wp_notInSg, ↓wp_inL, ↓wp_inT, ↓wp_notIn, ↓wp_isN, ↓wp_notN, tt1, tt2, tt3, tt4, tt5, tt6, tu1, tu2, tu3, tu4, tu5, tu6, tu7, tu8, tu9, tu10, tu11, tu12, tu13, tu14, tu15, tu16, tu17, tu18, tu19, tu20, tu21, tu22, tu23, tu24, asB_bl, truD_non, truD_bl, truD_int, truD_str, truD_lst, truD_tup, asI_int, asS_str, items_lst, items_tup, valS_v, valB_v, valB_own, seqD_lst, seqD_tup, seqD_cell0, lstD_lst, lstD_cell0, cellL_0, own_lst, nonB_non, nonB_bl, nonB_int, nonB_str, nonB_lst, nonB_tup, nonB_cell, nonB_obj, bools_nil, bools_cons, ints_nil, ints_cons, eqD_ii, eqD_bb, eqD_ss, eqD_nn, eqD_ni, eqD_in, eqD_nb, eqD_bn, eqD_ns, eqD_sn, eqD_is, eqD_si, eqD_bs, eqD_sb, tag_non, tag_bl, tag_int, tag_str, tag_lst, tag_tup, tag_obj, bindP_nm, bindP_tp, bindPs_nil, bindPs_cons, EG.runs, EG.run, ev, evs, evo, evr, mkE, mkL, failL, bopF, copF, bltF, lbltF, env0, wipeE, isiAny, isi1, frzS, Cell.toD, atI_nn, setAt_nn, wp_inSg, List.map_cons, List.map_nil, List.length_cons, List.length_nil, List.append_nil, List.nil_append, List.cons_append, List.replicate, List.getElem?_cons_zero, List.getElem?_cons_succ, List.set_cons_zero, List.set_cons_succ, Int.reduceNeg, Int.reducePow, nA10, nA2, le_big, Nat.reducePow, Nat.zero_add, Option.map_some, Option.bind_some, Int.reduceLE, Int.reduceToNat, Int.reduceLT, Nat.reduceLT, Nat.reduceAdd, Nat.reduceSub, true_and, and_true, decide_true, decide_false, List.length_append, List.length_map, Nat.reduceLeDiff, Nat.reduceEqDiff, Bool.not_true, Bool.not_false, decide_eq_true_eq, reduceCtorEq, Option.some.injEq, id_eq, List.all_cons, List.all_nil, List.any_cons, List.any_nil, Bool.and_true, Bool.true_and, Bool.and_false, Bool.false_and, Bool.or_true, Bool.or_false, kG, kConsts]
theorem law_true : ∀ ns : List Int, ns.length ≤ 63 → ∃ μ, F_law [.scr ns] [] = some (.ok (.bl true), μ) := fun ns _ => by
  have h := law_wf ns
  unfold Wf Wp at h
  cases q : F_law [.scr ns] [] with
  | none => rw [q] at h; exact h.elim
  | some o =>
    obtain ⟨o, μ1⟩ := o
    rw [q] at h
    cases o with
    | exc c fs => exact h.elim
    | ok x => exact ⟨μ1, by rw [show x = .bl true from h]⟩
end EGL
namespace EGL
open PySem L2 EG
def top (i : Nat) : Stmt := PySem.Challenge.pw_middlehold_k02_amounts_and_their_words.main.body.getD i (.Pass ⟨0, 0, 0, 0⟩)
abbrev s_law_same : Stmt := top 12
theorem sc_law_same : FnScope N_law_same ["_law_found_z", "_law_due"] (defScope s_law_same) := ⟨rfl, rfl, rfl, by decide +kernel, rfl, by decide +kernel, by decide +kernel⟩
abbrev s_read_amount : Stmt := top 7
theorem sc_read_amount : FnScope N_read_amount ["word"] (defScope s_read_amount) := ⟨rfl, rfl, rfl, by decide +kernel, rfl, by decide +kernel, by decide +kernel⟩
abbrev s_law_pull : Stmt := top 10
theorem sc_law_pull : FnScope N_law_pull ["_law_bag_here", "_law_sides"] (defScope s_law_pull) := ⟨rfl, rfl, rfl, by decide +kernel, rfl, by decide +kernel, by decide +kernel⟩
abbrev s_law_of : Stmt := top 11
theorem sc_law_of : FnScope N_law_of ["_law_bag_here", "_law_things"] (defScope s_law_of) := ⟨rfl, rfl, rfl, by decide +kernel, rfl, by decide +kernel, by decide +kernel⟩
abbrev s_is_number : Stmt := top 4
theorem sc_is_number : FnScope N_is_number ["value"] (defScope s_is_number) := ⟨rfl, rfl, rfl, by decide +kernel, rfl, by decide +kernel, by decide +kernel⟩
abbrev s_is_between : Stmt := top 5
theorem sc_is_between : FnScope N_is_between ["value", "least", "most"] (defScope s_is_between) := ⟨rfl, rfl, rfl, by decide +kernel, rfl, by decide +kernel, by decide +kernel⟩
abbrev s_is_amount : Stmt := top 6
theorem sc_is_amount : FnScope N_is_amount ["value"] (defScope s_is_amount) := ⟨rfl, rfl, rfl, by decide +kernel, rfl, by decide +kernel, by decide +kernel⟩
abbrev s_law_odd : Stmt := top 13
theorem sc_law_odd : FnScope N_law_odd ["_law_bag_here"] (defScope s_law_odd) := ⟨rfl, rfl, rfl, by decide +kernel, rfl, by decide +kernel, by decide +kernel⟩
abbrev s_law_vast : Stmt := top 14
theorem sc_law_vast : FnScope N_law_vast ["_law_bag_here"] (defScope s_law_vast) := ⟨rfl, rfl, rfl, by decide +kernel, rfl, by decide +kernel, by decide +kernel⟩
abbrev s_law_bag : Stmt := top 9
theorem sc_law_bag : FnScope N_law_bag ["_law_script"] (defScope s_law_bag) := ⟨rfl, rfl, rfl, by decide +kernel, rfl, by decide +kernel, by decide +kernel⟩
abbrev s_law : Stmt := top 15
theorem sc_law : FnScope N_law ["_law_script"] (defScope s_law) := ⟨rfl, rfl, rfl, by decide +kernel, rfl, by decide +kernel, by decide +kernel⟩
theorem chk_law_same (F : Fn) (l : Nat) : chkCs (kG [⟨"_law_same", 2, F, l, []⟩]) N_law_same (defScope s_law_same) C_law_same (defBody s_law_same) = true := by kernel_rfl
theorem chk_read_amount : chkCs G_read_amount N_read_amount (defScope s_read_amount) C_read_amount (defBody s_read_amount) = true := by kernel_rfl
theorem chk_law_pull : chkCs G_law_pull N_law_pull (defScope s_law_pull) C_law_pull (defBody s_law_pull) = true := by kernel_rfl
theorem chk_law_of : chkCs G_law_of N_law_of (defScope s_law_of) C_law_of (defBody s_law_of) = true := by kernel_rfl
theorem chk_is_number : chkCs G_is_number N_is_number (defScope s_is_number) C_is_number (defBody s_is_number) = true := by kernel_rfl
theorem chk_is_between : chkCs G_is_between N_is_between (defScope s_is_between) C_is_between (defBody s_is_between) = true := by kernel_rfl
theorem chk_is_amount : chkCs G_is_amount N_is_amount (defScope s_is_amount) C_is_amount (defBody s_is_amount) = true := by kernel_rfl
theorem chk_law_odd : chkCs G_law_odd N_law_odd (defScope s_law_odd) C_law_odd (defBody s_law_odd) = true := by kernel_rfl
theorem chk_law_vast : chkCs G_law_vast N_law_vast (defScope s_law_vast) C_law_vast (defBody s_law_vast) = true := by kernel_rfl
theorem chk_law_bag : chkCs G_law_bag N_law_bag (defScope s_law_bag) C_law_bag (defBody s_law_bag) = true := by kernel_rfl
theorem chk_law : chkCs G_law N_law (defScope s_law) C_law (defBody s_law) = true := by kernel_rfl
section
variable {K : PySem.W.Frag} {P : Program} {w : World} {mg : Str → Option Value} {base : Heap}
abbrev FnP (K : PySem.W.Frag) (x : Str) (st : Stmt) (f : Addr) (fd : FuncData) : Prop := FunD K x x (defArgs st) (defBody st) (defScope st) [] [] f fd
abbrev kW (K : PySem.W.Frag) : Wd := lawW K []
abbrev M0 (K : PySem.W.Frag) (P : Program) (w : World) (mg : Str → Option Value) (base : Heap) : Prop := MOk (kG []) (kW K) P w mg base 0
theorem ok_law_same {f : Addr} {fd : FuncData} (Fd : FnP K "_law_same" s_law_same f fd) (gm : mg "_law_same" = some (.ref f)) (m0 : M0 K P w mg base)  : ∀ n, FKeep (kW K) P w mg base (Gn_law_same n)
  | 0 => FnOk.keepE (W := kW K) (ps := ["_law_found_z", "_law_due"]) Fd FnOk.stuck gm (fun _ _ _ _ _ _ us hl => match us, hl with | [_, _], _ => rfl)
  | n + 1 => by
    have ih := ok_law_same Fd gm m0  n
    have z := FunD.okE (W := kW K) Fd sc_law_same (mok_of (k := n + 0) m0 (List.forall_mem_cons.mpr ⟨ih, List.forall_mem_nil _⟩) (by simp [Gn_law_same])) (chk_law_same _ _)
    exact FnOk.keepE (W := kW K) Fd z gm (fun _ _ _ _ _ _ us hl => match us, hl with | [_, _], _ => rfl)
theorem ok_read_amount {f : Addr} {fd : FuncData} (Fd : FnP K "read_amount" s_read_amount f fd) (gm : mg "read_amount" = some (.ref f)) (m0 : M0 K P w mg base)  : FnOk P w K mg base (L2.CX P w) 1 f fd ["word"] (spF (kW K) 1 F_read_amount) ∧ FKeep (kW K) P w mg base Gn_read_amount := by
  have z := FunD.okE (W := kW K) Fd sc_read_amount (mok_of (k := 0) m0 (List.forall_mem_nil _) (by decide)) chk_read_amount
  exact ⟨z, FnOk.keepE (W := kW K) Fd z gm (fun _ _ _ _ _ _ us hl => match us, hl with | [_], _ => rfl)⟩
theorem ok_law_pull {f : Addr} {fd : FuncData} (Fd : FnP K "_law_pull" s_law_pull f fd) (gm : mg "_law_pull" = some (.ref f)) (m0 : M0 K P w mg base)  : FnOk P w K mg base (L2.CX P w) 1 f fd ["_law_bag_here", "_law_sides"] (spF (kW K) 2 F_law_pull) ∧ FKeep (kW K) P w mg base Gn_law_pull := by
  have z := FunD.okE (W := kW K) Fd sc_law_pull (mok_of (k := 0) m0 (List.forall_mem_nil _) (by decide)) chk_law_pull
  exact ⟨z, FnOk.keepE (W := kW K) Fd z gm (fun _ _ _ _ _ _ us hl => match us, hl with | [_, _], _ => rfl)⟩
theorem ok_law_of {f : Addr} {fd : FuncData} (Fd : FnP K "_law_of" s_law_of f fd) (gm : mg "_law_of" = some (.ref f)) (m0 : M0 K P w mg base) (h0 : FKeep (kW K) P w mg base Gn_law_pull) : FnOk P w K mg base (L2.CX P w) 2 f fd ["_law_bag_here", "_law_things"] (spF (kW K) 2 F_law_of) ∧ FKeep (kW K) P w mg base Gn_law_of := by
  have z := FunD.okE (W := kW K) Fd sc_law_of (mok_of (k := 1) m0 (List.forall_mem_cons.mpr ⟨h0, List.forall_mem_nil _⟩) (by decide)) chk_law_of
  exact ⟨z, FnOk.keepE (W := kW K) Fd z gm (fun _ _ _ _ _ _ us hl => match us, hl with | [_, _], _ => rfl)⟩
theorem ok_is_number {f : Addr} {fd : FuncData} (Fd : FnP K "is_number" s_is_number f fd) (gm : mg "is_number" = some (.ref f)) (m0 : M0 K P w mg base)  : FnOk P w K mg base (L2.CX P w) 1 f fd ["value"] (spF (kW K) 1 F_is_number) ∧ FKeep (kW K) P w mg base Gn_is_number := by
  have z := FunD.okE (W := kW K) Fd sc_is_number (mok_of (k := 0) m0 (List.forall_mem_nil _) (by decide)) chk_is_number
  exact ⟨z, FnOk.keepE (W := kW K) Fd z gm (fun _ _ _ _ _ _ us hl => match us, hl with | [_], _ => rfl)⟩
theorem ok_is_between {f : Addr} {fd : FuncData} (Fd : FnP K "is_between" s_is_between f fd) (gm : mg "is_between" = some (.ref f)) (m0 : M0 K P w mg base) (h0 : FKeep (kW K) P w mg base Gn_is_number) : FnOk P w K mg base (L2.CX P w) 2 f fd ["value", "least", "most"] (spF (kW K) 3 F_is_between) ∧ FKeep (kW K) P w mg base Gn_is_between := by
  have z := FunD.okE (W := kW K) Fd sc_is_between (mok_of (k := 1) m0 (List.forall_mem_cons.mpr ⟨h0, List.forall_mem_nil _⟩) (by decide)) chk_is_between
  exact ⟨z, FnOk.keepE (W := kW K) Fd z gm (fun _ _ _ _ _ _ us hl => match us, hl with | [_, _, _], _ => rfl)⟩
theorem ok_is_amount {f : Addr} {fd : FuncData} (Fd : FnP K "is_amount" s_is_amount f fd) (gm : mg "is_amount" = some (.ref f)) (m0 : M0 K P w mg base) (h0 : FKeep (kW K) P w mg base Gn_is_between) : FnOk P w K mg base (L2.CX P w) 3 f fd ["value"] (spF (kW K) 1 F_is_amount) ∧ FKeep (kW K) P w mg base Gn_is_amount := by
  have z := FunD.okE (W := kW K) Fd sc_is_amount (mok_of (k := 2) m0 (List.forall_mem_cons.mpr ⟨h0, List.forall_mem_nil _⟩) (by decide)) chk_is_amount
  exact ⟨z, FnOk.keepE (W := kW K) Fd z gm (fun _ _ _ _ _ _ us hl => match us, hl with | [_], _ => rfl)⟩
theorem ok_law_odd {f : Addr} {fd : FuncData} (Fd : FnP K "_law_odd" s_law_odd f fd) (gm : mg "_law_odd" = some (.ref f)) (m0 : M0 K P w mg base) (h0 : FKeep (kW K) P w mg base Gn_law_of) : FnOk P w K mg base (L2.CX P w) 3 f fd ["_law_bag_here"] (spF (kW K) 1 F_law_odd) ∧ FKeep (kW K) P w mg base Gn_law_odd := by
  have z := FunD.okE (W := kW K) Fd sc_law_odd (mok_of (k := 2) m0 (List.forall_mem_cons.mpr ⟨h0, List.forall_mem_nil _⟩) (by decide)) chk_law_odd
  exact ⟨z, FnOk.keepE (W := kW K) Fd z gm (fun _ _ _ _ _ _ us hl => match us, hl with | [_], _ => rfl)⟩
theorem ok_law_vast {f : Addr} {fd : FuncData} (Fd : FnP K "_law_vast" s_law_vast f fd) (gm : mg "_law_vast" = some (.ref f)) (m0 : M0 K P w mg base) (h0 : FKeep (kW K) P w mg base Gn_law_of) (h1 : FKeep (kW K) P w mg base Gn_law_pull) : FnOk P w K mg base (L2.CX P w) 3 f fd ["_law_bag_here"] (spF (kW K) 1 F_law_vast) ∧ FKeep (kW K) P w mg base Gn_law_vast := by
  have z := FunD.okE (W := kW K) Fd sc_law_vast (mok_of (k := 2) m0 (List.forall_mem_cons.mpr ⟨h0, List.forall_mem_cons.mpr ⟨h1, List.forall_mem_nil _⟩⟩) (by decide)) chk_law_vast
  exact ⟨z, FnOk.keepE (W := kW K) Fd z gm (fun _ _ _ _ _ _ us hl => match us, hl with | [_], _ => rfl)⟩
theorem ok_law_bag {f : Addr} {fd : FuncData} (Fd : FnP K "_law_bag" s_law_bag f fd) (gm : mg "_law_bag" = some (.ref f)) (m0 : M0 K P w mg base)  : FnOk P w K mg base (L2.CX P w) 1 f fd ["_law_script"] (spF (kW K) 1 F_law_bag) ∧ FKeep (kW K) P w mg base Gn_law_bag := by
  have z := FunD.okE (W := kW K) Fd sc_law_bag (mok_of (k := 0) m0 (List.forall_mem_nil _) (by decide)) chk_law_bag
  exact ⟨z, FnOk.keepE (W := kW K) Fd z gm (fun _ _ _ _ _ _ us hl => match us, hl with | [_], _ => rfl)⟩
theorem ok_law {f : Addr} {fd : FuncData} (Fd : FnP K "law" s_law f fd) (gm : mg "law" = some (.ref f)) (m0 : M0 K P w mg base) (h0 : FKeep (kW K) P w mg base (Gn_law_same 6)) (h1 : FKeep (kW K) P w mg base Gn_read_amount) (h2 : FKeep (kW K) P w mg base Gn_law_of) (h3 : FKeep (kW K) P w mg base Gn_is_number) (h4 : FKeep (kW K) P w mg base Gn_is_amount) (h5 : FKeep (kW K) P w mg base Gn_law_odd) (h6 : FKeep (kW K) P w mg base Gn_law_pull) (h7 : FKeep (kW K) P w mg base Gn_law_vast) (h8 : FKeep (kW K) P w mg base Gn_law_bag) : FnOk P w K mg base (L2.CX P w) 7 f fd ["_law_script"] (spF (kW K) 1 F_law) ∧ FKeep (kW K) P w mg base Gn_law := by
  have z := FunD.okE (W := kW K) Fd sc_law (mok_of (k := 6) m0 (List.forall_mem_cons.mpr ⟨h0, List.forall_mem_cons.mpr ⟨h1, List.forall_mem_cons.mpr ⟨h2, List.forall_mem_cons.mpr ⟨h3, List.forall_mem_cons.mpr ⟨h4, List.forall_mem_cons.mpr ⟨h5, List.forall_mem_cons.mpr ⟨h6, List.forall_mem_cons.mpr ⟨h7, List.forall_mem_cons.mpr ⟨h8, List.forall_mem_nil _⟩⟩⟩⟩⟩⟩⟩⟩⟩) (by decide)) chk_law
  exact ⟨z, FnOk.keepE (W := kW K) Fd z gm (fun _ _ _ _ _ _ us hl => match us, hl with | [_], _ => rfl)⟩
end
def fn : List He.DefD := [⟨("_law_same", none), "_law_same", "_law_same", defArgs s_law_same, defBody s_law_same, defScope s_law_same, [], []⟩, ⟨("read_amount", none), "read_amount", "read_amount", defArgs s_read_amount, defBody s_read_amount, defScope s_read_amount, [], []⟩, ⟨("_law_pull", none), "_law_pull", "_law_pull", defArgs s_law_pull, defBody s_law_pull, defScope s_law_pull, [], []⟩, ⟨("_law_of", none), "_law_of", "_law_of", defArgs s_law_of, defBody s_law_of, defScope s_law_of, [], []⟩, ⟨("is_number", none), "is_number", "is_number", defArgs s_is_number, defBody s_is_number, defScope s_is_number, [], []⟩, ⟨("is_between", none), "is_between", "is_between", defArgs s_is_between, defBody s_is_between, defScope s_is_between, [], []⟩, ⟨("is_amount", none), "is_amount", "is_amount", defArgs s_is_amount, defBody s_is_amount, defScope s_is_amount, [], []⟩, ⟨("_law_odd", none), "_law_odd", "_law_odd", defArgs s_law_odd, defBody s_law_odd, defScope s_law_odd, [], []⟩, ⟨("_law_vast", none), "_law_vast", "_law_vast", defArgs s_law_vast, defBody s_law_vast, defScope s_law_vast, [], []⟩, ⟨("_law_bag", none), "_law_bag", "_law_bag", defArgs s_law_bag, defBody s_law_bag, defScope s_law_bag, [], []⟩, ⟨("law", none), "law", "law", defArgs s_law, defBody s_law, defScope s_law, [], []⟩]
def fa : List He.Fa := [.glo "_law_same", .glo "read_amount", .glo "_law_pull", .glo "_law_of", .glo "is_number", .glo "is_between", .glo "is_amount", .glo "_law_odd", .glo "_law_vast", .glo "_law_bag", .glo "law", .int "MOST" 1000000000000, .str "FIGURES" "0123456789", .int "MOST_FIGURES" 13, .free "all", .free "bool", .free "int", .free "isinstance", .free "len", .free "list", .free "range", .free "str", .free "tuple", .free "zip"]
abbrev R : PySem.W.OpenRow := PySem.W.OpenLaw.row PySem.Challenge.rw_middlehold_k02_amounts_and_their_words
abbrev hk : PySem.W.Hook := He.hookD 4 fa fn
def ob (s : PySem.W.SharedT) : He.AlD := He.obsDG 4 fa fn (HandSHeadRun.getT s)
theorem ob_eq (s : PySem.W.SharedT) : ob s = hk.obs s.abs := He.obsDG_eq (HandSHeadRun.getT_eq s)
def loose : List Str := (["MOST", "FIGURES", "MOST_FIGURES", "is_number", "is_between", "is_amount", "read_amount", "_law_bag", "_law_pull", "_law_of", "_law_same", "_law_odd", "_law_vast"] : List Str)
theorem run (w : World) : HandSHeadRun.RunEq R (PySem.W.view R.prog [15]) hk ob 400 loose w := by
  intro os
  kernel_rfl
theorem facts {P : Program} {w : World} {K : PySem.W.Frag} {h : Heap} {mg : Str → Option Value} {f : Addr} (X : K.In h) (G : h.Ns mainGlobals mg) (hfa : mg ("law" : Str) = some (.ref f)) (c : He.SaysD fa fn K) :
    ∃ fd : FuncData, (∀ (s : Shared) (v : Value), BindsTo s fd ⟨[v], []⟩ [("_law_script", v)]) ∧ ∀ base : Heap, K.In base → base.Ns mainGlobals mg → FnOk P w K mg base (L2.CX P w) 7 f fd ["_law_script"] (spF (kW K) 1 F_law) := by
  obtain ⟨fd0, D0⟩ := c.def_ 0 (d := fn[0]) rfl
  have g0 := He.glo_ok X G (c.fact 0 (f := .glo "_law_same") rfl)
  obtain ⟨fd1, D1⟩ := c.def_ 1 (d := fn[1]) rfl
  have g1 := He.glo_ok X G (c.fact 1 (f := .glo "read_amount") rfl)
  obtain ⟨fd2, D2⟩ := c.def_ 2 (d := fn[2]) rfl
  have g2 := He.glo_ok X G (c.fact 2 (f := .glo "_law_pull") rfl)
  obtain ⟨fd3, D3⟩ := c.def_ 3 (d := fn[3]) rfl
  have g3 := He.glo_ok X G (c.fact 3 (f := .glo "_law_of") rfl)
  obtain ⟨fd4, D4⟩ := c.def_ 4 (d := fn[4]) rfl
  have g4 := He.glo_ok X G (c.fact 4 (f := .glo "is_number") rfl)
  obtain ⟨fd5, D5⟩ := c.def_ 5 (d := fn[5]) rfl
  have g5 := He.glo_ok X G (c.fact 5 (f := .glo "is_between") rfl)
  obtain ⟨fd6, D6⟩ := c.def_ 6 (d := fn[6]) rfl
  have g6 := He.glo_ok X G (c.fact 6 (f := .glo "is_amount") rfl)
  obtain ⟨fd7, D7⟩ := c.def_ 7 (d := fn[7]) rfl
  have g7 := He.glo_ok X G (c.fact 7 (f := .glo "_law_odd") rfl)
  obtain ⟨fd8, D8⟩ := c.def_ 8 (d := fn[8]) rfl
  have g8 := He.glo_ok X G (c.fact 8 (f := .glo "_law_vast") rfl)
  obtain ⟨fd9, D9⟩ := c.def_ 9 (d := fn[9]) rfl
  have g9 := He.glo_ok X G (c.fact 9 (f := .glo "_law_bag") rfl)
  obtain ⟨fd10, D10⟩ := c.def_ 10 (d := fn[10]) rfl
  have g10 := He.glo_ok X G (c.fact 10 (f := .glo "law") rfl)
  have e := hfa.symm.trans g10
  cases e
  have m0 : ∀ base, M0 K P w mg base := fun base => mok_nil (fun i cc e => by
    have hm := List.mem_of_getElem? e
    simp only [kConsts, List.mem_cons, List.not_mem_nil, or_false] at hm
    rcases hm with rfl | rfl | rfl
    · obtain ⟨tk, e⟩ := He.int_ok X G (c.fact 11 (f := .int "MOST" 1000000000000) rfl)
      exact ⟨.int 1000000000000, _, e, ⟨tk, rfl⟩, fun _ _ => .int _⟩
    · obtain ⟨tk, e⟩ := He.str_ok X G (c.fact 12 (f := .str "FIGURES" "0123456789") rfl)
      exact ⟨.str "0123456789", _, e, ⟨tk, rfl⟩, fun _ _ => .str _ (by decide)⟩
    · obtain ⟨tk, e⟩ := He.int_ok X G (c.fact 13 (f := .int "MOST_FIGURES" 13) rfl)
      exact ⟨.int 13, _, e, ⟨tk, rfl⟩, fun _ _ => .int _⟩)
    (fun x cc e => nomatch e) (fun x hx => by
      simp only [kFrees, List.mem_cons, List.not_mem_nil, or_false] at hx
      rcases hx with rfl | rfl | rfl | rfl | rfl | rfl | rfl | rfl | rfl | rfl
      · exact He.free_ok X G (c.fact 14 (f := .free "all") rfl)
      · exact He.free_ok X G (c.fact 15 (f := .free "bool") rfl)
      · exact He.free_ok X G (c.fact 16 (f := .free "int") rfl)
      · exact He.free_ok X G (c.fact 17 (f := .free "isinstance") rfl)
      · exact He.free_ok X G (c.fact 18 (f := .free "len") rfl)
      · exact He.free_ok X G (c.fact 19 (f := .free "list") rfl)
      · exact He.free_ok X G (c.fact 20 (f := .free "range") rfl)
      · exact He.free_ok X G (c.fact 21 (f := .free "str") rfl)
      · exact He.free_ok X G (c.fact 22 (f := .free "tuple") rfl)
      · exact He.free_ok X G (c.fact 23 (f := .free "zip") rfl))
    ⟨(fun t c b h => nomatch h), (fun k c b h => nomatch h)⟩
  refine ⟨fd10, fun s v => FunD.bindsA (ps := ["_law_script"]) D10 (fun _ _ _ _ _ _ us hl => match us, hl with | [_], _ => rfl) s [v] rfl, fun base _ _ => ?_⟩
  have k0 := ok_law_same (base := base) D0 g0 (m0 base)  6
  have k1 := (ok_read_amount (base := base) D1 g1 (m0 base) ).2
  have k2 := (ok_law_pull (base := base) D2 g2 (m0 base) ).2
  have k3 := (ok_law_of (base := base) D3 g3 (m0 base) k2).2
  have k4 := (ok_is_number (base := base) D4 g4 (m0 base) ).2
  have k5 := (ok_is_between (base := base) D5 g5 (m0 base) k4).2
  have k6 := (ok_is_amount (base := base) D6 g6 (m0 base) k5).2
  have k7 := (ok_law_odd (base := base) D7 g7 (m0 base) k3).2
  have k8 := (ok_law_vast (base := base) D8 g8 (m0 base) k3 k2).2
  have k9 := (ok_law_bag (base := base) D9 g9 (m0 base) ).2
  exact (ok_law (base := base) D10 g10 (m0 base) k0 k1 k3 k4 k6 k7 k2 k8 k9).1
end EGL
open PySem PySem.W PySem.Calls PyProof.Rows
theorem PySem.Challenge.cw_middlehold_k02_amounts_and_their_words_holds : PySem.Challenge.rw_middlehold_k02_amounts_and_their_words.Holds := by
  w_on; o_law
  refine HandSHeadRun.head_any (r := PySem.W.OpenLaw.row PySem.Challenge.rw_middlehold_k02_amounts_and_their_words) (q := PySem.W.view (PySem.W.OpenLaw.row PySem.Challenge.rw_middlehold_k02_amounts_and_their_words).prog [15]) (H := EGL.hk) (ob := EGL.ob) (M := 400) (loose := EGL.loose) (d := HandSHeadRun.topDef (PySem.W.OpenLaw.row PySem.Challenge.rw_middlehold_k02_amounts_and_their_words).prog 15) (kwd := []) EGL.ob_eq
    (by kernel_rfl) (fun s => by kernel_rfl) EGL.run (by kernel_rfl) (by kernel_rfl) (by kernel_rfl) (by rfl) (by first | assumption | decide +kernel) (by decide +kernel) ⟨rfl, rfl, rfl, rfl, rfl, by decide +kernel⟩ ?hw ?hc
  case hw => w_witness2
  case hc =>
    refine L2.walk_ofE (l := PySem.Challenge.rw_middlehold_k02_amounts_and_their_words) (n := 63) (k := 7) (x := "_law_script") (CX := L2.CX0) rfl (by decide) (by kernel_rfl) ⟨rfl, by decide, by decide⟩ ?F (fun _ _ _ _ z => z)
    case F =>
      intro w mg fa h Y G hmg0
      obtain ⟨K, KX, c⟩ := Y
      have hmg : mg ("law" : PySem.Str) = some (.ref fa) := by
        have e : (HandSHeadRun.topDef (PySem.W.OpenLaw.row PySem.Challenge.rw_middlehold_k02_amounts_and_their_words).prog 15).name = ("law" : PySem.Str) := by kernel_rfl
        rw [← e]
        exact hmg0
      obtain ⟨fd, hb, hF⟩ := EGL.facts (P := (PySem.Challenge.rw_middlehold_k02_amounts_and_their_words).prog) (w := w) KX G hmg c
      exact ⟨K, fd, fun vs H Q _ => EG.spF (EGL.kW K) 1 EGL.F_law vs H Q fun _ _ _ => False, KX, hb, fun H a ns hl _ hS => EG.law_sp (W := EGL.kW K) EGL.law_true H a ns hl hS, fun base h1 h2 => EG.FnOk.calmE (W := EGL.kW K) (hF base h1 h2)⟩
