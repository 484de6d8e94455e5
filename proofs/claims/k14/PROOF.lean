import PyProof.Rows.All
import Wide.All
import OpenK.AllK
import Wide.FinOn
import HandS.ForMost
import HandS.IsInst
import HandS.Exc
import HandS.Wide
import HandS.TupAny
import HandS.CallSlots
import HandS.WordsExc
import KE.GoesEnum
import HandS.Property
import HandS.MakeKwOnly
import HandS.ClsMeth
import KE.KFmtOwn
import PyProof.InstNe
import HandS.FStr
import HandS.Star
import HandS.Conv
import HandS.Style
import HandS.Defaults
import HandS.HeadHook2
import HandS.HeadEnd
import HandS.Head0
import HandS.Head1
import HandS.Head2
import HandS.Head3
import HandS.MakeKw
import PySem.Challenge.RW_middlehold_k14_whole_ticks_of_rules
set_option Elab.async false
set_option linter.all false
set_option maxRecDepth 100000
set_option maxHeartbeats 4000000
namespace EG
open PySem L2

/-! plain data, what a local holds, the store -/
inductive D where
  | non | bl (b : Bool) | int (i : Int) | str (s : Str)
  | lst (xs : List D) | tup (xs : List D)
  | obj (c : Nat) (fs : List (Str × D))
  | cell (n : Nat)
  | scr (ns : List Int)
  | dK (kvs : List (Key × D)) | dT (kvs : List (List Key × D))
  | err (c : Nat) (fs : List (Str × D)) | clo (n : Nat) (ds : List D) | cls (c : Nat)
instance : Inhabited D := ⟨.non⟩
inductive Own where
  | out | slot (i : Nat) | cell (n : Nat)
inductive Cell where
  | lst (xs : List D) | obj (c : Nat) (fs : List (Str × D)) | dK (kvs : List (Key × D)) | dT (kvs : List (List Key × D))
/-- what is owned, as data -/
def Cell.toD : Cell → D
  | .lst xs => .lst xs
  | .obj c fs => .obj c fs
  | .dK kvs => .dK kvs
  | .dT kvs => .dT kvs
abbrev Mu := List Cell
inductive Slot where
  | no | v (d : D) | own (c : Cell)
abbrev Env := List Slot

structure Wd where
  K : PySem.W.Frag
  ca : Nat → Addr
structure Ws where
  ρ : List Addr
  Ow : Addr → Option Own

def big : Nat := 16777216
theorem big_le : big ≤ sizeLine := by rw [sizeLine_eq]; decide

/-- the script: read alone -/
def LstK (K : PySem.W.Frag) (a : Addr) (xs : List V) : Prop := SqL K (fun _ => none) a xs
/-- a tuple of the written part -/
def TupK (K : PySem.W.Frag) (a : Addr) (xs : List V) : Prop := SqT K (fun _ => none) a xs
theorem LstK.seq {K : PySem.W.Frag} {a : Addr} {xs : List V} {H : Hp} (h : LstK K a xs) : SqL K H a xs := by
  rcases h with (h | ⟨o, h⟩) | h
  · cases h
  · cases h
  · exact .inr h
theorem TupK.seq {K : PySem.W.Frag} {a : Addr} {xs : List V} {H : Hp} (h : TupK K a xs) : SqT K H a xs := by
  rcases h with (h | ⟨o, h⟩) | h
  · cases h
  · cases h
  · exact .inr h
mutual
inductive RepV (W : Wd) (S : Ws) (H : Hp) : V → D → Prop where
  | non : RepV W S H .non .non
  | bl (b : Bool) : RepV W S H (.bl b) (.bl b)
  | int (i : Int) : RepV W S H (.int i) (.int i)
  | str (s : Str) : s.length ≤ big → RepV W S H (.str s) (.str s)
  | lst {a : Addr} {vs : List V} {ds : List D} : H a = some (.lst vs) → S.Ow a = none → vs.length ≤ big → RepVs W S H vs ds → RepV W S H (.ref a) (.lst ds)
  | tup {a : Addr} {vs : List V} {ds : List D} : H a = some (.tup vs) → S.Ow a = none → vs.length ≤ big → RepVs W S H vs ds → RepV W S H (.ref a) (.tup ds)
  | tupK {a : Addr} {vs : List V} {ds : List D} : TupK W.K a vs → vs.length ≤ big → RepVs W S H vs ds → RepV W S H (.ref a) (.tup ds)
  | obj {a dx : Addr} {c : Nat} {vs : List (Str × V)} {fs : List (Str × D)} : H a = some (.ins (W.ca c) dx vs) → S.Ow a = none → RepFs W S H vs fs → RepV W S H (.ref a) (.obj c fs)
  | cell {a : Addr} {n : Nat} : S.ρ[n]? = some a → S.Ow a = some (.cell n) → RepV W S H (.ref a) (.cell n)
  | scr {a : Addr} {u : HO} {ns : List Int} : H a = some u → S.Ow a = none → (u = .lst (ns.map V.int) ∨ ∃ o, u = .frz o (.lst (ns.map V.int))) → ns.length ≤ big → RepV W S H (.ref a) (.scr ns)
  | scrK {a : Addr} {ns : List Int} : LstK W.K a (ns.map V.int) → ns.length ≤ big → RepV W S H (.ref a) (.scr ns)
  | dK {a : Addr} {vs : List (Key × V)} {ds : List (Key × D)} : H a = some (.dK vs) → S.Ow a = none → vs.length ≤ big → RepKs W S H vs ds → RepV W S H (.ref a) (.dK ds)
  | dT {a : Addr} {vs : List (List Key × V)} {ds : List (List Key × D)} : H a = some (.dT vs) → S.Ow a = none → vs.length ≤ big → RepTs W S H vs ds → RepV W S H (.ref a) (.dT ds)
  | cls {c : Nat} : RepV W S H (.ref (W.ca c)) (.cls c)
inductive RepVs (W : Wd) (S : Ws) (H : Hp) : List V → List D → Prop where
  | nil : RepVs W S H [] []
  | cons {v : V} {d : D} {vs : List V} {ds : List D} : RepV W S H v d → RepVs W S H vs ds → RepVs W S H (v :: vs) (d :: ds)
inductive RepFs (W : Wd) (S : Ws) (H : Hp) : List (Str × V) → List (Str × D) → Prop where
  | nil : RepFs W S H [] []
  | cons {f : Str} {v : V} {d : D} {vs : List (Str × V)} {fs : List (Str × D)} : RepV W S H v d → RepFs W S H vs fs → RepFs W S H ((f, v) :: vs) ((f, d) :: fs)
inductive RepKs (W : Wd) (S : Ws) (H : Hp) : List (Key × V) → List (Key × D) → Prop where
  | nil : RepKs W S H [] []
  | cons {f : Key} {v : V} {d : D} {vs : List (Key × V)} {fs : List (Key × D)} : RepV W S H v d → RepKs W S H vs fs → RepKs W S H ((f, v) :: vs) ((f, d) :: fs)
inductive RepTs (W : Wd) (S : Ws) (H : Hp) : List (List Key × V) → List (List Key × D) → Prop where
  | nil : RepTs W S H [] []
  | cons {f : List Key} {v : V} {d : D} {vs : List (List Key × V)} {fs : List (List Key × D)} : RepV W S H v d → RepTs W S H vs fs → RepTs W S H ((f, v) :: vs) ((f, d) :: fs)
end

/-- later: data stays, the owned of the kinds k stay, the cells stay cells -/
structure Lt (k : Own → Prop) (S : Ws) (H : Hp) (S' : Ws) (H' : Hp) : Prop where
  dat : ∀ a o, S.Ow a = none → H a = some o → S'.Ow a = none ∧ H' a = some o
  own : ∀ a w, S.Ow a = some w → k w → S'.Ow a = some w ∧ H' a = H a
  cel : ∀ (n : Nat) a, S.ρ[n]? = some a → S.Ow a = some (.cell n) → S'.ρ[n]? = some a ∧ S'.Ow a = some (.cell n)
  mem : ∀ a, H a ≠ none → H' a ≠ none
def kE : Own → Prop | .cell _ => False | _ => True
def kS : Own → Prop | .out => True | _ => False
abbrev LtE := Lt kE
abbrev LtS := Lt kS
theorem Lt.refl {k : Own → Prop} {S : Ws} {H : Hp} : Lt k S H S H := ⟨fun _ _ a b => ⟨a, b⟩, fun _ _ a _ => ⟨a, rfl⟩, fun _ _ a b => ⟨a, b⟩, fun _ a => a⟩
theorem Lt.trans {k : Own → Prop} {S S1 S2 : Ws} {H H1 H2 : Hp} (a : Lt k S H S1 H1) (b : Lt k S1 H1 S2 H2) : Lt k S H S2 H2 :=
  ⟨fun x o p q => let ⟨p1, q1⟩ := a.dat x o p q; b.dat x o p1 q1,
   fun x w p q => let ⟨p1, q1⟩ := a.own x w p q; let ⟨p2, q2⟩ := b.own x w p1 q; ⟨p2, q2.trans q1⟩,
   fun n x p q => let ⟨p1, q1⟩ := a.cel n x p q; b.cel n x p1 q1, fun x p => b.mem x (a.mem x p)⟩
theorem LtE.toS {S S1 : Ws} {H H1 : Hp} (a : LtE S H S1 H1) : LtS S H S1 H1 :=
  ⟨a.dat, fun x w p q => a.own x w p (by cases w <;> first | trivial | exact q.elim), a.cel, a.mem⟩

section
variable {W : Wd} {S S' : Ws} {H H' : Hp}
mutual
theorem RepV.mono (hd : ∀ a o, S.Ow a = none → H a = some o → S'.Ow a = none ∧ H' a = some o) (hc : ∀ (n : Nat) a, S.ρ[n]? = some a → S.Ow a = some (.cell n) → S'.ρ[n]? = some a ∧ S'.Ow a = some (.cell n)) :
    ∀ {v : V} {d : D}, RepV W S H v d → RepV W S' H' v d
  | _, _, .non => .non
  | _, _, .bl b => .bl b
  | _, _, .int i => .int i
  | _, _, .str s h => .str s h
  | _, _, .lst h1 h2 h3 h4 => .lst (hd _ _ h2 h1).2 (hd _ _ h2 h1).1 h3 (RepVs.mono hd hc h4)
  | _, _, .tup h1 h2 h3 h4 => .tup (hd _ _ h2 h1).2 (hd _ _ h2 h1).1 h3 (RepVs.mono hd hc h4)
  | _, _, .tupK h1 h3 h4 => .tupK h1 h3 (RepVs.mono hd hc h4)
  | _, _, .obj h1 h2 h3 => .obj (hd _ _ h2 h1).2 (hd _ _ h2 h1).1 (RepFs.mono hd hc h3)
  | _, _, .cell h1 h2 => .cell (hc _ _ h1 h2).1 (hc _ _ h1 h2).2
  | _, _, .scr h1 h2 h3 h4 => .scr (hd _ _ h2 h1).2 (hd _ _ h2 h1).1 h3 h4
  | _, _, .scrK h1 h2 => .scrK h1 h2
  | _, _, .dK h1 h2 h3 h4 => .dK (hd _ _ h2 h1).2 (hd _ _ h2 h1).1 h3 (RepKs.mono hd hc h4)
  | _, _, .dT h1 h2 h3 h4 => .dT (hd _ _ h2 h1).2 (hd _ _ h2 h1).1 h3 (RepTs.mono hd hc h4)
  | _, _, .cls => .cls
theorem RepVs.mono (hd : ∀ a o, S.Ow a = none → H a = some o → S'.Ow a = none ∧ H' a = some o) (hc : ∀ (n : Nat) a, S.ρ[n]? = some a → S.Ow a = some (.cell n) → S'.ρ[n]? = some a ∧ S'.Ow a = some (.cell n)) :
    ∀ {v : List V} {d : List D}, RepVs W S H v d → RepVs W S' H' v d
  | _, _, .nil => .nil
  | _, _, .cons h r => .cons (RepV.mono hd hc h) (RepVs.mono hd hc r)
theorem RepFs.mono (hd : ∀ a o, S.Ow a = none → H a = some o → S'.Ow a = none ∧ H' a = some o) (hc : ∀ (n : Nat) a, S.ρ[n]? = some a → S.Ow a = some (.cell n) → S'.ρ[n]? = some a ∧ S'.Ow a = some (.cell n)) :
    ∀ {v : List (Str × V)} {d : List (Str × D)}, RepFs W S H v d → RepFs W S' H' v d
  | _, _, .nil => .nil
  | _, _, .cons h r => .cons (RepV.mono hd hc h) (RepFs.mono hd hc r)
theorem RepKs.mono (hd : ∀ a o, S.Ow a = none → H a = some o → S'.Ow a = none ∧ H' a = some o) (hc : ∀ (n : Nat) a, S.ρ[n]? = some a → S.Ow a = some (.cell n) → S'.ρ[n]? = some a ∧ S'.Ow a = some (.cell n)) :
    ∀ {v : List (Key × V)} {d : List (Key × D)}, RepKs W S H v d → RepKs W S' H' v d
  | _, _, .nil => .nil
  | _, _, .cons h r => .cons (RepV.mono hd hc h) (RepKs.mono hd hc r)
theorem RepTs.mono (hd : ∀ a o, S.Ow a = none → H a = some o → S'.Ow a = none ∧ H' a = some o) (hc : ∀ (n : Nat) a, S.ρ[n]? = some a → S.Ow a = some (.cell n) → S'.ρ[n]? = some a ∧ S'.Ow a = some (.cell n)) :
    ∀ {v : List (List Key × V)} {d : List (List Key × D)}, RepTs W S H v d → RepTs W S' H' v d
  | _, _, .nil => .nil
  | _, _, .cons h r => .cons (RepV.mono hd hc h) (RepTs.mono hd hc r)
end
theorem RepV.later {k : Own → Prop} {v : V} {d : D} (h : RepV W S H v d) (l : Lt k S H S' H') : RepV W S' H' v d := h.mono l.dat l.cel
theorem RepVs.later {k : Own → Prop} {v : List V} {d : List D} (h : RepVs W S H v d) (l : Lt k S H S' H') : RepVs W S' H' v d := h.mono l.dat l.cel
theorem RepFs.later {k : Own → Prop} {v : List (Str × V)} {d : List (Str × D)} (h : RepFs W S H v d) (l : Lt k S H S' H') : RepFs W S' H' v d := h.mono l.dat l.cel
theorem RepKs.later {k : Own → Prop} {v : List (Key × V)} {d : List (Key × D)} (h : RepKs W S H v d) (l : Lt k S H S' H') : RepKs W S' H' v d := h.mono l.dat l.cel
theorem RepTs.later {k : Own → Prop} {v : List (List Key × V)} {d : List (List Key × D)} (h : RepTs W S H v d) (l : Lt k S H S' H') : RepTs W S' H' v d := h.mono l.dat l.cel
theorem RepVs.length {vs : List V} {ds : List D} (h : RepVs W S H vs ds) : vs.length = ds.length := by
  induction vs generalizing ds with
  | nil => cases h; rfl
  | cons v vs ih => cases h with | cons _ r => simp [ih r]
theorem RepVs.get : ∀ {vs : List V} {ds : List D} {i : Nat} {d : D}, RepVs W S H vs ds → ds[i]? = some d → ∃ v, vs[i]? = some v ∧ RepV W S H v d
  | _, _, _, _, .nil, e => by simp at e
  | _, _, 0, _, .cons r _, e => by simp at e; subst e; exact ⟨_, rfl, r⟩
  | _, _, i + 1, x, .cons _ t, e => by
    obtain ⟨u, h1, h2⟩ := RepVs.get (i := i) (d := x) t (by simpa using e)
    exact ⟨u, by simpa using h1, h2⟩
theorem RepVs.get' : ∀ {vs : List V} {ds : List D} {i : Nat} {v : V}, RepVs W S H vs ds → vs[i]? = some v → ∃ d, ds[i]? = some d ∧ RepV W S H v d
  | _, _, _, _, .nil, e => by simp at e
  | _, _, 0, _, .cons r _, e => by simp at e; subst e; exact ⟨_, rfl, r⟩
  | _, _, i + 1, x, .cons _ t, e => by
    obtain ⟨u, h1, h2⟩ := RepVs.get' (i := i) (v := x) t (by simpa using e)
    exact ⟨u, by simpa using h1, h2⟩
theorem RepVs.append : ∀ {vs ws : List V} {ds es : List D}, RepVs W S H vs ds → RepVs W S H ws es → RepVs W S H (vs ++ ws) (ds ++ es)
  | _, _, _, _, .nil, q => q
  | _, _, _, _, .cons r t, q => .cons r (RepVs.append t q)
theorem RepVs.one {v : V} {d : D} (h : RepV W S H v d) : RepVs W S H [v] [d] := .cons h .nil
theorem RepVs.take : ∀ {vs : List V} {ds : List D} (n : Nat), RepVs W S H vs ds → RepVs W S H (vs.take n) (ds.take n)
  | _, _, 0, _ => by simp; exact .nil
  | _, _, _ + 1, .nil => by simp; exact .nil
  | _, _, n + 1, .cons r t => .cons r (RepVs.take n t)
theorem RepVs.drop : ∀ {vs : List V} {ds : List D} (n : Nat), RepVs W S H vs ds → RepVs W S H (vs.drop n) (ds.drop n)
  | _, _, 0, h => h
  | _, _, _ + 1, .nil => by simp; exact .nil
  | _, _, n + 1, .cons r t => RepVs.drop n t
theorem RepVs.set {v : V} {d : D} (r : RepV W S H v d) : ∀ {vs : List V} {ds : List D} (i : Nat), RepVs W S H vs ds → RepVs W S H (vs.set i v) (ds.set i d)
  | _, _, _, .nil => .nil
  | _, _, 0, .cons _ t => .cons r t
  | _, _, i + 1, .cons q t => .cons q (RepVs.set r i t)
theorem RepFs.lookup : ∀ {vs : List (Str × V)} {fs : List (Str × D)} {f : Str} {d : D}, RepFs W S H vs fs → fs.lookup f = some d → ∃ v, vs.lookup f = some v ∧ RepV W S H v d
  | _, _, _, _, .nil, e => by simp at e
  | _, _, f, d, .cons (f := g) r t, e => by
    simp only [List.lookup_cons] at e ⊢
    split at e
    · cases e; exact ⟨_, rfl, r⟩
    · exact RepFs.lookup t e
theorem RepFs.lookup_none : ∀ {vs : List (Str × V)} {fs : List (Str × D)} {f : Str}, RepFs W S H vs fs → fs.lookup f = none → vs.lookup f = none
  | _, _, _, .nil, e => by simp
  | _, _, f, .cons (f := g) r t, e => by
    simp only [List.lookup_cons] at e ⊢
    split at e
    · cases e
    · exact RepFs.lookup_none t e
end

/-! the state -/
def CellRep (W : Wd) (S : Ws) (H : Hp) (a : Addr) : Cell → Prop
  | .lst ds => ∃ vs, H a = some (.lst vs) ∧ vs.length ≤ big ∧ RepVs W S H vs ds
  | .obj c fs => ∃ dx vs, H a = some (.ins (W.ca c) dx vs) ∧ RepFs W S H vs fs
  | .dK ds => ∃ vs, H a = some (.dK vs) ∧ vs.length ≤ big ∧ RepKs W S H vs ds
  | .dT ds => ∃ vs, H a = some (.dT vs) ∧ vs.length ≤ big ∧ RepTs W S H vs ds
structure Sg (W : Wd) (S : Ws) (H : Hp) (μ : Mu) : Prop where
  wf : ∀ a w, S.Ow a = some w → ∃ u, H a = some u
  len : S.ρ.length = μ.length
  cells : ∀ (n : Nat) c, μ[n]? = some c → ∃ a, S.ρ[n]? = some a ∧ S.Ow a = some (.cell n) ∧ CellRep W S H a c
def SlotRep (W : Wd) (S : Ws) (H : Hp) (i : Nat) (sv : Option (Option V)) : Slot → Prop
  | .no => True
  | .v d => ∃ v, sv = some (some v) ∧ RepV W S H v d
  | .own c => ∃ a, sv = some (some (.ref a)) ∧ S.Ow a = some (.slot i) ∧ CellRep W S H a c
structure EnvOk (W : Wd) (S : Ws) (H : Hp) (σ : St) (env : Env) : Prop where
  len : env.length = σ.length
  at_ : ∀ (i : Nat) sl, env[i]? = some sl → SlotRep W S H i σ[i]? sl
section
variable {W : Wd} {S S' : Ws} {H H' : Hp} {σ : St} {env : Env} {μ : Mu}
theorem CellRep.later {k : Own → Prop} {a : Addr} {c : Cell} (h : CellRep W S H a c) (l : Lt k S H S' H') (e : H' a = H a) : CellRep W S' H' a c := by
  cases c with
  | lst ds => obtain ⟨vs, e1, e2, r⟩ := h; exact ⟨vs, e.trans e1, e2, r.later l⟩
  | obj c fs => obtain ⟨dx, vs, e1, r⟩ := h; exact ⟨dx, vs, e.trans e1, r.later l⟩
  | dK ds => obtain ⟨vs, e1, e2, r⟩ := h; exact ⟨vs, e.trans e1, e2, r.later l⟩
  | dT ds => obtain ⟨vs, e1, e2, r⟩ := h; exact ⟨vs, e.trans e1, e2, r.later l⟩
theorem CellRep.mono {a : Addr} {c : Cell} (hd : ∀ a o, S.Ow a = none → H a = some o → S'.Ow a = none ∧ H' a = some o) (hc : ∀ (n : Nat) a, S.ρ[n]? = some a → S.Ow a = some (.cell n) → S'.ρ[n]? = some a ∧ S'.Ow a = some (.cell n)) (h : CellRep W S H a c) (e : H' a = H a) : CellRep W S' H' a c := by
  cases c with
  | lst ds => obtain ⟨vs, e1, e2, r⟩ := h; exact ⟨vs, e.trans e1, e2, r.mono hd hc⟩
  | obj c fs => obtain ⟨dx, vs, e1, r⟩ := h; exact ⟨dx, vs, e.trans e1, r.mono hd hc⟩
  | dK ds => obtain ⟨vs, e1, e2, r⟩ := h; exact ⟨vs, e.trans e1, e2, r.mono hd hc⟩
  | dT ds => obtain ⟨vs, e1, e2, r⟩ := h; exact ⟨vs, e.trans e1, e2, r.mono hd hc⟩
/-- what is owned becomes data -/
theorem CellRep.toV {a : Addr} {c : Cell} (h : CellRep W S H a c) (ho : S.Ow a = none) : RepV W S H (.ref a) c.toD := by
  cases c with
  | lst ds => obtain ⟨vs, e1, e2, r⟩ := h; exact .lst e1 ho e2 r
  | obj c fs => obtain ⟨dx, vs, e1, r⟩ := h; exact .obj e1 ho r
  | dK ds => obtain ⟨vs, e1, e2, r⟩ := h; exact .dK e1 ho e2 r
  | dT ds => obtain ⟨vs, e1, e2, r⟩ := h; exact .dT e1 ho e2 r
theorem SlotRep.later {k : Own → Prop} (hk : ∀ j, k (.slot j)) {i : Nat} {sv : Option (Option V)} {sl : Slot} (h : SlotRep W S H i sv sl) (l : Lt k S H S' H') : SlotRep W S' H' i sv sl := by
  cases sl with
  | no => trivial
  | v d => obtain ⟨v, e, r⟩ := h; exact ⟨v, e, r.later l⟩
  | own c =>
    obtain ⟨a, e, o, r⟩ := h
    obtain ⟨o', h'⟩ := l.own a _ o (hk i)
    exact ⟨a, e, o', r.later l h'⟩
theorem SlotRep.laterE {i : Nat} {sv : Option (Option V)} {sl : Slot} (h : SlotRep W S H i sv sl) (l : LtE S H S' H') : SlotRep W S' H' i sv sl := h.later (fun _ => trivial) l
theorem EnvOk.later {k : Own → Prop} (hk : ∀ j, k (.slot j)) (h : EnvOk W S H σ env) (l : Lt k S H S' H') : EnvOk W S' H' σ env := ⟨h.len, fun i sl e => (h.at_ i sl e).later hk l⟩
theorem EnvOk.laterE (h : EnvOk W S H σ env) (l : LtE S H S' H') : EnvOk W S' H' σ env := ⟨h.len, fun i sl e => (h.at_ i sl e).laterE l⟩
/-- what is fresh is nobody's -/
theorem Sg.fresh (g : Sg W S H μ) {p : Addr} (hp : H p = none) : S.Ow p = none := by
  cases e : S.Ow p with
  | none => rfl
  | some w => obtain ⟨u, q⟩ := g.wf p w e; rw [hp] at q; cases q
theorem upd_mem {H : Hp} {p : Addr} {o : HO} : ∀ a, H a ≠ none → upd H p o a ≠ none := fun a h => by
  by_cases e : a = p
  · subst e; rw [upd_same]; exact fun z => nomatch z
  · rw [upd_ne e]; exact h
theorem lt_upd {k : Own → Prop} {p : Addr} {o : HO} (hp : H p = none) (hw : ∀ a w, S.Ow a = some w → ∃ u, H a = some u) : Lt k S H S (upd H p o) :=
  ⟨fun a u q e => ⟨q, by rw [upd_ne (ne_of_none e hp)]; exact e⟩,
   fun a w q _ => by obtain ⟨u, e⟩ := hw a w q; exact ⟨q, by rw [upd_ne (ne_of_none e hp)]⟩, fun n a e q => ⟨e, q⟩, upd_mem⟩
theorem Sg.upd (g : Sg W S H μ) {p : Addr} {o : HO} (hp : H p = none) : Sg W S (upd H p o) μ where
  wf := fun a w e => by
    obtain ⟨u, q⟩ := g.wf a w e
    exact ⟨u, by rw [upd_ne (ne_of_none q hp)]; exact q⟩
  len := g.len
  cells := fun n c e => by
    obtain ⟨a, e1, e2, r⟩ := g.cells n c e
    obtain ⟨u, q⟩ := g.wf a _ e2
    exact ⟨a, e1, e2, r.later (lt_upd (k := kE) hp g.wf) (by rw [upd_ne (ne_of_none q hp)])⟩
/-- the owner of p changes from or to out, none, a slot -/
def Ws.set (S : Ws) (p : Addr) (w : Option Own) : Ws := { S with Ow := fun a => if a = p then w else S.Ow a }
theorem Ws.set_same {p : Addr} {w : Option Own} : (S.set p w).Ow p = w := by simp [Ws.set]
theorem Ws.set_ne {p a : Addr} {w : Option Own} (h : a ≠ p) : (S.set p w).Ow a = S.Ow a := by simp [Ws.set, h]
/-- p is owned (by no cell); its owner changes -/
theorem lt_set {k : Own → Prop} {p : Addr} {w0 : Own} {w : Option Own} (hp : S.Ow p = some w0) (hk : ¬ k w0) (hc : ∀ n, w0 ≠ .cell n) : Lt k S H (S.set p w) H where
  dat := fun a o e q => by
    have : a ≠ p := fun z => by rw [z, hp] at e; cases e
    rw [Ws.set_ne this]; exact ⟨e, q⟩
  own := fun a x e q => by
    have : a ≠ p := fun z => by rw [z, hp] at e; cases e; exact hk q
    rw [Ws.set_ne this]; exact ⟨e, rfl⟩
  cel := fun n a e q => by
    have : a ≠ p := fun z => by rw [z, hp] at q; cases q; exact hc n rfl
    rw [Ws.set_ne this]; exact ⟨e, q⟩
  mem := fun _ h => h
theorem Sg.set (g : Sg W S H μ) {p : Addr} {w0 : Own} {w : Option Own} (hp : S.Ow p = some w0) (hc : ∀ n, w0 ≠ .cell n) : Sg W (S.set p w) H μ where
  wf := fun a x e => by
    by_cases h : a = p
    · subst h; exact g.wf a _ hp
    · rw [Ws.set_ne h] at e; exact g.wf a x e
  len := g.len
  cells := fun n c e => by
    obtain ⟨a, e1, e2, r⟩ := g.cells n c e
    have : a ≠ p := fun z => by rw [z, hp] at e2; cases e2; exact hc n rfl
    exact ⟨a, e1, by rw [Ws.set_ne this]; exact e2, r.later (lt_set (k := fun _ => False) hp (fun x => x) hc) rfl⟩
/-- a fresh p gets an owner: nothing that stood before feels it -/
theorem lt_new {k : Own → Prop} {p : Addr} {o : HO} {w : Option Own} (hp : H p = none) (hw : ∀ a w, S.Ow a = some w → ∃ u, H a = some u) : Lt k S H (S.set p w) (L2.upd H p o) where
  dat := fun a u q e => by
    have : a ≠ p := ne_of_none e hp
    rw [Ws.set_ne this, upd_ne this]; exact ⟨q, e⟩
  own := fun a x q _ => by
    obtain ⟨u, e⟩ := hw a x q
    have : a ≠ p := ne_of_none e hp
    rw [Ws.set_ne this, upd_ne this]; exact ⟨q, rfl⟩
  cel := fun n a e q => by
    obtain ⟨u, e'⟩ := hw a _ q
    have : a ≠ p := ne_of_none e' hp
    rw [Ws.set_ne this]; exact ⟨e, q⟩
  mem := upd_mem
theorem Sg.new (g : Sg W S H μ) {p : Addr} {o : HO} {w : Option Own} (hp : H p = none) : Sg W (S.set p w) (L2.upd H p o) μ where
  wf := fun a x e => by
    by_cases h : a = p
    · subst h; exact ⟨o, upd_same⟩
    · rw [Ws.set_ne h] at e
      obtain ⟨u, q⟩ := g.wf a x e
      exact ⟨u, by rw [upd_ne h]; exact q⟩
  len := g.len
  cells := fun n c e => by
    obtain ⟨a, e1, e2, r⟩ := g.cells n c e
    obtain ⟨u, q⟩ := g.wf a _ e2
    have : a ≠ p := ne_of_none q hp
    exact ⟨a, e1, by rw [Ws.set_ne this]; exact e2, r.later (lt_new (k := kE) hp g.wf) (by rw [upd_ne this])⟩
end

/-! the monad of the evaluator -/
inductive Out (α : Type) where
  | ok (a : α) | exc (c : Nat) (fs : List (Str × D))
abbrev EM (α : Type) := Mu → Option (Out α × Mu)
def pureE {α : Type} (a : α) : EM α := fun μ => some (.ok a, μ)
def failE {α : Type} : EM α := fun _ => none
def bindE {α β : Type} (m : EM α) (f : α → EM β) : EM β := fun μ => match m μ with
  | none => none
  | some (.ok a, μ') => f a μ'
  | some (.exc c fs, μ') => some (.exc c fs, μ')
def optE {α : Type} (o : Option α) : EM α := fun μ => match o with
  | some a => some (.ok a, μ)
  | none => none
def guardE {α : Type} (b : Bool) (m : EM α) : EM α := fun μ => match b with
  | true => m μ
  | false => none
end EG
namespace EG
open PySem L2

section
variable (W : Wd)
/-- what is wanted of an evaluator's result -/
def KG (S : Ws) (H : Hp) (σ : St) (Wx : WX) {α : Type} (ok : α → Ws → Hp → Prop) : Out α × Mu → Prop
  | (.ok a, μ') => ∀ S' H', LtE S H S' H' → Sg W S' H' μ' → ok a S' H'
  | (.exc c fs, μ') => ∀ S' H' dd vs, LtE S H S' H' → Sg W S' H' μ' → H' dd = some (.xd vs) → S'.Ow dd = none → RepFs W S' H' vs fs → Wx (.ref (W.ca c)) (some dd) σ H'
def tG (Wx : WX) {α : Type} (f : Env → EM α) (ok : α → Ws → Hp → Prop) (σ : St) (H : Hp) : Prop :=
  ∃ S μ env r, Sg W S H μ ∧ EnvOk W S H σ env ∧ f env μ = some r ∧ KG W S H σ Wx ok r
/-- borrowed: data, or a thing that a local owns -/
def RepB (S : Ws) (H : Hp) (v : V) (d : D) : Prop := RepV W S H v d ∨ ∃ a w c, v = .ref a ∧ d = c.toD ∧ S.Ow a = some w ∧ kE w ∧ CellRep W S H a c
inductive RepBs (S : Ws) (H : Hp) : List V → List D → Prop where
  | nil : RepBs S H [] []
  | cons {v : V} {d : D} {vs : List V} {ds : List D} : RepB W S H v d → RepBs S H vs ds → RepBs S H (v :: vs) (d :: ds)
def okV (Q : VK) : D → Ws → Hp → Prop := fun d S' H' => ∀ v, RepV W S' H' v d → Q v H'
def okB (Q : VK) : D → Ws → Hp → Prop := fun d S' H' => ∀ v, RepB W S' H' v d → Q v H'
def okVs (Q : List V → Hp → Prop) : List D → Ws → Hp → Prop := fun ds S' H' => ∀ vs, RepVs W S' H' vs ds → Q vs H'
def okBs (Q : List V → Hp → Prop) : List D → Ws → Hp → Prop := fun ds S' H' => ∀ vs, RepBs W S' H' vs ds → Q vs H'
def okT (Q : Bool → Hp → Prop) : Bool → Ws → Hp → Prop := fun b _ H' => Q b H'
/-- a new list, owned by nobody yet -/
def okL (Q : VK) (H : Hp) : List D → Ws → Hp → Prop := fun xs S' H' => ∀ p vs, H p = none → S'.Ow p = some .out → H' p = some (.lst vs) → vs.length ≤ big → RepVs W S' H' vs xs → Q (.ref p) H'
def tEv (Wx : WX) (f : Env → EM D) : TE := fun σ H Q => tG W Wx f (okV W Q) σ H
def tEvB (Wx : WX) (f : Env → EM D) : TE := fun σ H Q => tG W Wx f (okB W Q) σ H
def tEvL (Wx : WX) (f : Env → EM (List D)) : TE := fun σ H Q => tG W Wx f (okL W Q H) σ H
def tEvs (Wx : WX) (f : Env → EM (List D)) : TA := fun σ H Q => tG W Wx f (okVs W Q) σ H
def tEvBs (Wx : WX) (f : Env → EM (List D)) : TA := fun σ H Q => tG W Wx f (okBs W Q) σ H
def tEvT (Wx : WX) (f : Env → EM Bool) : TT := fun σ H Q => tG W Wx f (okT Q) σ H
end
section
variable {W : Wd} {S S' S1 : Ws} {H H' H1 : Hp} {σ : St} {env : Env} {μ : Mu} {Wx : WX} {α β : Type}
theorem KG.later {ok : α → Ws → Hp → Prop} {r : Out α × Mu} (h : KG W S H σ Wx ok r) (l : LtE S H S1 H1) : KG W S1 H1 σ Wx ok r := by
  obtain ⟨o, μ'⟩ := r
  cases o with
  | ok a => exact fun S' H' l' g => h S' H' (l.trans l') g
  | exc c fs => exact fun S' H' dd vs l' g => h S' H' dd vs (l.trans l') g
theorem tG.bind {f : Env → EM α} {g : α → EM β} {okA : α → Ws → Hp → Prop} {okB : β → Ws → Hp → Prop} {r : Out β × Mu} (hS : Sg W S H μ) (hE : EnvOk W S H σ env) (hf : bindE (f env) g μ = some r) (hk : KG W S H σ Wx okB r)
    (hR : ∀ a μ1 S1 H1, LtE S H S1 H1 → Sg W S1 H1 μ1 → EnvOk W S1 H1 σ env → g a μ1 = some r → KG W S1 H1 σ Wx okB r → okA a S1 H1) : tG W Wx f okA σ H := by
  unfold bindE at hf
  cases e : f env μ with
  | none => rw [e] at hf; cases hf
  | some q =>
    obtain ⟨o, μ1⟩ := q
    rw [e] at hf
    cases o with
    | ok a =>
      refine ⟨S, μ, env, _, hS, hE, e, fun S' H' l g' => ?_⟩
      exact hR a μ1 S' H' l g' (hE.laterE l) hf (hk.later l)
    | exc c fs =>
      cases hf
      exact ⟨S, μ, env, _, hS, hE, e, hk⟩
theorem tG.pure {f : Env → EM α} {ok : α → Ws → Hp → Prop} {r : Out α × Mu} (hS : Sg W S H μ) (hE : EnvOk W S H σ env) (hf : f env μ = some r) (hk : KG W S H σ Wx ok r) : tG W Wx f ok σ H := ⟨S, μ, env, r, hS, hE, hf, hk⟩
theorem bindE_ok {f : EM α} {g : α → EM β} {μ μ1 : Mu} {a : α} (h : f μ = some (.ok a, μ1)) : bindE f g μ = g a μ1 := by
  unfold bindE; rw [h]
theorem bindE_exc {f : EM α} {g : α → EM β} {μ μ1 : Mu} {c : Nat} {fs : List (Str × D)} (h : f μ = some (.exc c fs, μ1)) : bindE f g μ = some (.exc c fs, μ1) := by
  unfold bindE; rw [h]
theorem bindE_none {f : EM α} {g : α → EM β} {μ : Mu} (h : f μ = none) : bindE f g μ = none := by
  unfold bindE; rw [h]
theorem bindE_pure {a : α} {g : α → EM β} {μ : Mu} : bindE (pureE a) g μ = g a μ := rfl
theorem optE_some {o : Option α} {μ : Mu} {r : Out α × Mu} (h : optE o μ = some r) : ∃ a, o = some a ∧ r = (.ok a, μ) := by
  cases o with
  | none => cases h
  | some a => cases h; exact ⟨a, rfl, rfl⟩
theorem guardE_some {b : Bool} {m : EM α} {μ : Mu} {r : Out α × Mu} (h : guardE b m μ = some r) : b = true ∧ m μ = some r := by
  cases b with
  | false => cases h
  | true => exact ⟨rfl, h⟩
/-- an answer that lays nothing -/
theorem KG.now {ok : α → Ws → Hp → Prop} {a : α} (hS : Sg W S H μ) (h : KG W S H σ Wx ok (.ok a, μ)) : ok a S H := h S H .refl hS
theorem RepB.laterE {v : V} {d : D} (h : RepB W S H v d) (l : LtE S H S1 H1) : RepB W S1 H1 v d := by
  rcases h with h | ⟨a, w, c, e1, e2, e3, e4, r⟩
  · exact .inl (h.later l)
  · obtain ⟨q1, q2⟩ := l.own a w e3 e4
    exact .inr ⟨a, w, c, e1, e2, q1, e4, r.later l q2⟩
theorem RepBs.laterE {v : List V} {d : List D} (h : RepBs W S H v d) (l : LtE S H S1 H1) : RepBs W S1 H1 v d := by
  induction h with
  | nil => exact .nil
  | cons r _ ih => exact .cons (r.laterE l) ih
theorem RepVs.toB {v : List V} {d : List D} (h : RepVs W S H v d) : RepBs W S H v d := by
  induction v generalizing d with
  | nil => cases h; exact .nil
  | cons v vs ih => cases h with | cons r q => exact .cons (.inl r) (ih q)
theorem PE.imp {X : Cx} {e : Expr} {t t' : TE} (h : PE X e t) (hi : ∀ σ H Q, t' σ H Q → t σ H Q) : PE X e t' := ⟨fun pins s σ H Q I hw => h.run pins s σ H Q I (hi _ _ _ hw)⟩
theorem PT.imp {X : Cx} {e : Expr} {t t' : TT} (h : PT X e t) (hi : ∀ σ H Q, t' σ H Q → t σ H Q) : PT X e t' := ⟨fun pins s σ H Q I hw => h.run pins s σ H Q I (hi _ _ _ hw)⟩
theorem PW.imp {X : Cx} {e : Expr} {t t' : TT} (h : PW X e t) (hi : ∀ σ H Q, t' σ H Q → t σ H Q) : PW X e t' := ⟨fun wh pins s σ H Q I hw => h.run wh pins s σ H Q I (hi _ _ _ hw)⟩
theorem PA.imp {X : Cx} {e : List Expr} {t t' : TA} (h : PA X e t) (hi : ∀ σ H Q, t' σ H Q → t σ H Q) : PA X e t' := ⟨fun po pins s σ H Q I hw => h.run po pins s σ H Q I (hi _ _ _ hw)⟩
/-- strict is borrowed -/
theorem toB {X : Cx} {e : Expr} {f : Env → EM D} (h : PE X e (tEv W Wx f)) : PE X e (tEvB W Wx f) := PE.imp h fun σ H Q ⟨S, μ, env, r, hS, hE, hf, hk⟩ => by
  refine ⟨S, μ, env, r, hS, hE, hf, ?_⟩
  obtain ⟨o, μ'⟩ := r
  cases o with
  | ok a => exact fun S' H' l g v rv => hk S' H' l g v (.inl rv)
  | exc c fs => exact hk

/-! names -/
def valS : Option Slot → Option D
  | some (.v d) => some d
  | _ => none
def valB : Option Slot → Option D
  | some (.v d) => some d
  | some (.own c) => some c.toD
  | _ => none
def fV (i : Nat) : Env → EM D := fun env => optE (valS env[i]?)
def fVB (i : Nat) : Env → EM D := fun env => optE (valB env[i]?)
theorem ev_var {X : Cx} {i : Nat} {x : Str} {pos : Pos} (h : PE X (.Name x pos) (tVar i)) : PE X (.Name x pos) (tEv W Wx (fV i)) :=
  PE.imp h fun σ H Q ⟨S, μ, env, r, hS, hE, hf, hk⟩ => by
    obtain ⟨d, e, rfl⟩ := optE_some hf
    cases q : env[i]? with
    | none => rw [q] at e; cases e
    | some sl =>
      rw [q] at e
      cases sl with
      | v d' =>
        cases e
        obtain ⟨v, e1, rv⟩ := hE.at_ i _ q
        exact ⟨v, e1, hk.now hS v rv⟩
      | no => cases e
      | own c => cases e
theorem ev_varB {X : Cx} {i : Nat} {x : Str} {pos : Pos} (h : PE X (.Name x pos) (tVar i)) : PE X (.Name x pos) (tEvB W Wx (fVB i)) :=
  PE.imp h fun σ H Q ⟨S, μ, env, r, hS, hE, hf, hk⟩ => by
    obtain ⟨d, e, rfl⟩ := optE_some hf
    cases q : env[i]? with
    | none => rw [q] at e; cases e
    | some sl =>
      rw [q] at e
      have w := hE.at_ i _ q
      cases sl with
      | v d' =>
        cases e
        obtain ⟨v, e1, rv⟩ := w
        exact ⟨v, e1, hk.now hS v (.inl rv)⟩
      | no => cases e
      | own c =>
        cases e
        obtain ⟨a, e1, e2, r⟩ := w
        exact ⟨_, e1, hk.now hS _ (.inr ⟨a, _, c, rfl, rfl, e2, trivial, r⟩)⟩

/-! constants -/
def fC (d : D) : Env → EM D := fun _ => pureE d
theorem ev_const {X : Cx} {e : Expr} {v : V} {d : D} (h : PE X e (tC v)) (hr : ∀ S H, RepV W S H v d) : PE X e (tEv W Wx (fC d)) :=
  PE.imp h fun σ H Q ⟨S, μ, env, r, hS, hE, hf, hk⟩ => by
    cases hf
    exact hk.now hS v (hr S H)

/-! operators by values -/
def OpSpec (W : Wd) (r : R2) (op : D → D → EM D) : Prop := ∀ (x y : V) (d e : D) (S : Ws) (H : Hp) (μ : Mu) (res : Out D × Mu) (σ : St) (Wx : WX) (Q : VK), Sg W S H μ → RepB W S H x d → RepB W S H y e → op d e μ = some res → KG W S H σ Wx (okV W Q) res → r x y H Q
def fOp2 (op : D → D → EM D) (f g : Env → EM D) : Env → EM D := fun env => bindE (f env) fun d => bindE (g env) fun e => op d e
theorem tOp_of {r : R2} {op : D → D → EM D} {f g : Env → EM D} (hs : OpSpec W r op) {σ : St} {H : Hp} {Q : VK} (h : tEv W Wx (fOp2 op f g) σ H Q) : tOp r (tEvB W Wx f) (tEvB W Wx g) σ H Q := by
  obtain ⟨S, μ, env, res, hS, hE, hf, hk⟩ := h
  refine tG.bind hS hE hf hk fun d μ1 S1 H1 l1 g1 e1 hf1 hk1 x rx => ?_
  refine tG.bind g1 e1 hf1 hk1 fun e μ2 S2 H2 l2 g2 e2 hf2 hk2 y ry => ?_
  exact hs x y d e S2 H2 μ2 res σ Wx Q g2 (rx.laterE l2) ry hf2 hk2
theorem ev_bin {X : Cx} {op : Operator} {r : R2} {a b : Expr} {pos : Pos} {opd : D → D → EM D} {f g : Env → EM D} (ho : OpR X (binaryOp op) r) (hs : OpSpec W r opd) (ha : PE X a (tEvB W Wx f)) (hb : PE X b (tEvB W Wx g)) :
    PE X (.BinOp a op b pos) (tEv W Wx (fOp2 opd f g)) := PE.imp (pe_op ho ha hb) fun σ H Q h => tOp_of hs h
theorem ev_cmp {X : Cx} {op : CmpOp} {r : R2} {a b : Expr} {pos : Pos} {opd : D → D → EM D} {f g : Env → EM D} (ho : OpR X (compareOp op) r) (hs : OpSpec W r opd) (ha : PE X a (tEvB W Wx f)) (hb : PE X b (tEvB W Wx g)) (hm : behindInMarks op b = false) :
    PE X (.Compare a [op] [b] pos) (tEv W Wx (fOp2 opd f g)) := PE.imp (pe_cmpR ho ha hb hm) fun σ H Q h => tOp_of hs h
def asB : D → Option Bool
  | .bl b => some b
  | _ => none
/-- the value is a bool: as a test -/
def fT (f : Env → EM D) : Env → EM Bool := fun env => bindE (f env) fun d => optE (asB d)
theorem tB_of {f : Env → EM D} {σ : St} {H : Hp} {Q : Bool → Hp → Prop} (h : tEvT W Wx (fT f) σ H Q) : tEv W Wx f σ H (fun x H1 => ∃ c, x = .bl c ∧ Q c H1) := by
  obtain ⟨S, μ, env, res, hS, hE, hf, hk⟩ := h
  refine tG.bind hS hE hf hk fun d μ1 S1 H1 l1 g1 e1 hf1 hk1 x rx => ?_
  obtain ⟨b, e, rfl⟩ := optE_some hf1
  cases d <;> first | cases e | skip
  cases rx
  exact ⟨b, rfl, hk1.now g1⟩
theorem et_cmp {X : Cx} {op : CmpOp} {r : R2} {a b : Expr} {pos : Pos} {opd : D → D → EM D} {f g : Env → EM D} (ho : OpR X (compareOp op) r) (hs : OpSpec W r opd) (ha : PE X a (tEvB W Wx f)) (hb : PE X b (tEvB W Wx g)) (hm : behindInMarks op b = false) :
    PT X (.Compare a [op] [b] pos) (tEvT W Wx (fT (fOp2 opd f g))) := PT.imp (pt_cmpR ho ha hb hm) fun σ H Q h => tOp_of hs (tB_of h)
/-- a < b < c -/
def fChain (op op' : D → D → EM D) (f g k : Env → EM D) : Env → EM D := fun env => bindE (f env) fun d => bindE (g env) fun e => bindE (op d e) fun z => match asB z with
  | some true => bindE (k env) fun z' => op' e z'
  | some false => pureE (.bl false)
  | none => failE
end
end EG
namespace EG
open PySem L2

section
variable {W : Wd} {S S' S1 : Ws} {H H' H1 : Hp} {σ : St} {env : Env} {μ : Mu} {Wx : WX} {α β : Type} {X : Cx}
theorem KG.mono {ok ok' : α → Ws → Hp → Prop} {r : Out α × Mu} (h : KG W S H σ Wx ok r) (m : ∀ a S' H', ok a S' H' → ok' a S' H') : KG W S H σ Wx ok' r := by
  obtain ⟨o, μ'⟩ := r
  cases o with
  | ok a => exact fun S' H' l g => m _ _ _ (h S' H' l g)
  | exc c fs => exact h
theorem KG.bind {m : EM α} {g : α → EM β} {ok : β → Ws → Hp → Prop} {r : Out β × Mu} (hf : bindE m g μ = some r) (hk : KG W S H σ Wx ok r) :
    ∃ res, m μ = some res ∧ KG W S H σ Wx (fun a S' H' => ∃ μ', Sg W S' H' μ' ∧ LtE S H S' H' ∧ g a μ' = some r ∧ KG W S' H' σ Wx ok r) res := by
  unfold bindE at hf
  cases e : m μ with
  | none => rw [e] at hf; cases hf
  | some q =>
    obtain ⟨o, μ1⟩ := q
    rw [e] at hf
    refine ⟨_, rfl, ?_⟩
    cases o with
    | ok a => exact fun S' H' l g' => ⟨μ1, g', l, hf, hk.later l⟩
    | exc c fs => cases hf; exact hk

theorem iT {c A B : Prop} [Decidable c] (hc : c) (h : A) : if c then A else B := by rw [if_pos hc]; exact h
theorem iF {c A B : Prop} [Decidable c] (hc : ¬ c) (h : B) : if c then A else B := by rw [if_neg hc]; exact h
theorem okT_mk {Q : Bool → Hp → Prop} {b : Bool} (h : Q b H') : okT Q b S' H' := h
/-! a < b < c -/
theorem tChain_of {r r' : R2} {op op' : D → D → EM D} {f g k : Env → EM D} (hs : OpSpec W r op) (hs' : OpSpec W r' op') {H : Hp} {Q : VK} (h : tEv W Wx (fChain op op' f g k) σ H Q) : tChain r r' (tEvB W Wx f) (tEvB W Wx g) (tEvB W Wx k) σ H Q := by
  obtain ⟨S, μ, env, res, hS, hE, hf, hk⟩ := h
  refine tG.bind hS hE hf hk fun d μ1 S1 H1 l1 g1 e1 hf1 hk1 x rx => ?_
  refine tG.bind g1 e1 hf1 hk1 fun e μ2 S2 H2 l2 g2 e2 hf2 hk2 y ry => ?_
  obtain ⟨res1, hr1, hk3⟩ := KG.bind hf2 hk2
  refine hs x y d e S2 H2 μ2 res1 σ Wx _ g2 (rx.laterE l2) ry hr1 (hk3.mono fun z S3 H3 ⟨μ3, g3, l3, hf3, hk4⟩ v rv => ?_)
  cases z with
  | bl b =>
    cases rv
    refine ⟨b, rfl, ?_⟩
    cases b with
    | true =>
      refine iT rfl ?_
      have hf3 : bindE (k env) (fun z' => op' e z') μ3 = some res := hf3
      refine tG.bind g3 (e2.laterE l3) hf3 hk4 fun z' μ4 S4 H4 l4 g4 e4 hf4 hk5 w rw' => ?_
      exact hs' y w e z' S4 H4 μ4 res σ Wx Q g4 ((ry.laterE l3).laterE l4) rw' hf4 hk5
    | false =>
      refine iF Bool.false_ne_true ?_
      cases hf3
      exact hk4.now g3 _ (.bl false)
  | _ => cases hf3
theorem ev_chain {op op' : CmpOp} {r r' : R2} {a b c : Expr} {pos : Pos} {opd opd' : D → D → EM D} {f g k : Env → EM D} (ho : OpR X (compareOp op) r) (ho' : OpR X (compareOp op') r') (hs : OpSpec W r opd) (hs' : OpSpec W r' opd')
    (ha : PE X a (tEvB W Wx f)) (hb : PE X b (tEvB W Wx g)) (hc : PE X c (tEvB W Wx k)) (hm : lastMarks [op, op'] [b, c] = false) : PE X (.Compare a [op, op'] [b, c] pos) (tEv W Wx (fChain opd opd' f g k)) :=
  PE.imp (pe_chain ho ho' ha hb hc hm) fun σ H Q h => tChain_of hs hs' h
theorem et_chain {op op' : CmpOp} {r r' : R2} {a b c : Expr} {pos : Pos} {opd opd' : D → D → EM D} {f g k : Env → EM D} (ho : OpR X (compareOp op) r) (ho' : OpR X (compareOp op') r') (hs : OpSpec W r opd) (hs' : OpSpec W r' opd')
    (ha : PE X a (tEvB W Wx f)) (hb : PE X b (tEvB W Wx g)) (hc : PE X c (tEvB W Wx k)) (hm : lastMarks [op, op'] [b, c] = false) : PT X (.Compare a [op, op'] [b, c] pos) (tEvT W Wx (fT (fChain opd opd' f g k))) :=
  PT.imp (pt_chain ho ho' ha hb hc hm) fun σ H Q h => tChain_of hs hs' (tB_of h)

/-! tests -/
def fAndT (f g : Env → EM Bool) : Env → EM Bool := fun env => bindE (f env) fun b => match b with
  | true => g env
  | false => pureE false
def fOrT (f g : Env → EM Bool) : Env → EM Bool := fun env => bindE (f env) fun b => match b with
  | true => pureE true
  | false => g env
def fNotT (f : Env → EM Bool) : Env → EM Bool := fun env => bindE (f env) fun b => pureE (!b)
theorem ew_and1 {a : Expr} {pos : Pos} {f : Env → EM Bool} (h : PT X a (tEvT W Wx f)) : PW X (.BoolOp .And [a] pos) (tEvT W Wx f) := pw_and1 h
theorem ew_or1 {a : Expr} {pos : Pos} {f : Env → EM Bool} (h : PT X a (tEvT W Wx f)) : PW X (.BoolOp .Or [a] pos) (tEvT W Wx f) := pw_or1 h
theorem ew_and {a b : Expr} {rest : List Expr} {pos : Pos} {f g : Env → EM Bool} (h : PT X a (tEvT W Wx f)) (h2 : PW X (.BoolOp .And (b :: rest) pos) (tEvT W Wx g)) : PW X (.BoolOp .And (a :: b :: rest) pos) (tEvT W Wx (fAndT f g)) :=
  PW.imp (pw_and h h2) fun σ H Q ⟨S, μ, env, res, hS, hE, hf, hk⟩ => by
    refine tG.bind hS hE hf hk fun b μ1 S1 H1 l1 g1 e1 hf1 hk1 => okT_mk ?_
    cases b with
    | true => exact iT rfl ⟨S1, μ1, env, res, g1, e1, hf1, hk1⟩
    | false => cases hf1; have z := hk1.now g1; exact iF Bool.false_ne_true z
theorem ew_or {a b : Expr} {rest : List Expr} {pos : Pos} {f g : Env → EM Bool} (h : PT X a (tEvT W Wx f)) (h2 : PW X (.BoolOp .Or (b :: rest) pos) (tEvT W Wx g)) : PW X (.BoolOp .Or (a :: b :: rest) pos) (tEvT W Wx (fOrT f g)) :=
  PW.imp (pw_or h h2) fun σ H Q ⟨S, μ, env, res, hS, hE, hf, hk⟩ => by
    refine tG.bind hS hE hf hk fun b μ1 S1 H1 l1 g1 e1 hf1 hk1 => okT_mk ?_
    cases b with
    | true => cases hf1; have z := hk1.now g1; exact iT rfl z
    | false => exact iF Bool.false_ne_true ⟨S1, μ1, env, res, g1, e1, hf1, hk1⟩
theorem et_not {a : Expr} {pos : Pos} {f : Env → EM Bool} (h : PT X a (tEvT W Wx f)) : PT X (.UnaryOp .Not a pos) (tEvT W Wx (fNotT f)) :=
  PT.imp (pt_not h) fun σ H Q ⟨S, μ, env, res, hS, hE, hf, hk⟩ => by
    refine tG.bind hS hE hf hk fun b μ1 S1 H1 l1 g1 e1 hf1 hk1 => ?_
    cases hf1; have z := hk1.now g1; exact z
/-- truth of a value -/
def truD : D → Option Bool
  | .non => some false
  | .bl b => some b
  | .int i => some (i != 0)
  | .str s => some (s.length != 0)
  | .lst xs => some (!xs.isEmpty)
  | .tup xs => some (!xs.isEmpty)
  | _ => none
def fTru (f : Env → EM D) : Env → EM Bool := fun env => bindE (f env) fun d => optE (truD d)
theorem RepVs.isEmpty {vs : List V} {ds : List D} (h : RepVs W S H vs ds) : ds.isEmpty = vs.isEmpty := by
  cases h <;> rfl
theorem RepB.strict {v : V} {d : D} (h : RepB W S H v d) (hd : ∀ c : Cell, d ≠ c.toD) : RepV W S H v d := by
  rcases h with h | ⟨a, w, c, e1, e2, _⟩
  · exact h
  · exact absurd e2 (hd c)
/-- a borrowed list -/
theorem RepB.lst {v : V} {xs : List D} (h : RepB W S H v (.lst xs)) : ∃ a vs, v = .ref a ∧ H a = some (.lst vs) ∧ vs.length ≤ big ∧ RepVs W S H vs xs := by
  rcases h with h | ⟨a, w, c, e1, e2, e3, e4, r⟩
  · cases h with
    | lst h1 h2 h3 h4 => exact ⟨_, _, rfl, h1, h3, h4⟩
  · cases c <;> cases e2
    obtain ⟨vs, q1, q2, q3⟩ := r
    exact ⟨a, vs, e1, q1, q2, q3⟩
theorem RepB.obj {v : V} {c : Nat} {fs : List (Str × D)} (h : RepB W S H v (.obj c fs)) : ∃ a dx vs, v = .ref a ∧ H a = some (.ins (W.ca c) dx vs) ∧ RepFs W S H vs fs := by
  rcases h with h | ⟨a, w, c, e1, e2, e3, e4, r⟩
  · cases h with | obj h1 h2 h3 => exact ⟨_, _, _, rfl, h1, h3⟩
  · cases c <;> cases e2
    obtain ⟨dx, vs, q1, q2⟩ := r
    exact ⟨a, dx, vs, e1, q1, q2⟩
theorem RepB.dK {v : V} {xs : List (Key × D)} (h : RepB W S H v (.dK xs)) : ∃ a vs, v = .ref a ∧ H a = some (.dK vs) ∧ vs.length ≤ big ∧ RepKs W S H vs xs := by
  rcases h with h | ⟨a, w, c, e1, e2, e3, e4, r⟩
  · cases h with | dK h1 h2 h3 h4 => exact ⟨_, _, rfl, h1, h3, h4⟩
  · cases c <;> cases e2
    obtain ⟨vs, q1, q2, q3⟩ := r
    exact ⟨a, vs, e1, q1, q2, q3⟩
theorem RepB.dT {v : V} {xs : List (List Key × D)} (h : RepB W S H v (.dT xs)) : ∃ a vs, v = .ref a ∧ H a = some (.dT vs) ∧ vs.length ≤ big ∧ RepTs W S H vs xs := by
  rcases h with h | ⟨a, w, c, e1, e2, e3, e4, r⟩
  · cases h with | dT h1 h2 h3 h4 => exact ⟨_, _, rfl, h1, h3, h4⟩
  · cases c <;> cases e2
    obtain ⟨vs, q1, q2, q3⟩ := r
    exact ⟨a, vs, e1, q1, q2, q3⟩
theorem RepB.tupV {v : V} {xs : List D} (h : RepB W S H v (.tup xs)) : RepV W S H v (.tup xs) := h.strict fun c => by cases c <;> exact fun z => nomatch z
theorem RepB.tup {v : V} {xs : List D} (h : RepB W S H v (.tup xs)) : ∃ a vs, v = .ref a ∧ SqT W.K H a vs ∧ vs.length ≤ big ∧ RepVs W S H vs xs := by
  cases h.tupV with
  | tup h1 h2 h3 h4 => exact ⟨_, _, rfl, SqT.of h1, h3, h4⟩
  | tupK h1 h2 h3 => exact ⟨_, _, rfl, h1.seq, h2, h3⟩
theorem RepB.int {v : V} {i : Int} (h : RepB W S H v (.int i)) : v = .int i := by
  cases h.strict fun c => by cases c <;> exact fun z => nomatch z
  rfl
theorem RepB.bl {v : V} {i : Bool} (h : RepB W S H v (.bl i)) : v = .bl i := by
  cases h.strict fun c => by cases c <;> exact fun z => nomatch z
  rfl
theorem RepB.non {v : V} (h : RepB W S H v .non) : v = .non := by
  cases h.strict fun c => by cases c <;> exact fun z => nomatch z
  rfl
theorem RepB.str {v : V} {s : Str} (h : RepB W S H v (.str s)) : v = .str s ∧ s.length ≤ big := by
  cases h.strict fun c => by cases c <;> exact fun z => nomatch z
  exact ⟨rfl, by assumption⟩
theorem RepB.cell {v : V} {n : Nat} (h : RepB W S H v (.cell n)) : ∃ a, v = .ref a ∧ S.ρ[n]? = some a ∧ S.Ow a = some (.cell n) := by
  cases h.strict fun c => by cases c <;> exact fun z => nomatch z
  exact ⟨_, rfl, by assumption, by assumption⟩
theorem RepV.scrS {a : Addr} {ns : List Int} (h : RepV W S H (.ref a) (.scr ns)) : SqL W.K H a (ns.map V.int) ∧ ns.length ≤ big := by
  cases h with
  | scr h1 h2 h3 h4 =>
    rcases h3 with rfl | ⟨o, rfl⟩
    · exact ⟨SqL.of h1, h4⟩
    · exact ⟨.inl (.inr ⟨o, h1⟩), h4⟩
  | scrK h1 h2 => exact ⟨h1.seq, h2⟩
theorem RepB.scr {v : V} {ns : List Int} (h : RepB W S H v (.scr ns)) : ∃ a, v = .ref a ∧ SqL W.K H a (ns.map V.int) ∧ ns.length ≤ big := by
  have q := h.strict fun c => by cases c <;> exact fun z => nomatch z
  cases v with
  | ref a => exact ⟨a, rfl, q.scrS⟩
  | _ => cases q
theorem truV_of {v : V} {d : D} {b : Bool} {K : PySem.W.Frag} (hK : K = W.K) (h : RepB W S H v d) (e : truD d = some b) : TruV K v H b := by
  subst hK
  cases d with
  | non => cases e; rw [h.non]; rfl
  | bl b => cases e; rw [h.bl]; rfl
  | int i => cases e; rw [h.int]; rfl
  | str s =>
    cases e; rw [h.str.1]
    exact ⟨Nat.le_trans h.str.2 big_le, by
      by_cases z : s.length = 0
      · rw [z]; rfl
      · have z' : ¬ ((s.length : Int) = 0) := by omega
        rw [bne_iff_ne.mpr z, bne_iff_ne.mpr z']⟩
  | lst xs =>
    cases e
    obtain ⟨a, vs, rfl, h1, h2, r⟩ := h.lst
    exact .inl ⟨vs, SqL.of h1, by rw [r.isEmpty]⟩
  | tup xs =>
    cases e
    obtain ⟨a, vs, rfl, h1, h2, r⟩ := h.tup
    exact .inr (.inl ⟨vs, h1, by rw [r.isEmpty]⟩)
  | _ => cases e
theorem et_truth (hK : X.K = W.K) {a : Expr} {f : Env → EM D} (ha : PE X a (tEvB W Wx f)) (he : ∀ whole, isTrue a X.env whole = (do let v ← whole; standAt a.pos; holding [v] (truthy v))) : PT X a (tEvT W Wx (fTru f)) :=
  PT.imp (pt_truth ha he) fun σ H Q ⟨S, μ, env, res, hS, hE, hf, hk⟩ => by
    refine tG.bind hS hE hf hk fun d μ1 S1 H1 l1 g1 e1 hf1 hk1 v rv => ?_
    obtain ⟨b, e, rfl⟩ := optE_some hf1
    exact ⟨b, truV_of hK rv e, hk1.now g1⟩
/-! and, or, not as values (of bools) -/
def fAndV (f g : Env → EM D) : Env → EM D := fun env => bindE (f env) fun d => match asB d with
  | some true => g env
  | some false => pureE (.bl false)
  | none => failE
def fOrV (f g : Env → EM D) : Env → EM D := fun env => bindE (f env) fun d => match asB d with
  | some true => pureE (.bl true)
  | some false => g env
  | none => failE
def fNotV (f : Env → EM D) : Env → EM D := fun env => bindE (f env) fun d => match asB d with
  | some b => pureE (.bl (!b))
  | none => failE
theorem asB_some {d : D} {b : Bool} (h : asB d = some b) : d = .bl b := by cases d <;> first | cases h; rfl | cases h
theorem ev_one {op} {a : Expr} {pos : Pos} {f : Env → EM D} (h : PE X a (tEv W Wx f)) : PE X (.BoolOp op [a] pos) (tEv W Wx f) := pe_one h
theorem ev_and {a b : Expr} {rest : List Expr} {pos : Pos} {f g : Env → EM D} (h : PE X a (tEv W Wx f)) (h2 : PE X (.BoolOp .And (b :: rest) pos) (tEv W Wx g)) : PE X (.BoolOp .And (a :: b :: rest) pos) (tEv W Wx (fAndV f g)) :=
  PE.imp (pe_and h h2) fun σ H Q ⟨S, μ, env, res, hS, hE, hf, hk⟩ => by
    refine tG.bind hS hE hf hk fun d μ1 S1 H1 l1 g1 e1 hf1 hk1 v rv => ?_
    cases e : asB d with
    | none => rw [e] at hf1; cases hf1
    | some b =>
      rw [e] at hf1
      cases asB_some e
      cases rv
      refine ⟨b, rfl, ?_⟩
      cases b with
      | true => exact iT rfl ⟨S1, μ1, env, res, g1, e1, hf1, hk1⟩
      | false => cases hf1; have z := hk1.now g1 _ (.bl false); exact iF Bool.false_ne_true z
theorem ev_or {a b : Expr} {rest : List Expr} {pos : Pos} {f g : Env → EM D} (h : PE X a (tEv W Wx f)) (h2 : PE X (.BoolOp .Or (b :: rest) pos) (tEv W Wx g)) : PE X (.BoolOp .Or (a :: b :: rest) pos) (tEv W Wx (fOrV f g)) :=
  PE.imp (pe_or h h2) fun σ H Q ⟨S, μ, env, res, hS, hE, hf, hk⟩ => by
    refine tG.bind hS hE hf hk fun d μ1 S1 H1 l1 g1 e1 hf1 hk1 v rv => ?_
    cases e : asB d with
    | none => rw [e] at hf1; cases hf1
    | some b =>
      rw [e] at hf1
      cases asB_some e
      cases rv
      refine ⟨b, rfl, ?_⟩
      cases b with
      | true => cases hf1; have z := hk1.now g1 _ (.bl true); exact iT rfl z
      | false => exact iF Bool.false_ne_true ⟨S1, μ1, env, res, g1, e1, hf1, hk1⟩
theorem ev_not {a : Expr} {pos : Pos} {f : Env → EM D} (h : PE X a (tEv W Wx f)) : PE X (.UnaryOp .Not a pos) (tEv W Wx (fNotV f)) :=
  PE.imp (pe_not h) fun σ H Q ⟨S, μ, env, res, hS, hE, hf, hk⟩ => by
    refine tG.bind hS hE hf hk fun d μ1 S1 H1 l1 g1 e1 hf1 hk1 v rv => ?_
    cases e : asB d with
    | none => rw [e] at hf1; cases hf1
    | some b =>
      rw [e] at hf1
      cases asB_some e
      cases rv
      cases hf1
      exact ⟨b, rfl, hk1.now g1 _ (.bl (!b))⟩
def fIf (c : Env → EM Bool) (f g : Env → EM D) : Env → EM D := fun env => bindE (c env) fun b => match b with
  | true => f env
  | false => g env
theorem ev_ife {c a b : Expr} {pos : Pos} {fc : Env → EM Bool} {f g : Env → EM D} (hc : PT X c (tEvT W Wx fc)) (ha : PE X a (tEv W Wx f)) (hb : PE X b (tEv W Wx g)) : PE X (.IfExp c a b pos) (tEv W Wx (fIf fc f g)) :=
  PE.imp (pe_ifExp hc ha hb) fun σ H Q ⟨S, μ, env, res, hS, hE, hf, hk⟩ => by
    refine tG.bind hS hE hf hk fun b μ1 S1 H1 l1 g1 e1 hf1 hk1 => okT_mk ?_
    cases b with
    | true => exact iT rfl ⟨S1, μ1, env, res, g1, e1, hf1, hk1⟩
    | false => exact iF Bool.false_ne_true ⟨S1, μ1, env, res, g1, e1, hf1, hk1⟩

/-! arguments -/
def fNil : Env → EM (List D) := fun _ => pureE []
def fCons (f : Env → EM D) (g : Env → EM (List D)) : Env → EM (List D) := fun env => bindE (f env) fun d => bindE (g env) fun ds => pureE (d :: ds)
theorem ea_nil : PA X [] (tEvs W Wx fNil) := PA.imp pa_nil fun σ H Q ⟨S, μ, env, res, hS, hE, hf, hk⟩ => by
  cases hf; exact hk.now hS _ .nil
theorem ea_cons {e : Expr} {es : List Expr} {f : Env → EM D} {g : Env → EM (List D)} (h : PE X e (tEv W Wx f)) (h2 : PA X es (tEvs W Wx g)) (hs : starEach (e :: es) X.env = (false, eval e X.env) :: starEach es X.env) : PA X (e :: es) (tEvs W Wx (fCons f g)) :=
  PA.imp (pa_cons h h2 hs) fun σ H Q ⟨S, μ, env, res, hS, hE, hf, hk⟩ => by
    refine tG.bind hS hE hf hk fun d μ1 S1 H1 l1 g1 e1 hf1 hk1 v rv => ?_
    refine tG.bind g1 e1 hf1 hk1 fun ds μ2 S2 H2 l2 g2 e2 hf2 hk2 vs rvs => ?_
    cases hf2
    exact hk2.now g2 _ (.cons (rv.later l2) rvs)
theorem eb_nil : PA X [] (tEvBs W Wx fNil) := PA.imp pa_nil fun σ H Q ⟨S, μ, env, res, hS, hE, hf, hk⟩ => by
  cases hf; exact hk.now hS _ .nil
theorem eb_cons {e : Expr} {es : List Expr} {f : Env → EM D} {g : Env → EM (List D)} (h : PE X e (tEvB W Wx f)) (h2 : PA X es (tEvBs W Wx g)) (hs : starEach (e :: es) X.env = (false, eval e X.env) :: starEach es X.env) : PA X (e :: es) (tEvBs W Wx (fCons f g)) :=
  PA.imp (pa_cons h h2 hs) fun σ H Q ⟨S, μ, env, res, hS, hE, hf, hk⟩ => by
    refine tG.bind hS hE hf hk fun d μ1 S1 H1 l1 g1 e1 hf1 hk1 v rv => ?_
    refine tG.bind g1 e1 hf1 hk1 fun ds μ2 S2 H2 l2 g2 e2 hf2 hk2 vs rvs => ?_
    cases hf2
    exact hk2.now g2 _ (.cons (rv.laterE l2) rvs)

/-! displays -/
def fTup (g : Env → EM (List D)) : Env → EM D := fun env => bindE (g env) fun ds => guardE (decide (ds.length ≤ big)) (pureE (.tup ds))
theorem ev_tup {es : List Expr} {k : Nat} {pos : Pos} {g : Env → EM (List D)} (h : PA X es (tEvs W Wx g)) : PE X (.Tuple es k pos) (tEv W Wx (fTup g)) :=
  PE.imp (pe_tup h) fun σ H Q ⟨S, μ, env, res, hS, hE, hf, hk⟩ => by
    refine tG.bind hS hE hf hk fun ds μ1 S1 H1 l1 g1 e1 hf1 hk1 vs rvs => ?_
    obtain ⟨hl, hf2⟩ := guardE_some hf1
    cases hf2
    have hl : ds.length ≤ big := of_decide_eq_true hl
    rw [← rvs.length] at hl
    refine ⟨Nat.le_trans hl big_le, fun p hp => ?_⟩
    have lt : LtE S1 H1 S1 (upd H1 p (.tup vs)) := lt_upd hp g1.wf
    exact hk1 S1 _ lt (g1.upd hp) _ (.tup upd_same (g1.fresh hp) hl (rvs.later lt))
def fLst (g : Env → EM (List D)) : Env → EM (List D) := fun env => bindE (g env) fun ds => guardE (decide (ds.length ≤ big)) (pureE ds)
/-- a list display: new -/
theorem el_lst {es : List Expr} {pos : Pos} {g : Env → EM (List D)} (h : PA X es (tEvs W Wx g)) : PE X (.List es pos) (tEvL W Wx (fLst g)) :=
  PE.imp (pe_lst h) fun σ H Q ⟨S, μ, env, res, hS, hE, hf, hk⟩ => by
    refine tG.bind hS hE hf hk fun ds μ1 S1 H1 l1 g1 e1 hf1 hk1 vs rvs => ?_
    obtain ⟨hl, hf2⟩ := guardE_some hf1
    cases hf2
    have hl : ds.length ≤ big := of_decide_eq_true hl
    rw [← rvs.length] at hl
    refine ⟨Nat.le_trans hl big_le, fun p hp => ?_⟩
    have lt : LtE S1 H1 (S1.set p (some .out)) (upd H1 p (.lst vs)) := lt_new hp g1.wf
    refine hk1 (S1.set p (some .out)) _ lt (g1.new hp) p vs ?_ Ws.set_same upd_same hl (rvs.later lt)
    cases e : H p with
    | none => rfl
    | some o => exact absurd hp (l1.mem p (by rw [e]; exact fun z => nomatch z))
/-- a new list as data -/
def fD (g : Env → EM (List D)) : Env → EM D := fun env => bindE (g env) fun ds => pureE (.lst ds)
theorem new_of {g : Env → EM (List D)} {Q : VK} (h : tEv W Wx (fD g) σ H Q) : tEvL W Wx g σ H Q := by
  obtain ⟨S, μ, env, res, hS, hE, hf, hk⟩ := h
  unfold fD bindE at hf
  cases e : g env μ with
  | none => rw [e] at hf; cases hf
  | some q =>
    obtain ⟨o, μ1⟩ := q
    rw [e] at hf
    cases o with
    | exc c fs => cases hf; exact ⟨S, μ, env, _, hS, hE, e, hk⟩
    | ok ds =>
      cases hf
      refine ⟨S, μ, env, _, hS, hE, e, fun S' H' l g' p vs hp ho hh hl r => ?_⟩
      have l2 : Lt kE S H (S'.set p none) H' := by
        refine ⟨fun a o q w => ?_, fun a w q k => ?_, fun n a q w => ?_, l.mem⟩
        · have : a ≠ p := fun z => by rw [z, hp] at w; cases w
          rw [Ws.set_ne this]; exact l.dat a o q w
        · have : a ≠ p := fun z => by obtain ⟨u, z'⟩ := hS.wf a w q; rw [z, hp] at z'; cases z'
          rw [Ws.set_ne this]; exact l.own a w q k
        · have : a ≠ p := fun z => by obtain ⟨u, z'⟩ := hS.wf a _ w; rw [z, hp] at z'; cases z'
          rw [Ws.set_ne this]; exact l.cel n a q w
      have l3 : Lt (fun _ => False) S' H' (S'.set p none) H' := lt_set ho (fun x => x) fun n z => nomatch z
      exact hk (S'.set p none) H' l2 (g'.set ho fun n z => nomatch z) _ (.lst hh Ws.set_same hl (r.later l3))
theorem ev_new {e : Expr} {g : Env → EM (List D)} (h : PE X e (tEvL W Wx g)) : PE X e (tEv W Wx (fD g)) := PE.imp h fun σ H Q h => new_of h

/-! built-in functions -/
def CallSpec (W : Wd) (r : List V → Hp → VK → Prop) (op : List D → EM D) : Prop := ∀ (vs : List V) (ds : List D) (S : Ws) (H : Hp) (μ : Mu) (res : Out D × Mu) (σ : St) (Wx : WX) (Q : VK), Sg W S H μ → RepBs W S H vs ds → op ds μ = some res → KG W S H σ Wx (okV W Q) res → r vs H Q
/-- .. that lays a new list -/
def CallSpecL (W : Wd) (r : List V → Hp → VK → Prop) (op : List D → EM (List D)) : Prop := ∀ (vs : List V) (ds : List D) (S : Ws) (H : Hp) (μ : Mu) (res : Out (List D) × Mu) (σ : St) (Wx : WX) (Q : VK) (H0 : Hp), Sg W S H μ → (∀ a, H0 a ≠ none → H a ≠ none) → RepBs W S H vs ds → op ds μ = some res → KG W S H σ Wx (okL W Q H0) res → r vs H Q
def fCB {α : Type} (op : List D → EM α) (g : Env → EM (List D)) : Env → EM α := fun env => bindE (g env) op
theorem tCB_of {r : List V → Hp → VK → Prop} {op : List D → EM D} {g : Env → EM (List D)} (hs : CallSpec W r op) {H : Hp} {Q : VK} (h : tEv W Wx (fCB op g) σ H Q) : tCB r (tEvBs W Wx g) σ H Q := by
  obtain ⟨S, μ, env, res, hS, hE, hf, hk⟩ := h
  exact tG.bind hS hE hf hk fun ds μ1 S1 H1 l1 g1 e1 hf1 hk1 vs rvs => hs vs ds S1 H1 μ1 res σ Wx Q g1 rvs hf1 hk1
theorem tCBL_of {r : List V → Hp → VK → Prop} {op : List D → EM (List D)} {g : Env → EM (List D)} (hs : CallSpecL W r op) {H : Hp} {Q : VK} (h : tEvL W Wx (fCB op g) σ H Q) : tCB r (tEvBs W Wx g) σ H Q := by
  obtain ⟨S, μ, env, res, hS, hE, hf, hk⟩ := h
  exact tG.bind hS hE hf hk fun ds μ1 S1 H1 l1 g1 e1 hf1 hk1 vs rvs => hs vs ds S1 H1 μ1 res σ Wx Q H g1 l1.mem rvs hf1 hk1
end
end EG
namespace EG
open PySem L2

/-! what the operators do to data -/
def okMul (i j : Int) : Bool := decide (-(2 ^ 64) < i ∧ i < 2 ^ 64) || decide (-(2 ^ 64) < j ∧ j < 2 ^ 64)
def addD : D → D → EM D
  | .int i, .int j => pureE (.int (i + j))
  | .str x, .str y => guardE (decide (x.length + y.length ≤ big)) (pureE (.str (x ++ y)))
  | .tup xs, .tup ys => guardE (decide (xs.length + ys.length ≤ big)) (pureE (.tup (xs ++ ys)))
  | .lst xs, .lst ys => guardE (decide (xs.length + ys.length ≤ big)) (pureE (.lst (xs ++ ys)))
  | _, _ => failE
def subD : D → D → EM D
  | .int i, .int j => pureE (.int (i - j))
  | _, _ => failE
def repL (k : Nat) (xs : List D) : List D := (List.replicate k xs).flatten
def mulD : D → D → EM D
  | .int i, .int j => guardE (okMul i j) (pureE (.int (i * j)))
  | .lst xs, .int k => guardE (decide (-(2 ^ 63) ≤ k ∧ k < 2 ^ 63 ∧ xs.length * k.toNat ≤ big)) (pureE (.lst (repL k.toNat xs)))
  | _, _ => failE
def divD : D → D → EM D
  | .int i, .int j => guardE (decide (0 < j ∧ j < 2 ^ 64)) (pureE (.int (i / j)))
  | _, _ => failE
def modD : D → D → EM D
  | .int i, .int j => guardE (decide (0 < j)) (pureE (.int (i % j)))
  | _, _ => failE
def powD : D → D → EM D
  | .int i, .int j => guardE (decide (0 ≤ j ∧ j ≤ 1000000 ∧ i.natAbs < 2 ^ 64)) (pureE (.int (i ^ j.toNat)))
  | _, _ => failE
def cmpI (p : Int → Int → Bool) : D → D → EM D
  | .int i, .int j => pureE (.bl (p i j))
  | _, _ => failE
def scalD : D → D → Option Bool
  | .non, .non => some true | .non, .int _ => some false | .int _, .non => some false | .non, .bl _ => some false | .bl _, .non => some false
  | .non, .str _ => some false | .str _, .non => some false
  | .int i, .int j => some (decide (i = j)) | .bl a, .bl b => some (decide (a = b)) | .str x, .str y => some (decide (x = y))
  | .int _, .str _ => some false | .str _, .int _ => some false | .bl _, .str _ => some false | .str _, .bl _ => some false
  | _, _ => none
mutual
def layD : D → Option PyData
  | .non => some .none
  | .bl b => some (.bool b)
  | .int i => some (.int i)
  | .str s => if PyData.strOk s then some (.str s) else none
  | .lst xs => match layAll xs with
    | some ps => some (.list ps)
    | none => none
  | .tup xs => match layAll xs with
    | some ps => some (.tuple ps)
    | none => none
  | _ => none
def layAll : List D → Option (List PyData)
  | [] => some []
  | d :: ds => match layD d, layAll ds with
    | some p, some ps => some (p :: ps)
    | _, _ => none
end
def eqD (d e : D) : Option Bool := match scalD d e with
  | some b => some b
  | none => match layD d, layD e with
    | some p, some q => if p.depth ≤ 64 ∧ q.depth ≤ 64 then some (PyData.eqv p q) else none
    | _, _ => none
def eqDD : D → D → EM D := fun d e => optE ((eqD d e).map .bl)
def neDD : D → D → EM D := fun d e => optE ((eqD d e).map fun b => .bl (!b))
def isND : D → D → EM D
  | .non, .non => pureE (.bl true)
  | .cell _, .non => pureE (.bl false)
  | .bl _, .non => pureE (.bl false)
  | .int _, .non => pureE (.bl false)
  | .str _, .non => pureE (.bl false)
  | .lst _, .non => pureE (.bl false)
  | .tup _, .non => pureE (.bl false)
  | .obj _ _, .non => pureE (.bl false)
  | _, _ => failE
def notND : D → D → EM D := fun d e => bindE (isND d e) fun z => match z with
  | .bl b => pureE (.bl (!b))
  | _ => failE
def flatD : D → Bool
  | .non => true | .bl _ => true | .int _ => true | .str _ => true
  | _ => false
def eqF : D → D → Bool
  | .non, .non => true
  | .bl a, .bl b => a == b
  | .bl a, .int b => (if a then 1 else 0) == b
  | .int a, .bl b => a == (if b then 1 else 0)
  | .int a, .int b => a == b
  | .str a, .str b => a == b
  | _, _ => false
def inL (x : D) (xs : List D) : Option Bool := if flatD x && xs.all flatD then some (xs.any fun y => eqF y x) else none
/-- the items of a list, a tuple, a list that is a cell -/
def seqD (d : D) (μ : Mu) : Option (List D) := match d with
  | .lst xs => some xs
  | .tup xs => some xs
  | .cell n => match μ[n]? with
    | some (.lst xs) => some xs
    | _ => none
  | _ => none
def seqE (d : D) : EM (List D) := fun μ => match seqD d μ with
  | some xs => some (.ok xs, μ)
  | none => none
def inD : D → D → EM D := fun x y => match x, y with
  | .str a, .str z => match a.cps.toList with
    | [c] => pureE (.bl (decide (c ∈ z.cps.toList)))
    | _ => failE
  | x, y => bindE (seqE y) fun xs => optE ((inL x xs).map .bl)
def notInD : D → D → EM D := fun x y => bindE (inD x y) fun z => match z with
  | .bl b => pureE (.bl (!b))
  | _ => failE

section
variable {W : Wd} {S S' S1 : Ws} {H H' H1 : Hp} {σ : St} {env : Env} {μ : Mu} {Wx : WX} {α β : Type}
theorem KG.val {Q : VK} {d : D} {v : V} (hS : Sg W S H μ) (h : KG W S H σ Wx (okV W Q) (.ok d, μ)) (r : RepV W S H v d) : Q v H := h.now hS v r
/-- list or tuple -/
theorem seqD_rep {v : V} {d : D} {xs : List D} (hS : Sg W S H μ) (h : RepB W S H v d) (e : seqD d μ = some xs) : ∃ a vs, v = .ref a ∧ (SqL W.K H a vs ∨ SqT W.K H a vs) ∧ vs.length ≤ big ∧ RepVs W S H vs xs := by
  cases d with
  | lst ys =>
    cases e
    obtain ⟨a, vs, e, h1, h2, r⟩ := h.lst
    exact ⟨a, vs, e, .inl (SqL.of h1), h2, r⟩
  | tup ys =>
    cases e
    obtain ⟨a, vs, e, h1, h2, r⟩ := h.tup
    exact ⟨a, vs, e, .inr h1, h2, r⟩
  | cell n =>
    obtain ⟨a, e1, e2, e3⟩ := h.cell
    have e : (match μ[n]? with
      | some (.lst xs) => some xs
      | _ => none) = some xs := e
    cases q : μ[n]? with
    | none => rw [q] at e; cases e
    | some c =>
      rw [q] at e
      cases c with
      | obj c fs => cases e
      | dK _ => cases e
      | dT _ => cases e
      | lst ys =>
        cases e
        obtain ⟨a', h1, h2, vs, h3, h4, r⟩ := hS.cells n _ q
        rw [e2] at h1; cases h1
        exact ⟨a, vs, e1, .inl (SqL.of h3), h4, r⟩
  | _ => cases e
theorem seqE_some {d : D} {xs : List D} {r : Out (List D) × Mu} (h : seqE d μ = some r) : ∃ xs, seqD d μ = some xs ∧ r = (.ok xs, μ) := by
  unfold seqE at h
  cases e : seqD d μ with
  | none => rw [e] at h; cases h
  | some xs => rw [e] at h; cases h; exact ⟨xs, rfl, rfl⟩
def rOr (r r' : R2) : R2 := fun x y H Q => r x y H Q ∨ r' x y H Q
/-! + -/
abbrev rAddS : R2 := fun x y H Q => ∃ i j, x = .str i ∧ y = .str j ∧ i.length + j.length ≤ sizeLine ∧ Q (.str (i ++ j)) H
def rAddAll (K : PySem.W.Frag) : R2 := fun x y H Q => (rI0 fun i j => .int (i + j)) x y H Q ∨ (rAddS x y H Q ∨ (rCatA K x y H Q ∨ rCat x y H Q))
theorem opr_add {X : Cx} (hK : X.K = W.K) : OpR X (binaryOp .Add) (rAddAll W.K) := by
  rw [← hK]; exact OpR.or op_add (OpR.or op_add_str (OpR.or op_catA op_cat))
theorem str_len (x y : Str) : (x ++ y).length = x.length + y.length := by
  have := congrArg List.length (TL.tl_append x y)
  rw [List.length_append, ← TL.len_tl, ← TL.len_tl, ← TL.len_tl] at this
  exact this
theorem os_add : OpSpec W (rAddAll W.K) addD := by
  intro x y d e S H μ res σ Wx Q hS rx ry hf hk
  unfold addD at hf
  split at hf
  · cases rx.int; cases ry.int; cases hf
    exact .inl ⟨_, _, rfl, rfl, hk.val hS (.int _)⟩
  · obtain ⟨hl, hf⟩ := guardE_some hf
    cases hf
    have hl := of_decide_eq_true hl
    obtain ⟨rfl, _⟩ := rx.str
    obtain ⟨rfl, _⟩ := ry.str
    exact .inr (.inl ⟨_, _, rfl, rfl, Nat.le_trans hl big_le, hk.val hS (.str _ (by rw [str_len]; exact hl))⟩)
  · rename_i xs ys
    obtain ⟨hl, hf⟩ := guardE_some hf
    cases hf
    have hl := of_decide_eq_true hl
    obtain ⟨a, vs, rfl, h1, h2, r1⟩ := rx.tup
    obtain ⟨b, ws, rfl, h3, h4, r2⟩ := ry.tup
    have hlen : vs.length + ws.length ≤ big := by rw [r1.length, r2.length]; exact hl
    refine .inr (.inr (.inl ⟨a, b, vs, ws, rfl, rfl, h1, h3, Nat.le_trans hlen big_le, fun q => ?_, fun hne q => ?_, fun hne hne2 p hp => ?_⟩))
    · subst q
      cases r1
      exact hk.val hS ry.tupV
    · subst q
      cases r2
      rw [List.append_nil] at hk
      exact hk.val hS rx.tupV
    · have lt : LtE S H S (upd H p (.tup (vs ++ ws))) := lt_upd hp hS.wf
      exact hk S _ lt (hS.upd hp) _ (.tup upd_same (hS.fresh hp) (by rw [List.length_append]; exact hlen) ((r1.append r2).later lt))
  · rename_i xs ys
    obtain ⟨hl, hf⟩ := guardE_some hf
    cases hf
    have hl := of_decide_eq_true hl
    obtain ⟨a, vs, rfl, h1, h2, r1⟩ := rx.lst
    obtain ⟨b, ws, rfl, h3, h4, r2⟩ := ry.lst
    have hlen : vs.length + ws.length ≤ big := by rw [r1.length, r2.length]; exact hl
    refine .inr (.inr (.inr ⟨a, b, vs, ws, rfl, rfl, h1, h3, Nat.le_trans hlen big_le, fun p hp => ?_⟩))
    have lt : LtE S H S (upd H p (.lst (vs ++ ws))) := lt_upd hp hS.wf
    exact hk S _ lt (hS.upd hp) _ (.lst upd_same (hS.fresh hp) (by rw [List.length_append]; exact hlen) ((r1.append r2).later lt))
  · cases hf
theorem os_int {C : Int → Int → Prop} {g : Int → Int → Int} {op : D → D → EM D} (h : ∀ d e r, op d e μ = some r → True) : True := trivial
theorem os_sub : OpSpec W (rI0 fun i j => .int (i - j)) subD := by
  intro x y d e S H μ res σ Wx Q hS rx ry hf hk
  unfold subD at hf
  split at hf
  · cases rx.int; cases ry.int; cases hf
    exact ⟨_, _, rfl, rfl, hk.val hS (.int _)⟩
  · cases hf
theorem rep_repL {vs : List V} {ds : List D} (h : RepVs W S H vs ds) : ∀ k : Nat, RepVs W S H (List.replicate k vs).flatten (repL k ds)
  | 0 => .nil
  | k + 1 => by
    unfold repL
    rw [List.replicate_succ, List.replicate_succ, List.flatten_cons, List.flatten_cons]
    exact h.append (rep_repL h k)
theorem len_rep (vs : List V) : ∀ k : Nat, ((List.replicate k vs).flatten).length = vs.length * k
  | 0 => by simp
  | k + 1 => by rw [List.replicate_succ, List.flatten_cons, List.length_append, len_rep vs k, Nat.mul_succ]; omega
def rMulAll : R2 := fun x y H Q => rI CMul (fun i j => .int (i * j)) x y H Q ∨ rRep x y H Q
theorem opr_mul {X : Cx} : OpR X (binaryOp .Mult) rMulAll := OpR.or op_mul op_rep
theorem os_mul : OpSpec W rMulAll mulD := by
  intro x y d e S H μ res σ Wx Q hS rx ry hf hk
  unfold mulD at hf
  split at hf
  · obtain ⟨hl, hf⟩ := guardE_some hf
    cases hf
    cases rx.int; cases ry.int
    refine .inl ⟨_, _, rfl, rfl, ?_, hk.val hS (.int _)⟩
    unfold okMul at hl
    rcases (Bool.or_eq_true _ _).mp hl with hl | hl
    · exact .inl (of_decide_eq_true hl)
    · exact .inr (of_decide_eq_true hl)
  · rename_i xs k
    cases ry.int
    obtain ⟨hl, hf⟩ := guardE_some hf
    cases hf
    have hl := of_decide_eq_true hl
    obtain ⟨a, vs, rfl, h1, h2, r1⟩ := rx.lst
    have hlen : vs.length * k.toNat ≤ big := by rw [r1.length]; exact hl.2.2
    refine .inr ⟨a, k, vs, rfl, rfl, h1, hl.1, hl.2.1, Nat.le_trans hlen big_le, fun p hp => ?_⟩
    have lt : LtE S H S (upd H p (.lst (List.replicate k.toNat vs).flatten)) := lt_upd hp hS.wf
    exact hk S _ lt (hS.upd hp) _ (.lst upd_same (hS.fresh hp) (by rw [len_rep]; exact hlen) ((rep_repL r1 _).later lt))
  · cases hf
theorem os_div : OpSpec W (rI CDivW fun i j => .int (i / j)) divD := by
  intro x y d e S H μ res σ Wx Q hS rx ry hf hk
  unfold divD at hf
  split at hf
  · obtain ⟨hl, hf⟩ := guardE_some hf
    cases hf
    cases rx.int; cases ry.int
    have hl := of_decide_eq_true hl
    exact ⟨_, _, rfl, rfl, wide_div (b := 64) hl.1 (by omega) (by decide) (by decide), hk.val hS (.int _)⟩
  · cases hf
theorem os_mod : OpSpec W (rI (fun _ j => 0 < j) fun i j => .int (i % j)) modD := by
  intro x y d e S H μ res σ Wx Q hS rx ry hf hk
  unfold modD at hf
  split at hf
  · obtain ⟨hl, hf⟩ := guardE_some hf
    cases hf
    cases rx.int; cases ry.int
    exact ⟨_, _, rfl, rfl, of_decide_eq_true hl, hk.val hS (.int _)⟩
  · cases hf
theorem os_pow : OpSpec W (rI CPow fun i j => .int (i ^ j.toNat)) powD := by
  intro x y d e S H μ res σ Wx Q hS rx ry hf hk
  unfold powD at hf
  split at hf
  · obtain ⟨hl, hf⟩ := guardE_some hf
    cases hf
    cases rx.int; cases ry.int
    have hl := of_decide_eq_true hl
    exact ⟨_, _, rfl, rfl, hl, hk.val hS (.int _)⟩
  · cases hf
theorem os_cmp (p : Int → Int → Bool) : OpSpec W (rI0 fun i j => .bl (p i j)) (cmpI p) := by
  intro x y d e S H μ res σ Wx Q hS rx ry hf hk
  unfold cmpI at hf
  split at hf
  · cases rx.int; cases ry.int; cases hf
    exact ⟨_, _, rfl, rfl, hk.val hS (.bl _)⟩
  · cases hf
/-! == -/
mutual
theorem lay_dp : ∀ {v : V} {d : D} {p : PyData}, RepV W S H v d → layD d = some p → Dp W.K H v p ∧ p.canLay0 = true
  | _, _, _, .non, e => by cases e; exact ⟨.non, rfl⟩
  | _, _, _, .bl b, e => by cases e; exact ⟨.bl b, rfl⟩
  | _, _, _, .int i, e => by cases e; exact ⟨.int i, rfl⟩
  | _, _, _, .str s h, e => by
    unfold layD at e
    split at e
    · cases e; rename_i q; exact ⟨.str s, by simpa [PyData.canLay0] using q⟩
    · cases e
  | _, _, _, .lst (ds := ds) h1 h2 h3 h4, e => by
    unfold layD at e
    cases q : layAll ds with
    | none => rw [q] at e; cases e
    | some ps =>
      rw [q] at e; cases e
      obtain ⟨r, z⟩ := lay_dps h4 q
      exact ⟨.lst (SqL.of h1) r, by simpa [PyData.canLay0] using z⟩
  | _, _, _, .tup (ds := ds) h1 h2 h3 h4, e => by
    unfold layD at e
    cases q : layAll ds with
    | none => rw [q] at e; cases e
    | some ps =>
      rw [q] at e; cases e
      obtain ⟨r, z⟩ := lay_dps h4 q
      exact ⟨.tup (SqT.of h1) r, by simpa [PyData.canLay0] using z⟩
  | _, _, _, .tupK (ds := ds) h1 h3 h4, e => by
    unfold layD at e
    cases q : layAll ds with
    | none => rw [q] at e; cases e
    | some ps =>
      rw [q] at e; cases e
      obtain ⟨r, z⟩ := lay_dps h4 q
      exact ⟨.tup h1.seq r, by simpa [PyData.canLay0] using z⟩
  | _, _, _, .obj _ _ _, e => by unfold layD at e; cases e
  | _, _, _, .cell _ _, e => by unfold layD at e; cases e
  | _, _, _, .scr _ _ _ _, e => by unfold layD at e; cases e
  | _, _, _, .scrK _ _, e => by unfold layD at e; cases e
  | _, _, _, .dK _ _ _ _, e => by unfold layD at e; cases e
  | _, _, _, .dT _ _ _ _, e => by unfold layD at e; cases e
  | _, _, _, .cls, e => by unfold layD at e; cases e
theorem lay_dps : ∀ {vs : List V} {ds : List D} {ps : List PyData}, RepVs W S H vs ds → layAll ds = some ps → DpAll W.K H vs ps ∧ PyData.canLayAll0 ps = true
  | _, _, _, .nil, e => by unfold layAll at e; cases e; exact ⟨.nil, rfl⟩
  | _, _, _, .cons (d := d) (ds := ds) r t, e => by
    unfold layAll at e
    cases q1 : layD d with
    | none => rw [q1] at e; cases e
    | some p =>
      cases q2 : layAll ds with
      | none => rw [q1, q2] at e; cases e
      | some ps =>
        rw [q1, q2] at e
        cases e
        obtain ⟨a, x⟩ := lay_dp r q1
        obtain ⟨b, y⟩ := lay_dps t q2
        exact ⟨.cons a b, by simp [PyData.canLayAll0, x, y]⟩
end
theorem lay_B {v : V} {d : D} {p : PyData} (h : RepB W S H v d) (e : layD d = some p) : Dp W.K H v p ∧ p.canLay0 = true := by
  rcases h with h | ⟨a, w, c, e1, e2, e3, e4, r⟩
  · exact lay_dp h e
  · subst e1 e2
    cases c with
    | lst xs =>
      obtain ⟨vs, h1, h2, h3⟩ := r
      unfold Cell.toD layD at e
      cases q : layAll xs with
      | none => rw [q] at e; cases e
      | some ps =>
        rw [q] at e; cases e
        obtain ⟨r, z⟩ := lay_dps h3 q
        exact ⟨.lst (SqL.of h1) r, by simpa [PyData.canLay0] using z⟩
    | obj c fs => unfold Cell.toD layD at e; cases e
    | dK _ => unfold Cell.toD layD at e; cases e
    | dT _ => unfold Cell.toD layD at e; cases e
theorem scal_rep {x y : V} {d e : D} {b : Bool} (rx : RepB W S H x d) (ry : RepB W S H y e) (h : scalD d e = some b) : scal x y = true ∧ decide (x = y) = b := by
  unfold scalD at h
  split at h <;> first
    | (cases h; done)
    | (cases h; cases rx.non; cases ry.non; exact ⟨rfl, by decide⟩)
    | (cases h; cases rx.non; cases ry.int; exact ⟨rfl, by simp⟩)
    | (cases h; cases rx.int; cases ry.non; exact ⟨rfl, by simp⟩)
    | (cases h; cases rx.non; cases ry.bl; exact ⟨rfl, by simp⟩)
    | (cases h; cases rx.bl; cases ry.non; exact ⟨rfl, by simp⟩)
    | (cases h; cases rx.non; cases ry.str.1; exact ⟨rfl, by simp⟩)
    | (cases h; cases rx.str.1; cases ry.non; exact ⟨rfl, by simp⟩)
    | (cases h; cases rx.int; cases ry.int; exact ⟨rfl, by simp⟩)
    | (cases h; cases rx.bl; cases ry.bl; exact ⟨rfl, by simp⟩)
    | (cases h; cases rx.str.1; cases ry.str.1; exact ⟨rfl, by simp⟩)
    | (cases h; cases rx.int; cases ry.str.1; exact ⟨rfl, by simp⟩)
    | (cases h; cases rx.str.1; cases ry.int; exact ⟨rfl, by simp⟩)
    | (cases h; cases rx.bl; cases ry.str.1; exact ⟨rfl, by simp⟩)
    | (cases h; cases rx.str.1; cases ry.bl; exact ⟨rfl, by simp⟩)
def rEqAll (K : PySem.W.Frag) : R2 := fun x y H Q => rEq x y H Q ∨ rEqD K x y H Q
def rNeAll (K : PySem.W.Frag) : R2 := fun x y H Q => rNe x y H Q ∨ rNeD K x y H Q
theorem opr_eq {X : Cx} (hK : X.K = W.K) (hu : X.A.units + 64 < cLine) : OpR X (compareOp .Eq) (rEqAll W.K) := by
  rw [← hK]; exact OpR.or op_eq (op_eqD hu)
theorem opr_ne {X : Cx} (hK : X.K = W.K) (hu : X.A.units + 64 < cLine) : OpR X (compareOp .NotEq) (rNeAll W.K) := by
  rw [← hK]; exact OpR.or op_ne (op_neD hu)
theorem eqD_rep {x y : V} {d e : D} {b : Bool} (rx : RepB W S H x d) (ry : RepB W S H y e) (h : eqD d e = some b) :
    (scal x y = true ∧ decide (x = y) = b) ∨ ∃ p q, Dp W.K H x p ∧ Dp W.K H y q ∧ SeqAt.shaped p = true ∧ SeqAt.shaped q = true ∧ PyData.eqv p q = b := by
  unfold eqD at h
  cases q : scalD d e with
  | some c => rw [q] at h; cases h; exact .inl (scal_rep rx ry q)
  | none =>
    rw [q] at h
    cases q1 : layD d with
    | none => rw [q1] at h; cases h
    | some p =>
      cases q2 : layD e with
      | none => rw [q1, q2] at h; cases h
      | some p' =>
        rw [q1, q2] at h
        simp only at h
        split at h
        · cases h
          rename_i hd
          obtain ⟨a, x⟩ := lay_B rx q1
          obtain ⟨b, y⟩ := lay_B ry q2
          exact .inr ⟨p, p', a, b, by simp [SeqAt.shaped, x, hd.1], by simp [SeqAt.shaped, y, hd.2], rfl⟩
        · cases h
theorem map_some {α β : Type} {o : Option α} {f : α → β} {b : β} (h : o.map f = some b) : ∃ a, o = some a ∧ f a = b := by
  cases o with
  | none => cases h
  | some a => cases h; exact ⟨a, rfl, rfl⟩
theorem os_eq : OpSpec W (rEqAll W.K) eqDD := by
  intro x y d e S H μ res σ Wx Q hS rx ry hf hk
  obtain ⟨z, hz, rfl⟩ := optE_some hf
  obtain ⟨b, hb, rfl⟩ := map_some hz
  have q := hk.val hS (.bl _)
  rcases eqD_rep rx ry hb with ⟨h1, h2⟩ | ⟨p, p', h1, h2, h3, h4, h5⟩
  · exact .inl ⟨h1, by rw [h2]; exact q⟩
  · exact .inr ⟨p, p', h1, h2, h3, h4, by rw [h5]; exact q⟩
theorem os_ne : OpSpec W (rNeAll W.K) neDD := by
  intro x y d e S H μ res σ Wx Q hS rx ry hf hk
  obtain ⟨z, hz, rfl⟩ := optE_some hf
  obtain ⟨b, hb, rfl⟩ := map_some hz
  have q := hk.val hS (.bl _)
  rcases eqD_rep rx ry hb with ⟨h1, h2⟩ | ⟨p, p', h1, h2, h3, h4, h5⟩
  · exact .inl ⟨h1, by rw [h2]; exact q⟩
  · exact .inr ⟨p, p', h1, h2, h3, h4, by rw [h5]; exact q⟩
/-! is None -/
theorem isN_rep {x y : V} {d e : D} {res : Out D × Mu} (rx : RepB W S H x d) (ry : RepB W S H y e) (h : isND d e μ = some res) : y = .non ∧ res = (.ok (.bl (decide (x = .non))), μ) := by
  unfold isND at h
  split at h <;> first
    | (cases h; done)
    | (cases h; cases rx.non; cases ry.non; exact ⟨rfl, rfl⟩)
    | (cases h; obtain ⟨a, rfl, _⟩ := rx.cell; cases ry.non; exact ⟨rfl, by simp⟩)
    | (cases h; cases rx.bl; cases ry.non; exact ⟨rfl, by simp⟩)
    | (cases h; cases rx.int; cases ry.non; exact ⟨rfl, by simp⟩)
    | (cases h; cases rx.str.1; cases ry.non; exact ⟨rfl, by simp⟩)
    | (cases h; obtain ⟨a, vs, rfl, _⟩ := rx.lst; cases ry.non; exact ⟨rfl, by simp⟩)
    | (cases h; obtain ⟨a, vs, rfl, _⟩ := rx.tup; cases ry.non; exact ⟨rfl, by simp⟩)
    | (cases h; obtain ⟨a, dx, vs, rfl, _⟩ := rx.obj; cases ry.non; exact ⟨rfl, by simp⟩)
abbrev rIsN : R2 := fun x y H Q => y = .non ∧ Q (.bl (decide (x = .non))) H
abbrev rNotN : R2 := fun x y H Q => y = .non ∧ Q (.bl (!decide (x = .non))) H
theorem os_isN : OpSpec W rIsN isND := by
  intro x y d e S H μ res σ Wx Q hS rx ry hf hk
  obtain ⟨h1, h2⟩ := isN_rep rx ry hf
  subst h2
  exact ⟨h1, hk.val hS (.bl _)⟩
theorem os_notN : OpSpec W rNotN notND := by
  intro x y d e S H μ res σ Wx Q hS rx ry hf hk
  obtain ⟨r1, hr1, hk1⟩ := KG.bind hf hk
  obtain ⟨h1, h2⟩ := isN_rep rx ry hr1
  subst h2
  obtain ⟨μ', g', l', hf', hk'⟩ := hk1.now hS
  cases hf'
  exact ⟨h1, hk'.now g' _ (.bl _)⟩
/-! in -/
theorem flat_rep {v : V} {d : D} (h : RepB W S H v d) (f : flatD d = true) : flatV v = true := by
  cases d with
  | non => rw [h.non]; rfl
  | bl b => rw [h.bl]; rfl
  | int i => rw [h.int]; rfl
  | str s => rw [h.str.1]; rfl
  | _ => cases f
theorem eqF_rep {x y : V} {d e : D} (hx : RepB W S H x d) (hy : RepB W S H y e) (fx : flatD d = true) (fy : flatD e = true) : eqV y x = eqF e d := by
  cases d <;> first
    | (cases fx; done)
    | skip
  all_goals cases e <;> first
    | (cases fy; done)
    | skip
  all_goals
    first | cases hx.non | cases hx.bl | cases hx.int | cases hx.str.1
    first | cases hy.non | cases hy.bl | cases hy.int | cases hy.str.1
    rfl
theorem flats_rep {vs : List V} {ds : List D} (h : RepVs W S H vs ds) (f : ds.all flatD = true) : vs.all flatV = true := by
  induction vs generalizing ds with
  | nil => rfl
  | cons v vs ih =>
    cases h with
    | cons r t =>
      simp only [List.all_cons, Bool.and_eq_true] at f ⊢
      exact ⟨flat_rep (.inl r) f.1, ih t f.2⟩
theorem any_rep {x : V} {d : D} (hx : RepB W S H x d) (fx : flatD d = true) {vs : List V} {ds : List D} (h : RepVs W S H vs ds) (f : ds.all flatD = true) : inV x vs = ds.any fun y => eqF y d := by
  induction vs generalizing ds with
  | nil => cases h; rfl
  | cons v vs ih =>
    cases h with
    | cons r t =>
      simp only [List.all_cons, Bool.and_eq_true] at f
      have := ih t f.2
      unfold inV at this ⊢
      rw [List.any_cons, List.any_cons, this, eqF_rep hx (.inl r) fx f.1]
abbrev rInSg : R2 := fun x y H Q => ∃ (c : Nat) (z : Str), x = .str ⟨#[c]⟩ ∧ y = .str z ∧ Q (.bl (decide (c ∈ z.cps.toList))) H
abbrev rNotInSg : R2 := fun x y H Q => ∃ (c : Nat) (z : Str), x = .str ⟨#[c]⟩ ∧ y = .str z ∧ Q (.bl (!decide (c ∈ z.cps.toList))) H
def rInAll (K : PySem.W.Frag) : R2 := fun x y H Q => rInSg x y H Q ∨ rIn K false x y H Q
def rNotInAll (K : PySem.W.Frag) : R2 := fun x y H Q => rNotInSg x y H Q ∨ rIn K true x y H Q
theorem opr_in {X : Cx} (hK : X.K = W.K) : OpR X (compareOp .In) (rInAll W.K) := by
  rw [← hK]; exact OpR.or op_in_sign op_in_seq
theorem opr_notIn {X : Cx} (hK : X.K = W.K) : OpR X (compareOp .NotIn) (rNotInAll W.K) := by
  rw [← hK]; exact OpR.or op_notIn_sign op_notIn_seq
theorem in_rep {x y : V} {d e : D} {res : Out D × Mu} (hS : Sg W S H μ) (rx : RepB W S H x d) (ry : RepB W S H y e) (h : inD d e μ = some res) :
    (∃ (c : Nat) (z : Str), x = .str ⟨#[c]⟩ ∧ y = .str z ∧ res = (.ok (.bl (decide (c ∈ z.cps.toList))), μ)) ∨
    ∃ p xs, y = .ref p ∧ (SqL W.K H p xs ∨ SqT W.K H p xs) ∧ flatV x = true ∧ xs.all flatV = true ∧ res = (.ok (.bl (inV x xs)), μ) := by
  unfold inD at h
  split at h
  · rename_i a z
    cases q : a.cps.toList with
    | nil => rw [q] at h; cases h
    | cons c t =>
      cases t with
      | cons c' t => rw [q] at h; cases h
      | nil =>
        rw [q] at h
        cases h
        obtain ⟨rfl, _⟩ := rx.str
        obtain ⟨rfl, _⟩ := ry.str
        refine .inl ⟨c, z, ?_, rfl, rfl⟩
        have : a = ⟨#[c]⟩ := Str.ext' (Array.toList_inj.mp (by rw [q]))
        rw [this]
  · unfold bindE at h
    cases q : seqE e μ with
    | none => rw [q] at h; cases h
    | some r =>
      obtain ⟨ds, hds, rfl⟩ := seqE_some (xs := []) q
      rw [q] at h
      obtain ⟨z, hz, rfl⟩ := optE_some h
      obtain ⟨b, hb, rfl⟩ := map_some hz
      unfold inL at hb
      split at hb
      · cases hb
        rename_i hfl
        rw [Bool.and_eq_true] at hfl
        obtain ⟨p, vs, rfl, hs, hl, rv⟩ := seqD_rep hS ry hds
        exact .inr ⟨p, vs, rfl, hs, flat_rep rx hfl.1, flats_rep rv hfl.2, by rw [any_rep rx hfl.1 rv hfl.2]⟩
      · cases hb
theorem os_in : OpSpec W (rInAll W.K) inD := by
  intro x y d e S H μ res σ Wx Q hS rx ry hf hk
  rcases in_rep hS rx ry hf with ⟨c, z, h1, h2, rfl⟩ | ⟨p, xs, h1, h2, h3, h4, rfl⟩
  · exact .inl ⟨c, z, h1, h2, hk.val hS (.bl _)⟩
  · exact .inr ⟨p, xs, h1, h2, h3, h4, by rw [if_neg Bool.false_ne_true]; exact hk.val hS (.bl _)⟩
theorem os_notIn : OpSpec W (rNotInAll W.K) notInD := by
  intro x y d e S H μ res σ Wx Q hS rx ry hf hk
  obtain ⟨r1, hr1, hk1⟩ := KG.bind hf hk
  rcases in_rep hS rx ry hr1 with ⟨c, z, h1, h2, rfl⟩ | ⟨p, xs, h1, h2, h3, h4, rfl⟩
  · obtain ⟨μ', g', l', hf', hk'⟩ := hk1.now hS
    cases hf'
    exact .inl ⟨c, z, h1, h2, hk'.now g' _ (.bl _)⟩
  · obtain ⟨μ', g', l', hf', hk'⟩ := hk1.now hS
    cases hf'
    exact .inr ⟨p, xs, h1, h2, h3, h4, by rw [if_pos rfl]; exact hk'.now g' _ (.bl _)⟩
end
end EG
namespace EG
open PySem L2

/-! built-in functions on data -/
def lenD : List D → EM D
  | [.str s] => pureE (.int s.length)
  | [d] => bindE (seqE d) fun xs => pureE (.int xs.length)
  | _ => failE
def absD : List D → EM D
  | [.int i] => pureE (.int (if i < 0 then -i else i))
  | _ => failE
def intD : List D → EM D
  | [.int i] => pureE (.int i)
  | [.bl b] => pureE (.int (if b then 1 else 0))
  | [.str s] => guardE (decide (s.length ≤ 640)) (optE ((PySem.intText? s).map .int))
  | _ => failE
def strD : List D → EM D
  | [.int i] => guardE (decide (i.natAbs.log2 < 1920) && decide ((Str.ofString (toString i)).length ≤ big)) (pureE (.str (toString i)))
  | _ => failE
def boolD : List D → EM D
  | [.int i] => pureE (.bl (i != 0))
  | [.bl b] => pureE (.bl b)
  | _ => failE
def boolsD : List D → Option (List Bool)
  | [] => some []
  | .bl b :: r => (boolsD r).map (b :: ·)
  | _ => none
def intsD : List D → Option (List Int)
  | [] => some []
  | .int i :: r => (intsD r).map (i :: ·)
  | _ => none
def strsD : List D → Option (List Str)
  | [] => some []
  | .str i :: r => (strsD r).map (i :: ·)
  | _ => none
/-- a list (no tuple): its items -/
def lstD (d : D) (μ : Mu) : Option (List D) := match d with
  | .lst xs => some xs
  | .cell n => match μ[n]? with
    | some (.lst xs) => some xs
    | _ => none
  | _ => none
def lstE (d : D) : EM (List D) := fun μ => match lstD d μ with
  | some xs => some (.ok xs, μ)
  | none => none
def allD : List D → EM D
  | [d] => bindE (lstE d) fun xs => optE ((boolsD xs).map fun bs => .bl (bs.all id))
  | _ => failE
def anyD : List D → EM D
  | [d] => bindE (lstE d) fun xs => optE ((boolsD xs).map fun bs => .bl (bs.any id))
  | _ => failE
def sumD : List D → EM D
  | [d] => bindE (lstE d) fun xs => optE ((intsD xs).map fun ns => .int ns.sum)
  | _ => failE
def maxL : List Int → Int
  | [] => 0
  | [x] => x
  | x :: r => max x (maxL r)
def minL : List Int → Int
  | [] => 0
  | [x] => x
  | x :: r => min x (minL r)
def maxD : List D → EM D
  | [d] => bindE (lstE d) fun xs => optE (match intsD xs with
    | some (n :: ns) => some (.int (maxL (n :: ns)))
    | _ => none)
  | [.int i, .int j] => pureE (.int (max i j))
  | _ => failE
def minD : List D → EM D
  | [d] => bindE (lstE d) fun xs => optE (match intsD xs with
    | some (n :: ns) => some (.int (minL (n :: ns)))
    | _ => none)
  | [.int i, .int j] => pureE (.int (min i j))
  | _ => failE
def sortI (ns : List Int) : List Int := ns.mergeSort fun a b => decide (a ≤ b)
def sortedD : List D → EM (List D)
  | [d] => bindE (lstE d) fun xs => match intsD xs with
    | some ns => guardE (decide (ns.length < 64)) (pureE ((sortI ns).map .int))
    | none => failE
  | _ => failE
def listD : List D → EM (List D)
  | [d] => seqE d
  | _ => failE
def tupleD : List D → EM D
  | [d] => bindE (seqE d) fun xs => pureE (.tup xs)
  | _ => failE
inductive Tag where
  | ty (n : String) | cls (c : Nat)
  deriving DecidableEq
def tagD (d : D) (μ : Mu) : Option Tag := match d with
  | .non => some (.ty "NoneType") | .bl _ => some (.ty "bool") | .int _ => some (.ty "int") | .str _ => some (.ty "str")
  | .lst _ => some (.ty "list") | .tup _ => some (.ty "tuple") | .obj c _ => some (.cls c)
  | .cell n => match μ[n]? with
    | some (.lst _) => some (.ty "list")
    | some (.obj c _) => some (.cls c)
    | _ => none
  | _ => none
/-- the built-in classes met -/
def tyTab (a b : String) : Option Bool :=
  if a = "bool" ∧ b = "int" then some true else
  if ["NoneType", "bool", "int", "str", "list", "tuple"].contains a && ["bool", "int", "str", "list", "tuple"].contains b then some (a == b) else none
abbrev Isi := Tag → Tag → Option Bool
def isi1 (T : Isi) (t c : Tag) : Option Bool := match t, c with
  | .ty a, .ty b => tyTab a b
  | t, c => T t c
def isiAny (T : Isi) (t : Tag) : List Tag → Option Bool
  | [] => some false
  | c :: r => match isi1 T t c with
    | some true => some true
    | some false => isiAny T t r
    | none => none
def isiE (T : Isi) (cs : List Tag) (d : D) : EM D := fun μ => match tagD d μ with
  | some t => match isiAny T t cs with
    | some b => some (.ok (.bl b), μ)
    | none => none
  | none => none

section
variable {W : Wd} {S S' S1 : Ws} {H H' H1 : Hp} {σ : St} {env : Env} {μ : Mu} {Wx : WX} {α β : Type}
theorem RepBs.one {vs : List V} {d : D} (h : RepBs W S H vs [d]) : ∃ v, vs = [v] ∧ RepB W S H v d := by
  cases h with | cons r t => cases t; exact ⟨_, rfl, r⟩
theorem RepBs.two {vs : List V} {d e : D} (h : RepBs W S H vs [d, e]) : ∃ v w, vs = [v, w] ∧ RepB W S H v d ∧ RepB W S H w e := by
  cases h with | cons r t => cases t with | cons r2 t => cases t; exact ⟨_, _, rfl, r, r2⟩
theorem seqE_now {d : D} {g : List D → EM α} {ok : α → Ws → Hp → Prop} {r : Out α × Mu} (h : bindE (seqE d) g μ = some r) : ∃ xs, seqD d μ = some xs ∧ g xs μ = some r := by
  unfold bindE at h
  cases q : seqE d μ with
  | none => rw [q] at h; cases h
  | some z =>
    obtain ⟨xs, e, rfl⟩ := seqE_some (xs := []) q
    rw [q] at h
    exact ⟨xs, e, h⟩
theorem lstE_now {d : D} {g : List D → EM α} {r : Out α × Mu} (h : bindE (lstE d) g μ = some r) : ∃ xs, lstD d μ = some xs ∧ g xs μ = some r := by
  unfold bindE lstE at h
  cases q : lstD d μ with
  | none => rw [q] at h; cases h
  | some xs => rw [q] at h; exact ⟨xs, rfl, h⟩
theorem lstD_rep {v : V} {d : D} {xs : List D} (hS : Sg W S H μ) (h : RepB W S H v d) (e : lstD d μ = some xs) : ∃ a vs, v = .ref a ∧ H a = some (.lst vs) ∧ vs.length ≤ big ∧ RepVs W S H vs xs := by
  cases d with
  | lst ys =>
    cases e
    exact h.lst
  | cell n =>
    obtain ⟨a, e1, e2, e3⟩ := h.cell
    have e : (match μ[n]? with
      | some (.lst xs) => some xs
      | _ => none) = some xs := e
    cases q : μ[n]? with
    | none => rw [q] at e; cases e
    | some c =>
      rw [q] at e
      cases c with
      | obj c fs => cases e
      | dK _ => cases e
      | dT _ => cases e
      | lst ys =>
        cases e
        obtain ⟨a', h1, h2, vs, h3, h4, r⟩ := hS.cells n _ q
        rw [e2] at h1; cases h1
        exact ⟨a, vs, e1, h3, h4, r⟩
  | _ => cases e
theorem cs_len {X : Cx} (hK : X.K = W.K) : CallSpec W (fun xs H Q => ∃ x n, xs = [x] ∧ LenV X.K x H n ∧ Q (.int n) H) lenD := by
  intro vs ds S H μ res σ Wx Q hS r hf hk
  rw [hK]
  unfold lenD at hf
  split at hf
  · obtain ⟨v, rfl, rv⟩ := r.one
    cases hf
    obtain ⟨rfl, h2⟩ := rv.str
    exact ⟨_, _, rfl, ⟨Nat.le_trans h2 big_le, rfl⟩, hk.val hS (.int _)⟩
  · obtain ⟨v, rfl, rv⟩ := r.one
    obtain ⟨xs, e, hf⟩ := seqE_now (ok := okV W Q) hf
    cases hf
    obtain ⟨a, ws, rfl, h1, h2, h3⟩ := seqD_rep hS rv e
    refine ⟨_, ws.length, rfl, ?_, ?_⟩
    · rcases h1 with h1 | h1
      · exact .inl ⟨ws, h1, rfl⟩
      · exact .inr ⟨ws, h1, rfl⟩
    · rw [h3.length]; exact hk.val hS (.int _)
  · cases hf
theorem cs_abs : CallSpec W (fun xs H Q => ∃ i, xs = [.int i] ∧ Q (.int (if i < 0 then -i else i)) H) absD := by
  intro vs ds S H μ res σ Wx Q hS r hf hk
  unfold absD at hf
  split at hf
  · obtain ⟨v, rfl, rv⟩ := r.one
    cases hf; cases rv.int
    exact ⟨_, rfl, hk.val hS (.int _)⟩
  · cases hf
def rIntAll : List V → Hp → VK → Prop := fun xs H Q => ((∃ i, xs = [.int i] ∧ Q (.int i) H) ∨ ∃ k, xs = [.bl k] ∧ Q (.int (if k then 1 else 0)) H) ∨ ∃ a n, xs = [.str a] ∧ PySem.intText? a = some n ∧ a.length ≤ 640 ∧ Q (.int n) H
theorem cr_int {X : Cx} : CallR X (.type "int") rIntAll := CallR.or call_int1 call_int_str
theorem cs_int : CallSpec W rIntAll intD := by
  intro vs ds S H μ res σ Wx Q hS r hf hk
  unfold intD at hf
  split at hf
  · obtain ⟨v, rfl, rv⟩ := r.one
    cases hf; cases rv.int
    exact .inl (.inl ⟨_, rfl, hk.val hS (.int _)⟩)
  · obtain ⟨v, rfl, rv⟩ := r.one
    cases hf; cases rv.bl
    exact .inl (.inr ⟨_, rfl, hk.val hS (.int _)⟩)
  · obtain ⟨v, rfl, rv⟩ := r.one
    obtain ⟨hl, hf⟩ := guardE_some hf
    obtain ⟨z, hz, rfl⟩ := optE_some hf
    obtain ⟨n, hn, rfl⟩ := map_some hz
    obtain ⟨rfl, _⟩ := rv.str
    exact .inr ⟨_, n, rfl, hn, of_decide_eq_true hl, hk.val hS (.int _)⟩
  · cases hf
theorem cs_str : CallSpec W (fun xs H Q => ∃ i, xs = [.int i] ∧ i.natAbs.log2 < 1920 ∧ Q (.str (toString i)) H) strD := by
  intro vs ds S H μ res σ Wx Q hS r hf hk
  unfold strD at hf
  split at hf
  · obtain ⟨v, rfl, rv⟩ := r.one
    obtain ⟨hl, hf⟩ := guardE_some hf
    cases hf; cases rv.int
    rw [Bool.and_eq_true] at hl
    exact ⟨_, rfl, of_decide_eq_true hl.1, hk.val hS (.str _ (of_decide_eq_true hl.2))⟩
  · cases hf
theorem cs_bool : CallSpec W (fun xs H Q => (∃ i, xs = [.int i] ∧ Q (.bl (i != 0)) H) ∨ ∃ k, xs = [.bl k] ∧ Q (.bl k) H) boolD := by
  intro vs ds S H μ res σ Wx Q hS r hf hk
  unfold boolD at hf
  split at hf
  · obtain ⟨v, rfl, rv⟩ := r.one
    cases hf; cases rv.int
    exact .inl ⟨_, rfl, hk.val hS (.bl _)⟩
  · obtain ⟨v, rfl, rv⟩ := r.one
    cases hf; cases rv.bl
    exact .inr ⟨_, rfl, hk.val hS (.bl _)⟩
  · cases hf
theorem bools_rep : ∀ {vs : List V} {ds : List D} {bs : List Bool}, RepVs W S H vs ds → boolsD ds = some bs → vs = bs.map V.bl
  | _, _, _, .nil, e => by cases e; rfl
  | _, _, _, .cons (d := d) (ds := ds) r t, e => by
    cases d with
    | bl b =>
      obtain ⟨q, hq, rfl⟩ := map_some e
      cases r
      rw [List.map_cons, bools_rep t hq]
    | _ => cases e
theorem ints_rep : ∀ {vs : List V} {ds : List D} {bs : List Int}, RepVs W S H vs ds → intsD ds = some bs → vs = bs.map V.int
  | _, _, _, .nil, e => by cases e; rfl
  | _, _, _, .cons (d := d) (ds := ds) r t, e => by
    cases d with
    | int b =>
      obtain ⟨q, hq, rfl⟩ := map_some e
      cases r
      rw [List.map_cons, ints_rep t hq]
    | _ => cases e
theorem strs_rep : ∀ {vs : List V} {ds : List D} {bs : List Str}, RepVs W S H vs ds → strsD ds = some bs → vs = bs.map V.str ∧ ∀ b ∈ bs, b.length ≤ big
  | _, _, _, .nil, e => by cases e; exact ⟨rfl, fun _ h => nomatch h⟩
  | _, _, _, .cons (d := d) (ds := ds) r t, e => by
    cases d with
    | str b =>
      obtain ⟨q, hq, rfl⟩ := map_some e
      cases r with
      | str _ hb =>
        obtain ⟨h1, h2⟩ := strs_rep t hq
        exact ⟨by rw [List.map_cons, h1], fun x hx => by
          rcases List.mem_cons.mp hx with rfl | hx
          · exact hb
          · exact h2 x hx⟩
    | _ => cases e
theorem cs_all : CallSpec W (rAll W.K) allD := by
  intro vs ds S H μ res σ Wx Q hS r hf hk
  unfold allD at hf
  split at hf
  · obtain ⟨v, rfl, rv⟩ := r.one
    obtain ⟨xs, e, hf⟩ := lstE_now hf
    obtain ⟨z, hz, rfl⟩ := optE_some hf
    obtain ⟨bs, hb, rfl⟩ := map_some hz
    obtain ⟨a, ws, rfl, h1, h2, h3⟩ := lstD_rep hS rv e
    cases bools_rep h3 hb
    exact ⟨a, bs, rfl, SqL.of h1, hk.val hS (.bl _)⟩
  · cases hf
theorem cs_any : CallSpec W (rAny W.K) anyD := by
  intro vs ds S H μ res σ Wx Q hS r hf hk
  unfold anyD at hf
  split at hf
  · obtain ⟨v, rfl, rv⟩ := r.one
    obtain ⟨xs, e, hf⟩ := lstE_now hf
    obtain ⟨z, hz, rfl⟩ := optE_some hf
    obtain ⟨bs, hb, rfl⟩ := map_some hz
    obtain ⟨a, ws, rfl, h1, h2, h3⟩ := lstD_rep hS rv e
    cases bools_rep h3 hb
    exact ⟨a, bs, rfl, SqL.of h1, hk.val hS (.bl _)⟩
  · cases hf
theorem cs_sum : CallSpec W (rSum W.K) sumD := by
  intro vs ds S H μ res σ Wx Q hS r hf hk
  unfold sumD at hf
  split at hf
  · obtain ⟨v, rfl, rv⟩ := r.one
    obtain ⟨xs, e, hf⟩ := lstE_now hf
    obtain ⟨z, hz, rfl⟩ := optE_some hf
    obtain ⟨bs, hb, rfl⟩ := map_some hz
    obtain ⟨a, ws, rfl, h1, h2, h3⟩ := lstD_rep hS rv e
    cases ints_rep h3 hb
    exact ⟨a, bs, rfl, SqL.of h1, hk.val hS (.int _)⟩
  · cases hf
theorem maxL_mem : ∀ (ns : List Int), ns ≠ [] → maxL ns ∈ ns
  | [], h => (h rfl).elim
  | [x], _ => by simp [maxL]
  | x :: y :: r, _ => by
    have ih := maxL_mem (y :: r) (by simp)
    show max x (maxL (y :: r)) ∈ _
    by_cases h : x ≤ maxL (y :: r)
    · rw [Int.max_eq_right h]; exact List.mem_cons_of_mem _ ih
    · rw [Int.max_eq_left (by omega)]; exact List.mem_cons_self
theorem le_maxL : ∀ (ns : List Int) (y : Int), y ∈ ns → y ≤ maxL ns
  | [x], y, h => by simp at h; subst h; exact Int.le_refl _
  | x :: z :: r, y, h => by
    show y ≤ max x (maxL (z :: r))
    rcases List.mem_cons.mp h with rfl | h
    · exact Int.le_max_left _ _
    · exact Int.le_trans (le_maxL (z :: r) y h) (Int.le_max_right _ _)
theorem minL_mem : ∀ (ns : List Int), ns ≠ [] → minL ns ∈ ns
  | [], h => (h rfl).elim
  | [x], _ => by simp [minL]
  | x :: y :: r, _ => by
    have ih := minL_mem (y :: r) (by simp)
    show min x (minL (y :: r)) ∈ _
    by_cases h : x ≤ minL (y :: r)
    · rw [Int.min_eq_left h]; exact List.mem_cons_self
    · rw [Int.min_eq_right (by omega)]; exact List.mem_cons_of_mem _ ih
theorem minL_le : ∀ (ns : List Int) (y : Int), y ∈ ns → minL ns ≤ y
  | [x], y, h => by simp at h; subst h; exact Int.le_refl _
  | x :: z :: r, y, h => by
    show min x (minL (z :: r)) ≤ y
    rcases List.mem_cons.mp h with rfl | h
    · exact Int.min_le_left _ _
    · exact Int.le_trans (Int.min_le_right _ _) (minL_le (z :: r) y h)
def rMaxAll (K : PySem.W.Frag) : List V → Hp → VK → Prop := fun vs H Q => rMax K vs H Q ∨ ∃ i j, vs = [.int i, .int j] ∧ Q (.int (if j > i then j else i)) H
def rMinAll (K : PySem.W.Frag) : List V → Hp → VK → Prop := fun vs H Q => rMin K vs H Q ∨ ∃ i j, vs = [.int i, .int j] ∧ Q (.int (if j < i then j else i)) H
theorem cr_max' {X : Cx} (hc : X.calm = true) : CallR X (.builtin "max") (rMaxAll X.K) := CallR.or (cr_max hc) (call_max2 hc)
theorem cr_min' {X : Cx} (hc : X.calm = true) : CallR X (.builtin "min") (rMinAll X.K) := CallR.or (cr_min hc) (call_min2 hc)
theorem cs_max : CallSpec W (rMaxAll W.K) maxD := by
  intro vs ds S H μ res σ Wx Q hS r hf hk
  unfold maxD at hf
  split at hf
  · obtain ⟨v, rfl, rv⟩ := r.one
    obtain ⟨xs, e, hf⟩ := lstE_now hf
    obtain ⟨z, hz, rfl⟩ := optE_some hf
    obtain ⟨a, ws, rfl, h1, h2, h3⟩ := lstD_rep hS rv e
    split at hz
    · rename_i n ns hb
      cases hz
      cases ints_rep h3 hb
      refine .inl ⟨a, n :: ns, rfl, SqL.of h1, by simp, fun m hm hy => ?_⟩
      have e : m = maxL (n :: ns) := Int.le_antisymm (le_maxL _ _ hm) (hy _ (maxL_mem _ (by simp)))
      rw [e]
      exact hk.val hS (.int _)
    · cases hz
  · obtain ⟨v, w, rfl, r1, r2⟩ := r.two
    cases hf; cases r1.int; cases r2.int
    rename_i i j
    refine .inr ⟨i, j, rfl, ?_⟩
    have e : (if j > i then j else i) = max i j := by
      rw [Int.max_def]; split <;> split <;> omega
    rw [e]
    exact hk.val hS (.int _)
  · cases hf
theorem cs_min : CallSpec W (rMinAll W.K) minD := by
  intro vs ds S H μ res σ Wx Q hS r hf hk
  unfold minD at hf
  split at hf
  · obtain ⟨v, rfl, rv⟩ := r.one
    obtain ⟨xs, e, hf⟩ := lstE_now hf
    obtain ⟨z, hz, rfl⟩ := optE_some hf
    obtain ⟨a, ws, rfl, h1, h2, h3⟩ := lstD_rep hS rv e
    split at hz
    · rename_i n ns hb
      cases hz
      cases ints_rep h3 hb
      refine .inl ⟨a, n :: ns, rfl, SqL.of h1, by simp, fun m hm hy => ?_⟩
      have e : m = minL (n :: ns) := Int.le_antisymm (hy _ (minL_mem _ (by simp))) (minL_le _ _ hm)
      rw [e]
      exact hk.val hS (.int _)
    · cases hz
  · obtain ⟨v, w, rfl, r1, r2⟩ := r.two
    cases hf; cases r1.int; cases r2.int
    rename_i i j
    refine .inr ⟨i, j, rfl, ?_⟩
    have e : (if j < i then j else i) = min i j := by
      rw [Int.min_def]; split <;> split <;> omega
    rw [e]
    exact hk.val hS (.int _)
  · cases hf
/-- a new list laid: what okL wants -/
theorem okL_new {Q : VK} {H0 : Hp} {xs : List D} {vs : List V} {p : Addr} (hS : Sg W S H μ) (hm : ∀ a, H0 a ≠ none → H a ≠ none) (hk : KG W S H σ Wx (okL W Q H0) (.ok xs, μ)) (hp : H p = none) (hl : vs.length ≤ big) (r : RepVs W S H vs xs) : Q (.ref p) (upd H p (.lst vs)) := by
  have lt : LtE S H (S.set p (some .out)) (upd H p (.lst vs)) := lt_new hp hS.wf
  refine hk (S.set p (some .out)) _ lt (hS.new hp) p vs ?_ Ws.set_same upd_same hl (r.later lt)
  cases e : H0 p with
  | none => rfl
  | some o => exact absurd hp (hm p (by rw [e]; exact fun z => nomatch z))
theorem reps_ints (ns : List Int) : RepVs W S H (ns.map V.int) (ns.map D.int) := by
  induction ns with
  | nil => exact .nil
  | cons n ns ih => exact .cons (.int n) ih
theorem cs_sorted : CallSpecL W (rSorted W.K) sortedD := by
  intro vs ds S H μ res σ Wx Q H0 hS hm r hf hk
  unfold sortedD at hf
  split at hf
  · obtain ⟨v, rfl, rv⟩ := r.one
    obtain ⟨xs, e, hf⟩ := lstE_now hf
    obtain ⟨a, ws, rfl, h1, h2, h3⟩ := lstD_rep hS rv e
    cases hb : intsD xs with
    | none => rw [hb] at hf; cases hf
    | some ns =>
      rw [hb] at hf
      obtain ⟨hl, hf⟩ := guardE_some hf
      cases hf
      cases ints_rep h3 hb
      refine ⟨a, ns, rfl, SqL.of h1, of_decide_eq_true hl, fun ns' p hp hs hn => ?_⟩
      have e : ns' = sortI ns := by
        refine PySem.W.ksm_same (hp.trans (List.mergeSort_perm _ _).symm) hs ?_
        have := List.pairwise_mergeSort (le := fun a b : Int => decide (a ≤ b)) (by intro a b c h1 h2; simp at *; omega) (by intro a b; simp; omega) ns
        exact this.imp fun h => by simpa using h
      subst e
      refine okL_new hS hm hk hn ?_ (reps_ints _)
      rw [List.length_map, show (sortI ns).length = ns.length from List.length_mergeSort _]
      rw [List.length_map] at h2
      exact h2
  · cases hf
theorem cs_list : CallSpecL W (fun xs H Q => ∃ p ys, xs = [.ref p] ∧ (SqL W.K H p ys ∨ SqT W.K H p ys) ∧ ∀ l, H l = none → Q (.ref l) (upd H l (.lst ys))) listD := by
  intro vs ds S H μ res σ Wx Q H0 hS hm r hf hk
  unfold listD at hf
  split at hf
  · obtain ⟨v, rfl, rv⟩ := r.one
    obtain ⟨xs, e, rfl⟩ := seqE_some (xs := []) hf
    obtain ⟨a, ws, rfl, h1, h2, h3⟩ := seqD_rep hS rv e
    exact ⟨a, ws, rfl, h1, fun l hl => okL_new hS hm hk hl h2 h3⟩
  · cases hf
theorem cs_tuple : CallSpec W (fun xs H Q => ∃ p ys, xs = [.ref p] ∧ ((SqL W.K H p ys ∧ ∀ l, H l = none → Q (.ref l) (upd H l (.tup ys))) ∨ (SqT W.K H p ys ∧ Q (.ref p) H))) tupleD := by
  intro vs ds S H μ res σ Wx Q hS r hf hk
  unfold tupleD at hf
  split at hf
  · obtain ⟨v, rfl, rv⟩ := r.one
    obtain ⟨xs, e, hf⟩ := seqE_now (ok := okV W Q) hf
    cases hf
    rename_i d
    cases d with
    | tup ys =>
      cases e
      obtain ⟨a, ws, e1, h1, h2, h3⟩ := rv.tup
      subst e1
      exact ⟨a, ws, rfl, .inr ⟨h1, hk.val hS rv.tupV⟩⟩
    | _ =>
      first
        | (obtain ⟨a, ws, rfl, h1, h2, h3⟩ := lstD_rep (xs := xs) hS rv e
           refine ⟨a, ws, rfl, .inl ⟨SqL.of h1, fun l hl => ?_⟩⟩
           have lt : LtE S H S (upd H l (.tup ws)) := lt_upd hl hS.wf
           exact hk S _ lt (hS.upd hl) _ (.tup upd_same (hS.fresh hl) h2 (h3.later lt)))
        | cases e
  · cases hf
end
end EG
namespace EG
open PySem L2

/-! isinstance -/
structure ClsOk (W : Wd) (c : Nat) : Prop where
  cl : Cls W.K (W.ca c)
  ha : PySem.W.findIn W.K (.ref (W.ca c)) "__class__" = some (some (.builtin "object.__class__"))
  hn : PySem.W.specialIn W.K (.builtin "object.__class__") "__get__" = some (some (.builtin "getset_descriptor.__get__"))
  htk : PySem.W.takesIn W.K (.builtin "object.__class__") = some true
  hob : PySem.W.mroIn W.K (W.ca c) (.type "object") = some true
def tagV (W : Wd) : Tag → Value
  | .ty n => .type n
  | .cls c => .ref (W.ca c)
def tagC (W : Wd) : Tag → V
  | .ty n => .ty n
  | .cls c => .ref (W.ca c)
structure IsiOk (W : Wd) (T : Isi) : Prop where
  one : ∀ t c b, T t c = some b → PySem.W.kitOne W.K (tagV W t) (tagV W c) = some b
  cls : ∀ k c b, T (.cls k) c = some b → ClsOk W k
theorem clsV_of (W : Wd) (t : Tag) : ClsV (tagC W t) (tagV W t) := by
  cases t with
  | ty n => exact .ty n
  | cls c => exact .own _
theorem tyTab_ok {a b : String} {r : Bool} (h : tyTab a b = some r) : kitB a b = some r := by
  unfold tyTab at h
  split at h
  · rename_i e
    obtain ⟨rfl, rfl⟩ := e
    cases h
    decide +kernel
  · split at h
    · rename_i e1 e
      rw [Bool.and_eq_true] at e
      obtain ⟨ha, hb⟩ := e
      have ha : a ∈ ["NoneType", "bool", "int", "str", "list", "tuple"] := by simpa using ha
      have hb : b ∈ ["bool", "int", "str", "list", "tuple"] := by simpa using hb
      simp only [List.mem_cons, List.not_mem_nil, or_false] at ha hb
      cases h
      rcases ha with rfl | rfl | rfl | rfl | rfl | rfl <;> rcases hb with rfl | rfl | rfl | rfl | rfl <;> first
        | decide +kernel
        | exact absurd ⟨rfl, rfl⟩ e1
    · cases h
section
variable {W : Wd} {S S' S1 : Ws} {H H' H1 : Hp} {σ : St} {env : Env} {μ : Mu} {Wx : WX} {α β : Type} {T : Isi}
theorem isi1_ok (hT : IsiOk W T) {t c : Tag} {b : Bool} (h : isi1 T t c = some b) : PySem.W.kitOne W.K (tagV W t) (tagV W c) = some b := by
  unfold isi1 at h
  split at h
  · exact kit_ty (tyTab_ok h)
  · exact hT.one _ _ _ h
theorem isiAny_ok (hT : IsiOk W T) {t : Tag} : ∀ {cs : List Tag} {b : Bool}, isiAny T t cs = some b → PySem.W.kitAny W.K (tagV W t) (cs.map (tagV W)) = some b
  | [], b, h => h
  | c :: r, b, h => by
    unfold isiAny at h
    show (match PySem.W.kitOne W.K (tagV W t) (tagV W c) with
      | some true => some true
      | some false => PySem.W.kitAny W.K (tagV W t) (r.map (tagV W))
      | none => none) = some b
    cases q : isi1 T t c with
    | none => rw [q] at h; cases h
    | some b' =>
      rw [q] at h
      rw [isi1_ok hT q]
      cases b' with
      | true => exact h
      | false => exact isiAny_ok hT h
theorem tag_rep {v : V} {d : D} {t : Tag} (hS : Sg W S H μ) (r : RepB W S H v d) (h : tagD d μ = some t) (hc : ∀ c, t = .cls c → ClsOk W c) : TyX W.K H v (tagV W t) := by
  unfold tagD at h
  split at h
  · cases h; rw [r.non]; exact .base .non
  · cases h; rw [r.bl]; exact .base (.bl _)
  · cases h; rw [r.int]; exact .base (.int _)
  · cases h; rw [r.str.1]; exact .base (.str _)
  · cases h; obtain ⟨a, vs, rfl, h1, _⟩ := r.lst; exact .base (.lst h1)
  · cases h
    cases r.tupV with
    | tup h1 h2 h3 h4 => exact .base (.tup h1)
    | tupK h1 h2 h3 =>
      obtain (h1 | ⟨_, h1⟩) | ⟨o, its, n, k1, k2, _⟩ := h1
      · cases h1
      · cases h1
      exact .kTuple k1 k2
  · cases h
    obtain ⟨a, dx, vs, rfl, h1, _⟩ := r.obj
    have C := hc _ rfl
    exact .base (.ins h1 C.cl C.ha C.hn C.htk C.hob)
  · obtain ⟨a, rfl, e1, e2⟩ := r.cell
    split at h
    · rename_i q
      cases h
      obtain ⟨a', h1, h2, vs, h3, h4, _⟩ := hS.cells _ _ q
      rw [e1] at h1; cases h1
      exact .base (.lst h3)
    · rename_i q
      cases h
      obtain ⟨a', h1, h2, dx, vs, h3, _⟩ := hS.cells _ _ q
      rw [e1] at h1; cases h1
      have C := hc _ rfl
      exact .base (.ins h3 C.cl C.ha C.hn C.htk C.hob)
    · cases h
  · cases h
def fIsi (T : Isi) (cs : List Tag) (f : Env → EM D) : Env → EM D := fun env => bindE (f env) (isiE T cs)
theorem isiE_some {cs : List Tag} {d : D} {r : Out D × Mu} (h : isiE T cs d μ = some r) : ∃ t b, tagD d μ = some t ∧ isiAny T t cs = some b ∧ r = (.ok (.bl b), μ) := by
  unfold isiE at h
  cases q : tagD d μ with
  | none => rw [q] at h; cases h
  | some t =>
    rw [q] at h
    simp only at h
    cases q2 : isiAny T t cs with
    | none => rw [q2] at h; cases h
    | some b => rw [q2] at h; cases h; exact ⟨t, b, rfl, q2, rfl⟩
theorem isi_cls {t c : Tag} {cs : List Tag} {b : Bool} (hT : IsiOk W T) (h : isiAny T t (c :: cs) = some b) : ∀ k, t = .cls k → ClsOk W k := by
  intro k e
  subst e
  unfold isiAny at h
  cases q : isi1 T (.cls k) c with
  | none => rw [q] at h; cases h
  | some b' => exact hT.cls k c b' (by unfold isi1 at q; exact q)
/-- isinstance(a, T) -/
theorem ev_isi {X : Cx} (hK : X.K = W.K) (hT : IsiOk W T) {a cls : Expr} {p pos : Pos} {c : Tag} {f : Env → EM D} (hg : Gl X "isinstance") (hm : X.mg "isinstance" = none) (ha : PE X a (tEvB W Wx f)) (hc : PE X cls (tC (tagC W c)))
    (h1 : starEach [a, cls] X.env = (false, eval a X.env) :: starEach [cls] X.env) (h2 : starEach [cls] X.env = [(false, eval cls X.env)]) : PE X (.Call (.Name "isinstance" p) [a, cls] [] pos) (tEv W Wx (fIsi T [c] f)) := by
  refine PE.imp (pe_callB call_isi hg hm PyProof.Rows.boot_isinstance (pa_cons ha (pa_cons hc pa_nil h2) h1) (he := h1) (hpl := by rw [h2]; rfl)) fun σ H Q ⟨S, μ, env, res, hS, hE, hf, hk⟩ => ?_
  refine tG.bind hS hE hf hk fun d μ1 S1 H1 l1 g1 e1 hf1 hk1 v rv => ?_
  obtain ⟨t, b, q1, q2, rfl⟩ := isiE_some hf1
  refine ⟨v, _, tagV W t, tagV W c, b, rfl, clsV_of W c, ?_, ?_, hk1.val g1 (.bl b)⟩
  · rw [hK]; exact tag_rep g1 rv q1 (isi_cls hT q2)
  · rw [hK]
    have := isiAny_ok hT q2
    simp only [List.map_cons, List.map_nil, PySem.W.kitAny] at this
    cases z : PySem.W.kitOne W.K (tagV W t) (tagV W c) with
    | none => rw [z] at this; cases this
    | some b' => rw [z] at this; cases b' <;> exact this
/-- the classes of a tuple display -/
inductive ClsEs (W : Wd) (X : Cx) : List Expr → List Tag → Prop where
  | nil : ClsEs W X [] []
  | cons {e : Expr} {es : List Expr} {t : Tag} {ts : List Tag} : PE X e (tC (tagC W t)) → starEach (e :: es) X.env = (false, eval e X.env) :: starEach es X.env → ClsEs W X es ts → ClsEs W X (e :: es) (t :: ts)
def tConst (vs : List V) : TA := fun _ H Q => Q vs H
theorem clsEs_pa {X : Cx} {es : List Expr} {ts : List Tag} (h : ClsEs W X es ts) : PA X es (tConst (ts.map (tagC W))) := by
  induction h with
  | nil => exact PA.imp pa_nil fun σ H Q h => h
  | cons h1 h2 _ ih => exact PA.imp (pa_cons h1 ih h2) fun σ H Q h => h
theorem clsV_all (W : Wd) : ∀ ts : List Tag, Paired ClsV (ts.map (tagC W)) (ts.map (tagV W))
  | [] => .nil
  | t :: ts => .cons (clsV_of W t) (clsV_all W ts)
/-- isinstance(a, (T1, T2, ..)) -/
theorem ev_isiT {X : Cx} (hK : X.K = W.K) (hT : IsiOk W T) {a : Expr} {es : List Expr} {kk : Nat} {tp p pos : Pos} {cs : List Tag} {f : Env → EM D} (hg : Gl X "isinstance") (hm : X.mg "isinstance" = none) (ha : PE X a (tEvB W Wx f)) (hc : ClsEs W X es cs)
    (hne : cs ≠ []) (hlen : cs.length ≤ 100)
    (h1 : starEach [a, .Tuple es kk tp] X.env = (false, eval a X.env) :: starEach [.Tuple es kk tp] X.env) : PE X (.Call (.Name "isinstance" p) [a, .Tuple es kk tp] [] pos) (tEv W Wx (fIsi T cs f)) := by
  have h2 : starEach [.Tuple es kk tp] X.env = [(false, eval (.Tuple es kk tp) X.env)] := rfl
  refine PE.imp (pe_callB call_isiT hg hm PyProof.Rows.boot_isinstance (pa_cons ha (pa_cons (pe_tup (clsEs_pa hc)) pa_nil h2) h1) (he := h1) (hpl := by rw [h2]; rfl)) fun σ H Q ⟨S, μ, env, res, hS, hE, hf, hk⟩ => ?_
  refine tG.bind hS hE hf hk fun d μ1 S1 H1 l1 g1 e1 hf1 hk1 v rv => ?_
  obtain ⟨t, b, q1, q2, rfl⟩ := isiE_some hf1
  refine ⟨by rw [List.length_map]; exact Nat.le_trans hlen (by rw [sizeLine_eq]; decide), fun tp hp => ?_⟩
  have lt : LtE S1 H1 S1 (upd H1 tp (.tup (cs.map (tagC W)))) := lt_upd hp g1.wf
  refine ⟨v, tp, _, tagV W t, cs.map (tagV W), b, rfl, upd_same, clsV_all W cs, ?_, ?_, hk1 S1 _ lt (g1.upd hp) _ (.bl b)⟩
  · rw [hK]
    cases cs with
    | nil => exact absurd rfl hne
    | cons c cs => exact tag_rep (g1.upd hp) (rv.laterE lt) q1 (isi_cls hT q2)
  · rw [hK]; exact isiAny_ok hT q2

/-! built-in functions of one or more arguments -/
theorem ev_callB {X : Cx} {id : String} {x : Str} {p pos : Pos} {e : Expr} {es : List Expr} {r : List V → Hp → VK → Prop} {op : List D → EM D} {g : Env → EM (List D)} (hc : CallR X (.builtin id) r) (hs : CallSpec W r op) (hg : Gl X x) (hm : X.mg x = none) (hv : bootBuiltins x = some (.builtin id))
    (ha : PA X (e :: es) (tEvBs W Wx g)) (hn : x ≠ "__name__") (hdb : (x == ("__debug__" : Str)) = false) (he : starEach (e :: es) X.env = (false, eval e X.env) :: starEach es X.env) (hpl : (backTo pos (starEach es X.env)).any (·.1) = false) :
    PE X (.Call (.Name x p) (e :: es) [] pos) (tEv W Wx (fCB op g)) := PE.imp (pe_callB hc hg hm hv ha hn hdb he hpl) fun σ H Q h => tCB_of hs h
theorem ev_callTy {X : Cx} {ty : String} {x : Str} {p pos : Pos} {e : Expr} {es : List Expr} {r : List V → Hp → VK → Prop} {op : List D → EM D} {g : Env → EM (List D)} (hc : CallR X (.type ty) r) (hs : CallSpec W r op) (hg : Gl X x) (hm : X.mg x = none) (hv : bootBuiltins x = some (.type ty))
    (ha : PA X (e :: es) (tEvBs W Wx g)) (hn : x ≠ "__name__") (hdb : (x == ("__debug__" : Str)) = false) (he : starEach (e :: es) X.env = (false, eval e X.env) :: starEach es X.env) (hpl : (backTo pos (starEach es X.env)).any (·.1) = false) :
    PE X (.Call (.Name x p) (e :: es) [] pos) (tEv W Wx (fCB op g)) := PE.imp (pe_callTy hc hg hm hv ha hn hdb he hpl) fun σ H Q h => tCB_of hs h
theorem el_callB {X : Cx} {id : String} {x : Str} {p pos : Pos} {e : Expr} {es : List Expr} {r : List V → Hp → VK → Prop} {op : List D → EM (List D)} {g : Env → EM (List D)} (hc : CallR X (.builtin id) r) (hs : CallSpecL W r op) (hg : Gl X x) (hm : X.mg x = none) (hv : bootBuiltins x = some (.builtin id))
    (ha : PA X (e :: es) (tEvBs W Wx g)) (hn : x ≠ "__name__") (hdb : (x == ("__debug__" : Str)) = false) (he : starEach (e :: es) X.env = (false, eval e X.env) :: starEach es X.env) (hpl : (backTo pos (starEach es X.env)).any (·.1) = false) :
    PE X (.Call (.Name x p) (e :: es) [] pos) (tEvL W Wx (fCB op g)) := PE.imp (pe_callB hc hg hm hv ha hn hdb he hpl) fun σ H Q h => tCBL_of hs h
theorem el_callTy {X : Cx} {ty : String} {x : Str} {p pos : Pos} {e : Expr} {es : List Expr} {r : List V → Hp → VK → Prop} {op : List D → EM (List D)} {g : Env → EM (List D)} (hc : CallR X (.type ty) r) (hs : CallSpecL W r op) (hg : Gl X x) (hm : X.mg x = none) (hv : bootBuiltins x = some (.type ty))
    (ha : PA X (e :: es) (tEvBs W Wx g)) (hn : x ≠ "__name__") (hdb : (x == ("__debug__" : Str)) = false) (he : starEach (e :: es) X.env = (false, eval e X.env) :: starEach es X.env) (hpl : (backTo pos (starEach es X.env)).any (·.1) = false) :
    PE X (.Call (.Name x p) (e :: es) [] pos) (tEvL W Wx (fCB op g)) := PE.imp (pe_callTy hc hg hm hv ha hn hdb he hpl) fun σ H Q h => tCBL_of hs h

/-! subscripts -/
def ixD : D → D → EM D := fun x y => match x, y with
  | .str s, .int i => match atI s.cps.toList i with
    | some c => pureE (.str ⟨#[c]⟩)
    | none => failE
  | x, .int i => bindE (seqE x) fun xs => optE (atI xs i)
  | _, _ => failE
theorem atI_rep {vs : List V} {ds : List D} {i : Int} {d : D} (h : RepVs W S H vs ds) (e : atI ds i = some d) : ∃ v, atI vs i = some v ∧ RepV W S H v d := by
  unfold atI at e ⊢
  rw [h.length]
  cases q : ixN ds.length i with
  | none => rw [q] at e; cases e
  | some j =>
    rw [q] at e
    exact h.get e
theorem os_ix : OpSpec W (rIx W.K) ixD := by
  intro x y d e S H μ res σ Wx Q hS rx ry hf hk
  unfold ixD at hf
  split at hf
  · rename_i s i
    obtain ⟨rfl, hl⟩ := rx.str
    cases ry.int
    cases q : atI s.cps.toList i with
    | none => rw [q] at hf; cases hf
    | some c =>
      rw [q] at hf
      cases hf
      exact .inr (.inr ⟨s, i, c, rfl, rfl, Nat.le_trans hl big_le, q, hk.val hS (.str _ (by show 1 ≤ big; decide))⟩)
  · rename_i i _
    cases ry.int
    obtain ⟨xs, e1, hf⟩ := seqE_now (ok := okV W Q) hf
    obtain ⟨z, hz, rfl⟩ := optE_some hf
    obtain ⟨a, ws, rfl, h1, h2, h3⟩ := seqD_rep hS rx e1
    obtain ⟨v, hv, rv⟩ := atI_rep h3 hz
    rcases h1 with h1 | h1
    · exact .inl ⟨a, ws, i, v, rfl, rfl, h1, hv, hk.val hS rv⟩
    · exact .inr (.inl ⟨a, ws, i, v, rfl, rfl, h1, hv, hk.val hS rv⟩)
  · cases hf
theorem ev_ix {X : Cx} (hK : X.K = W.K) {a b : Expr} {pos : Pos} {f g : Env → EM D} (ha : PE X a (tEvB W Wx f)) (hb : PE X b (tEvB W Wx g)) (hs : PlainIx b) : PE X (.Subscript a b pos) (tEv W Wx (fOp2 ixD f g)) := by
  have h : IxR X (rIx W.K) := by rw [← hK]; exact ix_seq
  exact PE.imp (pe_ix h ha hb hs) fun σ H Q h => tOp_of os_ix h
/-! slices -/
structure POe (W : Wd) (Wx : WX) (X : Cx) (e : Option Expr) (f : Env → EM (Option Int)) : Prop where
  po : PO X e (fun σ H Q => tG W Wx f (fun o _ H' => Q o H') σ H)
def fNoP : Env → EM (Option Int) := fun _ => pureE none
def fP (f : Env → EM D) : Env → EM (Option Int) := fun env => bindE (f env) fun d => match d with
  | .int i => pureE (some i)
  | _ => failE
theorem PO.imp {X : Cx} {e : Option Expr} {t t' : TO} (h : PO X e t) (hi : ∀ σ H Q, t' σ H Q → t σ H Q) : PO X e t' := ⟨fun pins s σ H Q I hw => h.run pins s σ H Q I (hi _ _ _ hw)⟩
theorem eo_none {X : Cx} : POe W Wx X none fNoP := ⟨PO.imp po_none fun σ H Q ⟨S, μ, env, res, hS, hE, hf, hk⟩ => by
  cases hf
  exact hk.now hS⟩
theorem eo_some {X : Cx} {e : Expr} {f : Env → EM D} (h : PE X e (tEvB W Wx f)) : POe W Wx X (some e) (fP f) := ⟨PO.imp (po_some h) fun σ H Q ⟨S, μ, env, res, hS, hE, hf, hk⟩ => by
  refine tG.bind hS hE hf hk fun d μ1 S1 H1 l1 g1 e1 hf1 hk1 v rv => ?_
  cases d <;> first
    | (cases hf1; done)
    | skip
  cases rv.int
  cases hf1
  have z := hk1.now g1
  exact ⟨_, rfl, z⟩⟩
def cutL {α : Type} (xs : List α) (lo hi : Option Int) : List α := (xs.drop (HT.sIx xs.length 0 lo)).take (HT.sIx xs.length xs.length hi - HT.sIx xs.length 0 lo)
/-- a slice of a text or a tuple -/
def slD (lo hi : Option Int) : D → EM D
  | .str s => pureE (.str (cutS s lo hi))
  | .tup xs => pureE (.tup (cutL xs lo hi))
  | .lst xs => pureE (.lst (cutL xs lo hi))
  | _ => failE
def slL (lo hi : Option Int) : D → EM (List D) := fun d => match d with
  | .scr ns => pureE (cutL (ns.map D.int) lo hi)
  | d => bindE (lstE d) fun xs => pureE (cutL xs lo hi)
def fSl {α : Type} (op : Option Int → Option Int → D → EM α) (f : Env → EM D) (l h : Env → EM (Option Int)) : Env → EM α := fun env => bindE (f env) fun d => bindE (l env) fun lo => bindE (h env) fun hi => op lo hi d
theorem cutV_rep {vs : List V} {ds : List D} (h : RepVs W S H vs ds) (lo hi : Option Int) : RepVs W S H (cutV vs lo hi) (cutL ds lo hi) := by
  unfold cutV cutL
  rw [h.length]
  exact (h.drop _).take _
theorem ev_sl {X : Cx} (hK : X.K = W.K) {a : Expr} {lo hi : Option Expr} {p2 pos : Pos} {f : Env → EM D} {l h : Env → EM (Option Int)} (ha : PE X a (tEvB W Wx f)) (hl : POe W Wx X lo l) (hh : POe W Wx X hi h) : PE X (.Subscript a (.Slice lo hi none p2) pos) (tEv W Wx (fSl slD f l h)) :=
  PE.imp (pe_slice (SlR.or sl_str (SlR.or sl_tupA sl_list)) ha hl.po hh.po) fun σ H Q ⟨S, μ, env, res, hS, hE, hf, hk⟩ => by
    refine tG.bind hS hE hf hk fun d μ1 S1 H1 l1 g1 e1 hf1 hk1 v rv => ?_
    refine tG.bind g1 e1 hf1 hk1 fun lo μ2 S2 H2 l2 g2 e2 hf2 hk2 => ?_
    refine tG.bind g2 e2 hf2 hk2 fun hi μ3 S3 H3 l3 g3 e3 hf3 hk3 => ?_
    have rv := (rv.laterE l2).laterE l3
    unfold slD at hf3
    split at hf3
    · cases hf3
      obtain ⟨rfl, hl⟩ := rv.str
      exact .inl ⟨_, rfl, Nat.le_trans hl big_le, hk3.val g3 (.str _ (Nat.le_trans (cutS_length _ _ _) hl))⟩
    · cases hf3
      have rt := rv.tupV
      obtain ⟨b, vs, rfl, h1, h2, r⟩ := rv.tup
      rw [hK]
      refine .inr (.inl ⟨b, vs, rfl, h1, fun hw => ?_, fun hw p hp => ?_⟩)
      · refine hk3.val g3 ?_
        unfold cutL
        rw [← r.length, hw.1, hw.2, List.drop_zero, Nat.sub_zero, r.length, List.take_length]
        exact rt
      · have lt : LtE S3 H3 S3 (upd H3 p (.tup (cutV vs lo hi))) := lt_upd hp g3.wf
        exact hk3 S3 _ lt (g3.upd hp) _ (.tup upd_same (g3.fresh hp) (Nat.le_trans (cutV_length _ _ _) h2) ((cutV_rep r lo hi).later lt))
    · cases hf3
      obtain ⟨b, vs, rfl, h1, h2, r⟩ := rv.lst
      refine .inr (.inr ⟨b, vs, rfl, SqL.of h1, fun p hp => ?_⟩)
      have lt : LtE S3 H3 S3 (upd H3 p (.lst (cutV vs lo hi))) := lt_upd hp g3.wf
      exact hk3 S3 _ lt (g3.upd hp) _ (.lst upd_same (g3.fresh hp) (Nat.le_trans (cutV_length _ _ _) h2) ((cutV_rep r lo hi).later lt))
    · cases hf3
theorem el_sl {X : Cx} (hK : X.K = W.K) {a : Expr} {lo hi : Option Expr} {p2 pos : Pos} {f : Env → EM D} {l h : Env → EM (Option Int)} (ha : PE X a (tEvB W Wx f)) (hl : POe W Wx X lo l) (hh : POe W Wx X hi h) : PE X (.Subscript a (.Slice lo hi none p2) pos) (tEvL W Wx (fSl slL f l h)) :=
  PE.imp (pe_slice sl_list ha hl.po hh.po) fun σ H Q ⟨S, μ, env, res, hS, hE, hf, hk⟩ => by
    refine tG.bind hS hE hf hk fun d μ1 S1 H1 l1 g1 e1 hf1 hk1 v rv => ?_
    refine tG.bind g1 e1 hf1 hk1 fun lo μ2 S2 H2 l2 g2 e2 hf2 hk2 => ?_
    refine tG.bind g2 e2 hf2 hk2 fun hi μ3 S3 H3 l3 g3 e3 hf3 hk3 => ?_
    have rv := (rv.laterE l2).laterE l3
    unfold slL at hf3
    split at hf3
    · cases hf3
      obtain ⟨a, rfl, h1, h2⟩ := rv.scr
      rw [hK]
      refine ⟨a, _, rfl, h1, fun p hp => okL_new g3 (fun a h => l3.mem a (l2.mem a (l1.mem a h))) hk3 hp (Nat.le_trans (cutV_length _ _ _) (by rw [List.length_map]; exact h2)) (cutV_rep (reps_ints _) lo hi)⟩
    obtain ⟨xs, e, hf3⟩ := lstE_now hf3
    cases hf3
    obtain ⟨b, vs, rfl, h1, h2, r⟩ := lstD_rep g3 rv e
    rw [hK]
    exact ⟨b, vs, rfl, SqL.of h1, fun p hp => okL_new g3 (fun a h => l3.mem a (l2.mem a (l1.mem a h))) hk3 hp (Nat.le_trans (cutV_length _ _ _) h2) (cutV_rep r lo hi)⟩
/-! lists: +, * -/
def OpSpecL (W : Wd) (r : R2) (op : D → D → EM (List D)) : Prop := ∀ (x y : V) (d e : D) (S : Ws) (H : Hp) (μ : Mu) (res : Out (List D) × Mu) (σ : St) (Wx : WX) (Q : VK) (H0 : Hp), Sg W S H μ → (∀ a, H0 a ≠ none → H a ≠ none) → RepB W S H x d → RepB W S H y e → op d e μ = some res → KG W S H σ Wx (okL W Q H0) res → r x y H Q
def fOp2L (op : D → D → EM (List D)) (f g : Env → EM D) : Env → EM (List D) := fun env => bindE (f env) fun d => bindE (g env) fun e => op d e
theorem el_bin {X : Cx} {op : Operator} {r : R2} {a b : Expr} {pos : Pos} {opd : D → D → EM (List D)} {f g : Env → EM D} (ho : OpR X (binaryOp op) r) (hs : OpSpecL W r opd) (ha : PE X a (tEvB W Wx f)) (hb : PE X b (tEvB W Wx g)) :
    PE X (.BinOp a op b pos) (tEvL W Wx (fOp2L opd f g)) := PE.imp (pe_op ho ha hb) fun σ H Q ⟨S, μ, env, res, hS, hE, hf, hk⟩ => by
  refine tG.bind hS hE hf hk fun d μ1 S1 H1 l1 g1 e1 hf1 hk1 x rx => ?_
  refine tG.bind g1 e1 hf1 hk1 fun e μ2 S2 H2 l2 g2 e2 hf2 hk2 y ry => ?_
  exact hs x y d e S2 H2 μ2 res σ Wx Q H g2 (fun a h => l2.mem a (l1.mem a h)) (rx.laterE l2) ry hf2 hk2
def catD (x y : D) : EM (List D) := bindE (lstE x) fun xs => bindE (lstE y) fun ys => guardE (decide (xs.length + ys.length ≤ big)) (pureE (xs ++ ys))
theorem os_cat : OpSpecL W rCat catD := by
  intro x y d e S H μ res σ Wx Q H0 hS hm rx ry hf hk
  obtain ⟨xs, e1, hf⟩ := lstE_now hf
  obtain ⟨ys, e2, hf⟩ := lstE_now hf
  obtain ⟨hl, hf⟩ := guardE_some hf
  cases hf
  have hl := of_decide_eq_true hl
  obtain ⟨a, vs, rfl, h1, h2, r1⟩ := lstD_rep hS rx e1
  obtain ⟨b, ws, rfl, h3, h4, r2⟩ := lstD_rep hS ry e2
  have hlen : (vs ++ ws).length ≤ big := by rw [List.length_append, r1.length, r2.length]; exact hl
  exact ⟨a, b, vs, ws, rfl, rfl, h1, h3, by rw [← List.length_append]; exact Nat.le_trans hlen big_le, fun p hp => okL_new hS hm hk hp hlen (r1.append r2)⟩
def repD (x y : D) : EM (List D) := match y with
  | .int k => bindE (lstE x) fun xs => guardE (decide (-(2 ^ 63) ≤ k ∧ k < 2 ^ 63 ∧ xs.length * k.toNat ≤ big)) (pureE (repL k.toNat xs))
  | _ => failE
theorem os_rep : OpSpecL W rRep repD := by
  intro x y d e S H μ res σ Wx Q H0 hS hm rx ry hf hk
  unfold repD at hf
  split at hf
  · rename_i k
    cases ry.int
    obtain ⟨xs, e1, hf⟩ := lstE_now hf
    obtain ⟨hl, hf⟩ := guardE_some hf
    cases hf
    have hl := of_decide_eq_true hl
    obtain ⟨a, vs, rfl, h1, h2, r1⟩ := lstD_rep hS rx e1
    have hlen : vs.length * k.toNat ≤ big := by rw [r1.length]; exact hl.2.2
    exact ⟨a, k, vs, rfl, rfl, h1, hl.1, hl.2.1, Nat.le_trans hlen big_le, fun p hp => okL_new hS hm hk hp (by rw [len_rep]; exact hlen) (rep_repL r1 _)⟩
  · cases hf
end
end EG
namespace EG
open PySem L2

abbrev Fn := List D → EM D
section
variable {W : Wd} {S S' S1 : Ws} {H H' H1 : Hp} {σ : St} {env : Env} {μ : Mu} {Wx : WX} {α β : Type}
/-- what a caller of a def is promised -/
def KF (W : Wd) (S : Ws) (H : Hp) (Q : VK) (E : XK) : Out D × Mu → Prop
  | (.ok d, μ') => ∀ S' H' v, LtE S H S' H' → Sg W S' H' μ' → RepV W S' H' v d → Q v H'
  | (.exc c fs, μ') => ∀ S' H' dd vs, LtE S H S' H' → Sg W S' H' μ' → H' dd = some (.xd vs) → S'.Ow dd = none → RepFs W S' H' vs fs → E (.ref (W.ca c)) (some dd) H'
def spF (W : Wd) (n : Nat) (F : Fn) : Sp := fun vs H Q E => vs.length = n ∧ ∃ S μ ds res, Sg W S H μ ∧ RepVs W S H vs ds ∧ F ds μ = some res ∧ KF W S H Q E res
/-- the owners as a callee sees them -/
def hand (S : Ws) : Ws := { S with Ow := fun a => match S.Ow a with
  | some (.slot _) => some .out
  | w => w }
/-- .. and as the caller sees them behind the call -/
def back (S Se : Ws) : Ws := { ρ := Se.ρ, Ow := fun a => match S.Ow a with
  | some (.slot i) => some (.slot i)
  | some .out => some .out
  | _ => match Se.Ow a with
    | some (.cell n) => some (.cell n)
    | _ => none }
theorem hand_none {a : Addr} (h : S.Ow a = none) : (hand S).Ow a = none := by simp [hand, h]
theorem hand_cell {a : Addr} {n : Nat} (h : S.Ow a = some (.cell n)) : (hand S).Ow a = some (.cell n) := by simp [hand, h]
theorem hand_out {a : Addr} {w : Own} (h : S.Ow a = some w) (k : kE w) : (hand S).Ow a = some .out := by
  cases w with
  | out => simp [hand, h]
  | slot i => simp [hand, h]
  | cell n => exact k.elim
theorem lt_hand {k : Own → Prop} (hk : ∀ w, k w → w = .out) : Lt k S H (hand S) H where
  dat := fun a o e q => ⟨hand_none e, q⟩
  own := fun a w e q => by
    rw [hk w q] at e ⊢
    exact ⟨by simp [hand, e], rfl⟩
  cel := fun n a e q => ⟨e, hand_cell q⟩
  mem := fun _ h => h
theorem Sg.hand (g : Sg W S H μ) : Sg W (hand S) H μ where
  wf := fun a w e => by
    cases q : S.Ow a with
    | none => simp [EG.hand, q] at e
    | some w' => exact g.wf a w' q
  len := g.len
  cells := fun n c e => by
    obtain ⟨a, e1, e2, r⟩ := g.cells n c e
    exact ⟨a, e1, hand_cell e2, r.later (lt_hand (k := fun _ => False) fun _ h => h.elim) rfl⟩
theorem back_none {Se : Ws} {a : Addr} (h : S.Ow a = none) (h' : Se.Ow a = none) : (back S Se).Ow a = none := by simp [back, h, h']
theorem back_own {Se : Ws} {a : Addr} {w : Own} (h : S.Ow a = some w) (k : kE w) : (back S Se).Ow a = some w := by
  cases w with
  | out => simp [back, h]
  | slot i => simp [back, h]
  | cell n => exact k.elim
theorem back_cell {Se : Ws} {a : Addr} {n : Nat} (h : Se.Ow a = some (.cell n)) (hs : ∀ w, S.Ow a = some w → ¬ kE w) : (back S Se).Ow a = some (.cell n) := by
  cases q : S.Ow a with
  | none => simp [back, q, h]
  | some w =>
    cases w with
    | out => exact absurd trivial (hs _ q)
    | slot i => exact absurd trivial (hs _ q)
    | cell m => simp [back, q, h]
theorem back_lt {Se : Ws} {He : Hp} (g : Sg W S H μ) (l : LtS (hand S) H Se He) : LtE S H (back S Se) He where
  dat := fun a o e q => by
    obtain ⟨h1, h2⟩ := l.dat a o (hand_none e) q
    exact ⟨back_none e h1, h2⟩
  own := fun a w e k => ⟨back_own e k, (l.own a _ (hand_out e k) trivial).2⟩
  cel := fun n a e q => by
    obtain ⟨h1, h2⟩ := l.cel n a e (hand_cell q)
    exact ⟨h1, back_cell h2 fun w e' k => by rw [q] at e'; cases e'; exact k⟩
  mem := l.mem
/-- what the callee knows holds for the caller too -/
theorem back_mono {Se : Ws} {He : Hp} (g : Sg W S H μ) (l : LtS (hand S) H Se He) : (∀ a o, Se.Ow a = none → He a = some o → (back S Se).Ow a = none ∧ He a = some o) ∧ (∀ (n : Nat) a, Se.ρ[n]? = some a → Se.Ow a = some (.cell n) → (back S Se).ρ[n]? = some a ∧ (back S Se).Ow a = some (.cell n)) := by
  have no : ∀ a w, S.Ow a = some w → kE w → Se.Ow a = some .out := fun a w e k => (l.own a _ (hand_out e k) trivial).1
  refine ⟨fun a o e q => ⟨?_, q⟩, fun n a e q => ⟨e, back_cell q fun w e' k => ?_⟩⟩
  · cases z : S.Ow a with
    | none => exact back_none z e
    | some w =>
      cases w with
      | out => rw [no a _ z trivial] at e; cases e
      | slot i => rw [no a _ z trivial] at e; cases e
      | cell n => simp [back, z, e]
  · rw [no a w e' k] at q; cases q
theorem back_sg {Se : Ws} {He : Hp} {μ' : Mu} (g : Sg W S H μ) (l : LtS (hand S) H Se He) (ge : Sg W Se He μ') : Sg W (back S Se) He μ' where
  wf := fun a w e => by
    cases z : S.Ow a with
    | some w' =>
      obtain ⟨u, q⟩ := g.wf a w' z
      have := l.mem a (by rw [q]; exact fun z => nomatch z)
      cases y : He a with
      | none => exact absurd y this
      | some u => exact ⟨u, rfl⟩
    | none =>
      cases y : Se.Ow a with
      | none => rw [back_none z y] at e; cases e
      | some w' => exact ge.wf a w' y
  len := ge.len
  cells := fun n c e => by
    obtain ⟨a, e1, e2, r⟩ := ge.cells n c e
    obtain ⟨m1, m2⟩ := back_mono g l
    exact ⟨a, e1, (m2 n a e1 e2).2, r.mono m1 m2 rfl⟩

/-! calls -/
def fCall (n : Nat) (F : Fn) (dds : List D) (g : Env → EM (List D)) : Env → EM D := fun env => bindE (g env) fun ds => guardE (decide (ds.length + dds.length = n)) (F (ds ++ dds))
theorem spF_of {n : Nat} {F : Fn} {vs : List V} {ds : List D} {res : Out D × Mu} {Q : VK} (hS : Sg W S H μ) (hl : ds.length = n) (r : RepVs W S H vs ds) (hf : F ds μ = some res) (hk : KG W S H σ Wx (okV W Q) res) : spF W n F vs H Q (fun cls dd H' => Wx cls dd σ H') := by
  refine ⟨r.length.trans hl, S, μ, ds, res, hS, r, hf, ?_⟩
  obtain ⟨o, μ'⟩ := res
  cases o with
  | ok d => exact fun S' H' v l g rv => hk S' H' l g v rv
  | exc c fs => exact fun S' H' dd vs l g h1 h2 h3 => hk S' H' dd vs l g h1 h2 h3
theorem passAt' {X : Cx} (tk : Takes X Wx) (σ : St) : PassesAt (L2.CX X.prog X.w) X σ (fun cls dd H' => Wx cls dd σ H') := passAt tk σ
theorem ev_call {X : Cx} {k n : Nat} {f : Addr} {fd : FuncData} {ps : List Str} {x : Str} {p pos : Pos} {e : Expr} {es : List Expr} {F : Fn} {g : Env → EM (List D)} {dds : List D} {dvs : List V} {dus : List Value}
    (G : FnOk X.prog X.w X.K X.mg X.base (L2.CX X.prog X.w) k f fd ps (spF W n F)) (tk : Takes X Wx) (hr : Room k X.A) (hg : Gl X x) (hm : X.mg x = some (.ref f)) (hk : PySem.W.keepIn X.K (.ref f) = true) (hb : Binds X.K fd ps dus) (hd : Vals dvs dus)
    (hdd : ∀ S H, RepVs W S H dvs dds) (ha : PA X (e :: es) (tEvs W Wx g)) (hdb : (x == ("__debug__" : Str)) = false) (he : starEach (e :: es) X.env = (false, eval e X.env) :: starEach es X.env) (hpl : (backTo pos (starEach es X.env)).any (·.1) = false) :
    PE X (.Call (.Name x p) (e :: es) [] pos) (tEv W Wx (fCall n F dds g)) :=
  PE.imp (pe_callSD (E := fun σ cls dd H' => Wx cls dd σ H') G hr hg hm hk hb hd (fun σ => passAt' tk σ) ha hdb he hpl) fun σ H Q ⟨S, μ, env, res, hS, hE, hf, hk⟩ => by
    refine tG.bind hS hE hf hk fun ds μ1 S1 H1 l1 g1 e1 hf1 hk1 vs rvs => ?_
    obtain ⟨hl, hf1⟩ := guardE_some hf1
    exact spF_of g1 (by rw [List.length_append]; exact of_decide_eq_true hl) (rvs.append (hdd S1 H1)) hf1 hk1
end
end EG
namespace EG
open PySem L2

inductive SO where
  | nx (env : Env) | rt (d : D) | br (env : Env) | ct (env : Env) | exc (c : Nat) (fs : List (Str × D)) (env : Env)
abbrev SM := Env → Mu → Option (SO × Mu)
def KS (W : Wd) (S : Ws) (H : Hp) (Wx : WX) (Dn : Ends) : SO × Mu → Prop
  | (.nx env', μ') => ∀ S' H' σ', LtS S H S' H' → Sg W S' H' μ' → EnvOk W S' H' σ' env' → Dn.nx σ' H'
  | (.rt d, μ') => ∀ S' H' v, LtS S H S' H' → Sg W S' H' μ' → RepV W S' H' v d → Dn.rt v H'
  | (.br env', μ') => ∀ S' H' σ', LtS S H S' H' → Sg W S' H' μ' → EnvOk W S' H' σ' env' → Dn.bk σ' H'
  | (.ct env', μ') => ∀ S' H' σ', LtS S H S' H' → Sg W S' H' μ' → EnvOk W S' H' σ' env' → Dn.ct σ' H'
  | (.exc c fs env', μ') => ∀ S' H' σ' dd vs, LtS S H S' H' → Sg W S' H' μ' → EnvOk W S' H' σ' env' → H' dd = some (.xd vs) → S'.Ow dd = none → RepFs W S' H' vs fs → Wx (.ref (W.ca c)) (some dd) σ' H'
def tSt (W : Wd) (Wx : WX) (F : SM) : TS := fun Dn σ H => ∃ S μ env r, Sg W S H μ ∧ EnvOk W S H σ env ∧ F env μ = some r ∧ KS W S H Wx Dn r
section
variable {W : Wd} {S S' S1 : Ws} {H H' H1 : Hp} {σ : St} {env : Env} {μ : Mu} {Wx : WX} {α β : Type} {X : Cx} {Dn : Ends}
theorem KS.later {r : SO × Mu} (h : KS W S H Wx Dn r) (l : LtS S H S1 H1) : KS W S1 H1 Wx Dn r := by
  obtain ⟨o, μ'⟩ := r
  cases o with
  | nx e => exact fun S' H' σ' l' => h S' H' σ' (l.trans l')
  | rt d => exact fun S' H' v l' => h S' H' v (l.trans l')
  | br e => exact fun S' H' σ' l' => h S' H' σ' (l.trans l')
  | ct e => exact fun S' H' σ' l' => h S' H' σ' (l.trans l')
  | exc c fs e => exact fun S' H' σ' dd vs l' => h S' H' σ' dd vs (l.trans l')
theorem PS.imp {st : Stmt} {t t' : TS} (h : PS X st t) (hi : ∀ D σ H, t' D σ H → t D σ H) : PS X st t' := ⟨fun pins s σ H D I hw => h.run pins s σ H D I (hi _ _ _ hw)⟩
theorem PSs.imp {st : List Stmt} {t t' : TS} (h : PSs X st t) (hi : ∀ D σ H, t' D σ H → t D σ H) : PSs X st t' := ⟨fun pins s σ H D I hw => h.run pins s σ H D I (hi _ _ _ hw)⟩
/-! blocks -/
def fSkip : SM := fun env μ => some (.nx env, μ)
def fSeq (F G : SM) : SM := fun env μ => match F env μ with
  | some (.nx env', μ') => G env' μ'
  | r => r
theorem seq_of {F G : SM} (h : tSt W Wx (fSeq F G) Dn σ H) : tSeq (tSt W Wx F) (tSt W Wx G) Dn σ H := by
  obtain ⟨S, μ, env, r, hS, hE, hf, hk⟩ := h
  unfold fSeq at hf
  cases e : F env μ with
  | none => rw [e] at hf; cases hf
  | some q =>
    obtain ⟨o, μ1⟩ := q
    rw [e] at hf
    refine ⟨S, μ, env, _, hS, hE, e, ?_⟩
    cases o with
    | nx env' => exact fun S' H' σ' l g e' => ⟨S', μ1, env', r, g, e', hf, hk.later l⟩
    | rt d => cases hf; exact hk
    | br e => cases hf; exact hk
    | ct e => cases hf; exact hk
    | exc c fs e => cases hf; exact hk
theorem skip_of {Wx : WX} (h : tSt W Wx fSkip Dn σ H) : Dn.nx σ H := by
  obtain ⟨S, μ, env, r, hS, hE, hf, hk⟩ := h
  cases hf
  exact hk S H σ .refl hS hE
theorem es_nil : PSs X [] (tSt W Wx fSkip) := PSs.imp pss_nil fun D σ H h => skip_of h
theorem es_cons {st : Stmt} {rest : List Stmt} {F G : SM} (h1 : PS X st (tSt W Wx F)) (h2 : PSs X rest (tSt W Wx G)) : PSs X (st :: rest) (tSt W Wx (fSeq F G)) := PSs.imp (pss_cons h1 h2) fun D σ H h => seq_of h
theorem es_pass {pos : Pos} : PS X (.Pass pos) (tSt W Wx fSkip) := PS.imp ps_pass fun D σ H h => skip_of h
theorem es_doc {x : Str} {j : Nat} {pos pos' : Pos} : PS X (.Expr (.Constant (.str x) j pos) pos') (tSt W Wx fSkip) := PS.imp ps_doc fun D σ H h => skip_of h
def fBreak : SM := fun env μ => some (.br env, μ)
def fCont : SM := fun env μ => some (.ct env, μ)
theorem es_break {pos : Pos} : PS X (.Break pos) (tSt W Wx fBreak) := PS.imp ps_break fun D σ H ⟨S, μ, env, r, hS, hE, hf, hk⟩ => by
  cases hf; exact hk S H σ .refl hS hE
theorem es_cont {pos : Pos} : PS X (.Continue pos) (tSt W Wx fCont) := PS.imp ps_continue fun D σ H ⟨S, μ, env, r, hS, hE, hf, hk⟩ => by
  cases hf; exact hk S H σ .refl hS hE
/-- code that is never reached -/
def fNever : SM := fun _ _ => none
theorem es_never {st : Stmt} : PS X st (tSt W Wx fNever) := PS.imp ps_never fun D σ H ⟨S, μ, env, r, hS, hE, hf, hk⟩ => by cases hf

/-! an expression, then k -/
def liftE {α : Type} (f : Env → EM α) (k : α → SM) : SM := fun env μ => match f env μ with
  | some (.ok a, μ') => k a env μ'
  | some (.exc c fs, μ') => some (.exc c fs env, μ')
  | none => none
theorem tG.lift {f : Env → EM α} {k : α → SM} {ok : α → Ws → Hp → Prop} (h : tSt W Wx (liftE f k) Dn σ H)
    (hR : ∀ S μ env a μ1 S1 H1 r, Sg W S H μ → LtE S H S1 H1 → Sg W S1 H1 μ1 → EnvOk W S1 H1 σ env → k a env μ1 = some r → KS W S H Wx Dn r → ok a S1 H1) : tG W Wx f ok σ H := by
  obtain ⟨S, μ, env, r, hS, hE, hf, hk⟩ := h
  unfold liftE at hf
  cases e : f env μ with
  | none => rw [e] at hf; cases hf
  | some q =>
    obtain ⟨o, μ1⟩ := q
    rw [e] at hf
    refine ⟨S, μ, env, _, hS, hE, e, ?_⟩
    cases o with
    | ok a => exact fun S' H' l g => hR S μ env a μ1 S' H' r hS l g (hE.laterE l) hf hk
    | exc c fs =>
      cases hf
      exact fun S' H' dd vs l g h1 h2 h3 => hk S' H' σ dd vs l.toS g (hE.laterE l) h1 h2 h3
theorem EnvOk.set {i : Nat} {v : V} {sl : Slot} (h : EnvOk W S H σ env) (hr : SlotRep W S H i (some (some v)) sl) : EnvOk W S H (σ.set i (some v)) (env.set i sl) where
  len := by rw [List.length_set, List.length_set]; exact h.len
  at_ := fun j sl' e => by
    by_cases hj : j = i
    · subst hj
      by_cases hl : j < env.length
      · rw [List.getElem?_set_self hl] at e
        cases e
        rw [List.getElem?_set_self (by rw [← h.len]; exact hl)]
        exact hr
      · rw [List.getElem?_eq_none (by rw [List.length_set]; omega)] at e
        cases e
    · rw [List.getElem?_set_ne (Ne.symm hj)] at e ⊢
      exact h.at_ j sl' e
/-! x = e -/
def fSet (i : Nat) (f : Env → EM D) : SM := liftE f fun d env μ => some (.nx (env.set i (.v d)), μ)
theorem es_set {i : Nat} {x : Str} {e : Expr} {pos pos' : Pos} {f : Env → EM D} (h : PS X (.Assign [.Name x pos'] e pos) (tAsg (tEv W Wx f) (gName i))) : PS X (.Assign [.Name x pos'] e pos) (tSt W Wx (fSet i f)) :=
  PS.imp h fun D σ H h => tG.lift h fun S μ env d μ1 S1 H1 r hS l g hE hf hk v rv => by
    cases hf
    exact hk S1 H1 (σ.set i (some v)) l.toS g (hE.set ⟨v, rfl, rv⟩)
/-- x = a new list, x's own -/
def fSetOwn (i : Nat) (f : Env → EM (List D)) : SM := liftE f fun xs env μ => some (.nx (env.set i (.own (.lst xs))), μ)
theorem lt_own {p : Addr} {w : Own} {μ : Mu} (hS : Sg W S H μ) (hp : H p = none) (l : LtE S H S1 H1) (ho : S1.Ow p = some .out) : LtE S H (S1.set p (some w)) H1 where
  dat := fun a o e q => by
    have : a ≠ p := fun z => by rw [z, hp] at q; cases q
    rw [Ws.set_ne this]; exact l.dat a o e q
  own := fun a x e k => by
    have : a ≠ p := fun z => by obtain ⟨u, z'⟩ := hS.wf a x e; rw [z, hp] at z'; cases z'
    rw [Ws.set_ne this]; exact l.own a x e k
  cel := fun n a e q => by
    have : a ≠ p := fun z => by obtain ⟨u, z'⟩ := hS.wf a _ q; rw [z, hp] at z'; cases z'
    rw [Ws.set_ne this]; exact l.cel n a e q
  mem := l.mem
theorem es_setOwn {i : Nat} {x : Str} {e : Expr} {pos pos' : Pos} {f : Env → EM (List D)} (h : PS X (.Assign [.Name x pos'] e pos) (tAsg (tEvL W Wx f) (gName i))) : PS X (.Assign [.Name x pos'] e pos) (tSt W Wx (fSetOwn i f)) :=
  PS.imp h fun D σ H h => tG.lift h fun S μ env xs μ1 S1 H1 r hS l g hE hf hk p vs hp ho hh hl rv => by
    cases hf
    have ls : Lt (fun w => w ≠ .out) S1 H1 (S1.set p (some (.slot i))) H1 := lt_set ho (fun z => z rfl) fun n z => nomatch z
    exact hk (S1.set p (some (.slot i))) H1 (σ.set i (some (.ref p))) (lt_own hS hp l ho).toS (g.set ho fun n z => nomatch z) ((hE.later (fun j z => nomatch z) ls).set (sl := .own (.lst xs)) ⟨p, rfl, Ws.set_same, vs, hh, hl, rv.later ls⟩)
/-- ghost: x's own list is data from here on -/
def fFreeze (i : Nat) : SM := fun env μ => match env[i]? with
  | some (.own c) => some (.nx (env.set i (.v c.toD)), μ)
  | some (.v d) => some (.nx (env.set i (.v d)), μ)
  | _ => none
theorem set_self {α : Type} : ∀ (l : List α) (i : Nat) (a : α), l[i]? = some a → l.set i a = l
  | [], _, _, h => by simp at h
  | x :: r, 0, a, h => by simp at h; subst h; rfl
  | x :: r, i + 1, a, h => by
    rw [List.set_cons_succ, set_self r i a (by simpa using h)]
theorem EnvOk.set' {i : Nat} {v : V} {sl : Slot} (h : EnvOk W S H σ env) (hv : σ[i]? = some (some v)) (hr : SlotRep W S H i (some (some v)) sl) : EnvOk W S H σ (env.set i sl) := by
  have := h.set hr
  rw [set_self σ i _ hv] at this
  exact this
/-- the slot i changes alone, its list's owner with it -/
theorem EnvOk.turn {i : Nat} {p : Addr} {w : Option Own} {sl sl0 : Slot} (h : EnvOk W S H σ env) (h0 : env[i]? = some sl0) (hp : S.Ow p = some (.slot i)) (hv : σ[i]? = some (some (.ref p))) (hr : SlotRep W (S.set p w) H i (some (some (.ref p))) sl) : EnvOk W (S.set p w) H σ (env.set i sl) where
  len := by rw [List.length_set]; exact h.len
  at_ := fun j sl' e => by
    by_cases hj : j = i
    · subst hj
      have hl : j < env.length := (List.getElem?_eq_some_iff.mp h0).1
      rw [List.getElem?_set_self hl] at e
      cases e
      rw [hv]
      exact hr
    · rw [List.getElem?_set_ne (Ne.symm hj)] at e
      have z := h.at_ j sl' e
      have lt : Lt (fun w => w ≠ .slot i) S H (S.set p w) H := lt_set hp (fun z => z rfl) fun n z => nomatch z
      cases sl' with
      | no => trivial
      | v d => obtain ⟨v, e, r⟩ := z; exact ⟨v, e, r.later lt⟩
      | own c =>
        obtain ⟨a, e, o, r⟩ := z
        obtain ⟨o', h'⟩ := lt.own a _ o (fun z => hj (by cases z; rfl))
        exact ⟨a, e, o', r.later lt h'⟩
theorem es_freeze {i : Nat} {sts : List Stmt} {G : SM} (h : PSs X sts (tSt W Wx G)) : PSs X sts (tSt W Wx (fSeq (fFreeze i) G)) :=
  PSs.imp h fun D σ H ⟨S, μ, env, r, hS, hE, hf, hk⟩ => by
    unfold fSeq fFreeze at hf
    cases e : env[i]? with
    | none => rw [e] at hf; cases hf
    | some sl =>
      rw [e] at hf
      have z := hE.at_ i _ e
      cases sl with
      | no => cases hf
      | v d =>
        have : env.set i (.v d) = env := set_self env i _ e
        simp only [this] at hf
        exact ⟨S, μ, env, r, hS, hE, hf, hk⟩
      | own c =>
        obtain ⟨a, e1, o, rv⟩ := z
        have lt : Lt (fun w => w ≠ .slot i) S H (S.set a none) H := lt_set o (fun z => z rfl) fun n z => nomatch z
        have lS : LtS S H (S.set a none) H := ⟨lt.dat, fun b w q k => lt.own b w q (by rintro rfl; exact k), lt.cel, lt.mem⟩
        exact ⟨S.set a none, μ, _, r, hS.set o (fun n z => nomatch z), hE.turn (sl := .v c.toD) e o e1 ⟨_, rfl, (rv.later lt rfl).toV Ws.set_same⟩, hf, hk.later lS⟩
/-! return, expression, if -/
def fRet (f : Env → EM D) : SM := liftE f fun d _ μ => some (.rt d, μ)
theorem es_ret {e : Expr} {pos : Pos} {f : Env → EM D} (he : PE X e (tEv W Wx f)) : PS X (.Return (some e) pos) (tSt W Wx (fRet f)) :=
  PS.imp (ps_ret he) fun D σ H h => tG.lift h fun S μ env d μ1 S1 H1 r hS l g hE hf hk v rv => by
    cases hf
    exact hk S1 H1 v l.toS g rv
def fRetN : SM := fun _ μ => some (.rt .non, μ)
theorem es_retN {pos : Pos} : PS X (.Return none pos) (tSt W Wx fRetN) := PS.imp ps_retN fun D σ H ⟨S, μ, env, r, hS, hE, hf, hk⟩ => by
  cases hf; exact hk S H .non .refl hS .non
def fDrop (f : Env → EM D) : SM := liftE f fun _ env μ => some (.nx env, μ)
theorem es_expr {e : Expr} {pos : Pos} {f : Env → EM D} (he : PE X e (tEv W Wx f)) (hs : swapsWith e none pos.line X.env = pure false) : PS X (.Expr e pos) (tSt W Wx (fDrop f)) :=
  PS.imp (ps_expr he hs) fun D σ H h => tG.lift h fun S μ env d μ1 S1 H1 r hS l g hE hf hk v rv => by
    cases hf
    exact hk S1 H1 σ l.toS g hE
def fIfS (c : Env → EM Bool) (F G : SM) : SM := liftE c fun b env μ => match b with
  | true => F env μ
  | false => G env μ
theorem es_if {c : Expr} {a b : List Stmt} {pos : Pos} {fc : Env → EM Bool} {F G : SM} (hc : PT X c (tEvT W Wx fc)) (ha : PSs X a (tSt W Wx F)) (hb : PSs X b (tSt W Wx G)) : PS X (.If c a b pos) (tSt W Wx (fIfS fc F G)) :=
  PS.imp (ps_if hc ha hb) fun D σ H h => tG.lift h fun S μ env b μ1 S1 H1 r hS l g hE hf hk => by
    refine okT_mk ?_
    cases b with
    | true => exact iT rfl ⟨S1, μ1, env, r, g, hE, hf, hk.later l.toS⟩
    | false => exact iF Bool.false_ne_true ⟨S1, μ1, env, r, g, hE, hf, hk.later l.toS⟩

/-! targets -/
mutual
inductive Pat where
  | nm (i : Nat) | tp (ps : Pats)
inductive Pats where
  | nil | cons (p : Pat) (r : Pats)
end
def Pats.len : Pats → Nat
  | .nil => 0
  | .cons _ r => r.len + 1
mutual
def bindP : Pat → D → Env → Option Env
  | .nm i, d, env => some (env.set i (.v d))
  | .tp ps, d, env => match d with
    | .tup ds => bindPs ps ds env
    | _ => none
def bindPs : Pats → List D → Env → Option Env
  | .nil, ds, env => match ds with
    | [] => some env
    | _ :: _ => none
  | .cons p r, ds, env => match ds with
    | [] => none
    | d :: ds => match bindP p d env with
      | some env' => bindPs r ds env'
      | none => none
end
mutual
def Pat.slots : Pat → List Nat
  | .nm i => [i]
  | .tp ps => ps.slots
def Pats.slots : Pats → List Nat
  | .nil => []
  | .cons p r => p.slots ++ r.slots
end
/-- the slots but ps are as they were -/
def Agree (ps : List Nat) (σ σ' : St) : Prop := σ'.length = σ.length ∧ ∀ j, j ∉ ps → σ'[j]? = σ[j]?
theorem Agree.refl {ps : List Nat} {σ : St} : Agree ps σ σ := ⟨rfl, fun _ _ => rfl⟩
theorem Agree.set {i : Nat} {σ : St} {v : Option V} : Agree [i] σ (σ.set i v) := ⟨by rw [List.length_set], fun j h => by rw [List.getElem?_set_ne (by simp at h; omega)]⟩
theorem Agree.trans {ps qs : List Nat} {σ σ1 σ2 : St} (a : Agree ps σ σ1) (b : Agree qs σ1 σ2) : Agree (ps ++ qs) σ σ2 := ⟨b.1.trans a.1, fun j h => by
  rw [List.mem_append, not_or] at h
  exact (b.2 j h.2).trans (a.2 j h.1)⟩
def tTg (W : Wd) (p : Pat) : TG := fun v σ H Q => ∃ S μ env env' d, Sg W S H μ ∧ EnvOk W S H σ env ∧ RepV W S H v d ∧ bindP p d env = some env' ∧ ∀ σ', EnvOk W S H σ' env' → Agree p.slots σ σ' → Q σ' H
def tTgs (W : Wd) (p : Pats) : TGs := fun vs σ H Q => ∃ S μ env env' ds, Sg W S H μ ∧ EnvOk W S H σ env ∧ RepVs W S H vs ds ∧ bindPs p ds env = some env' ∧ ∀ σ', EnvOk W S H σ' env' → Agree p.slots σ σ' → Q σ' H
theorem PG.imp {e : Expr} {t t' : TG} (h : PG X e t) (hi : ∀ v σ H Q, t' v σ H Q → t v σ H Q) : PG X e t' := ⟨fun pins s σ H v u Q I r hw => h.run pins s σ H v u Q I r (hi _ _ _ _ hw)⟩
theorem PGs.imp {e : List Expr} {t t' : TGs} (h : PGs X e t) (hi : ∀ v σ H Q, t' v σ H Q → t v σ H Q) : PGs X e t' := ⟨fun pins s σ H v u Q I r hw => h.run pins s σ H v u Q I r (hi _ _ _ _ hw)⟩
theorem eg_name {e : Expr} {i : Nat} (h : PG X e (gName i)) : PG X e (tTg W (.nm i)) := PG.imp h fun v σ H Q ⟨S, μ, env, env', d, hS, hE, rv, hb, hq⟩ => by
  cases hb
  exact hq _ (hE.set ⟨v, rfl, rv⟩) .set
theorem eg_nil : PGs X [] (tTgs W .nil) := PGs.imp pgs_nil fun v σ H Q ⟨S, μ, env, env', ds, hS, hE, rv, hb, hq⟩ => by
  unfold bindPs at hb
  cases ds with
  | nil => cases hb; cases rv; exact ⟨rfl, hq σ hE .refl⟩
  | cons d ds => cases hb
theorem eg_cons {e : Expr} {es : List Expr} {p : Pat} {r : Pats} (h1 : PG X e (tTg W p)) (h2 : PGs X es (tTgs W r)) (hs : (assignEach (e :: es) X.env).map (·.2) = assign e X.env :: (assignEach es X.env).map (·.2)) : PGs X (e :: es) (tTgs W (.cons p r)) :=
  PGs.imp (pgs_cons h1 h2 hs) fun vs σ H Q ⟨S, μ, env, env', ds, hS, hE, rv, hb, hq⟩ => by
    unfold bindPs at hb
    cases ds with
    | nil => cases hb
    | cons d ds =>
      cases rv with
      | cons r1 r2 =>
        simp only at hb
        cases z : bindP p d env with
        | none => rw [z] at hb; cases hb
        | some env1 =>
          rw [z] at hb
          exact ⟨_, _, rfl, S, μ, env, env1, d, hS, hE, r1, z, fun σ' e' ag => ⟨S, μ, env1, env', ds, hS, e', r2, hb, fun σ2 e2 ag2 => hq σ2 e2 (ag.trans ag2)⟩⟩
theorem bindPs_len : ∀ (p : Pats) (ds : List D) (env env' : Env), bindPs p ds env = some env' → ds.length = p.len
  | .nil, ds, env, env', h => by
    unfold bindPs at h
    cases ds with
    | nil => rfl
    | cons d ds => cases h
  | .cons p r, ds, env, env', h => by
    unfold bindPs at h
    cases ds with
    | nil => cases h
    | cons d ds =>
      simp only at h
      cases z : bindP p d env with
      | none => rw [z] at h; cases h
      | some env1 =>
        rw [z] at h
        have := bindPs_len r ds env1 env' h
        simp [Pats.len, this]
theorem eg_tup (hK : X.K = W.K) {es : List Expr} {k n : Nat} {pos : Pos} {ps : Pats} (hc : X.calm = true) (h : PGs X es (tTgs W ps)) (hn : (assignEach es X.env).length = n) (hp : ps.len = n) (hst : (assignEach es X.env).findIdx? (·.1) = none) : PG X (.Tuple es k pos) (tTg W (.tp ps)) :=
  PG.imp (pg_tup hc h hn hst) fun v σ H Q ⟨S, μ, env, env', d, hS, hE, rv, hb, hq⟩ => by
    unfold bindP at hb
    split at hb
    · rename_i ds
      obtain ⟨a, vs, rfl, h1, h2, r⟩ := RepB.tup (.inl rv)
      refine ⟨a, vs, rfl, by rw [hK]; exact h1, ?_, S, μ, env, env', ds, hS, hE, r, hb, hq⟩
      rw [r.length, bindPs_len _ _ _ _ hb, hp]
    · cases hb
/-- pattern = e -/
def fAsg (p : Pat) (f : Env → EM D) : SM := liftE f fun d env μ => match bindP p d env with
  | some env' => some (.nx env', μ)
  | none => none
theorem es_asg {tg e : Expr} {pos : Pos} {p : Pat} {f : Env → EM D} (h : PS X (.Assign [tg] e pos) (tAsg (tEv W Wx f) (tTg W p))) : PS X (.Assign [tg] e pos) (tSt W Wx (fAsg p f)) :=
  PS.imp h fun D σ H h => tG.lift h fun S μ env d μ1 S1 H1 r hS l g hE hf hk v rv => by
    cases z : bindP p d env with
    | none => rw [z] at hf; cases hf
    | some env' =>
      rw [z] at hf
      cases hf
      exact ⟨S1, μ1, env, env', d, g, hE, rv, z, fun σ' e' _ => hk S1 H1 σ' l.toS g e'⟩
end
end EG
namespace EG
open PySem PySem.Spec PyProof.Rows L2
/-! enumerate and zip over lists and tuples in any mix -/
/-- a list (false) or a tuple (true) -/
def SqG (K : PySem.W.Frag) (κ : Bool) (H : Hp) (a : Addr) (xs : List V) : Prop := match κ with
  | false => SqL K H a xs
  | true => SqT K H a xs
def IterG (κ : Bool) (h : Heap) (it a : Addr) (i : Nat) : Prop := match κ with
  | false => h.IsListIter it a i
  | true => h.IsTupleIter it a i
def AtG (κ : Bool) (h : Heap) (a : Addr) (its : Array Value) : Prop := match κ with
  | false => h.IsList a its
  | true => h.IsTuple a its
def objG (κ : Bool) (a : Addr) : Obj := match κ with
  | false => { cls := .type "list_iterator", data := .fields #[.ref a, .int 0 0] }
  | true => { cls := .type "tuple_iterator", data := .fields #[.ref a, .int 0 0] }
theorem begins_G (κ : Bool) (a : Addr) (its : Array Value) : Begins (.ref a) (objG κ a) fun h => AtG κ h a its := by
  cases κ with
  | false => exact begins_list a its
  | true => exact begins_tuple a its
theorem draws_G {prog : Program} {w : World} {A : Around} (hh : A.handled = none) (κ : Bool) (it a : Addr) (hne : a ≠ it) (its : Array Value) :
    Draws prog w A it [it, a] its.size (fun i v => its[i]? = some v) (fun i h => IterG κ h it a i ∧ AtG κ h a its) := by
  cases κ with
  | false => exact .list hh it a hne its
  | true => exact .tuple hh it a hne its
theorem inv_G {X : Cx} {κ : Bool} {pins : List (Addr × Obj)} {σ : L2.St} {H : Hp} {s : Shared} {a : Addr} {xs : List V} (I : Inv X pins σ H s) (h : SqG X.K κ H a xs) : ∃ its : List Value, Vals xs its ∧ AtG κ s.heap a its.toArray ∧ a < s.heap.objs.size := by
  cases κ with
  | false => obtain ⟨its, r, p, _⟩ := I.list h; exact ⟨its, r, p.isList, p.lt⟩
  | true => obtain ⟨its, r, p, _⟩ := I.tuple h; obtain ⟨o, ho, _⟩ := id p; exact ⟨its, r, p, Heap.lt_size ho⟩
theorem inj_G {X : Cx} {κ : Bool} {pins : List (Addr × Obj)} {σ : L2.St} {H : Hp} {s : Shared} {a : Addr} {xs ys : List V} (I : Inv X pins σ H s) (h : SqG X.K κ H a xs) (h' : SqG X.K κ H a ys) : xs = ys := by
  cases κ with
  | false => exact I.list_inj h h'
  | true => exact I.tuple_inj h h'
theorem iterG_obj {κ : Bool} {h : Heap} {it a : Addr} {i : Nat} (st : IterG κ h it a i) : ∃ o, h.get? it = some o ∧ ∀ v, o.data ≠ .cell v := by
  cases κ with
  | false => obtain ⟨o, e, _, d⟩ := st; exact ⟨o, e, fun v q => by rw [d] at q; cases q⟩
  | true => obtain ⟨o, e, _, d⟩ := st; exact ⟨o, e, fun v q => by rw [d] at q; cases q⟩
theorem iterG_keep {κ : Bool} {h h' : Heap} {it a : Addr} {i : Nat} (st : IterG κ h it a i) (k : ∀ o, h.get? it = some o → h'.get? it = some o) : IterG κ h' it a i := by
  cases κ with
  | false => obtain ⟨o, e, c, d⟩ := st; exact ⟨o, k o e, c, d⟩
  | true => obtain ⟨o, e, c, d⟩ := st; exact ⟨o, k o e, c, d⟩
theorem iterG_new {κ : Bool} {h : Heap} {it a : Addr} (e : h.get? it = some (objG κ a)) : IterG κ h it a 0 := by
  cases κ with
  | false => exact ⟨_, e, rfl, rfl⟩
  | true => exact ⟨_, e, rfl, rfl⟩
def IteG (K : PySem.W.Frag) (κ : Bool) (a : Addr) : It :=
  ⟨fun i H => ∃ (xs : List V) (x : V), SqG K κ H a xs ∧ xs[i]? = some x, fun i H v H' => ∃ T x, v = .ref T ∧ H T = none ∧ H' = upd H T (.tup [.int (i : Nat), x]) ∧ ∀ xs, SqG K κ H a xs → xs[i]? = some x, fun i H => ∃ xs : List V, SqG K κ H a xs ∧ xs.length = i⟩
theorem wT_in1 {A : Around} (h : A.handled = none) : A.in1.handled = none := h
theorem turn_enumG {P : Program} {w : World} {K : PySem.W.Frag} {κ : Bool} {elts : List Expr} {kk : Nat} {tpos : Pos} (a e it : Addr) (hei : e ≠ it) (hai : a ≠ it) (hea : e ≠ a) :
    Turn P w K (.Tuple elts kk tpos) (IteG K κ a) [e, it] e (fun i h => (∃ old, IsEnum h e it ((i : Nat) : Int) old) ∧ IterG κ h it a i) where
  mem := by simp
  obj := fun i h st b hb => by
    obtain ⟨⟨old, he⟩, hit⟩ := st
    have e' : b = e ∨ b = it := by simpa using hb
    rcases e' with z | z
    · rw [z]; exact ⟨_, he, fun v q => nomatch q⟩
    · rw [z]; exact iterG_obj hit
  keep := fun i h h' st k => let ⟨⟨old, he⟩, hi⟩ := st; ⟨⟨old, k e (by simp) _ he⟩, iterG_keep hi fun o q => k it (by simp) o q⟩
  item := by
    intro X hP hw hK hc i pins s σ H E I hf st hg
    subst hP hw hK
    obtain ⟨he, hit⟩ := st
    obtain ⟨xs, x, hq, hx⟩ := hg
    obtain ⟨its, rv, p, hlt⟩ := inv_G I hq
    obtain ⟨u, hu, ru⟩ := rv.get hx
    have hlen : i < its.toArray.size := by
      have := (List.getElem?_eq_some_iff.mp hu).1
      simpa using this
    have Wk := WalksT.enumFrom (prog := X.prog) (w := X.w) (A := X.A) 0 (draws_G (prog := X.prog) (w := X.w) (wT_in1 (I.ok.hd hc)) κ it a hai its.toArray) e hei (by simp [hei, hea]) (by simp)
    have st0 : (∃ old, IsEnum s.heap e it (0 + (i : Int)) old) ∧ (IterG κ s.heap it a i ∧ AtG κ s.heap a its.toArray) := ⟨by rw [Int.zero_add]; exact he, hit, p⟩
    refine Wk.item i s _ _ hlen st0 fun T vals h' tk hPt hT hIsT hMid hk => ⟨_, rfl, Wk.go elts kk tpos i T _ _ _ hMid fun h'' st'' hk2 => ?_⟩
    obtain ⟨t, y, hy, rfl⟩ := hPt
    have hyu : y = u := by
      have : its.toArray[i]? = some u := by simpa using hu
      rw [this] at hy; exact (Option.some.inj hy).symm
    subst hyu
    have hTn := Wk.apart i T _ hMid
    obtain ⟨oT, hoT, c1, n1, d1⟩ := hIsT
    have hT2 : h''.get? T = some oT := hk2 T oT hTn hoT
    have e0 : (0 : Int) + (i : Int) = (i : Int) := Int.zero_add _
    have new : ObjOk X.prog X.w (upd H T (.tup [.int (i : Nat), x])) h'' T (.tup [.int (i : Nat), x]) :=
      ⟨by show 2 ≤ sizeLine; decide, [.int (0 + (i : Int)) t, y], .cons ⟨_, by rw [e0]⟩ (.cons ru .nil), ⟨oT, hT2, c1, n1, d1⟩⟩
    have I1 : Inv X pins σ (upd H T (.tup [.int (i : Nat), x])) { s with heap := h'', toks := tk } :=
      I.turnedNew (ch := [e, it]) (fun b ob hb q => hk2 b ob hb (hk b ob hb q)) hf hT new
    refine ⟨.ref T, _, I1, rfl, ⟨T, x, rfl, I.hok.fresh hT, rfl, fun ys hy => by rw [inj_G I hy hq]; exact hx⟩, ⟨?_, st''.2.1⟩, fun b hb => ?_⟩
    · obtain ⟨⟨old, q⟩, _⟩ := st''
      exact ⟨old, by rw [Int.zero_add] at q; exact q⟩
    · have hb' : b < s.heap.objs.size := by
        have e' : b = e ∨ b = it := by simpa using hb
        rcases e' with z | z
        · rw [z]; obtain ⟨_, q⟩ := he; exact Heap.lt_size q
        · rw [z]; obtain ⟨o, q, _⟩ := iterG_obj hit; exact Heap.lt_size q
      rw [upd_ne (Nat.ne_of_lt (Nat.lt_of_lt_of_le hb' hT))]
      exact (hf b hb).1
  done := by
    intro X hP hw hK hc i pins s σ H E I hf st hg
    subst hP hw hK
    obtain ⟨he, hit⟩ := st
    obtain ⟨xs, hq, hx⟩ := hg
    obtain ⟨its, rv, p, hlt⟩ := inv_G I hq
    have hl := rv.length
    have hi : i = its.toArray.size := by simp; omega
    have Wk := WalksT.enumFrom (prog := X.prog) (w := X.w) (A := X.A) 0 (draws_G (prog := X.prog) (w := X.w) (wT_in1 (I.ok.hd hc)) κ it a hai its.toArray) e hei (by simp [hei, hea]) (by simp)
    subst hi
    have st0 : (∃ old, IsEnum s.heap e it (0 + (its.toArray.size : Int)) old) ∧ (IterG κ s.heap it a its.toArray.size ∧ AtG κ s.heap a its.toArray) := ⟨by rw [Int.zero_add]; exact he, hit, p⟩
    exact Wk.done s _ _ st0 fun h' tk hk => ⟨rfl, I.turnedL (t' := tk) (ch := [e, it]) hk hf⟩
  self := fun A i s Q E st h => let ⟨⟨_, he⟩, _⟩ := st; wpAny_pyIter_enum he h
theorem meets_enumerate_new1 {v : Value} {o : Obj} {H : Heap → Prop} (B : Begins v o H) :
    Meets (Builtin.«enumerate.__new__» ⟨[.type "enumerate", v], []⟩) (fun _ R s => H s.heap ∧
      R (.ok (.ret (.ref (s.heap.push o).objs.size))) { s with heap := (s.heap.push o).push { cls := .type "enumerate", data := .fields #[.none, .bool false, .ref s.heap.objs.size, rawInt 0, .none, .none] } }) :=
  .of_wp fun prog w A R s h => by
    obtain ⟨hp, g, d, tk, os⟩ := s; obtain ⟨h1, h⟩ := h
    have hsub := sub_enumerate
    have q1 : ∀ {A' : Around} {E : Value → Shared → Prop} {Q : Value → Shared → Prop}, Q (.ref hp.objs.size) ⟨hp.push o, g, d, tk, os⟩ → wpAny (model prog w) A' (pyIter v) Q E ⟨hp, g, d, tk, os⟩ :=
      fun q => B.iter prog w _ _ ⟨hp, g, d, tk, os⟩ _ h1 q
    wp_walk using q1
    refine wpAny_stack_any fun st => wpAny_pure ?_
    split
    · rename_i c _ _ _ _ _
      cases (c == Value.type "enumerate")
      · wp_walk using q1
        exact ⟨_, rfl, h⟩
      · wp_walk using q1
        exact ⟨_, rfl, h⟩
    · wp_walk using q1
      exact ⟨_, rfl, h⟩
theorem call_enumB {prog : Program} {w : World} {A : Around} {E : Value → Shared → Prop} {s : Shared} {v : Value} {o : Obj} {H : Heap → Prop} {Q : Value → Shared → Prop} (B : Begins v o H) (h1 : H s.heap)
    (h : ∀ h', IsEnum h' (s.heap.objs.size + 1) s.heap.objs.size 0 .none → h'.get? s.heap.objs.size = some o → h'.objs.size = s.heap.objs.size + 2 →
      (∀ b o, s.heap.get? b = some o → h'.get? b = some o) → Q (.ref (s.heap.objs.size + 1)) { s with heap := h' }) :
    wpAny (model prog w) A (call (.type "enumerate") [v]) Q E s := by
  refine callType_new PySem.F.called_enumerate (by decide) (PySem.F.typeCall_enumerate_1 _) (PySem.F.newCall_enumerate_1 _) (fun obj => PySem.F.args_object_init_2 obj _) PySem.F.entry_enumerate_new
    (meets_enumerate_new1 B) ⟨h1, ?_⟩
  have hz : (s.heap.push o).objs.size = s.heap.objs.size + 1 := Heap.size_push ..
  show _ ∧ _
  rw [hz]
  have he : IsEnum ((s.heap.push o).push { cls := .type "enumerate", data := .fields #[.none, .bool false, .ref s.heap.objs.size, rawInt 0, .none, .none] }) (s.heap.objs.size + 1) s.heap.objs.size 0 .none := by
    have := Heap.get?_push_size (s.heap.push o) (o := { cls := .type "enumerate", data := .fields #[.none, .bool false, .ref s.heap.objs.size, rawInt 0, .none, .none] }) rfl
    rw [hz] at this; exact this
  refine ⟨⟨_, he, rfl⟩, h _ he (Heap.get?_push_of_some _ (Heap.get?_push_size _ B.free)) (by rw [Heap.size_push, hz]) fun b o x => Heap.get?_push_of_some _ (Heap.get?_push_of_some _ x)⟩
def iEnumG (K : PySem.W.Frag) (ta : TA) : TI := fun σ H R => ta σ H fun vs H1 => ∃ κ a xs, vs = [.ref a] ∧ SqG K κ H1 a xs ∧ R (IteG K κ a) H1
theorem pi_enumG {X : Cx} {e : Expr} {ta : TA} {p pos tpos : Pos} {elts : List Expr} {kk : Nat} (hg : Gl X "enumerate") (hm : X.mg "enumerate" = none) (ha : PA X [e] ta) (hs : starEach [e] X.env = [(false, eval e X.env)]) :
    PI X (.Tuple elts kk tpos) (.Call (.Name "enumerate" p) [e] [] pos) (iEnumG X.K ta) := by
  refine ⟨fun pins s σ H R I h => ?_⟩
  refine Call_ (ld_blt I hg hm boot_enumerate (PyProof.Rows.callWith_type1 (thn (ha.run pos pins s σ H _ I h) fun us s1 ⟨vs, H1, I1, r1, q1⟩ => ?_) hs rfl))
  obtain ⟨κ, a, xs, ex, hq, q⟩ := q1
  subst ex
  cases r1 with
  | cons r rr =>
    cases rr
    cases r
    obtain ⟨its, rv, p', hlt⟩ := inv_G I1 hq
    have fin : ∀ h', IsEnum h' (s1.heap.objs.size + 1) s1.heap.objs.size 0 .none → IterG κ h' s1.heap.objs.size a 0 → (∀ b o, s1.heap.get? b = some o → h'.get? b = some o) → wpAny (model X.prog X.w) X.A (pyIter (.ref (s1.heap.objs.size + 1))) (PIE X pins σ (.Tuple elts kk tpos) R) X.xe { s1 with heap := h' } := fun h' he hit hk => by
      refine wpAny_pyIter_enum he ?_
      have I2 : Inv X pins σ H1 { s1 with heap := h' } := I1.kept (t' := s1.toks) hk
      refine ⟨s1.heap.objs.size + 1, [s1.heap.objs.size + 1, s1.heap.objs.size], _, _, H1, rfl, I2, turn_enumG (κ := κ) a (s1.heap.objs.size + 1) s1.heap.objs.size (Nat.succ_ne_self _) (Nat.ne_of_lt hlt) (Nat.ne_of_gt (Nat.lt_succ_of_lt hlt)), ⟨⟨.none, he⟩, hit⟩, fun b hb => ?_, q⟩
      have e' : b = s1.heap.objs.size + 1 ∨ b = s1.heap.objs.size := by simpa using hb
      have hle : s1.heap.objs.size ≤ b := by
        rcases e' with z | z
        · rw [z]; exact Nat.le_add_right _ _
        · rw [z]; exact Nat.le_refl _
      exact I1.fpOk hle (I1.hok.fresh hle)
    cases κ with
    | false => exact call_enumerate_list p' fun h' he hit hsz hk => fin h' he hit hk
    | true => exact call_enumB (begins_G true a its.toArray) p' fun h' he hit hsz hk => fin h' he (iterG_new (κ := true) hit) hk
/-! zip -/
def ItzG (K : PySem.W.Frag) (κ κ' : Bool) (a b : Addr) : It :=
  ⟨fun i H => ∃ (xs ys : List V) (x y : V), SqG K κ H a xs ∧ SqG K κ' H b ys ∧ xs[i]? = some x ∧ ys[i]? = some y,
    fun i H v H' => ∃ T x y, v = .ref T ∧ H T = none ∧ H' = upd H T (.tup [x, y]) ∧ (∀ xs, SqG K κ H a xs → xs[i]? = some x) ∧ ∀ ys, SqG K κ' H b ys → ys[i]? = some y,
    fun i H => ∃ xs ys : List V, SqG K κ H a xs ∧ SqG K κ' H b ys ∧ i = min xs.length ys.length⟩
theorem turn_zipG {P : Program} {w : World} {K : PySem.W.Frag} {κ κ' : Bool} {elts : List Expr} {kk : Nat} {tpos : Pos} {a b z TI TO i1 i2 : Addr} (D : ZipSep2 z TI TO i1 i2 [i1, a] [i2, b]) (ha : a ≠ i1) (hb : b ≠ i2) :
    Turn P w K (.Tuple elts kk tpos) (ItzG K κ κ' a b) [z, TI, TO, i1, i2] z (fun i h => IsZip h z TI TO .none ∧ IsTupOf2 h TI (.ref i1) (.ref i2) ∧ (∃ x y, IsTupOf2 h TO x y) ∧ IterG κ h i1 a i ∧ IterG κ' h i2 b i) where
  mem := by simp
  obj := fun i h st c hc => by
    obtain ⟨hz, hTI, ⟨x, y, hTO⟩, h1, h2⟩ := st
    have e' : c = z ∨ c = TI ∨ c = TO ∨ c = i1 ∨ c = i2 := by simpa using hc
    rcases e' with q | q | q | q | q
    · rw [q]; exact ⟨_, hz, fun v q => nomatch q⟩
    · rw [q]; exact ⟨_, hTI, fun v q => nomatch q⟩
    · rw [q]; exact ⟨_, hTO, fun v q => nomatch q⟩
    · rw [q]; exact iterG_obj h1
    · rw [q]; exact iterG_obj h2
  keep := fun i h h' st k => by
    obtain ⟨hz, hTI, ⟨x, y, hTO⟩, h1, h2⟩ := st
    exact ⟨k z (by simp) _ hz, k TI (by simp) _ hTI, ⟨x, y, k TO (by simp) _ hTO⟩, iterG_keep h1 fun o q => k i1 (by simp) o q, iterG_keep h2 fun o q => k i2 (by simp) o q⟩
  item := by
    intro X hP hw hK hc i pins s σ H E I hf st hg
    subst hP hw hK
    obtain ⟨hz, hTI, hTO, h1, h2⟩ := st
    obtain ⟨xs, ys, x, y, hqx, hqy, hx, hy⟩ := hg
    obtain ⟨its, rv, p, hlt⟩ := inv_G I hqx
    obtain ⟨its2, rv2, p2, hlt2⟩ := inv_G I hqy
    obtain ⟨u, hu, ru⟩ := rv.get hx
    obtain ⟨u2, hu2, ru2⟩ := rv2.get hy
    have l1 : i < its.toArray.size := by have := (List.getElem?_eq_some_iff.mp hu).1; simpa using this
    have l2 : i < its2.toArray.size := by have := (List.getElem?_eq_some_iff.mp hu2).1; simpa using this
    have hh := wT_in1 (I.ok.hd hc)
    have Wk := WalksT.zipD2 (prog := X.prog) (w := X.w) (A := X.A) D (draws_G hh κ i1 a ha its.toArray) (draws_G hh κ' i2 b hb its2.toArray)
    refine Wk.item i s _ _ (by omega) ⟨hz, hTI, hTO, ⟨h1, p⟩, h2, p2⟩ fun T vals h' tk hPt hT hIsT hMid hk => ⟨_, rfl, Wk.go elts kk tpos i T _ _ _ hMid fun h'' st'' hk2 => ?_⟩
    obtain ⟨v1, v2, hv1, hv2, rfl⟩ := hPt
    have e1 : v1 = u := by
      have : its.toArray[i]? = some u := by simpa using hu
      rw [this] at hv1; exact (Option.some.inj hv1).symm
    have e2 : v2 = u2 := by
      have : its2.toArray[i]? = some u2 := by simpa using hu2
      rw [this] at hv2; exact (Option.some.inj hv2).symm
    subst e1 e2
    have hTn := Wk.apart i T _ hMid
    obtain ⟨oT, hoT, c1, n1, d1⟩ := hIsT
    have hT2 : h''.get? T = some oT := hk2 T oT hTn hoT
    have new : ObjOk X.prog X.w (upd H T (.tup [x, y])) h'' T (.tup [x, y]) :=
      ⟨by show 2 ≤ sizeLine; decide, [v1, v2], .cons ru (.cons ru2 .nil), ⟨oT, hT2, c1, n1, d1⟩⟩
    have I1 : Inv X pins σ (upd H T (.tup [x, y])) { s with heap := h'', toks := tk } :=
      I.turnedNew (ch := [z, TO, i1, i2]) (fun b ob hb q => hk2 b ob hb (hk b ob hb q)) (fun b hb => hf b (by
        have hb' : b = z ∨ b = TO ∨ b = i1 ∨ b = i2 := by simpa using hb
        rcases hb' with q | q | q | q <;> simp [q])) hT new
    refine ⟨.ref T, _, I1, rfl, ⟨T, x, y, rfl, I.hok.fresh hT, rfl, fun l hl => by rw [inj_G I hl hqx]; exact hx, fun l hl => by rw [inj_G I hl hqy]; exact hy⟩, ⟨st''.1, st''.2.1, st''.2.2.1, st''.2.2.2.1.1, st''.2.2.2.2.1⟩, fun c hcm => ?_⟩
    have hlt : c < s.heap.objs.size := by
      have e' : c = z ∨ c = TI ∨ c = TO ∨ c = i1 ∨ c = i2 := by simpa using hcm
      obtain ⟨w1, w2, hTO⟩ := hTO
      rcases e' with q | q | q | q | q
      · rw [q]; exact Heap.lt_size hz
      · rw [q]; exact Heap.lt_size hTI
      · rw [q]; exact Heap.lt_size hTO
      · rw [q]; obtain ⟨o, e1, _⟩ := iterG_obj h1; exact Heap.lt_size e1
      · rw [q]; obtain ⟨o, e1, _⟩ := iterG_obj h2; exact Heap.lt_size e1
    rw [upd_ne (Nat.ne_of_lt (Nat.lt_of_lt_of_le hlt hT))]
    exact (hf c hcm).1
  done := by
    intro X hP hw hK hc i pins s σ H E I hf st hg
    subst hP hw hK
    obtain ⟨hz, hTI, hTO, h1, h2⟩ := st
    obtain ⟨xs, ys, hqx, hqy, hend⟩ := hg
    obtain ⟨its, rv, p, _⟩ := inv_G I hqx
    obtain ⟨its2, rv2, p2, _⟩ := inv_G I hqy
    have l1 := rv.length
    have l2 := rv2.length
    have hi : i = min its.toArray.size its2.toArray.size := by simp; omega
    have hh := wT_in1 (I.ok.hd hc)
    have Wk := WalksT.zipD2 (prog := X.prog) (w := X.w) (A := X.A) D (draws_G hh κ i1 a ha its.toArray) (draws_G hh κ' i2 b hb its2.toArray)
    subst hi
    exact Wk.done s _ _ ⟨hz, hTI, hTO, ⟨h1, p⟩, h2, p2⟩ fun h' tk hk => ⟨rfl, I.turnedL (t' := tk) (ch := [z, TO, i1, i2]) hk (fun b hb => hf b (by
        have hb' : b = z ∨ b = TO ∨ b = i1 ∨ b = i2 := by simpa using hb
        rcases hb' with q | q | q | q <;> simp [q]))⟩
  self := fun A i s Q E st h => wpAny_pyIter_zip st.1 h
def iZipG (K : PySem.W.Frag) (ta : TA) : TI := fun σ H R => ta σ H fun vs H1 => ∃ κ κ' a b xs ys, vs = [.ref a, .ref b] ∧ SqG K κ H1 a xs ∧ SqG K κ' H1 b ys ∧ R (ItzG K κ κ' a b) H1
theorem pi_zipG {X : Cx} {e e2 : Expr} {ta : TA} {p pos tpos : Pos} {elts : List Expr} {kk : Nat} (hg : Gl X "zip") (hm : X.mg "zip" = none) (ha : PA X [e, e2] ta)
    (hs : starEach [e, e2] X.env = (false, eval e X.env) :: starEach [e2] X.env) (hpl : (backTo pos (starEach [e2] X.env)).any (·.1) = false) :
    PI X (.Tuple elts kk tpos) (.Call (.Name "zip" p) [e, e2] [] pos) (iZipG X.K ta) := by
  refine ⟨fun pins s σ H R I h => ?_⟩
  refine Call_ (ld_blt I hg hm PyProof.Rows.boot_zip (PyProof.Rows.callWith_type1 (thn (ha.run pos pins s σ H _ I h) fun us s1 ⟨vs, H1, I1, r1, q1⟩ => ?_) hs hpl))
  obtain ⟨κ, κ', a, b, xs, ys, ex, hqx, hqy, q⟩ := q1
  subst ex
  cases r1 with
  | cons r rr =>
    cases rr with
    | cons r' rr =>
      cases rr
      cases r
      cases r'
      obtain ⟨its, rv, p1, la⟩ := inv_G I1 hqx
      obtain ⟨its2, rv2, p2, lb⟩ := inv_G I1 hqy
      refine zip_begins2 (begins_G κ a its.toArray) (begins_G κ' b its2.toArray) p1 p2 fun h' hz hTI hTO h1 h2 hsz hk => wpAny_pyIter_zip hz ?_
      have I2 : Inv X pins σ H1 { s1 with heap := h' } := I1.kept (t' := s1.toks) hk
      refine ⟨s1.heap.objs.size + 4, [s1.heap.objs.size + 4, s1.heap.objs.size + 2, s1.heap.objs.size + 3, s1.heap.objs.size, s1.heap.objs.size + 1], _, _, H1, rfl, I2, turn_zipG (κ := κ) (κ' := κ') (zip_sep2 (fp1 := [a]) (fp2 := [b]) (fun c hc => by rw [List.mem_singleton.mp hc]; exact la) (fun c hc => by rw [List.mem_singleton.mp hc]; exact lb)) (Nat.ne_of_lt la) (Nat.ne_of_lt (Nat.lt_succ_of_lt lb)), ⟨hz, hTI, ⟨_, _, hTO⟩, iterG_new h1, iterG_new h2⟩, fun c hcm => ?_, q⟩
      have e' : c = s1.heap.objs.size + 4 ∨ c = s1.heap.objs.size + 2 ∨ c = s1.heap.objs.size + 3 ∨ c = s1.heap.objs.size ∨ c = s1.heap.objs.size + 1 := by simpa using hcm
      have hle : s1.heap.objs.size ≤ c := by
        rcases e' with z | z | z | z | z
        · rw [z]; exact Nat.le_add_right _ _
        · rw [z]; exact Nat.le_add_right _ _
        · rw [z]; exact Nat.le_add_right _ _
        · rw [z]; exact Nat.le_refl _
        · rw [z]; exact Nat.le_add_right _ _
      exact I1.fpOk hle (I1.hok.fresh hle)
end EG
namespace EG
open PySem L2

/-- an iterator that yields the items ds, whatever happens to the locals' own (k) meanwhile -/
def JOk (W : Wd) (k : Own → Prop) (S : Ws) (H : Hp) (J : It) (ds : List D) : Prop := ∀ S' H', Lt k S H S' H' → (∀ a w, S'.Ow a = some w → ∃ u, H' a = some u) →
  (∀ (i : Nat) d, ds[i]? = some d → J.go i H' ∧ ∀ x H'', J.yld i H' x H'' → LtE S' H' S' H'' ∧ (∀ μ, Sg W S' H' μ → Sg W S' H'' μ) ∧ RepV W S' H'' x d) ∧ J.stop ds.length H'
def tSrc (W : Wd) (Wx : WX) (k : Own → Prop) (f : Env → EM (List D)) : TI := fun σ H R => tG W Wx f (fun ds S' H' => ds.length ≤ big ∧ ∀ J, JOk W k S' H' J ds → R J H') σ H
/-- .. without the bound's being asked: the sources tell it -/
def tSrc' (W : Wd) (Wx : WX) (k : Own → Prop) (f : Env → EM (List D)) : TI := fun σ H R => tG W Wx f (fun ds S' H' => ds.length ≤ big → ∀ J, JOk W k S' H' J ds → R J H') σ H
section
variable {W : Wd} {S S' S1 : Ws} {H H' H1 : Hp} {σ : St} {env : Env} {μ : Mu} {Wx : WX} {α β : Type} {X : Cx} {Dn : Ends} {k : Own → Prop} {tg : Expr}
theorem PI.imp {e : Expr} {t t' : TI} (h : PI X tg e t) (hi : ∀ σ H Q, t' σ H Q → t σ H Q) : PI X tg e t' := ⟨fun pins s σ H Q I hw => h.run pins s σ H Q I (hi _ _ _ hw)⟩
theorem PI.or {e : Expr} {t t' : TI} (h : PI X tg e t) (h' : PI X tg e t') : PI X tg e (fun σ H Q => t σ H Q ∨ t' σ H Q) := ⟨fun pins s σ H Q I hw => hw.elim (h.run pins s σ H Q I) (h'.run pins s σ H Q I)⟩
def signs (s : Str) : List D := s.cps.toList.map fun c => D.str ⟨#[c]⟩
theorem jok_text {s : Str} : JOk W k S H (Its s) (signs s) := fun S' H' l hw => by
  refine ⟨fun i d e => ?_, by show s.cps.size ≤ (signs s).length; simp [signs]⟩
  unfold signs at e
  rw [List.getElem?_map] at e
  cases hc : s.cps.toList[i]? with
  | none => rw [hc] at e; cases e
  | some c =>
    rw [hc] at e
    cases e
    rw [Array.getElem?_toList] at hc
    refine ⟨(Array.getElem?_eq_some_iff.mp hc).1, fun x H'' ⟨e1, c', e2, e3⟩ => ?_⟩
    subst e1
    rw [hc] at e2; cases e2
    subst e3
    exact ⟨.refl, fun _ g => g, .str _ (by show 1 ≤ big; decide)⟩
/-- a list, a tuple, a text that is data -/
def itemsD : D → Option (List D)
  | .lst xs => some xs
  | .tup xs => some xs
  | .str s => some (signs s)
  | _ => none
def fItems (f : Env → EM D) : Env → EM (List D) := fun env => bindE (f env) fun d => optE (itemsD d)
theorem jok_list {a : Addr} {vs : List V} {ds : List D} (h1 : H a = some (.lst vs)) (ho : S.Ow a = none ∨ ∃ w, S.Ow a = some w ∧ k w) (r : RepVs W S H vs ds) : JOk W k S H (Itl W.K a) ds := by
  intro S' H' l hw
  have h2 : H' a = some (.lst vs) := by
    rcases ho with ho | ⟨w, ho, hk⟩
    · exact (l.dat a _ ho h1).2
    · rw [(l.own a w ho hk).2]; exact h1
  have r2 := r.later l
  refine ⟨fun i d e => ?_, vs, SqL.of h2, by rw [r2.length]; exact Nat.le_refl _⟩
  obtain ⟨v, hv, rv⟩ := r2.get e
  refine ⟨⟨vs, v, SqL.of h2, hv⟩, fun x H'' ⟨e1, e2⟩ => ?_⟩
  subst e1
  have := e2 vs (SqL.of h2)
  rw [hv] at this
  cases this
  exact ⟨.refl, fun _ g => g, rv⟩
theorem SqT.later {a : Addr} {vs : List V} (h : (H a = some (.tup vs) ∧ S.Ow a = none) ∨ TupK W.K a vs) (l : Lt k S H S' H') : SqT W.K H' a vs := by
  rcases h with ⟨h, o⟩ | h
  · exact SqT.of (l.dat a _ o h).2
  · exact h.seq
theorem jok_tup {a : Addr} {vs : List V} {ds : List D} (h : (H a = some (.tup vs) ∧ S.Ow a = none) ∨ TupK W.K a vs) (r : RepVs W S H vs ds) : JOk W k S H (Itt W.K a) ds := by
  intro S' H' l hw
  have h2 : SqT W.K H' a vs := SqT.later h l
  have r2 := r.later l
  refine ⟨fun i d e => ?_, vs, h2, by rw [r2.length]; exact Nat.le_refl _⟩
  obtain ⟨v, hv, rv⟩ := r2.get e
  refine ⟨⟨vs, v, h2, hv⟩, fun x H'' ⟨e1, e2⟩ => ?_⟩
  subst e1
  have := e2 vs h2
  rw [hv] at this
  cases this
  exact ⟨.refl, fun _ g => g, rv⟩
theorem RepV.tupH {v : V} {ds : List D} (h : RepV W S H v (.tup ds)) : ∃ a vs, v = .ref a ∧ ((H a = some (.tup vs) ∧ S.Ow a = none) ∨ TupK W.K a vs) ∧ vs.length ≤ big ∧ RepVs W S H vs ds := by
  cases h with
  | tup h1 h2 h3 h4 => exact ⟨_, _, rfl, .inl ⟨h1, h2⟩, h3, h4⟩
  | tupK h1 h2 h3 => exact ⟨_, _, rfl, .inr h1, h2, h3⟩
theorem src_seq (hK : X.K = W.K) {l : Expr} {f : Env → EM D} (hl : PE X l (tEv W Wx f)) : PI X tg l (tSrc' W Wx k (fItems f)) :=
  PI.imp (PI.or (pi_list hl) (PI.or (pi_tup hl) (pi_str hl))) fun σ H R ⟨S, μ, env, res, hS, hE, hf, hk⟩ => by
    unfold fItems bindE at hf
    cases e : f env μ with
    | none => rw [e] at hf; cases hf
    | some q =>
      obtain ⟨o, μ1⟩ := q
      rw [e] at hf
      cases o with
      | exc c fs => cases hf; exact .inl ⟨S, μ, env, _, hS, hE, e, hk⟩
      | ok d =>
        obtain ⟨ds, hd, rfl⟩ := optE_some hf
        cases d with
        | str s =>
          cases hd
          refine .inr (.inr ⟨S, μ, env, _, hS, hE, e, fun S' H' l g v rv => ?_⟩)
          obtain ⟨rfl, hl⟩ := RepB.str (.inl rv)
          exact ⟨s, rfl, hk S' H' l g (by unfold signs; rw [List.length_map]; exact hl) _ jok_text⟩
        | lst xs =>
          cases hd
          refine .inl ⟨S, μ, env, _, hS, hE, e, fun S' H' l g v rv => ?_⟩
          cases rv with
          | lst h1 h2 h3 h4 =>
            rw [hK]
            exact ⟨_, rfl, ⟨_, SqL.of h1⟩, hk S' H' l g (by rw [← h4.length]; exact h3) _ (jok_list h1 (.inl h2) h4)⟩
        | tup xs =>
          cases hd
          refine .inr (.inl ⟨S, μ, env, _, hS, hE, e, fun S' H' l g v rv => ?_⟩)
          obtain ⟨a, vs, rfl, h1, h2, r⟩ := rv.tupH
          rw [hK]
          exact ⟨_, rfl, ⟨vs, SqT.later (W := W) h1 (Lt.refl (k := k))⟩, hk S' H' l g (by rw [← r.length]; exact h2) _ (jok_tup h1 r)⟩
        | _ => cases hd
/-- a list that a local owns, walked by a comprehension -/
theorem src_own (hK : X.K = W.K) {l : Expr} {f : Env → EM D} (hl : PE X l (tEvB W Wx f)) : PI X tg l (tSrc' W Wx kE (fItems f)) :=
  PI.imp (PI.or (pi_list hl) (PI.or (pi_tup hl) (pi_str hl))) fun σ H R ⟨S, μ, env, res, hS, hE, hf, hk⟩ => by
    unfold fItems bindE at hf
    cases e : f env μ with
    | none => rw [e] at hf; cases hf
    | some q =>
      obtain ⟨o, μ1⟩ := q
      rw [e] at hf
      cases o with
      | exc c fs => cases hf; exact .inl ⟨S, μ, env, _, hS, hE, e, hk⟩
      | ok d =>
        obtain ⟨ds, hd, rfl⟩ := optE_some hf
        cases d with
        | lst xs =>
          cases hd
          refine .inl ⟨S, μ, env, _, hS, hE, e, fun S' H' l g v rv => ?_⟩
          rw [hK]
          rcases rv with rv | ⟨a, w, c, e1, e2, e3, e4, r⟩
          · cases rv with
            | lst h1 h2 h3 h4 => exact ⟨_, rfl, ⟨_, SqL.of h1⟩, hk S' H' l g (by rw [← h4.length]; exact h3) _ (jok_list h1 (.inl h2) h4)⟩
          · cases c <;> cases e2
            obtain ⟨vs, q1, q2, r⟩ := r
            exact ⟨_, e1, ⟨_, SqL.of q1⟩, hk S' H' l g (by rw [← r.length]; exact q2) _ (jok_list q1 (.inr ⟨w, e3, e4⟩) r)⟩
        | str s =>
          cases hd
          refine .inr (.inr ⟨S, μ, env, _, hS, hE, e, fun S' H' l g v rv => ?_⟩)
          obtain ⟨rfl, hl⟩ := rv.str
          exact ⟨s, rfl, hk S' H' l g (by unfold signs; rw [List.length_map]; exact hl) _ jok_text⟩
        | tup xs =>
          cases hd
          refine .inr (.inl ⟨S, μ, env, _, hS, hE, e, fun S' H' l g v rv => ?_⟩)
          have rv : RepV W S' H' v (.tup ds) := rv.tupV
          obtain ⟨a, vs, rfl, h1, h2, r⟩ := rv.tupH
          rw [hK]
          exact ⟨_, rfl, ⟨vs, SqT.later (W := W) h1 (Lt.refl (k := kE))⟩, hk S' H' l g (by rw [← r.length]; exact h2) _ (jok_tup h1 r)⟩
        | _ => cases hd
/-! range -/
def rangeL (lo : Int) (n : Nat) : List D := (List.range n).map fun (i : Nat) => D.int (lo + (i : Int))
def rangeD1 : List D → EM (List D)
  | [.int j] => guardE (decide (-(2 ^ 62) ≤ j ∧ j < 2 ^ 62 ∧ j.toNat ≤ big)) (pureE (rangeL 0 j.toNat))
  | _ => failE
def rangeD2 : List D → EM (List D)
  | [.int i, .int j] => guardE (decide (-(2 ^ 62) ≤ i ∧ i < 2 ^ 62 ∧ -(2 ^ 62) ≤ j ∧ j < 2 ^ 62 ∧ (j - i).toNat ≤ big)) (pureE (rangeL i (j - i).toNat))
  | _ => failE
theorem jok_range {lo : Int} {n : Nat} : JOk W k S H (Itr lo n) (rangeL lo n) := by
  intro S' H' l hw
  refine ⟨fun i d e => ?_, by show n ≤ (rangeL lo n).length; simp [rangeL]⟩
  unfold rangeL at e
  rw [List.getElem?_map] at e
  obtain ⟨j, hj, rfl⟩ := map_some e
  obtain ⟨hl, hj⟩ := List.getElem?_eq_some_iff.mp hj
  simp at hj hl
  subst hj
  refine ⟨hl, fun x H'' ⟨e1, e2⟩ => ?_⟩
  subst e1 e2
  exact ⟨.refl, fun _ g => g, .int _⟩
theorem rangeL_len {lo : Int} {n : Nat} : (rangeL lo n).length = n := by simp [rangeL]
theorem src_range1 {a : Expr} {p pos : Pos} {g : Env → EM (List D)} (hg : Gl X "range") (hm : X.mg "range" = none) (ha : PA X [a] (tEvBs W Wx g)) (hs : starEach [a] X.env = [(false, eval a X.env)]) : PI X tg (.Call (.Name "range" p) [a] [] pos) (tSrc' W Wx k (fCB rangeD1 g)) :=
  PI.imp (pi_range1 hg hm ha hs) fun σ H R ⟨S, μ, env, res, hS, hE, hf, hk⟩ => by
    refine tG.bind hS hE hf hk fun ds μ1 S1 H1 l1 g1 e1 hf1 hk1 vs rvs => ?_
    unfold rangeD1 at hf1
    split at hf1
    · obtain ⟨hl, hf1⟩ := guardE_some hf1
      cases hf1
      have hl := of_decide_eq_true hl
      obtain ⟨v, rfl, rv⟩ := rvs.one
      cases rv.int
      exact ⟨_, rfl, hl.1, hl.2.1, hk1.now g1 (by rw [rangeL_len]; exact hl.2.2) _ jok_range⟩
    · cases hf1
theorem src_range2 {a b : Expr} {p pos : Pos} {g : Env → EM (List D)} (hg : Gl X "range") (hm : X.mg "range" = none) (ha : PA X [a, b] (tEvBs W Wx g)) (hs : starEach [a, b] X.env = [(false, eval a X.env), (false, eval b X.env)]) (hs2 : starEach [b] X.env = [(false, eval b X.env)]) :
    PI X tg (.Call (.Name "range" p) [a, b] [] pos) (tSrc' W Wx k (fCB rangeD2 g)) :=
  PI.imp (pi_range2 hg hm ha hs hs2) fun σ H R ⟨S, μ, env, res, hS, hE, hf, hk⟩ => by
    refine tG.bind hS hE hf hk fun ds μ1 S1 H1 l1 g1 e1 hf1 hk1 vs rvs => ?_
    unfold rangeD2 at hf1
    split at hf1
    · obtain ⟨hl, hf1⟩ := guardE_some hf1
      cases hf1
      have hl := of_decide_eq_true hl
      obtain ⟨v, w, rfl, rv, rw'⟩ := rvs.two
      cases rv.int; cases rw'.int
      exact ⟨_, _, rfl, ⟨hl.1, hl.2.1, hl.2.2.1, hl.2.2.2.1⟩, hk1.now g1 (by rw [rangeL_len]; exact hl.2.2.2.2) _ jok_range⟩
    · cases hf1
/-! a text, sign by sign -/
def fSigns (f : Env → EM D) : Env → EM (List D) := fun env => bindE (f env) fun d => match d with
  | .str s => pureE (signs s)
  | _ => failE
theorem src_str {l : Expr} {f : Env → EM D} (hl : PE X l (tEvB W Wx f)) : PI X tg l (tSrc' W Wx k (fSigns f)) :=
  PI.imp (pi_str hl) fun σ H R ⟨S, μ, env, res, hS, hE, hf, hk⟩ => by
    refine tG.bind hS hE hf hk fun d μ1 S1 H1 l1 g1 e1 hf1 hk1 v rv => ?_
    cases d <;> first
      | (cases hf1; done)
      | skip
    rename_i s
    cases hf1
    obtain ⟨rfl, hl⟩ := rv.str
    exact ⟨s, rfl, hk1.now g1 (by unfold signs; rw [List.length_map]; exact hl) _ jok_text⟩
/-! enumerate, zip -/
def enumL (n : Nat) : List D → List D
  | [] => []
  | d :: r => .tup [.int (n : Int), d] :: enumL (n + 1) r
theorem enumL_get : ∀ (ds : List D) (n i : Nat) (d : D), (enumL n ds)[i]? = some d → ∃ e, ds[i]? = some e ∧ d = .tup [.int ((n + i : Nat) : Int), e]
  | [], n, i, d, h => by simp [enumL] at h
  | x :: r, n, 0, d, h => by simp [enumL] at h; exact ⟨x, rfl, by simp [h]⟩
  | x :: r, n, i + 1, d, h => by
    obtain ⟨e, h1, h2⟩ := enumL_get r (n + 1) i d (by simpa [enumL] using h)
    exact ⟨e, by simpa using h1, by rw [h2]; congr 3; omega⟩
theorem enumL_len : ∀ (ds : List D) (n : Nat), (enumL n ds).length = ds.length
  | [], _ => rfl
  | x :: r, n => by simp [enumL, enumL_len r (n + 1)]
/-- the items of a list or tuple that is data; κ: a tuple -/
def seqI : D → Option (Bool × List D)
  | .lst xs => some (false, xs)
  | .tup xs => some (true, xs)
  | _ => none
def StG (W : Wd) (S : Ws) (H : Hp) (κ : Bool) (a : Addr) (vs : List V) : Prop := match κ with
  | false => H a = some (.lst vs) ∧ S.Ow a = none
  | true => (H a = some (.tup vs) ∧ S.Ow a = none) ∨ TupK W.K a vs
theorem StG.later {κ : Bool} {a : Addr} {vs : List V} (h : StG W S H κ a vs) (l : Lt k S H S' H') : SqG W.K κ H' a vs := by
  cases κ with
  | false => exact SqL.of (l.dat a _ h.2 h.1).2
  | true => exact SqT.later h l
theorem seqI_rep {v : V} {d : D} {κ : Bool} {ds : List D} (h : RepV W S H v d) (e : seqI d = some (κ, ds)) : ∃ a vs, v = .ref a ∧ StG W S H κ a vs ∧ vs.length ≤ big ∧ RepVs W S H vs ds := by
  cases d with
  | lst xs =>
    cases e
    cases h with
    | lst h1 h2 h3 h4 => exact ⟨_, _, rfl, ⟨h1, h2⟩, h3, h4⟩
  | tup xs =>
    cases e
    obtain ⟨a, vs, e1, e2, e3, e4⟩ := h.tupH
    exact ⟨a, vs, e1, e2, e3, e4⟩
  | _ => cases e
def enumD : List D → EM (List D)
  | [d] => optE ((seqI d).map fun p => enumL 0 p.2)
  | _ => failE
theorem jok_enum {κ : Bool} {a : Addr} {vs : List V} {ds : List D} (h1 : StG W S H κ a vs) (r : RepVs W S H vs ds) : JOk W k S H (IteG W.K κ a) (enumL 0 ds) := by
  intro S' H' l hw
  have h2 : SqG W.K κ H' a vs := h1.later l
  have r2 := r.later l
  refine ⟨fun i d e => ?_, vs, h2, by rw [enumL_len, r2.length]⟩
  obtain ⟨e', he, rfl⟩ := enumL_get ds 0 i d e
  obtain ⟨v, hv, rv⟩ := r2.get he
  refine ⟨⟨vs, v, h2, hv⟩, fun x H'' ⟨T, y, e1, e2, e3, e4⟩ => ?_⟩
  have := e4 vs h2
  rw [hv] at this
  cases this
  subst e1 e3
  have lt : LtE S' H' S' (upd H' T (.tup [.int (i : Nat), v])) := lt_upd e2 hw
  have hT : S'.Ow T = none := by
    cases z : S'.Ow T with
    | none => rfl
    | some w => obtain ⟨u, q⟩ := hw T w z; rw [e2] at q; cases q
  exact ⟨lt, fun μ g => g.upd e2, .tup upd_same hT (by show 2 ≤ big; decide) (.cons (by rw [Nat.zero_add]; exact .int _) (.cons (rv.later lt) .nil))⟩
theorem src_enum (hK : X.K = W.K) {e : Expr} {p pos tpos : Pos} {elts : List Expr} {kk : Nat} {g : Env → EM (List D)} (hg : Gl X "enumerate") (hm : X.mg "enumerate" = none) (ha : PA X [e] (tEvs W Wx g)) (hs : starEach [e] X.env = [(false, eval e X.env)]) :
    PI X (.Tuple elts kk tpos) (.Call (.Name "enumerate" p) [e] [] pos) (tSrc' W Wx k (fCB enumD g)) :=
  PI.imp (pi_enumG hg hm ha hs) fun σ H R ⟨S, μ, env, res, hS, hE, hf, hk⟩ => by
    refine tG.bind hS hE hf hk fun ds μ1 S1 H1 l1 g1 e1 hf1 hk1 vs rvs => ?_
    unfold enumD at hf1
    split at hf1
    · rename_i d
      obtain ⟨ys, hy, rfl⟩ := optE_some hf1
      obtain ⟨⟨κ, xs⟩, hx, rfl⟩ := map_some hy
      cases rvs with
      | cons rv t =>
        cases t
        obtain ⟨a, us, rfl, h1, h3, h4⟩ := seqI_rep rv hx
        rw [hK]
        exact ⟨κ, _, _, rfl, h1.later (Lt.refl (k := kE)), hk1.now g1 (by rw [enumL_len, ← h4.length]; exact h3) _ (jok_enum h1 h4)⟩
    · cases hf1
def zipL : List D → List D → List D
  | a :: r, b :: s => .tup [a, b] :: zipL r s
  | _, _ => []
theorem zipL_get : ∀ (xs ys : List D) (i : Nat) (d : D), (zipL xs ys)[i]? = some d → ∃ a b, xs[i]? = some a ∧ ys[i]? = some b ∧ d = .tup [a, b]
  | [], ys, i, d, h => by simp [zipL] at h
  | x :: r, [], i, d, h => by simp [zipL] at h
  | x :: r, y :: s, 0, d, h => by simp [zipL] at h; exact ⟨x, y, rfl, rfl, h.symm⟩
  | x :: r, y :: s, i + 1, d, h => by
    obtain ⟨a, b, h1, h2, h3⟩ := zipL_get r s i d (by simpa [zipL] using h)
    exact ⟨a, b, by simpa using h1, by simpa using h2, h3⟩
theorem zipL_len : ∀ (xs ys : List D), (zipL xs ys).length = min xs.length ys.length
  | [], ys => by simp [zipL]
  | x :: r, [] => by simp [zipL]
  | x :: r, y :: s => by simp [zipL, zipL_len r s]
def zipD : List D → EM (List D)
  | [d, e] => optE ((seqI d).bind fun p => (seqI e).map fun q => zipL p.2 q.2)
  | _ => failE
theorem jok_zip {κ κ' : Bool} {a b : Addr} {vs ws : List V} {ds es : List D} (h1 : StG W S H κ a vs) (r : RepVs W S H vs ds) (h1' : StG W S H κ' b ws) (r' : RepVs W S H ws es) : JOk W k S H (ItzG W.K κ κ' a b) (zipL ds es) := by
  intro S' H' l hw
  have h2 := h1.later l
  have h2' := h1'.later l
  have r2 := r.later l
  have r2' := r'.later l
  refine ⟨fun i d e => ?_, vs, ws, h2, h2', by rw [zipL_len, r2.length, r2'.length]⟩
  obtain ⟨x, y, hx, hy, rfl⟩ := zipL_get ds es i d e
  obtain ⟨v, hv, rv⟩ := r2.get hx
  obtain ⟨w, hw', rw'⟩ := r2'.get hy
  refine ⟨⟨vs, ws, v, w, h2, h2', hv, hw'⟩, fun x H'' ⟨T, p, q, e1, e2, e3, e4, e5⟩ => ?_⟩
  have z1 := e4 vs h2
  rw [hv] at z1
  cases z1
  have z2 := e5 ws h2'
  rw [hw'] at z2
  cases z2
  subst e1 e3
  have lt : LtE S' H' S' (upd H' T (.tup [v, w])) := lt_upd e2 hw
  have hT : S'.Ow T = none := by
    cases z : S'.Ow T with
    | none => rfl
    | some w => obtain ⟨u, q⟩ := hw T w z; rw [e2] at q; cases q
  exact ⟨lt, fun μ g => g.upd e2, .tup upd_same hT (by show 2 ≤ big; decide) (.cons (rv.later lt) (.cons (rw'.later lt) .nil))⟩
theorem src_zip (hK : X.K = W.K) {e e2 : Expr} {p pos tpos : Pos} {elts : List Expr} {kk : Nat} {g : Env → EM (List D)} (hg : Gl X "zip") (hm : X.mg "zip" = none) (ha : PA X [e, e2] (tEvs W Wx g)) (hs : starEach [e, e2] X.env = (false, eval e X.env) :: starEach [e2] X.env) (hpl : (backTo pos (starEach [e2] X.env)).any (·.1) = false) :
    PI X (.Tuple elts kk tpos) (.Call (.Name "zip" p) [e, e2] [] pos) (tSrc' W Wx k (fCB zipD g)) :=
  PI.imp (pi_zipG hg hm ha hs hpl) fun σ H R ⟨S, μ, env, res, hS, hE, hf, hk⟩ => by
    refine tG.bind hS hE hf hk fun ds μ1 S1 H1 l1 g1 e1 hf1 hk1 vs rvs => ?_
    unfold zipD at hf1
    split at hf1
    · obtain ⟨ys, hy, rfl⟩ := optE_some hf1
      obtain ⟨⟨κ, xs⟩, hx, hy⟩ := Option.bind_eq_some_iff.mp hy
      obtain ⟨⟨κ', ys⟩, hx', rfl⟩ := map_some hy
      cases rvs with
      | cons rv t =>
        cases t with
        | cons rw' t =>
          cases t
          obtain ⟨a, us, rfl, h1, h3, h4⟩ := seqI_rep rv hx
          obtain ⟨b, us', rfl, h1', h3', h4'⟩ := seqI_rep rw' hx'
          rw [hK]
          exact ⟨κ, κ', _, _, _, _, rfl, h1.later (Lt.refl (k := kE)), h1'.later (Lt.refl (k := kE)), hk1.now g1 (by rw [zipL_len, ← h4.length, ← h4'.length]; exact Nat.le_trans (Nat.min_le_left _ _) h3) _ (jok_zip h1 h4 h1' h4')⟩
    · cases hf1

/-! for -/
def loopF (p : Pat) (body : SM) : List D → SM
  | [], env, μ => some (.nx env, μ)
  | d :: r, env, μ => match bindP p d env with
    | none => none
    | some env1 => match body env1 μ with
      | some (.nx env2, μ2) => loopF p body r env2 μ2
      | some (.ct env2, μ2) => loopF p body r env2 μ2
      | some (.br env2, μ2) => some (.nx env2, μ2)
      | r => r
def fFor (p : Pat) (src : Env → EM (List D)) (body : SM) : SM := liftE src fun ds => loopF p body ds
theorem loop_of {p : Pat} {body : SM} {J : It} {ds : List D} {S0 : Ws} {H0 : Hp} (hJ : JOk W kS S0 H0 J ds) {r : SO × Mu} (hS : Sg W S0 H0 μ) (hE : EnvOk W S0 H0 σ env) (hf : loopF p body ds env μ = some r) (hk : KS W S0 H0 Wx Dn r) :
    ∃ Wv : Nat → Nat → St → Hp → Prop, (∃ m, Wv 0 m σ H0) ∧ ∀ i m σ H, Wv i m σ H →
      (J.stop i H ∧ Dn.nx σ H) ∨ (J.go i H ∧ ∃ N : St → Hp → Prop, (∀ σ' H', N σ' H' → ∃ m', m' < m ∧ Wv (i + 1) m' σ' H') ∧ ∀ x H', J.yld i H x H' → tTg W p x σ H' fun σ2 H2 => tSt W Wx body { Dn with nx := N, ct := N, bk := Dn.nx } σ2 H2) := by
  let Wv : Nat → Nat → St → Hp → Prop := fun i m σ H => m = ds.length - i ∧ i ≤ ds.length ∧ ∃ S env μ, LtS S0 H0 S H ∧ Sg W S H μ ∧ EnvOk W S H σ env ∧ loopF p body (ds.drop i) env μ = some r
  refine ⟨Wv, ⟨ds.length, by simp, Nat.zero_le _, S0, env, μ, .refl, hS, hE, by simpa using hf⟩, ?_⟩
  rintro i m σ' H' ⟨rfl, hi, S, env', μ', l, g, e, hf'⟩
  obtain ⟨hgo, hstop⟩ := hJ S H' l g.wf
  by_cases hlt : i < ds.length
  · have hd : ds.drop i = ds[i] :: ds.drop (i + 1) := List.drop_eq_getElem_cons hlt
    rw [hd] at hf'
    have hget : ds[i]? = some ds[i] := List.getElem?_eq_getElem hlt
    obtain ⟨h1, h2⟩ := hgo i _ hget
    refine .inr ⟨h1, fun σ2 H2 => Wv (i + 1) (ds.length - (i + 1)) σ2 H2, fun σ2 H2 q => ⟨_, by omega, q⟩, fun x H'' y => ?_⟩
    obtain ⟨lt, gk, rx⟩ := h2 x H'' y
    unfold loopF at hf'
    cases z : bindP p ds[i] env' with
    | none => rw [z] at hf'; cases hf'
    | some env1 =>
      rw [z] at hf'
      have hf' : (match body env1 μ' with
        | some (.nx env2, μ2) => loopF p body (ds.drop (i + 1)) env2 μ2
        | some (.ct env2, μ2) => loopF p body (ds.drop (i + 1)) env2 μ2
        | some (.br env2, μ2) => some (.nx env2, μ2)
        | r => r) = some r := hf'
      refine ⟨S, μ', env', env1, ds[i], gk _ g, e.laterE lt, rx, z, fun σ3 e3 _ => ?_⟩
      cases q : body env1 μ' with
      | none => rw [q] at hf'; cases hf'
      | some r1 =>
        rw [q] at hf'
        obtain ⟨o, μ2⟩ := r1
        have lS : LtS S0 H0 S H'' := l.trans lt.toS
        have nxt : ∀ env2, loopF p body (ds.drop (i + 1)) env2 μ2 = some r → ∀ S2 H2 σ2, LtS S H'' S2 H2 → Sg W S2 H2 μ2 → EnvOk W S2 H2 σ2 env2 → Wv (i + 1) (ds.length - (i + 1)) σ2 H2 := fun env2 hq S2 H2 σ2 l2 g2 e2 => ⟨rfl, hlt, S2, env2, μ2, lS.trans l2, g2, e2, hq⟩
        refine ⟨S, μ', env1, _, gk _ g, e3, q, ?_⟩
        cases o with
        | nx env2 => exact nxt env2 hf'
        | ct env2 => exact nxt env2 hf'
        | br env2 => cases hf'; exact fun S2 H2 σ2 l2 g2 e2 => hk S2 H2 σ2 (lS.trans l2) g2 e2
        | rt d => cases hf'; exact fun S2 H2 v l2 => hk S2 H2 v (lS.trans l2)
        | exc c fs env2 => cases hf'; exact fun S2 H2 σ2 dd vs l2 => hk S2 H2 σ2 dd vs (lS.trans l2)
  · have hi' : i = ds.length := by omega
    subst hi'
    rw [List.drop_length] at hf'
    cases hf'
    exact .inl ⟨hstop, hk S H' σ' l g e⟩
theorem es_for {iter : Expr} {body : List Stmt} {pos : Pos} {p : Pat} {f : Env → EM (List D)} {F : SM} (hp : PassesOwn (model X.prog X.w) X.A X.env X.xe) (hc : X.calm = true) (hi : PI X tg iter (tSrc' W Wx kS f)) (hg : PG X tg (tTg W p)) (hb : PSs X body (tSt W Wx F))
    (hs : ∀ x, foldedSetIterable iter X.env x = pure x) : PS X (.For tg iter body [] pos) (tSt W Wx (fFor p f F)) :=
  PS.imp (ps_for hp hc hi hg hb hs) fun D σ H h => tG.lift h fun S μ env ds μ1 S1 H1 r hS l g hE hf hk hl J hJ => by
    exact loop_of hJ g hE hf (hk.later l.toS)
end
end EG
namespace EG
open PySem L2

/-! list comprehensions -/
def wipeE (env : Env) : List Nat → Env
  | [] => env
  | v :: vs => (wipeE env vs).set v .no
/-- nothing may be raised -/
def noX {α : Type} (m : EM α) : EM α := fun μ => match m μ with
  | some (.exc _ _, _) => none
  | r => r
def compL (p : Pat) (cond : Env → EM Bool) (elt : Env → EM D) (env : Env) : List D → EM (List D)
  | [] => pureE []
  | d :: r => match bindP p d env with
    | none => failE
    | some env1 => bindE (noX (cond env1)) fun b => match b with
      | true => bindE (noX (elt env1)) fun x => bindE (compL p cond elt env r) fun xs => pureE (x :: xs)
      | false => compL p cond elt env r
def fComp (vs : List Nat) (p : Pat) (src : Env → EM (List D)) (cond : Env → EM Bool) (elt : Env → EM D) : Env → EM (List D) := fun env => bindE (src env) fun ds => compL p cond elt (wipeE env vs) ds
def fYes : Env → EM Bool := fun _ => pureE true
abbrev Wx0 : WX := fun _ _ _ _ => False
section
variable {W : Wd} {S S' S1 : Ws} {H H' H1 : Hp} {σ : St} {env : Env} {μ : Mu} {Wx : WX} {α β : Type} {X : Cx} {Dn : Ends} {k : Own → Prop} {tg : Expr}
theorem wipeE_length (env : Env) : ∀ vs : List Nat, (wipeE env vs).length = env.length
  | [] => rfl
  | v :: vs => by unfold wipeE; rw [List.length_set, wipeE_length env vs]
theorem EnvOk.wipe (h : EnvOk W S H σ env) : ∀ vs : List Nat, EnvOk W S H (wipe σ vs) (wipeE env vs)
  | [] => h
  | v :: vs => by
    have ih := EnvOk.wipe h vs
    refine ⟨by rw [wipe_length, wipeE_length]; exact h.len, fun j sl e => ?_⟩
    unfold wipeE at e
    unfold L2.wipe
    by_cases hj : j = v
    · subst hj
      by_cases hl : j < (wipeE env vs).length
      · rw [List.getElem?_set_self hl] at e
        cases e
        trivial
      · rw [List.getElem?_eq_none (by rw [List.length_set]; omega)] at e
        cases e
    · rw [List.getElem?_set_ne (Ne.symm hj)] at e ⊢
      exact ih.at_ j sl e
theorem wipe_get (σ : St) : ∀ (vs : List Nat) (j : Nat), j ∈ vs → j < σ.length → (wipe σ vs)[j]? = some none
  | [], j, h, _ => by simp at h
  | v :: vs, j, h, hl => by
    unfold wipe
    by_cases e : j = v
    · subst e
      rw [List.getElem?_set_self (by rw [wipe_length]; exact hl)]
    · rw [List.getElem?_set_ne (Ne.symm e)]
      exact wipe_get σ vs j (by simpa [e] using h) hl
theorem wipe_get_ne (σ : St) : ∀ (vs : List Nat) (j : Nat), j ∉ vs → (wipe σ vs)[j]? = σ[j]?
  | [], j, _ => rfl
  | v :: vs, j, h => by
    unfold wipe
    simp only [List.mem_cons, not_or] at h
    rw [List.getElem?_set_ne (Ne.symm h.1)]
    exact wipe_get_ne σ vs j h.2
theorem wipe_agree {vs ps : List Nat} {σ σ' : St} (hp : ∀ i ∈ ps, i ∈ vs) (a : Agree ps (wipe σ vs) σ') : wipe σ' vs = wipe σ vs := by
  have hl : σ'.length = σ.length := a.1.trans (wipe_length σ vs)
  refine List.ext_getElem? fun j => ?_
  by_cases h : j ∈ vs
  · by_cases hj : j < σ.length
    · rw [wipe_get _ _ _ h hj, wipe_get _ _ _ h (by rw [hl]; exact hj)]
    · rw [List.getElem?_eq_none (by rw [wipe_length, hl]; omega), List.getElem?_eq_none (by rw [wipe_length]; omega)]
  · rw [wipe_get_ne _ _ _ h, a.2 j (fun z => h (hp j z))]
theorem noX_some {m : EM α} {r : Out α × Mu} (h : noX m μ = some r) : ∃ a μ', m μ = some (.ok a, μ') ∧ r = (.ok a, μ') := by
  unfold noX at h
  cases e : m μ with
  | none => rw [e] at h; cases h
  | some q =>
    obtain ⟨o, μ'⟩ := q
    rw [e] at h
    cases o with
    | ok a => cases h; exact ⟨a, μ', rfl, rfl⟩
    | exc c fs => cases h
theorem bind_noX {m : EM α} {g : α → EM β} {r : Out β × Mu} (h : bindE (noX m) g μ = some r) : ∃ a μ', m μ = some (.ok a, μ') ∧ g a μ' = some r := by
  unfold bindE at h
  cases e : noX m μ with
  | none => rw [e] at h; cases h
  | some q =>
    obtain ⟨a, μ', e1, rfl⟩ := noX_some e
    rw [e] at h
    exact ⟨a, μ', e1, h⟩
theorem compL_ok {p : Pat} {cond : Env → EM Bool} {elt : Env → EM D} {env : Env} : ∀ {ds : List D} {μ : Mu} {r : Out (List D) × Mu}, compL p cond elt env ds μ = some r → ∃ xs μ', r = (.ok xs, μ')
  | [], μ, r, h => by cases h; exact ⟨_, _, rfl⟩
  | d :: ds, μ, r, h => by
    unfold compL at h
    cases z : bindP p d env with
    | none => rw [z] at h; cases h
    | some env1 =>
      rw [z] at h
      obtain ⟨b, μ1, h1, h⟩ := bind_noX h
      cases b with
      | false => exact compL_ok h
      | true =>
        obtain ⟨x, μ2, h2, h⟩ := bind_noX h
        unfold bindE at h
        cases q : compL p cond elt env ds μ2 with
        | none => rw [q] at h; cases h
        | some r2 =>
          obtain ⟨xs, μ', rfl⟩ := compL_ok q
          rw [q] at h
          cases h
          exact ⟨_, _, rfl⟩
/-- a write at what is owned: data does not feel it -/
theorem lt_own_write {p : Addr} {o : HO} {w : Own} (hp : S.Ow p = some w) (hc : ∀ n, w ≠ .cell n) : Lt (fun _ => False) S H S (upd H p o) where
  dat := fun a u e q => by
    have : a ≠ p := fun z => by rw [z, hp] at e; cases e
    rw [upd_ne this]; exact ⟨e, q⟩
  own := fun _ _ _ h => h.elim
  cel := fun n a e q => ⟨e, q⟩
  mem := upd_mem
theorem Sg.own_write (g : Sg W S H μ) {p : Addr} {o : HO} {w : Own} (hp : S.Ow p = some w) (hc : ∀ n, w ≠ .cell n) : Sg W S (L2.upd H p o) μ where
  wf := fun a x e => by
    obtain ⟨u, q⟩ := g.wf a x e
    by_cases h : a = p
    · subst h; exact ⟨o, upd_same⟩
    · exact ⟨u, by rw [upd_ne h]; exact q⟩
  len := g.len
  cells := fun n c e => by
    obtain ⟨a, e1, e2, r⟩ := g.cells n c e
    have : a ≠ p := fun z => by rw [z, hp] at e2; cases e2; exact hc n rfl
    exact ⟨a, e1, e2, r.later (lt_own_write hp hc) (by rw [upd_ne this])⟩
/-- a write at what was not there -/
theorem lt_write {p : Addr} {o : HO} (hS : ∀ a w, S.Ow a = some w → ∃ u, H a = some u) (hp : H p = none) (l : LtE S H S1 H1) : LtE S H S1 (upd H1 p o) where
  dat := fun a u e q => by
    have : a ≠ p := ne_of_none q hp
    rw [upd_ne this]; exact l.dat a u e q
  own := fun a w e k => by
    obtain ⟨u, q⟩ := hS a w e
    have : a ≠ p := ne_of_none q hp
    rw [upd_ne this]; exact l.own a w e k
  cel := l.cel
  mem := fun a h => upd_mem a (l.mem a h)
theorem big_lt {n m : Nat} (h : n < m) (hm : m ≤ big) : n < sizeLine := Nat.lt_of_lt_of_le (Nat.lt_of_lt_of_le h hm) big_le
theorem lc_of {vs : List Nat} {p : Pat} {src : Env → EM (List D)} {cond : Env → EM Bool} {elt : Env → EM D} {Q : VK} (hp : ∀ i ∈ p.slots, i ∈ vs) (h : tEvL W Wx (fComp vs p src cond elt) σ H Q) :
    tLc (tSrc' W Wx kE src) (tTg W p) (tEvT W Wx0 cond) (tEv W Wx0 elt) vs σ H Q := by
  obtain ⟨S, μ, env, res, hS, hE, hf, hk⟩ := h
  refine tG.bind hS hE hf hk fun ds μ1 S1 H1 l1 g1 e1 hf1 hk1 hlen J hJ D0 hD => ?_
  obtain ⟨tot, μ9, rfl⟩ := compL_ok hf1
  have hD0 : H D0 = none := by
    cases z : H D0 with
    | none => rfl
    | some o => exact absurd hD (l1.mem D0 (by rw [z]; exact fun z => nomatch z))
  let Wv : Nat → Nat → Hp → Prop := fun i m H2 => m = ds.length - i ∧ i ≤ ds.length ∧ ∃ S2 μ2 acc accD rest, LtE S1 H1 S2 H2 ∧ Sg W S2 H2 μ2 ∧ S2.Ow D0 = some .out ∧ H2 D0 = some (.lst acc) ∧ acc.length ≤ i ∧ RepVs W S2 H2 acc accD ∧
    compL p cond elt (wipeE env vs) (ds.drop i) μ2 = some (.ok rest, μ9) ∧ tot = accD ++ rest
  refine ⟨Wv, ⟨ds.length, by simp, Nat.zero_le _, S1.set D0 (some .out), μ1, [], [], tot, lt_new hD g1.wf, g1.new hD, Ws.set_same, upd_same, Nat.le_refl _, .nil, by simpa using hf1, rfl⟩, ?_⟩
  rintro i m H2 ⟨rfl, hi, S2, μ2, acc, accD, rest, l2, g2, o2, h2, n2, r2, c2, t2⟩
  obtain ⟨hgo, hstop⟩ := hJ S2 H2 l2 g2.wf
  by_cases hlt : i < ds.length
  · have hd : ds.drop i = ds[i] :: ds.drop (i + 1) := List.drop_eq_getElem_cons hlt
    rw [hd] at c2
    have hget : ds[i]? = some ds[i] := List.getElem?_eq_getElem hlt
    obtain ⟨q1, q2⟩ := hgo i _ hget
    refine .inr ⟨q1, fun H3 => Wv (i + 1) (ds.length - (i + 1)) H3, fun H3 q => ⟨_, by omega, q⟩, fun x H3 y => ?_⟩
    obtain ⟨lt, gk, rx⟩ := q2 x H3 y
    unfold compL at c2
    cases z : bindP p ds[i] (wipeE env vs) with
    | none => rw [z] at c2; cases c2
    | some env1 =>
      rw [z] at c2
      obtain ⟨b, μ3, k1, c3⟩ := bind_noX c2
      have e3 : EnvOk W S2 H3 (wipe σ vs) (wipeE env vs) := (((e1.laterE l2).laterE lt).wipe vs)
      refine ⟨S2, μ2, wipeE env vs, env1, ds[i], gk _ g2, e3, rx, z, fun σ3 e4 ag => ⟨wipe_agree hp ag, ?_⟩⟩
      refine ⟨S2, μ2, env1, _, gk _ g2, e4, k1, fun S4 H4 l4 g4 => okT_mk ?_⟩
      have lb : LtE S1 H1 S4 H4 := (l2.trans lt).trans l4
      have o4 := (lt.trans l4).own D0 _ o2 trivial
      have h4 : H4 D0 = some (.lst acc) := o4.2.trans h2
      have r4 : RepVs W S4 H4 acc accD := r2.later (lt.trans l4)
      cases b with
      | false =>
        refine iF Bool.false_ne_true ⟨rfl, hlt, S4, μ3, acc, accD, rest, lb, g4, o4.1, h4, by omega, r4, c3, t2⟩
      | true =>
        obtain ⟨d5, μ5, k5, c5⟩ := bind_noX c3
        refine iT rfl ⟨S4, μ3, env1, _, g4, e4.laterE l4, k5, fun S5 H5 l5 g5 v rv => ?_⟩
        unfold bindE at c5
        cases q : compL p cond elt (wipeE env vs) (ds.drop (i + 1)) μ5 with
        | none => rw [q] at c5; cases c5
        | some rr =>
          obtain ⟨xs, μ', rfl⟩ := compL_ok q
          rw [q] at c5
          cases c5
          have o5 := l5.own D0 _ o4.1 trivial
          have h5 : H5 D0 = some (.lst acc) := o5.2.trans h4
          have lw : Lt (fun _ => False) S5 H5 S5 (upd H5 D0 (.lst (acc ++ [v]))) := lt_own_write o5.1 fun n z => nomatch z
          refine ⟨acc, h5, big_lt (by omega) hlen, rfl, hlt, S5, μ5, acc ++ [v], accD ++ [d5], xs, lt_write g1.wf hD (lb.trans l5), g5.own_write o5.1 (fun n z => nomatch z), o5.1, upd_same, by rw [List.length_append]; simp; omega, ?_, q, by rw [t2]; simp⟩
          exact ((r4.later l5).append (.one rv)).later lw
  · have hi' : i = ds.length := by omega
    subst hi'
    rw [List.drop_length] at c2
    cases c2
    refine .inl ⟨hstop, ?_⟩
    rw [List.append_nil] at t2
    subst t2
    exact hk1 S2 H2 l2 g2 D0 acc hD0 o2 h2 (Nat.le_trans n2 hlen) r2
theorem ets_nil : PTs X [] (tEvT W Wx fYes) := ⟨fun pins s σ H Q I h => pts_nil.run pins s σ H Q I (by
  obtain ⟨S, μ, env, res, hS, hE, hf, hk⟩ := h
  cases hf
  have z := hk.now hS
  exact z)⟩
theorem ets_one {c : Expr} {f : Env → EM Bool} (h : PT X c (tEvT W Wx f)) : PTs X [c] (tEvT W Wx f) := pts_one h
theorem el_comp {elt tg iter : Expr} {ifs : List Expr} {scope : Scope} {own : List (Str × Nat)} {pos : Pos} {p : Pat} {src : Env → EM (List D)} {cond : Env → EM Bool} {fe : Env → EM D} (hc : X.calm = true) (hN : X.N.Nodup) (hi : PI X tg iter (tSrc' W Wx kE src)) (ok : BlkOk X.N X.env.scope scope own)
    (hp : ∀ i ∈ p.slots, i ∈ own.map (·.2))
    (hg : ∀ (s : Shared) (H : Hp) (C : Addr) (cl : List (Str × Addr)) (fp : List Addr), PG (X.blk s H scope (compEnvC scope cl C X.env) fp) tg (tTg W p))
    (ht : ∀ (s : Shared) (H : Hp) (C : Addr) (cl : List (Str × Addr)) (fp : List Addr), PTs (X.blk s H scope (compEnvC scope cl C X.env) fp) ifs (tEvT W Wx0 cond))
    (he : ∀ (s : Shared) (H : Hp) (C : Addr) (cl : List (Str × Addr)) (fp : List Addr), PE (X.blk s H scope (compEnvC scope cl C X.env) fp) elt (tEv W Wx0 fe)) (hs : ∀ x, foldedSetIterable iter X.env x = pure x) :
    PE X (.ListComp elt [⟨tg, iter, ifs, 0⟩] scope pos) (tEvL W Wx (fComp (own.map (·.2)) p src cond fe)) :=
  PE.imp (pe_lc hc hN hi ok hg ht he hs) fun σ H Q h => lc_of hp h
end
end EG
namespace EG
open PySem L2
theorem meth_eq {o : Expr} {m : Str} {apos pos : Pos} {es : List Expr} {kws : List Keyword} {env : PySem.Env} (hb : attributeBase o m env (eval o env) = eval o env)
    (hf : methodCallForm (es.length + kws.length) (backTo pos (starEach es env)) (backToKw pos (keywordEach kws env)) = true) (hl : (apos.endLine == pos.line) = true) :
    eval (.Call (.Attribute o m apos) es kws pos) env = (eval o env >>= fun v => standAt apos.atName >>= fun _ => holding [v] (getMethod v m (do return (← importBound o env).getD true)) >>= fun p =>
      callWith pos p.1 p.2 (backTo pos (starEach es env)) (backToKw pos (keywordEach kws env))) := by
  show (attributeBase o m env (eval o env) >>= fun v => standAt apos.atName >>= fun _ => methodCall o m apos pos env v (es.length + kws.length) (backTo pos (starEach es env)) (backToKw pos (keywordEach kws env))) = _
  rw [hb]
  unfold methodCall
  rw [hf]
  have hp : methodCallPos true o env apos pos = pure pos := by unfold methodCallPos; simp [hl]
  rw [hp]
  rfl

section
variable {W : Wd} {S S' S1 : Ws} {H H' H1 : Hp} {σ : St} {env : Env} {μ : Mu} {Wx : WX} {α β : Type} {X : Cx}
/-! instances: data, or a cell -/
def objD (d : D) (μ : Mu) : Option (Nat × List (Str × D)) := match d with
  | .obj c fs => some (c, fs)
  | .cell n => match μ[n]? with
    | some (.obj c fs) => some (c, fs)
    | _ => none
  | _ => none
theorem objD_rep {v : V} {d : D} {c : Nat} {fs : List (Str × D)} (hS : Sg W S H μ) (h : RepB W S H v d) (e : objD d μ = some (c, fs)) : ∃ a dx vs, v = .ref a ∧ H a = some (.ins (W.ca c) dx vs) ∧ RepFs W S H vs fs := by
  cases d with
  | obj c' fs' => cases e; exact h.obj
  | cell n =>
    obtain ⟨a, e1, e2, e3⟩ := h.cell
    have e : (match μ[n]? with
      | some (.obj c fs) => some (c, fs)
      | _ => none) = some (c, fs) := e
    cases q : μ[n]? with
    | none => rw [q] at e; cases e
    | some cc =>
      rw [q] at e
      cases cc with
      | obj c' fs' =>
        cases e
        obtain ⟨a', q1, q2, dx, vs, q3, q4⟩ := hS.cells n _ q
        rw [q1] at e2; cases e2
        exact ⟨a, dx, vs, e1, q3, q4⟩
      | _ => cases e
  | _ => cases e
/-- the classes' attributes that are read off the instance -/
structure FldOk (W : Wd) (flds : List (Nat × Str)) : Prop where
  ok : ∀ c f, (c, f) ∈ flds → Cls W.K (W.ca c) ∧ NoAttr W.K (W.ca c) f
def getD (flds : List (Nat × Str)) (f : Str) (d : D) : EM D := fun μ => match objD d μ with
  | some (c, fs) => if (c, f) ∈ flds then (match fs.lookup f with
    | some v => some (.ok v, μ)
    | none => none) else none
  | none => none
theorem getD_some {flds : List (Nat × Str)} {f : Str} {d : D} {r : Out D × Mu} (h : getD flds f d μ = some r) : ∃ c fs v, objD d μ = some (c, fs) ∧ (c, f) ∈ flds ∧ fs.lookup f = some v ∧ r = (.ok v, μ) := by
  unfold getD at h
  cases q : objD d μ with
  | none => rw [q] at h; cases h
  | some p =>
    obtain ⟨c, fs⟩ := p
    rw [q] at h
    simp only at h
    split at h
    · rename_i hm
      cases z : fs.lookup f with
      | none => rw [z] at h; cases h
      | some v => rw [z] at h; cases h; exact ⟨c, fs, v, rfl, hm, z, rfl⟩
    · cases h
def fGet (flds : List (Nat × Str)) (f : Str) (g : Env → EM D) : Env → EM D := fun env => bindE (g env) (getD flds f)
theorem ev_fld {flds : List (Nat × Str)} (hf : FldOk W flds) (hK : X.K = W.K) {e : Expr} {f : Str} {pos : Pos} {g : Env → EM D} (he : PE X e (tEvB W Wx g)) (hb : attributeBase e f X.env (eval e X.env) = eval e X.env) :
    PE X (.Attribute e f pos) (tEv W Wx (fGet flds f g)) := PE.imp (pe_fld he hb) fun σ H Q ⟨S, μ, env, r, hS, hE, hg, hk⟩ => by
  refine tG.bind hS hE hg hk fun d μ1 S1 H1 l1 g1 e1 hf1 hk1 v rv => ?_
  obtain ⟨c, fs, x, h1, h2, h3, rfl⟩ := getD_some hf1
  obtain ⟨a, dx, vs, rfl, q1, q2⟩ := objD_rep g1 rv h1
  obtain ⟨u, u1, u2⟩ := q2.lookup h3
  obtain ⟨k1, k2⟩ := hf.ok c f h2
  have z := hk1.now g1
  exact ⟨a, _, dx, vs, u, rfl, q1, by rw [hK]; exact k1, by rw [hK]; exact k2, u1, z u u2⟩
/-! methods -/
def tMethSD (C : Addr) (m : Str) (sp : Sp) (dvs : List V) (E : St → XK) (ta : TE) (t : TA) : TE := fun σ H Q => ta σ H fun x H1 => ∃ a dx fs, x = .ref a ∧ H1 a = some (.ins C dx fs) ∧ fs.lookup m = none ∧ t σ H1 fun vs H2 => sp (x :: (vs ++ dvs)) H2 Q (E σ)
section
variable {CX : CXT} {k : Nat} {C f : Addr} {fd : FuncData} {ps : List Str} {m : Str} {sp : Sp} {dvs : List V} {dus : List Value} {E : St → XK} {o e : Expr} {es : List Expr} {apos pos : Pos} {ta : TE} {t : TA}
theorem pe_methSD (he : PE X o ta) (c : Cls X.K C) (hm : Meth X.K C m f) (F : FnOk X.prog X.w X.K X.mg X.base CX k f fd ps sp) (hr : Room k X.A) (hb : Binds X.K fd ps dus) (hd : Vals dvs dus) (hx : ∀ σ, PassesAt CX X σ (E σ)) (ha : PA X (e :: es) t)
    (hab : attributeBase o m X.env (eval o X.env) = eval o X.env) (hf : methodCallForm ((e :: es).length + 0) (backTo pos (starEach (e :: es) X.env)) (backToKw pos (keywordEach [] X.env)) = true) (hl : (apos.endLine == pos.line) = true)
    (hst : starEach (e :: es) X.env = (false, eval e X.env) :: starEach es X.env) (hpl : (backTo pos (starEach es X.env)).any (·.1) = false) : PE X (.Call (.Attribute o m apos) (e :: es) [] pos) (tMethSD C m sp dvs E ta t) := by
  refine ⟨fun pins s σ H Q I h => ?_⟩
  refine PySem.W.methodCall_KW (thn (he.run pins s σ H _ I h) fun u s1 ⟨x, H1, I1, rx, a, dx, fs, ex, ea, l, q⟩ => ?_) (meth_eq hab hf hl)
  subst ex
  cases rx
  refine getmeth_ok I1 ea c hm l (PySem.W.callWith_K (first := [.ref a]) (h₀ := X.base) I.ok.mod.kin hm.kp (thn (ha.run pos pins s1 σ H1 _ I1 q) fun us s2 ⟨vs, H2, I2, r, q2⟩ => ⟨I2.kIn, ?_⟩) hst hpl)
  exact run_fnSD (us := .ref a :: us) (vs := .ref a :: vs) F hr hb hd (hx σ) I2 (.cons rfl r) q2
theorem pe_methSD0 (he : PE X o ta) (c : Cls X.K C) (hm : Meth X.K C m f) (F : FnOk X.prog X.w X.K X.mg X.base CX k f fd ps sp) (hr : Room k X.A) (hb : Binds X.K fd ps dus) (hd : Vals dvs dus) (hx : ∀ σ, PassesAt CX X σ (E σ))
    (hab : attributeBase o m X.env (eval o X.env) = eval o X.env) (hl : (apos.endLine == pos.line) = true) : PE X (.Call (.Attribute o m apos) [] [] pos) (tMethSD C m sp dvs E ta tNil) := by
  refine ⟨fun pins s σ H Q I h => ?_⟩
  refine PySem.W.methodCall_KW (thn (he.run pins s σ H _ I h) fun u s1 ⟨x, H1, I1, rx, a, dx, fs, ex, ea, l, q⟩ => ?_) (meth_eq hab rfl hl)
  subst ex
  cases rx
  exact getmeth_ok I1 ea c hm l (PySem.W.callWith_K0 (first := [.ref a]) I1.kIn hm.kp (run_fnSD (us := [.ref a]) (vs := [.ref a]) F hr hb hd (hx σ) I1 (.cons rfl .nil) q))
end
def isObj (c : Nat) (m : Str) (d : D) (μ : Mu) : Bool := match objD d μ with
  | some (c', fs) => c' == c && (fs.lookup m).isNone
  | none => false
def fMeth (c : Nat) (m : Str) (n : Nat) (F : Fn) (dds : List D) (go : Env → EM D) (ga : Env → EM (List D)) : Env → EM D := fun env => bindE (go env) fun d μ => match isObj c m d μ with
  | true => bindE (ga env) (fun ds => guardE (decide (ds.length + dds.length + 1 = n)) (F (d :: (ds ++ dds)))) μ
  | false => none
theorem isObj_rep {v : V} {d : D} {c : Nat} {m : Str} (hS : Sg W S H μ) (h : RepB W S H v d) (e : isObj c m d μ = true) : ∃ a dx vs, v = .ref a ∧ H a = some (.ins (W.ca c) dx vs) ∧ vs.lookup m = none := by
  unfold isObj at e
  cases q : objD d μ with
  | none => rw [q] at e; cases e
  | some p =>
    obtain ⟨c', fs⟩ := p
    rw [q] at e
    simp only [Bool.and_eq_true, beq_iff_eq, Option.isNone_iff_eq_none] at e
    obtain ⟨rfl, e⟩ := e
    obtain ⟨a, dx, vs, h1, h2, h3⟩ := objD_rep hS h q
    exact ⟨a, dx, vs, h1, h2, h3.lookup_none e⟩
theorem isObj_match {c : Nat} {m : Str} {d : D} {f : EM D} {r : Out D × Mu} (h : (match isObj c m d μ with
    | true => f μ
    | false => none) = some r) : isObj c m d μ = true ∧ f μ = some r := by
  cases q : isObj c m d μ with
  | true => rw [q] at h; exact ⟨rfl, h⟩
  | false => rw [q] at h; cases h
section
variable {k n c : Nat} {f : Addr} {fd : FuncData} {ps : List Str} {m : Str} {o e : Expr} {es : List Expr} {apos pos : Pos} {F : Fn} {go : Env → EM D} {ga : Env → EM (List D)} {dds : List D} {dvs : List V} {dus : List Value}
theorem ev_meth (hK : X.K = W.K) (he : PE X o (tEv W Wx go)) (cl : Cls W.K (W.ca c)) (hm : Meth W.K (W.ca c) m f) (G : FnOk X.prog X.w X.K X.mg X.base (L2.CX X.prog X.w) k f fd ps (spF W n F)) (tk : Takes X Wx) (hr : Room k X.A) (hb : Binds X.K fd ps dus) (hd : Vals dvs dus)
    (hdd : ∀ S H, RepVs W S H dvs dds) (ha : PA X (e :: es) (tEvs W Wx ga))
    (hab : attributeBase o m X.env (eval o X.env) = eval o X.env) (hf : methodCallForm ((e :: es).length + 0) (backTo pos (starEach (e :: es) X.env)) (backToKw pos (keywordEach [] X.env)) = true) (hl : (apos.endLine == pos.line) = true)
    (hst : starEach (e :: es) X.env = (false, eval e X.env) :: starEach es X.env) (hpl : (backTo pos (starEach es X.env)).any (·.1) = false) : PE X (.Call (.Attribute o m apos) (e :: es) [] pos) (tEv W Wx (fMeth c m n F dds go ga)) :=
  PE.imp (pe_methSD (E := fun σ cls dd H' => Wx cls dd σ H') he (by rw [hK]; exact cl) (by rw [hK]; exact hm) G hr hb hd (fun σ => passAt' tk σ) ha hab hf hl hst hpl) fun σ H Q ⟨S, μ, env, res, hS, hE, hf, hk⟩ => by
    refine tG.bind hS hE hf hk fun d μ1 S1 H1 l1 g1 e1 hf1 hk1 v rv => ?_
    obtain ⟨h1, hf1⟩ := isObj_match hf1
    obtain ⟨a, dx, vs, rfl, h2, h3⟩ := isObj_rep g1 (.inl rv) h1
    refine ⟨a, dx, vs, rfl, h2, h3, tG.bind g1 e1 hf1 hk1 fun ds μ2 S2 H2 l2 g2 e2 hf2 hk2 vs rvs => ?_⟩
    obtain ⟨hl, hf2⟩ := guardE_some hf2
    have hl := of_decide_eq_true hl
    exact spF_of g2 (by simp only [List.length_cons, List.length_append]; exact hl) (.cons (rv.later l2) (rvs.append (hdd S2 H2))) hf2 hk2
theorem ev_meth0 (hK : X.K = W.K) (he : PE X o (tEv W Wx go)) (cl : Cls W.K (W.ca c)) (hm : Meth W.K (W.ca c) m f) (G : FnOk X.prog X.w X.K X.mg X.base (L2.CX X.prog X.w) k f fd ps (spF W n F)) (tk : Takes X Wx) (hr : Room k X.A) (hb : Binds X.K fd ps dus) (hd : Vals dvs dus)
    (hdd : ∀ S H, RepVs W S H dvs dds) (hab : attributeBase o m X.env (eval o X.env) = eval o X.env) (hl : (apos.endLine == pos.line) = true) : PE X (.Call (.Attribute o m apos) [] [] pos) (tEv W Wx (fMeth c m n F dds go fNil)) :=
  PE.imp (pe_methSD0 (E := fun σ cls dd H' => Wx cls dd σ H') he (by rw [hK]; exact cl) (by rw [hK]; exact hm) G hr hb hd (fun σ => passAt' tk σ) hab hl) fun σ H Q ⟨S, μ, env, res, hS, hE, hf, hk⟩ => by
    refine tG.bind hS hE hf hk fun d μ1 S1 H1 l1 g1 e1 hf1 hk1 v rv => ?_
    obtain ⟨h1, hf1⟩ := isObj_match hf1
    obtain ⟨a, dx, vs, rfl, h2, h3⟩ := isObj_rep g1 (.inl rv) h1
    obtain ⟨hl, hf2⟩ := guardE_some (show guardE _ _ μ1 = some res from hf1)
    have hl := of_decide_eq_true hl
    refine ⟨a, dx, vs, rfl, h2, h3, ?_⟩
    exact spF_of g1 (by simp only [List.length_cons, List.length_append]; exact hl) (.cons rv (RepVs.append .nil (hdd S1 H1))) hf2 hk1
end
end
end EG
namespace EG
open PySem L2
section
variable {X : Cx} {CX : CXT} {k n : Nat} {f C : Addr} {fd : FuncData} {ps ks : List Str} {sp : Sp} {E : St → XK} {x m : Str} {p apos pos : Pos} {o e : Expr} {es : List Expr} {kws : List Keyword} {ta : TE} {t tk : TA} {g : List Value → List Value → List Value} {gV : List V → List V → List V}
/-! a callee runs, whatever way it is bound -/
theorem out_of {pins : List (Addr × Obj)} {σ : St} {H : Hp} {s : Shared} {Q : VK} {args : Args} (hx : PassesAt CX X σ (E σ)) (I : Inv X pins σ H s) (h : codeAny (model X.prog X.w) X.A (.call (.ref f) args) (CR CX X.stack X.prog X.w H s Q (E σ)) s) :
    wpAny (model X.prog X.w) X.A (call (.ref f) args.pos args.kw) (EP X pins σ Q) X.xe s := by
  refine wpAny_call (codeAny_mono h fun r s' hq => ?_)
  cases r with
  | error er => exact hx pins H s er s' I hq
  | ok fl => cases fl <;> first | exact I.after hq | exact False.elim hq
theorem run_kn {pins : List (Addr × Obj)} {σ : St} {H : Hp} {s : Shared} {Q : VK} {us ws : List Value} {vs zs : List V} (F : FnOk X.prog X.w X.K X.mg X.base CX k f fd ps sp) (hr : Room k X.A) (hb : KBn X.K fd ps n ks g gV) (hx : PassesAt CX X σ (E σ))
    (I : Inv X pins σ H s) (r : Vals vs us) (rz : Vals zs ws) (l1 : vs.length = n) (l2 : zs.length = ks.length) (h : sp (gV vs zs) H Q (E σ)) : wpAny (model X.prog X.w) X.A (call (.ref f) us (ks.zip ws)) (EP X pins σ Q) X.xe s :=
  out_of (args := ⟨us, ks.zip ws⟩) hx I (F.run X.A X.stack s H ⟨us, ks.zip ws⟩ (g us ws) (gV vs zs) Q (E σ) hr I.env0 (hb.to s us ws I.kIn (r.length.symm.trans l1) (rz.length.symm.trans l2)) (hb.rel r rz) h)
/-- a new instance, then its own start -/
theorem run_mk {pins : List (Addr × Obj)} {σ : St} {H : Hp} {s : Shared} {Q : VK} {us ws : List Value} {vs zs : List V} (M : Mk X.K C f) (F : FnOk X.prog X.w X.K X.mg X.base CX k f fd ps sp) (hr : Room (k + 1) X.A) (hb : KBn X.K fd ps (n + 1) ks g gV) (hx : PassesAt CX X σ (E σ))
    (I : Inv X pins σ H s) (r : Vals vs us) (rz : Vals zs ws) (l1 : vs.length = n) (l2 : zs.length = ks.length)
    (h : ∀ y dx, H y = none → H dx = none → dx ≠ y → sp (gV (.ref y :: vs) zs) (upd (upd H dx (.own y)) y (.ins C dx [])) (fun v H2 => v = .non ∧ Q (.ref y) H2) (E σ)) :
    wpAny (model X.prog X.w) X.A (call (.ref C) us (ks.zip ws)) (EP X pins σ Q) X.xe s := by
  have J := Inv.made (C := C) I
  have want := h (s.heap.objs.size + 1) s.heap.objs.size (I.hok.fresh (Nat.le_succ _)) (I.hok.fresh (Nat.le_refl _)) (Nat.ne_of_lt (Nat.lt_succ_self _))
  have r1 : Vals (V.ref (s.heap.objs.size + 1) :: vs) (Value.ref (s.heap.objs.size + 1) :: us) := .cons rfl r
  have n1 : (Value.ref (s.heap.objs.size + 1) :: us).length = n + 1 := by simp [← r.length, l1]
  have go := F.run _ X.stack _ _ ⟨Value.ref (s.heap.objs.size + 1) :: us, ks.zip ws⟩ (g (Value.ref (s.heap.objs.size + 1) :: us) ws) _ _ (E σ) (hr.make C us (ks.zip ws)) (J.env0.make C us (ks.zip ws))
    (hb.to _ _ ws J.kIn n1 (rz.length.symm.trans l2)) (hb.rel r1 rz) want
  refine wpAny_call (make_map (f := f) I.kIn M.makes M.init (beq_iff_eq.mp M.fn) (codeAny_mono go fun a s' hq => ?_))
  cases a with
  | error er => exact hx pins _ _ er s' J hq
  | ok fl =>
    cases fl with
    | ret u =>
      obtain ⟨v, H', I3, rv, ev, q3⟩ := J.after hq
      subst ev
      exact ⟨rv, ⟨V.ref (s.heap.objs.size + 1), H', I3, rfl, q3⟩⟩
    | _ => exact False.elim hq
def tMkD (C : Addr) (n m : Nat) (sp : Sp) (gV : List V → List V → List V) (E : St → XK) (t tk : TA) : TE := fun σ H Q => t σ H fun vs H1 => tk σ H1 fun zs H2 => vs.length = n ∧ zs.length = m ∧ ∀ y dx, H2 y = none → H2 dx = none → dx ≠ y →
  sp (gV (.ref y :: vs) zs) (upd (upd H2 dx (.own y)) y (.ins C dx [])) (fun v H3 => v = .non ∧ Q (.ref y) H3) (E σ)
/-- C(e, ..) -/
theorem pe_mkD (M : Mk X.K C f) (F : FnOk X.prog X.w X.K X.mg X.base CX k f fd ps sp) (hr : Room (k + 1) X.A) (hg : Gl X x) (hm : X.mg x = some (.ref C)) (hb : KBn X.K fd ps (n + 1) [] g gV) (hx : ∀ σ, PassesAt CX X σ (E σ)) (ha : PA X (e :: es) t)
    (hdb : (x == ("__debug__" : Str)) = false) (he : starEach (e :: es) X.env = (false, eval e X.env) :: starEach es X.env) (hpl : (backTo pos (starEach es X.env)).any (·.1) = false) : PE X (.Call (.Name x p) (e :: es) [] pos) (tMkD C n 0 sp gV E t tNil) := by
  refine ⟨fun pins s σ H Q I h => wpAny_Call_Name_kw (ld_glob I hg hm ?_ hdb)⟩
  refine PySem.W.callWith_K (h₀ := X.base) I.ok.mod.kin M.kp (thn (ha.run pos pins s σ H _ I h) fun us s1 ⟨vs, H1, I1, r, l1, l2, q⟩ => ⟨I1.kIn, ?_⟩) he hpl
  exact run_mk (ws := []) M F hr hb (hx σ) I1 r .nil l1 rfl q
/-- C(e, .., k = v, ..) -/
theorem pe_mkKD (M : Mk X.K C f) (F : FnOk X.prog X.w X.K X.mg X.base CX k f fd ps sp) (hr : Room (k + 1) X.A) (hg : Gl X x) (hm : X.mg x = some (.ref C)) (hb : KBn X.K fd ps (n + 1) ks g gV) (hx : ∀ σ, PassesAt CX X σ (E σ)) (ha : PA X (e :: es) t) (hkw : PK X kws tk)
    (hall : (backToKw pos (keywordEach kws X.env)).all (·.1.isSome) = true) (hks : (backToKw pos (keywordEach kws X.env)).filterMap (·.1) = ks) (hdb : (x == ("__debug__" : Str)) = false)
    (he : starEach (e :: es) X.env = (false, eval e X.env) :: starEach es X.env) (hpl : ((backTo pos (starEach (e :: es) X.env)).any (·.1) || (backToKw pos (keywordEach kws X.env)).any (·.1.isNone)) = false) :
    PE X (.Call (.Name x p) (e :: es) kws pos) (tMkD C n ks.length sp gV E t tk) := by
  refine ⟨fun pins s σ H Q I h => wpAny_Call_Name_kw (ld_glob I hg hm ?_ hdb)⟩
  refine PySem.W.callWith_KW (h₀ := X.base) I.ok.mod.kin M.kp hall (thn (ha.run pos pins s σ H _ I h) fun us s1 ⟨vs, H1, I1, r, q⟩ => ?_) hpl he
  refine thn (hkw.run pos pins s1 σ H1 _ I1 q) fun ws s2 ⟨zs, H2, I2, rz, l1, l2, q2⟩ => ⟨I2.kIn, ?_⟩
  rw [hks]
  exact run_mk M F hr hb (hx σ) I2 r rz l1 l2 q2
end
end EG
namespace EG
open PySem L2
/-! the cells that data names lie below n -/
mutual
def bel (n : Nat) : D → Bool
  | .cell m => decide (m < n)
  | .lst xs => bels n xs
  | .tup xs => bels n xs
  | .obj _ fs => belF n fs
  | .dK kvs => belK n kvs
  | .dT kvs => belT n kvs
  | _ => true
def bels (n : Nat) : List D → Bool
  | [] => true
  | d :: r => bel n d && bels n r
def belF (n : Nat) : List (Str × D) → Bool
  | [] => true
  | (_, d) :: r => bel n d && belF n r
def belK (n : Nat) : List (Key × D) → Bool
  | [] => true
  | (_, d) :: r => bel n d && belK n r
def belT (n : Nat) : List (List Key × D) → Bool
  | [] => true
  | (_, d) :: r => bel n d && belT n r
end
def belC (n : Nat) : Cell → Bool
  | .lst xs => bels n xs
  | .obj _ fs => belF n fs
  | .dK kvs => belK n kvs
  | .dT kvs => belT n kvs
section
variable {W : Wd} {S S' S1 : Ws} {H H' H1 : Hp} {σ : St} {env : Env} {μ : Mu} {Wx : WX} {α β : Type} {X : Cx} {n : Nat}
mutual
theorem RepV.bel (hn : S.ρ.length ≤ n) : ∀ {v : V} {d : D}, RepV W S H v d → bel n d = true
  | _, _, .non => rfl
  | _, _, .bl b => rfl
  | _, _, .int i => rfl
  | _, _, .str s h => rfl
  | _, _, .lst _ _ _ h => by unfold EG.bel; exact RepVs.bel hn h
  | _, _, .tup _ _ _ h => by unfold EG.bel; exact RepVs.bel hn h
  | _, _, .tupK _ _ h => by unfold EG.bel; exact RepVs.bel hn h
  | _, _, .obj _ _ h => by unfold EG.bel; exact RepFs.bel hn h
  | _, _, .cell h _ => by unfold EG.bel; exact decide_eq_true (Nat.lt_of_lt_of_le (List.getElem?_eq_some_iff.mp h).1 hn)
  | _, _, .scr _ _ _ _ => rfl
  | _, _, .scrK _ _ => rfl
  | _, _, .dK _ _ _ h => by unfold EG.bel; exact RepKs.bel hn h
  | _, _, .dT _ _ _ h => by unfold EG.bel; exact RepTs.bel hn h
  | _, _, .cls => rfl
theorem RepVs.bel (hn : S.ρ.length ≤ n) : ∀ {v : List V} {d : List D}, RepVs W S H v d → bels n d = true
  | _, _, .nil => rfl
  | _, _, .cons h r => by unfold bels; rw [RepV.bel hn h, RepVs.bel hn r]; rfl
theorem RepFs.bel (hn : S.ρ.length ≤ n) : ∀ {v : List (Str × V)} {d : List (Str × D)}, RepFs W S H v d → belF n d = true
  | _, _, .nil => rfl
  | _, _, .cons h r => by unfold belF; rw [RepV.bel hn h, RepFs.bel hn r]; rfl
theorem RepKs.bel (hn : S.ρ.length ≤ n) : ∀ {v : List (Key × V)} {d : List (Key × D)}, RepKs W S H v d → belK n d = true
  | _, _, .nil => rfl
  | _, _, .cons h r => by unfold belK; rw [RepV.bel hn h, RepKs.bel hn r]; rfl
theorem RepTs.bel (hn : S.ρ.length ≤ n) : ∀ {v : List (List Key × V)} {d : List (List Key × D)}, RepTs W S H v d → belT n d = true
  | _, _, .nil => rfl
  | _, _, .cons h r => by unfold belT; rw [RepV.bel hn h, RepTs.bel hn r]; rfl
end
theorem ba2 {a b : Bool} (h : (a && b) = true) : a = true ∧ b = true := Bool.and_eq_true_iff.mp h
mutual
theorem RepV.cutC (hd : ∀ a o, S.Ow a = none → H a = some o → S'.Ow a = none ∧ H' a = some o) (hc : ∀ (m : Nat) a, m < n → S.ρ[m]? = some a → S.Ow a = some (.cell m) → S'.ρ[m]? = some a ∧ S'.Ow a = some (.cell m)) :
    ∀ {v : V} {d : D}, RepV W S H v d → bel n d = true → RepV W S' H' v d
  | _, _, .non, _ => .non
  | _, _, .bl b, _ => .bl b
  | _, _, .int i, _ => .int i
  | _, _, .str s h, _ => .str s h
  | _, _, .lst h1 h2 h3 h4, b => by unfold EG.bel at b; exact .lst (hd _ _ h2 h1).2 (hd _ _ h2 h1).1 h3 (RepVs.cutC hd hc h4 b)
  | _, _, .tup h1 h2 h3 h4, b => by unfold EG.bel at b; exact .tup (hd _ _ h2 h1).2 (hd _ _ h2 h1).1 h3 (RepVs.cutC hd hc h4 b)
  | _, _, .tupK h1 h3 h4, b => by unfold EG.bel at b; exact .tupK h1 h3 (RepVs.cutC hd hc h4 b)
  | _, _, .obj h1 h2 h3, b => by unfold EG.bel at b; exact .obj (hd _ _ h2 h1).2 (hd _ _ h2 h1).1 (RepFs.cutC hd hc h3 b)
  | _, _, .cell h1 h2, b => by
    unfold EG.bel at b
    obtain ⟨q1, q2⟩ := hc _ _ (of_decide_eq_true b) h1 h2
    exact .cell q1 q2
  | _, _, .scr h1 h2 h3 h4, _ => .scr (hd _ _ h2 h1).2 (hd _ _ h2 h1).1 h3 h4
  | _, _, .scrK h1 h2, _ => .scrK h1 h2
  | _, _, .dK h1 h2 h3 h4, b => by unfold EG.bel at b; exact .dK (hd _ _ h2 h1).2 (hd _ _ h2 h1).1 h3 (RepKs.cutC hd hc h4 b)
  | _, _, .dT h1 h2 h3 h4, b => by unfold EG.bel at b; exact .dT (hd _ _ h2 h1).2 (hd _ _ h2 h1).1 h3 (RepTs.cutC hd hc h4 b)
  | _, _, .cls, _ => .cls
theorem RepVs.cutC (hd : ∀ a o, S.Ow a = none → H a = some o → S'.Ow a = none ∧ H' a = some o) (hc : ∀ (m : Nat) a, m < n → S.ρ[m]? = some a → S.Ow a = some (.cell m) → S'.ρ[m]? = some a ∧ S'.Ow a = some (.cell m)) :
    ∀ {v : List V} {d : List D}, RepVs W S H v d → bels n d = true → RepVs W S' H' v d
  | _, _, .nil, _ => .nil
  | _, _, .cons h r, b => by unfold bels at b; exact .cons (RepV.cutC hd hc h (ba2 b).1) (RepVs.cutC hd hc r (ba2 b).2)
theorem RepFs.cutC (hd : ∀ a o, S.Ow a = none → H a = some o → S'.Ow a = none ∧ H' a = some o) (hc : ∀ (m : Nat) a, m < n → S.ρ[m]? = some a → S.Ow a = some (.cell m) → S'.ρ[m]? = some a ∧ S'.Ow a = some (.cell m)) :
    ∀ {v : List (Str × V)} {d : List (Str × D)}, RepFs W S H v d → belF n d = true → RepFs W S' H' v d
  | _, _, .nil, _ => .nil
  | _, _, .cons h r, b => by unfold belF at b; exact .cons (RepV.cutC hd hc h (ba2 b).1) (RepFs.cutC hd hc r (ba2 b).2)
theorem RepKs.cutC (hd : ∀ a o, S.Ow a = none → H a = some o → S'.Ow a = none ∧ H' a = some o) (hc : ∀ (m : Nat) a, m < n → S.ρ[m]? = some a → S.Ow a = some (.cell m) → S'.ρ[m]? = some a ∧ S'.Ow a = some (.cell m)) :
    ∀ {v : List (Key × V)} {d : List (Key × D)}, RepKs W S H v d → belK n d = true → RepKs W S' H' v d
  | _, _, .nil, _ => .nil
  | _, _, .cons h r, b => by unfold belK at b; exact .cons (RepV.cutC hd hc h (ba2 b).1) (RepKs.cutC hd hc r (ba2 b).2)
theorem RepTs.cutC (hd : ∀ a o, S.Ow a = none → H a = some o → S'.Ow a = none ∧ H' a = some o) (hc : ∀ (m : Nat) a, m < n → S.ρ[m]? = some a → S.Ow a = some (.cell m) → S'.ρ[m]? = some a ∧ S'.Ow a = some (.cell m)) :
    ∀ {v : List (List Key × V)} {d : List (List Key × D)}, RepTs W S H v d → belT n d = true → RepTs W S' H' v d
  | _, _, .nil, _ => .nil
  | _, _, .cons h r, b => by unfold belT at b; exact .cons (RepV.cutC hd hc h (ba2 b).1) (RepTs.cutC hd hc r (ba2 b).2)
end
theorem CellRep.bel {a : Addr} {c : Cell} (hn : S.ρ.length ≤ n) (h : CellRep W S H a c) : belC n c = true := by
  cases c with
  | lst ds => obtain ⟨vs, _, _, r⟩ := h; exact r.bel hn
  | obj c fs => obtain ⟨dx, vs, _, r⟩ := h; exact r.bel hn
  | dK ds => obtain ⟨vs, _, _, r⟩ := h; exact r.bel hn
  | dT ds => obtain ⟨vs, _, _, r⟩ := h; exact r.bel hn
theorem CellRep.cutC {a : Addr} {c : Cell} (hd : ∀ a o, S.Ow a = none → H a = some o → S'.Ow a = none ∧ H' a = some o) (hc : ∀ (m : Nat) a, m < n → S.ρ[m]? = some a → S.Ow a = some (.cell m) → S'.ρ[m]? = some a ∧ S'.Ow a = some (.cell m)) (h : CellRep W S H a c) (e : H' a = H a) (b : belC n c = true) : CellRep W S' H' a c := by
  cases c with
  | lst ds => obtain ⟨vs, e1, e2, r⟩ := h; exact ⟨vs, e.trans e1, e2, r.cutC hd hc b⟩
  | obj c fs => obtain ⟨dx, vs, e1, r⟩ := h; exact ⟨dx, vs, e.trans e1, r.cutC hd hc b⟩
  | dK ds => obtain ⟨vs, e1, e2, r⟩ := h; exact ⟨vs, e.trans e1, e2, r.cutC hd hc b⟩
  | dT ds => obtain ⟨vs, e1, e2, r⟩ := h; exact ⟨vs, e.trans e1, e2, r.cutC hd hc b⟩
/-- the last cell, an instance, becomes data -/
theorem unlast {y : Addr} {c : Nat} {fs : List (Str × D)} (g0 : Sg W S H μ) (hy : H y = none) (l : LtE S H S1 H1) (g : Sg W S1 H1 (μ ++ [.obj c fs])) (e1 : S1.ρ[μ.length]? = some y) (e2 : S1.Ow y = some (.cell μ.length)) (b : belF μ.length fs = true) :
    ∃ S2, LtE S H S2 H1 ∧ Sg W S2 H1 μ ∧ RepV W S2 H1 (.ref y) (.obj c fs) := by
  have nl : S1.ρ.length = μ.length + 1 := by rw [g.len]; simp
  have hd : ∀ a o, S1.Ow a = none → H1 a = some o → (if a = y then none else S1.Ow a) = none ∧ H1 a = some o := fun a o e q => ⟨by split <;> first | rfl | exact e, q⟩
  have hc : ∀ (m : Nat) a, m < μ.length → S1.ρ[m]? = some a → S1.Ow a = some (.cell m) → (S1.ρ.take μ.length)[m]? = some a ∧ (if a = y then none else S1.Ow a) = some (.cell m) := fun m a h1 h2 h3 => by
    have ne : a ≠ y := fun z => by rw [z, e2] at h3; cases h3; exact absurd h1 (Nat.lt_irrefl _)
    exact ⟨by rw [List.getElem?_take_of_lt h1]; exact h2, by rw [if_neg ne]; exact h3⟩
  refine ⟨{ ρ := S1.ρ.take μ.length, Ow := fun a => if a = y then none else S1.Ow a }, ⟨fun a o e q => ?_, fun a w e k => ?_, fun m a e q => ?_, l.mem⟩, ⟨fun a w e => ?_, by simp [nl], fun m cc e => ?_⟩, ?_⟩
  · obtain ⟨h1, h2⟩ := l.dat a o e q
    exact hd a o h1 h2
  · have ne : a ≠ y := fun z => by obtain ⟨u, z'⟩ := g0.wf a w e; rw [z, hy] at z'; cases z'
    obtain ⟨h1, h2⟩ := l.own a w e k
    exact ⟨by simp [ne, h1], h2⟩
  · obtain ⟨h1, h2⟩ := l.cel m a e q
    exact hc m a (by rw [← g0.len]; exact (List.getElem?_eq_some_iff.mp e).1) h1 h2
  · have ne : a ≠ y := fun z => by simp [z] at e
    simp [ne] at e
    exact g.wf a w e
  · have hm : m < μ.length := (List.getElem?_eq_some_iff.mp e).1
    obtain ⟨a, q1, q2, r⟩ := g.cells m cc (by rw [List.getElem?_append_left hm]; exact e)
    obtain ⟨z1, z2⟩ := hc m a hm q1 q2
    obtain ⟨a0, p1, p2, r0⟩ := g0.cells m cc e
    exact ⟨a, z1, z2, r.cutC hd hc rfl (r0.bel (by rw [g0.len]; exact Nat.le_refl _))⟩
  · obtain ⟨a, q1, q2, dx, vs, q3, q4⟩ := g.cells μ.length (.obj c fs) (by simp)
    rw [e1] at q1; cases q1
    exact .obj q3 (by simp) (q4.cutC hd hc b)
end
end EG
namespace EG
open PySem L2
def attrOk : Expr → Bool
  | .Call (.Name _ _) [] [] _ => false
  | _ => true
theorem attrBase_of {o : Expr} {a : Str} {env : PySem.Env} {whole : Sem Value} (h : attrOk o = true) : attributeBase o a env whole = whole := by
  cases o with
  | Call f as ks p =>
    cases f <;> first
      | rfl
      | (cases as <;> first
          | rfl
          | (cases ks <;> first | rfl | cases h))
  | _ => rfl
section
variable {W : Wd} {S S' S1 : Ws} {H H' H1 : Hp} {μ : Mu}
/-- p, owned by out and new, becomes the next cell -/
theorem cell_new' {p : Addr} {c : Cell} {μ1 : Mu} (hS : Sg W S H μ) (hp : H p = none) (l : LtE S H S1 H1) (g1 : Sg W S1 H1 μ1) (ho : S1.Ow p = some .out) (r : CellRep W S1 H1 p c) :
    ∃ S2, LtE S H S2 H1 ∧ Sg W S2 H1 (μ1 ++ [c]) ∧ RepV W S2 H1 (.ref p) (.cell μ1.length) := by
  refine ⟨{ ρ := S1.ρ ++ [p], Ow := fun a => if a = p then some (.cell μ1.length) else S1.Ow a }, ?_, ?_, ?_⟩
  · refine ⟨fun a o e q => ?_, fun a w e k => ?_, fun n a e q => ?_, l.mem⟩
    · have : a ≠ p := fun z => by rw [z, hp] at q; cases q
      obtain ⟨h1, h2⟩ := l.dat a o e q
      exact ⟨by simp [this, h1], h2⟩
    · have : a ≠ p := fun z => by obtain ⟨u, z'⟩ := hS.wf a w e; rw [z, hp] at z'; cases z'
      obtain ⟨h1, h2⟩ := l.own a w e k
      exact ⟨by simp [this, h1], h2⟩
    · have : a ≠ p := fun z => by obtain ⟨u, z'⟩ := hS.wf a _ q; rw [z, hp] at z'; cases z'
      obtain ⟨h1, h2⟩ := l.cel n a e q
      refine ⟨?_, by simp [this, h2]⟩
      have hl := (List.getElem?_eq_some_iff.mp h1).1
      rw [List.getElem?_append_left hl]; exact h1
  · have md : ∀ a o, S1.Ow a = none → H1 a = some o → (if a = p then some (Own.cell μ1.length) else S1.Ow a) = none ∧ H1 a = some o := fun a o e q => by
      have : a ≠ p := fun z => by rw [z, ho] at e; cases e
      exact ⟨by simp [this, e], q⟩
    have mc : ∀ (n : Nat) a, S1.ρ[n]? = some a → S1.Ow a = some (.cell n) → (S1.ρ ++ [p])[n]? = some a ∧ (if a = p then some (Own.cell μ1.length) else S1.Ow a) = some (.cell n) := fun n a e q => by
      have : a ≠ p := fun z => by rw [z, ho] at q; cases q
      have hl := (List.getElem?_eq_some_iff.mp e).1
      exact ⟨by rw [List.getElem?_append_left hl]; exact e, by simp [this, q]⟩
    refine ⟨fun a w e => ?_, by simp [g1.len], fun n c' e => ?_⟩
    · by_cases h : a = p
      · subst h; exact g1.wf a _ ho
      · simp [h] at e; exact g1.wf a w e
    · by_cases hn : n < μ1.length
      · rw [List.getElem?_append_left hn] at e
        obtain ⟨a, e1, e2, r'⟩ := g1.cells n c' e
        obtain ⟨m1, m2⟩ := mc n a e1 e2
        exact ⟨a, m1, m2, r'.mono md mc rfl⟩
      · have hn' : n = μ1.length := by
          have := (List.getElem?_eq_some_iff.mp e).1
          simp at this; omega
        subst hn'
        rw [List.getElem?_append_right (Nat.le_refl _)] at e
        simp at e
        subst e
        refine ⟨p, ?_, by simp, r.mono md mc rfl⟩
        rw [← g1.len, List.getElem?_append_right (Nat.le_refl _)]
        simp
  · refine .cell ?_ (by simp)
    show (S1.ρ ++ [p])[μ1.length]? = some p
    rw [← g1.len, List.getElem?_append_right (Nat.le_refl _)]
    simp
end
/-! C(..): the start runs on a new cell; fz: the cell becomes data behind it -/
open Classical in
noncomputable def mkF (fz : Bool) (r : Option (Out D × Mu)) (μ : Mu) : Option (Out D × Mu) := match r with
  | some (.ok .non, μ') => (match fz with
    | false => some (.ok (.cell μ.length), μ')
    | true => (match μ'.getLast? with
      | some (.obj c fs) => if μ' = μ ++ [.obj c fs] ∧ belF μ.length fs = true then some (.ok (.obj c fs), μ) else none
      | _ => none))
  | some (.exc c fs, μ') => some (.exc c fs, μ')
  | _ => none
noncomputable def mkE' (fz : Bool) (c n m N : Nat) (F : Fn) (arr : List D → List D → List D) (ds es : List D) : EM D := fun μ =>
  match decide (ds.length = n ∧ es.length = m ∧ (arr (.cell μ.length :: ds) es).length = N) with
  | true => mkF fz (F (arr (.cell μ.length :: ds) es) (μ ++ [.obj c []])) μ
  | false => none
noncomputable def fMk (fz : Bool) (c n m N : Nat) (F : Fn) (arr : List D → List D → List D) (ga gk : Env → EM (List D)) : Env → EM D := fun env => bindE (ga env) fun ds => bindE (gk env) fun es => mkE' fz c n m N F arr ds es
section
variable {W : Wd} {S S' S1 : Ws} {H H' H1 : Hp} {σ : St} {env : Env} {μ : Mu} {Wx : WX} {α β : Type} {X : Cx} {n : Nat}
/-- how a call's values stand in the parameters' order, as data -/
def ArrOk (W : Wd) (gV : List V → List V → List V) (arr : List D → List D → List D) : Prop := ∀ (S : Ws) (H : Hp) (vs zs : List V) (ds es : List D), RepVs W S H vs ds → RepVs W S H zs es → RepVs W S H (gV vs zs) (arr ds es)
open Classical in
theorem mk_wish {fz : Bool} {c n m N : Nat} {F : Fn} {arr : List D → List D → List D} {gV : List V → List V → List V} {ds es : List D} {vs zs : List V} {res : Out D × Mu} {Q : VK} (ha : ArrOk W gV arr) (g : Sg W S H μ) (rv : RepVs W S H vs ds) (rz : RepVs W S H zs es)
    (hf : mkE' fz c n m N F arr ds es μ = some res) (hk : KG W S H σ Wx (okV W Q) res) : vs.length = n ∧ zs.length = m ∧ ∀ y dx, H y = none → H dx = none → dx ≠ y →
      spF W N F (gV (.ref y :: vs) zs) (upd (upd H dx (.own y)) y (.ins (W.ca c) dx [])) (fun v H3 => v = .non ∧ Q (.ref y) H3) (fun cls dd H' => Wx cls dd σ H') := by
  unfold mkE' at hf
  split at hf
  · rename_i hd
    obtain ⟨d1, d2, d3⟩ := of_decide_eq_true hd
    refine ⟨rv.length.trans d1, rz.length.trans d2, fun y dx hy hx ne => ?_⟩
    have ly : upd H dx (.own y) y = none := by rw [upd_ne (Ne.symm ne)]; exact hy
    have l1 : LtE S H S (upd H dx (.own y)) := lt_upd hx g.wf
    have g1 := g.upd (o := .own y) hx
    have l2 : LtE S (upd H dx (.own y)) (S.set y (some .out)) (upd (upd H dx (.own y)) y (.ins (W.ca c) dx [])) := lt_new ly g1.wf
    have g2 : Sg W (S.set y (some .out)) (upd (upd H dx (.own y)) y (.ins (W.ca c) dx [])) μ := g1.new ly
    obtain ⟨S2, l3, g3, r3⟩ := cell_new' (c := .obj c []) g hy (l1.trans l2) g2 Ws.set_same ⟨dx, [], upd_same, .nil⟩
    cases r3 with
    | cell p1 p2 =>
      cases q : F (arr (.cell μ.length :: ds) es) (μ ++ [.obj c []]) with
      | none => rw [q] at hf; cases hf
      | some r =>
        rw [q] at hf
        refine spF_of g3 d3 (ha S2 _ _ _ _ _ (.cons (.cell p1 p2) (rv.later l3)) (rz.later l3)) q ?_
        obtain ⟨o, μ'⟩ := r
        cases o with
        | exc ec efs =>
          cases hf
          exact fun S' H' dd vs' l => hk S' H' dd vs' (l3.trans l)
        | ok d =>
          intro S' H' l g' v rd
          cases d <;> first
            | (cases hf; done)
            | skip
          cases rd
          refine ⟨rfl, ?_⟩
          obtain ⟨e1, e2⟩ := l.cel _ _ p1 p2
          cases fz with
          | false =>
            cases hf
            exact hk S' H' (l3.trans l) g' _ (.cell e1 e2)
          | true =>
            have hf : (match μ'.getLast? with
              | some (.obj c fs) => if μ' = μ ++ [.obj c fs] ∧ belF μ.length fs = true then some (.ok (.obj c fs), μ) else none
              | _ => none) = some res := hf
            split at hf
            · split at hf
              · rename_i hh
                obtain ⟨h1, h2⟩ := hh
                cases hf
                subst h1
                obtain ⟨S3, k1, k2, k3⟩ := unlast g hy (l3.trans l) g' e1 e2 h2
                exact hk S3 H' k1 k2 _ k3
              · cases hf
            · cases hf
  · cases hf
end
end EG
namespace EG
open PySem L2
section
variable {W : Wd} {S S' S1 : Ws} {H H' H1 : Hp} {σ : St} {env : Env} {μ : Mu} {Wx : WX} {α β : Type} {X : Cx}
/-! keywords' values -/
theorem PK.imp {kws : List Keyword} {t t' : TA} (h : PK X kws t) (hi : ∀ σ H Q, t' σ H Q → t σ H Q) : PK X kws t' := ⟨fun pos pins s σ H Q I hw => h.run pos pins s σ H Q I (hi _ _ _ hw)⟩
theorem ek_nil : PK X [] (tEvs W Wx fNil) := PK.imp pk_nil fun σ H Q ⟨S, μ, env, res, hS, hE, hf, hk⟩ => by
  cases hf; exact hk.now hS _ .nil
theorem ek_cons {nm : Option Str} {kpos : Pos} {e : Expr} {kws : List Keyword} {f : Env → EM D} {g : Env → EM (List D)} (h : PE X e (tEv W Wx f)) (h2 : PK X kws (tEvs W Wx g)) : PK X (⟨nm, e, kpos⟩ :: kws) (tEvs W Wx (fCons f g)) :=
  PK.imp (pk_cons h h2) fun σ H Q ⟨S, μ, env, res, hS, hE, hf, hk⟩ => by
    refine tG.bind hS hE hf hk fun d μ1 S1 H1 l1 g1 e1 hf1 hk1 v rv => ?_
    refine tG.bind g1 e1 hf1 hk1 fun ds μ2 S2 H2 l2 g2 e2 hf2 hk2 vs rvs => ?_
    cases hf2
    exact hk2.now g2 _ (.cons (rv.later l2) rvs)
section
variable {k n N c : Nat} {f C : Addr} {fd : FuncData} {ps ks : List Str} {x m : Str} {p pos apos : Pos} {o e : Expr} {es : List Expr} {kws : List Keyword} {F : Fn} {ga gk : Env → EM (List D)} {go : Env → EM D} {arr : List D → List D → List D} {fz : Bool}
  {gB : List Value → List Value → List Value} {gV : List V → List V → List V}
/-- C(e, ..) -/
theorem ev_mk (hK : X.K = W.K) (M : Mk W.K (W.ca c) f) (G : FnOk X.prog X.w X.K X.mg X.base (L2.CX X.prog X.w) k f fd ps (spF W N F)) (tk : Takes X Wx) (hr : Room (k + 1) X.A) (hg : Gl X x) (hm : X.mg x = some (.ref (W.ca c))) (hb : KBn X.K fd ps (n + 1) [] gB gV) (hA : ArrOk W gV arr)
    (ha : PA X (e :: es) (tEvs W Wx ga)) (hdb : (x == ("__debug__" : Str)) = false) (he : starEach (e :: es) X.env = (false, eval e X.env) :: starEach es X.env) (hpl : (backTo pos (starEach es X.env)).any (·.1) = false) :
    PE X (.Call (.Name x p) (e :: es) [] pos) (tEv W Wx (fMk fz c n 0 N F arr ga fNil)) :=
  PE.imp (pe_mkD (E := fun σ cls dd H' => Wx cls dd σ H') (by rw [hK]; exact M) G hr hg hm hb (fun σ => passAt' tk σ) ha hdb he hpl) fun σ H Q ⟨S, μ, env, res, hS, hE, hf, hk⟩ => by
    refine tG.bind hS hE hf hk fun ds μ1 S1 H1 l1 g1 e1 hf1 hk1 vs rvs => ?_
    have hf1 : mkE' fz c n 0 N F arr ds [] μ1 = some res := hf1
    exact mk_wish hA g1 rvs .nil hf1 hk1
/-- C(e, .., k = v, ..) -/
theorem ev_mkK (hK : X.K = W.K) (M : Mk W.K (W.ca c) f) (G : FnOk X.prog X.w X.K X.mg X.base (L2.CX X.prog X.w) k f fd ps (spF W N F)) (tk : Takes X Wx) (hr : Room (k + 1) X.A) (hg : Gl X x) (hm : X.mg x = some (.ref (W.ca c))) (hb : KBn X.K fd ps (n + 1) ks gB gV) (hA : ArrOk W gV arr)
    (ha : PA X (e :: es) (tEvs W Wx ga)) (hkw : PK X kws (tEvs W Wx gk)) (hall : (backToKw pos (keywordEach kws X.env)).all (·.1.isSome) = true) (hks : (backToKw pos (keywordEach kws X.env)).filterMap (·.1) = ks) (hdb : (x == ("__debug__" : Str)) = false)
    (he : starEach (e :: es) X.env = (false, eval e X.env) :: starEach es X.env) (hpl : ((backTo pos (starEach (e :: es) X.env)).any (·.1) || (backToKw pos (keywordEach kws X.env)).any (·.1.isNone)) = false) :
    PE X (.Call (.Name x p) (e :: es) kws pos) (tEv W Wx (fMk fz c n ks.length N F arr ga gk)) :=
  PE.imp (pe_mkKD (E := fun σ cls dd H' => Wx cls dd σ H') (by rw [hK]; exact M) G hr hg hm hb (fun σ => passAt' tk σ) ha hkw hall hks hdb he hpl) fun σ H Q ⟨S, μ, env, res, hS, hE, hf, hk⟩ => by
    refine tG.bind hS hE hf hk fun ds μ1 S1 H1 l1 g1 e1 hf1 hk1 vs rvs => ?_
    refine tG.bind g1 e1 hf1 hk1 fun es' μ2 S2 H2 l2 g2 e2 hf2 hk2 zs rzs => ?_
    exact mk_wish hA g2 (rvs.later l2) rzs hf2 hk2
/-- a property -/
def fProp (c : Nat) (n : Nat) (F : Fn) (dds : List D) (go : Env → EM D) : Env → EM D := fun env => bindE (go env) fun d μ => match objD d μ with
  | some (c', _) => (match c' == c && decide (dds.length + 1 = n) with
    | true => noX' (F (d :: dds)) μ
    | false => none)
  | none => none
where noX' (m : EM D) : EM D := fun μ => match m μ with
  | some (.exc _ _, _) => none
  | r => r
theorem ev_prop (hK : X.K = W.K) {pp g : Addr} {ff : Str} {dds : List D} {dvs : List V} {dus : List Value} (he : PE X e (tEv W Wx go)) (cl : Cls W.K (W.ca c)) (hp : PropOf W.K (W.ca c) ff pp g) (G : FnOk X.prog X.w X.K X.mg X.base (L2.CX X.prog X.w) k g fd ps (spF W n F)) (hr : Room (k + 1) X.A)
    (hb : Binds X.K fd ps dus) (hd : Vals dvs dus) (hdd : ∀ S H, RepVs W S H dvs dds) (hab : attributeBase e ff X.env (eval e X.env) = eval e X.env) : PE X (.Attribute e ff pos) (tEv W Wx (fProp c n F dds go)) :=
  PE.imp (pe_prop he (by rw [hK]; exact cl) (by rw [hK]; exact hp) G hr hb hd passL hab) fun σ H Q ⟨S, μ, env, res, hS, hE, hf, hk⟩ => by
    refine tG.bind hS hE hf hk fun d μ1 S1 H1 l1 g1 e1 hf1 hk1 v rv => ?_
    cases q : objD d μ1 with
    | none => rw [q] at hf1; cases hf1
    | some pr =>
      obtain ⟨c', fs⟩ := pr
      rw [q] at hf1
      obtain ⟨a, dx, vs, rfl, h1, h2⟩ := objD_rep g1 (.inl rv) q
      have hf1 : (match c' == c && decide (dds.length + 1 = n) with
        | true => fProp.noX' (F (d :: dds)) μ1
        | false => none) = some res := hf1
      cases z : c' == c && decide (dds.length + 1 = n) with
      | false => rw [z] at hf1; cases hf1
      | true =>
        rw [z] at hf1
        have hf2 : fProp.noX' (F (d :: dds)) μ1 = some res := hf1
        obtain ⟨z1, z2⟩ := Bool.and_eq_true_iff.mp z
        have z2 := of_decide_eq_true z2
        have z1 : c' = c := beq_iff_eq.mp z1
        refine ⟨a, dx, vs, rfl, by rw [← z1]; exact h1, ?_⟩
        unfold fProp.noX' at hf2
        cases w : F (d :: dds) μ1 with
        | none => rw [w] at hf2; cases hf2
        | some r =>
          obtain ⟨oo, μ2⟩ := r
          rw [w] at hf2
          cases oo with
          | exc cc ff => cases hf2
          | ok y =>
            cases hf2
            have r2 : RepVs W S1 H1 (.ref a :: dvs) (d :: dds) := .cons rv (hdd S1 H1)
            exact ⟨r2.length.trans (by simpa using z2), S1, μ1, d :: dds, _, g1, r2, w, fun S' H' v' l g' rv' => hk1 S' H' l g' v' rv'⟩
end
end
end EG
namespace EG
open PySem L2
section
variable {W : Wd} {S S' S1 : Ws} {H H' H1 : Hp} {σ : St} {env : Env} {μ : Mu} {Wx : WX} {X : Cx} {k : Nat} {C f : Addr} {fd : FuncData} {ps : List Str} {sp : Sp}
/-- a == b by a's own __eq__, nothing raised -/
def rOwn (K : PySem.W.Frag) (C : Addr) (sp : Sp) : R2 := fun x y H Q => ∃ a dx fs t, x = .ref a ∧ H a = some (.ins C dx fs) ∧ TyX K H y t ∧ PySem.W.notFirst K C t = true ∧ sp [x, y] H (fun v H' => (∃ b, v = .bl b) ∧ Q v H') E0
theorem op_own (F : FnOk X.prog X.w X.K X.mg X.base (L2.CX X.prog X.w) k f fd ps sp) (hr : Room k X.A) (hs : PySem.W.findIn X.K (.ref C) "__eq__" = some (some (.ref f))) (hf : PySem.W.isFn X.K (.ref f) = true) (hb : Binds X.K fd ps []) : OpR X (compareOp .Eq) (rOwn X.K C sp) := by
  intro pins s σ H x y v u Q I rx ry ⟨a, dx, fs, t, ex, ea, ty, nf, hq⟩
  subst ex
  cases rx
  obtain ⟨P, Z, hP, _⟩ := kit_of I ry ty
  obtain ⟨mA, J, _⟩ := ins_get I.hok ea
  obtain ⟨od, J, _⟩ := J.look
  obtain ⟨m, hF⟩ := I.fr
  show wpAny (model X.prog X.w) X.A (richCompare .Eq (.ref a) u) (EP X pins σ Q) X.xe s
  refine PySem.W.cmp_K (op := .Eq) hr.units0 hF I.ok.mod.kin J (Z.ty _ _ I.kIn hP) nf hs hf ?_
  have hl := F.len _ _ _ _ hq
  refine wpAny_mono (run_fn (us := [.ref a, u]) (vs := [.ref a, y]) (ds := []) (dvs := []) F hr hb .nil passL I (.cons rfl (.cons ry .nil)) hq) (fun r s' z => ?_) fun _ _ x => x
  obtain ⟨v, H', I', rv, ⟨b, rfl⟩, q⟩ := z
  cases rv
  exact ⟨.bl b, H', I', rfl, q⟩
/-- the right side's type does not come first -/
def FirstOk (W : Wd) (T : Isi) (c : Nat) (t : Tag) : Prop := PySem.W.notFirst W.K (W.ca c) (tagV W t) = true
/-- the right side may stand there -/
def rightB (T : Isi) (c : Nat) (t : Tag) : Bool := match t with
  | .cls b => b == c || isi1 T (.cls b) (.cls c) == some false
  | t => isi1 T t (.cls c) == some false
def fOwn (c : Nat) (F : Fn) (T : Isi) (fa fb : Env → EM D) : Env → EM D := fun env => bindE (fa env) fun d => bindE (fb env) fun e => fun μ => match objD d μ, tagD e μ with
  | some (c', _), some t => (match c' == c && rightB T c t with
    | true => (match F [d, e] μ with
      | some (.ok (.bl b), μ') => some (.ok (.bl b), μ')
      | _ => none)
    | false => none)
  | _, _ => none
theorem first_of {K : PySem.W.Frag} {D : Addr} {t : Value} (h : PySem.W.kitOne K t (.ref D) = some false) : PySem.W.notFirst K D t = true := by
  unfold PySem.W.kitOne at h
  split at h
  · cases h
  · unfold PySem.W.kitCls at h
    dsimp only at h
    split at h
    · unfold PySem.W.notFirst
      rw [h]
      simp
    · cases h
theorem first_self {K : PySem.W.Frag} {D : Addr} : PySem.W.notFirst K D (.ref D) = true := by
  unfold PySem.W.notFirst
  simp
theorem own_spec {c : Nat} {F : Fn} {T : Isi} (hT : IsiOk W T) {d e : D} {x y : V} {res : Out D × Mu} {Q : VK} (g : Sg W S H μ) (rx : RepV W S H x d) (ry : RepV W S H y e)
    (hf : (match objD d μ, tagD e μ with
      | some (c', _), some t => (match c' == c && rightB T c t with
        | true => (match F [d, e] μ with
          | some (.ok (.bl b), μ') => some (.ok (.bl b), μ')
          | _ => none)
        | false => none)
      | _, _ => (none : Option (Out D × Mu))) = some res) (hc : ClsOk W c) (hk : KG W S H σ Wx (okV W Q) res) : rOwn W.K (W.ca c) (spF W 2 F) x y H Q := by
  cases q1 : objD d μ with
  | none => rw [q1] at hf; cases hf
  | some p =>
    obtain ⟨c', fs⟩ := p
    cases q2 : tagD e μ with
    | none => rw [q1, q2] at hf; cases hf
    | some t =>
      rw [q1, q2] at hf
      dsimp only at hf
      split at hf
      · rename_i hb
        obtain ⟨hb1, hb2⟩ := Bool.and_eq_true_iff.mp hb
        have hcc : c' = c := beq_iff_eq.mp hb1
        subst hcc
        obtain ⟨a, dx, vs, rfl, h1, h2⟩ := objD_rep g (.inl rx) q1
        have hft : PySem.W.notFirst W.K (W.ca c') (tagV W t) = true ∧ ∀ b, t = .cls b → ClsOk W b := by
          cases t with
          | cls b =>
            rcases Bool.or_eq_true_iff.mp hb2 with z | z
            · cases beq_iff_eq.mp z
              exact ⟨first_self, fun b e => by cases e; exact hc⟩
            · have z := beq_iff_eq.mp z
              exact ⟨first_of (isi1_ok hT z), fun b' e => by cases e; exact hT.cls _ _ _ z⟩
          | ty m => exact ⟨first_of (isi1_ok hT (beq_iff_eq.mp hb2)), fun b e => nomatch e⟩
        refine ⟨a, dx, vs, tagV W t, rfl, h1, tag_rep g (.inl ry) q2 hft.2, hft.1, ?_⟩
        split at hf
        · rename_i q3
          cases hf
          have r2 : RepVs W S H [.ref a, y] [d, e] := .cons rx (.cons ry .nil)
          refine ⟨rfl, S, μ, [d, e], _, g, r2, q3, fun S' H' v l g' rv => ?_⟩
          cases rv
          exact ⟨⟨_, rfl⟩, hk S' H' l g' _ (.bl _)⟩
        · cases hf
      · cases hf
theorem ev_own (hK : X.K = W.K) {c : Nat} {F : Fn} {T : Isi} {a b : Expr} {pos : Pos} {fa fb : Env → EM D} (hT : IsiOk W T) (hc : ClsOk W c) (G : FnOk X.prog X.w X.K X.mg X.base (L2.CX X.prog X.w) k f fd ps (spF W 2 F)) (hr : Room k X.A) (hs : PySem.W.findIn W.K (.ref (W.ca c)) "__eq__" = some (some (.ref f)))
    (hf : PySem.W.isFn W.K (.ref f) = true) (hb : Binds X.K fd ps []) (ha : PE X a (tEv W Wx fa)) (hb' : PE X b (tEv W Wx fb)) (hm : behindInMarks .Eq b = false) : PE X (.Compare a [.Eq] [b] pos) (tEv W Wx (fOwn c F T fa fb)) :=
  PE.imp (pe_cmpR (op_own (C := W.ca c) G hr (by rw [hK]; exact hs) (by rw [hK]; exact hf) hb) ha hb' hm) fun σ H Q ⟨S, μ, env, res, hS, hE, hg, hk⟩ => by
    refine tG.bind hS hE hg hk fun d μ1 S1 H1 l1 g1 e1 hf1 hk1 x rx => ?_
    refine tG.bind g1 e1 hf1 hk1 fun e μ2 S2 H2 l2 g2 e2 hf2 hk2 y ry => ?_
    rw [hK]
    exact own_spec hT g2 (rx.later l2) ry hf2 hc hk2
theorem et_own (hK : X.K = W.K) {c : Nat} {F : Fn} {T : Isi} {a b : Expr} {pos : Pos} {fa fb : Env → EM D} (hT : IsiOk W T) (hc : ClsOk W c) (G : FnOk X.prog X.w X.K X.mg X.base (L2.CX X.prog X.w) k f fd ps (spF W 2 F)) (hr : Room k X.A) (hs : PySem.W.findIn W.K (.ref (W.ca c)) "__eq__" = some (some (.ref f)))
    (hf : PySem.W.isFn W.K (.ref f) = true) (hb : Binds X.K fd ps []) (ha : PE X a (tEv W Wx fa)) (hb' : PE X b (tEv W Wx fb)) (hm : behindInMarks .Eq b = false) : PT X (.Compare a [.Eq] [b] pos) (tEvT W Wx (fT (fOwn c F T fa fb))) :=
  PT.imp (pt_cmpR (op_own (C := W.ca c) G hr (by rw [hK]; exact hs) (by rw [hK]; exact hf) hb) ha hb' hm) fun σ H Q h => by
    obtain ⟨S, μ, env, res, hS, hE, hg, hk⟩ := tB_of h
    refine tG.bind hS hE hg hk fun d μ1 S1 H1 l1 g1 e1 hf1 hk1 x rx => ?_
    refine tG.bind g1 e1 hf1 hk1 fun e μ2 S2 H2 l2 g2 e2 hf2 hk2 y ry => ?_
    rw [hK]
    exact own_spec hT g2 (rx.later l2) ry hf2 hc hk2
end
end EG
namespace EG
open PySem PySem.Spec PyProof.Rows L2
theorem vals_app : ∀ {a b : List V} {c d : List Value}, Vals a c → Vals b d → Vals (a ++ b) (c ++ d)
  | _, _, _, _, .nil, h => h
  | _, _, _, _, .cons x r, h => .cons x (vals_app r h)
/-! calls with keywords: of a def, of a method, of a static method, of a classmethod -/
section
variable {X : Cx} {CX : CXT} {k n : Nat} {f C : Addr} {fd : FuncData} {ps ks : List Str} {sp : Sp} {E : L2.St → XK} {x m : Str} {p apos pos : Pos} {o e : Expr} {es : List Expr} {kws : List Keyword} {ta : TE} {t tk : TA} {g : List Value → List Value → List Value} {gV : List V → List V → List V}
def tKD (n m : Nat) (sp : Sp) (first : List V) (gV : List V → List V → List V) (E : L2.St → XK) (t tk : TA) : L2.St → Hp → VK → Prop := fun σ H Q => t σ H fun vs H1 => tk σ H1 fun zs H2 => vs.length = n ∧ zs.length = m ∧ sp (gV (first ++ vs) zs) H2 Q (E σ)
/-- the arguments, then the call of a def that is kept -/
theorem run_kd {pins : List (Addr × Obj)} {σ : L2.St} {H : Hp} {s : Shared} {Q : VK} {first : List Value} {fV : List V} (F : FnOk X.prog X.w X.K X.mg X.base CX k f fd ps sp) (hr : Room k X.A) (hk : PySem.W.keepIn X.K (.ref f) = true) (hb : KBn X.K fd ps (first.length + n) ks g gV) (hx : ∀ σ, PassesAt CX X σ (E σ))
    (rf : Vals fV first) (ha : PA X (e :: es) t) (hkw : PK X kws tk) (I : Inv X pins σ H s) (hall : (backToKw pos (keywordEach kws X.env)).all (·.1.isSome) = true) (hks : (backToKw pos (keywordEach kws X.env)).filterMap (·.1) = ks)
    (he : starEach (e :: es) X.env = (false, eval e X.env) :: starEach es X.env) (hpl : ((backTo pos (starEach (e :: es) X.env)).any (·.1) || (backToKw pos (keywordEach kws X.env)).any (·.1.isNone)) = false)
    (h : tKD n ks.length sp fV gV E t tk σ H Q) : wpAny (model X.prog X.w) X.A (callWith pos (.ref f) first (backTo pos (starEach (e :: es) X.env)) (backToKw pos (keywordEach kws X.env))) (EP X pins σ Q) X.xe s := by
  refine PySem.W.callWith_KW (h₀ := X.base) I.ok.mod.kin hk hall (thn (ha.run pos pins s σ H _ I h) fun us s1 ⟨vs, H1, I1, r, q⟩ => ?_) hpl he
  refine thn (hkw.run pos pins s1 σ H1 _ I1 q) fun ws s2 ⟨zs, H2, I2, rz, l1, l2, q2⟩ => ⟨I2.kIn, ?_⟩
  rw [hks]
  have r2 : Vals (fV ++ vs) (first ++ us) := vals_app rf r
  exact run_kn F hr hb (hx σ) I2 r2 rz (by rw [List.length_append, rf.length, l1]) l2 q2
theorem run_kd0 {pins : List (Addr × Obj)} {σ : L2.St} {H : Hp} {s : Shared} {Q : VK} {first : List Value} {fV : List V} (F : FnOk X.prog X.w X.K X.mg X.base CX k f fd ps sp) (hr : Room k X.A) (hk : PySem.W.keepIn X.K (.ref f) = true) (hb : KBn X.K fd ps first.length ks g gV) (hx : ∀ σ, PassesAt CX X σ (E σ))
    (rf : Vals fV first) (hkw : PK X kws tk) (I : Inv X pins σ H s) (hall : (backToKw pos (keywordEach kws X.env)).all (·.1.isSome) = true) (hks : (backToKw pos (keywordEach kws X.env)).filterMap (·.1) = ks)
    (hpl : ((backTo pos (starEach [] X.env)).any (·.1) || (backToKw pos (keywordEach kws X.env)).any (·.1.isNone)) = false)
    (h : tk σ H fun zs H2 => zs.length = ks.length ∧ sp (gV fV zs) H2 Q (E σ)) : wpAny (model X.prog X.w) X.A (callWith pos (.ref f) first (backTo pos (starEach [] X.env)) (backToKw pos (keywordEach kws X.env))) (EP X pins σ Q) X.xe s := by
  refine PySem.W.callWith_KW0 (h₀ := X.base) I.ok.mod.kin hk hall (thn (hkw.run pos pins s σ H _ I h) fun ws s2 ⟨zs, H2, I2, rz, l2, q2⟩ => ⟨I2.kIn, ?_⟩) hpl
  rw [hks, List.append_nil]
  exact run_kn F hr hb (hx σ) I2 rf rz rf.length l2 q2
/-- o.m(e, .., k = v, ..) -/
def tMethKD (C : Addr) (m : Str) (n nk : Nat) (sp : Sp) (gV : List V → List V → List V) (E : L2.St → XK) (ta : TE) (t tk : TA) : TE := fun σ H Q => ta σ H fun x H1 => ∃ a dx fs, x = .ref a ∧ H1 a = some (.ins C dx fs) ∧ fs.lookup m = none ∧ tKD n nk sp [x] gV E t tk σ H1 Q
theorem pe_methKD (he : PE X o ta) (c : Cls X.K C) (hm : Meth X.K C m f) (F : FnOk X.prog X.w X.K X.mg X.base CX k f fd ps sp) (hr : Room k X.A) (hb : KBn X.K fd ps (1 + n) ks g gV) (hx : ∀ σ, PassesAt CX X σ (E σ)) (ha : PA X (e :: es) t) (hkw : PK X kws tk)
    (hab : attributeBase o m X.env (eval o X.env) = eval o X.env) (hf : methodCallForm ((e :: es).length + kws.length) (backTo pos (starEach (e :: es) X.env)) (backToKw pos (keywordEach kws X.env)) = true) (hl : (apos.endLine == pos.line) = true)
    (hall : (backToKw pos (keywordEach kws X.env)).all (·.1.isSome) = true) (hks : (backToKw pos (keywordEach kws X.env)).filterMap (·.1) = ks)
    (hst : starEach (e :: es) X.env = (false, eval e X.env) :: starEach es X.env) (hpl : ((backTo pos (starEach (e :: es) X.env)).any (·.1) || (backToKw pos (keywordEach kws X.env)).any (·.1.isNone)) = false) :
    PE X (.Call (.Attribute o m apos) (e :: es) kws pos) (tMethKD C m n ks.length sp gV E ta t tk) := by
  refine ⟨fun pins s σ H Q I h => ?_⟩
  refine PySem.W.methodCall_KW (thn (he.run pins s σ H _ I h) fun u s1 ⟨x, H1, I1, rx, a, dx, fs, ex, ea, l, q⟩ => ?_) (meth_eq hab hf hl)
  subst ex
  cases rx
  exact getmeth_ok I1 ea c hm l (run_kd (first := [.ref a]) (fV := [.ref a]) F hr hm.kp hb hx (.cons rfl .nil) ha hkw I1 hall hks hst hpl q)
theorem pe_methKD0 (he : PE X o ta) (c : Cls X.K C) (hm : Meth X.K C m f) (F : FnOk X.prog X.w X.K X.mg X.base CX k f fd ps sp) (hr : Room k X.A) (hb : KBn X.K fd ps 1 ks g gV) (hx : ∀ σ, PassesAt CX X σ (E σ)) (hkw : PK X kws tk)
    (hab : attributeBase o m X.env (eval o X.env) = eval o X.env) (hf : methodCallForm (([] : List Expr).length + kws.length) (backTo pos (starEach [] X.env)) (backToKw pos (keywordEach kws X.env)) = true) (hl : (apos.endLine == pos.line) = true)
    (hall : (backToKw pos (keywordEach kws X.env)).all (·.1.isSome) = true) (hks : (backToKw pos (keywordEach kws X.env)).filterMap (·.1) = ks)
    (hpl : ((backTo pos (starEach [] X.env)).any (·.1) || (backToKw pos (keywordEach kws X.env)).any (·.1.isNone)) = false) :
    PE X (.Call (.Attribute o m apos) [] kws pos) (fun σ H Q => ta σ H fun x H1 => ∃ a dx fs, x = .ref a ∧ H1 a = some (.ins C dx fs) ∧ fs.lookup m = none ∧ tk σ H1 fun zs H2 => zs.length = ks.length ∧ sp (gV [x] zs) H2 Q (E σ)) := by
  refine ⟨fun pins s σ H Q I h => ?_⟩
  refine PySem.W.methodCall_KW (thn (he.run pins s σ H _ I h) fun u s1 ⟨x, H1, I1, rx, a, dx, fs, ex, ea, l, q⟩ => ?_) (meth_eq hab hf hl)
  subst ex
  cases rx
  exact getmeth_ok I1 ea c hm l (run_kd0 (first := [.ref a]) (fV := [.ref a]) F hr hm.kp hb hx (.cons rfl .nil) hkw I1 hall hks hpl q)
/-- C.m is a static method -/
structure SMet (K : PySem.W.Frag) (C : Addr) (mc : Value) (m : Str) (p g : Addr) : Prop where
  rd : ClX.CRead K C mc
  at_ : PySem.W.findCls K (.ref C) mc m = some (.get (.builtin "staticmethod.__get__") (.ref p) .none (.ref C))
  rc : ∃ rest, PySem.W.recIn K p "staticmethod" = some (.ref g :: rest)
  kp : PySem.W.keepIn K (.ref g) = true
theorem getmethsm_ok {pins : List (Addr × Obj)} {σ : L2.St} {H : Hp} {s : Shared} {mc : Value} {p q : Addr} {A : Around} {E : Value → Shared → Prop} {pl : Sem Bool} {Q : Value × List Value → Shared → Prop} (I : Inv X pins σ H s) (S : SMet X.K C mc m p q)
    (h : ∀ s', Inv X pins σ H s' → Q (.ref q, []) s') : wpAny (model X.prog X.w) A (getMethod (.ref C) m pl) Q E s := by
  obtain ⟨rest, hp⟩ := S.rc
  refine PySem.W.method_cls I.kIn S.rd.ga (PySem.W.cls_bind I.kIn S.rd.rd S.at_ ?_)
  exact wpAny_call (PySem.W.sm_get (s := { s with toks := s.toks + 1 }) I.kIn hp (PySem.W.handed_on rfl (h _ (I.tok _))))
theorem pe_smethKD {mc : Value} {q : Addr} {cpos : Pos} {pp : Addr} (hg : Gl X x) (hm : X.mg x = some (.ref C)) (hdb : (x == ("__debug__" : Str)) = false) (S : SMet X.K C mc m pp f) (F : FnOk X.prog X.w X.K X.mg X.base CX k f fd ps sp) (hr : Room k X.A) (hb : KBn X.K fd ps n ks g gV) (hx : ∀ σ, PassesAt CX X σ (E σ)) (ha : PA X (e :: es) t) (hkw : PK X kws tk)
    (hf : methodCallForm ((e :: es).length + kws.length) (backTo pos (starEach (e :: es) X.env)) (backToKw pos (keywordEach kws X.env)) = true) (hl : (apos.endLine == pos.line) = true)
    (hall : (backToKw pos (keywordEach kws X.env)).all (·.1.isSome) = true) (hks : (backToKw pos (keywordEach kws X.env)).filterMap (·.1) = ks)
    (hst : starEach (e :: es) X.env = (false, eval e X.env) :: starEach es X.env) (hpl : ((backTo pos (starEach (e :: es) X.env)).any (·.1) || (backToKw pos (keywordEach kws X.env)).any (·.1.isNone)) = false) :
    PE X (.Call (.Attribute (.Name x cpos) m apos) (e :: es) kws pos) (tKD n ks.length sp [] gV E t tk) := by
  refine ⟨fun pins s σ H Q I h => ?_⟩
  have he : PE X (.Name x cpos) (tC (.ref C)) := pe_glob hg hm rfl hdb
  refine PySem.W.methodCall_KW (thn (he.run pins s σ H (fun v H1 => v = .ref C ∧ H1 = H) I ⟨rfl, rfl⟩) fun u s1 ⟨x, H1, I1, rx, ex, eh⟩ => ?_) (meth_eq rfl hf hl)
  subst ex eh
  cases rx
  exact getmethsm_ok I1 S fun s2 I2 => run_kd (first := []) (fV := []) F hr S.kp (by rw [List.length_nil, Nat.zero_add]; exact hb) hx .nil ha hkw I2 hall hks hst hpl h
theorem pe_smethKD0 {mc : Value} {q : Addr} {cpos : Pos} {pp : Addr} (hg : Gl X x) (hm : X.mg x = some (.ref C)) (hdb : (x == ("__debug__" : Str)) = false) (S : SMet X.K C mc m pp f) (F : FnOk X.prog X.w X.K X.mg X.base CX k f fd ps sp) (hr : Room k X.A) (hb : KBn X.K fd ps 0 ks g gV) (hx : ∀ σ, PassesAt CX X σ (E σ)) (hkw : PK X kws tk)
    (hf : methodCallForm (([] : List Expr).length + kws.length) (backTo pos (starEach [] X.env)) (backToKw pos (keywordEach kws X.env)) = true) (hl : (apos.endLine == pos.line) = true)
    (hall : (backToKw pos (keywordEach kws X.env)).all (·.1.isSome) = true) (hks : (backToKw pos (keywordEach kws X.env)).filterMap (·.1) = ks)
    (hpl : ((backTo pos (starEach [] X.env)).any (·.1) || (backToKw pos (keywordEach kws X.env)).any (·.1.isNone)) = false) :
    PE X (.Call (.Attribute (.Name x cpos) m apos) [] kws pos) (fun σ H Q => tk σ H fun zs H2 => zs.length = ks.length ∧ sp (gV [] zs) H2 Q (E σ)) := by
  refine ⟨fun pins s σ H Q I h => ?_⟩
  have he : PE X (.Name x cpos) (tC (.ref C)) := pe_glob hg hm rfl hdb
  refine PySem.W.methodCall_KW (thn (he.run pins s σ H (fun v H1 => v = .ref C ∧ H1 = H) I ⟨rfl, rfl⟩) fun u s1 ⟨x, H1, I1, rx, ex, eh⟩ => ?_) (meth_eq rfl hf hl)
  subst ex eh
  cases rx
  exact getmethsm_ok I1 S fun s2 I2 => run_kd0 (first := []) (fV := []) F hr S.kp hb hx .nil hkw I2 hall hks hpl h
end
end EG
namespace EG
open PySem L2
section
variable {W : Wd} {S S' S1 : Ws} {H H' H1 : Hp} {σ : St} {env : Env} {μ : Mu} {Wx : WX} {X : Cx} {k : Nat}
def fKD (n nk N : Nat) (F : Fn) (arr : List D → List D → List D) (fs : List D) (ga gk : Env → EM (List D)) : Env → EM D := fun env => bindE (ga env) fun ds => bindE (gk env) fun es => guardE (decide (ds.length = n ∧ es.length = nk ∧ (arr (fs ++ ds) es).length = N)) (F (arr (fs ++ ds) es))
theorem kd_wish {n nk N : Nat} {F : Fn} {arr : List D → List D → List D} {gV : List V → List V → List V} {fs : List D} {fV : List V} {ga gk : Env → EM (List D)} {res : Out D × Mu} {Q : VK} (hA : ArrOk W gV arr) (hS : Sg W S H μ) (hE : EnvOk W S H σ env) (rf : RepVs W S H fV fs)
    (hf : fKD n nk N F arr fs ga gk env μ = some res) (hk : KG W S H σ Wx (okV W Q) res) : tKD n nk (spF W N F) fV gV (fun σ cls dd H' => Wx cls dd σ H') (tEvs W Wx ga) (tEvs W Wx gk) σ H Q := by
  refine tG.bind hS hE hf hk fun ds μ1 S1 H1 l1 g1 e1 hf1 hk1 vs rvs => ?_
  refine tG.bind g1 e1 hf1 hk1 fun es μ2 S2 H2 l2 g2 e2 hf2 hk2 zs rzs => ?_
  obtain ⟨hl, hf2⟩ := guardE_some hf2
  obtain ⟨d1, d2, d3⟩ := of_decide_eq_true hl
  exact ⟨rvs.length.trans d1, rzs.length.trans d2, spF_of g2 d3 (hA S2 H2 _ _ _ _ (((rf.later l1).later l2).append (rvs.later l2)) rzs) hf2 hk2⟩
def fMethK (c : Nat) (m : Str) (n nk N : Nat) (F : Fn) (arr : List D → List D → List D) (go : Env → EM D) (ga gk : Env → EM (List D)) : Env → EM D := fun env => bindE (go env) fun d μ => match isObj c m d μ with
  | true => fKD n nk N F arr [d] ga gk env μ
  | false => none
section
variable {c n N : Nat} {f : Addr} {fd : FuncData} {ps ks : List Str} {x m : Str} {p apos pos : Pos} {o e : Expr} {es : List Expr} {kws : List Keyword} {F : Fn} {go : Env → EM D} {ga gk : Env → EM (List D)} {arr : List D → List D → List D} {gB : List Value → List Value → List Value} {gV : List V → List V → List V}
theorem ev_methK (hK : X.K = W.K) (he : PE X o (tEv W Wx go)) (cl : Cls W.K (W.ca c)) (hm : Meth W.K (W.ca c) m f) (G : FnOk X.prog X.w X.K X.mg X.base (L2.CX X.prog X.w) k f fd ps (spF W N F)) (tk : Takes X Wx) (hr : Room k X.A) (hb : KBn X.K fd ps (1 + n) ks gB gV) (hA : ArrOk W gV arr)
    (ha : PA X (e :: es) (tEvs W Wx ga)) (hkw : PK X kws (tEvs W Wx gk))
    (hab : attributeBase o m X.env (eval o X.env) = eval o X.env) (hf : methodCallForm ((e :: es).length + kws.length) (backTo pos (starEach (e :: es) X.env)) (backToKw pos (keywordEach kws X.env)) = true) (hl : (apos.endLine == pos.line) = true)
    (hall : (backToKw pos (keywordEach kws X.env)).all (·.1.isSome) = true) (hks : (backToKw pos (keywordEach kws X.env)).filterMap (·.1) = ks)
    (hst : starEach (e :: es) X.env = (false, eval e X.env) :: starEach es X.env) (hpl : ((backTo pos (starEach (e :: es) X.env)).any (·.1) || (backToKw pos (keywordEach kws X.env)).any (·.1.isNone)) = false) :
    PE X (.Call (.Attribute o m apos) (e :: es) kws pos) (tEv W Wx (fMethK c m n ks.length N F arr go ga gk)) :=
  PE.imp (pe_methKD (E := fun σ cls dd H' => Wx cls dd σ H') he (by rw [hK]; exact cl) (by rw [hK]; exact hm) G hr hb (fun σ => passAt' tk σ) ha hkw hab hf hl hall hks hst hpl) fun σ H Q ⟨S, μ, env, res, hS, hE, hf, hk⟩ => by
    refine tG.bind hS hE hf hk fun d μ1 S1 H1 l1 g1 e1 hf1 hk1 v rv => ?_
    obtain ⟨h1, hf1⟩ := isObj_match hf1
    obtain ⟨a, dx, vs, rfl, h2, h3⟩ := isObj_rep g1 (.inl rv) h1
    exact ⟨a, dx, vs, rfl, h2, h3, kd_wish hA g1 e1 (.cons rv .nil) hf1 hk1⟩
theorem ev_methK0 (hK : X.K = W.K) (he : PE X o (tEv W Wx go)) (cl : Cls W.K (W.ca c)) (hm : Meth W.K (W.ca c) m f) (G : FnOk X.prog X.w X.K X.mg X.base (L2.CX X.prog X.w) k f fd ps (spF W N F)) (tk : Takes X Wx) (hr : Room k X.A) (hb : KBn X.K fd ps (1 + 0) ks gB gV) (hA : ArrOk W gV arr)
    (hkw : PK X kws (tEvs W Wx gk))
    (hab : attributeBase o m X.env (eval o X.env) = eval o X.env) (hf : methodCallForm (([] : List Expr).length + kws.length) (backTo pos (starEach [] X.env)) (backToKw pos (keywordEach kws X.env)) = true) (hl : (apos.endLine == pos.line) = true)
    (hall : (backToKw pos (keywordEach kws X.env)).all (·.1.isSome) = true) (hks : (backToKw pos (keywordEach kws X.env)).filterMap (·.1) = ks)
    (hpl : ((backTo pos (starEach [] X.env)).any (·.1) || (backToKw pos (keywordEach kws X.env)).any (·.1.isNone)) = false) :
    PE X (.Call (.Attribute o m apos) [] kws pos) (tEv W Wx (fMethK c m 0 ks.length N F arr go fNil gk)) :=
  PE.imp (pe_methKD0 (E := fun σ cls dd H' => Wx cls dd σ H') he (by rw [hK]; exact cl) (by rw [hK]; exact hm) G hr hb (fun σ => passAt' tk σ) hkw hab hf hl hall hks hpl) fun σ H Q ⟨S, μ, env, res, hS, hE, hf, hk⟩ => by
    refine tG.bind hS hE hf hk fun d μ1 S1 H1 l1 g1 e1 hf1 hk1 v rv => ?_
    obtain ⟨h1, hf1⟩ := isObj_match hf1
    obtain ⟨a, dx, vs, rfl, h2, h3⟩ := isObj_rep g1 (.inl rv) h1
    have hf1 : bindE (gk env) (fun es => guardE (decide (([] : List D).length = 0 ∧ es.length = ks.length ∧ (arr ([d] ++ []) es).length = N)) (F (arr ([d] ++ []) es))) μ1 = some res := hf1
    refine ⟨a, dx, vs, rfl, h2, h3, tG.bind g1 e1 hf1 hk1 fun es μ2 S2 H2 l2 g2 e2 hf2 hk2 zs rzs => ?_⟩
    obtain ⟨hl, hf2⟩ := guardE_some hf2
    obtain ⟨d1, d2, d3⟩ := of_decide_eq_true hl
    exact ⟨rzs.length.trans d2, spF_of g2 d3 (hA S2 H2 _ _ _ _ (.cons (rv.later l2) .nil) rzs) hf2 hk2⟩
theorem ev_smeth (hK : X.K = W.K) {mc : Value} {cpos : Pos} {pp : Addr} (hg : Gl X x) (hm : X.mg x = some (.ref (W.ca c))) (hdb : (x == ("__debug__" : Str)) = false) (SM : SMet W.K (W.ca c) mc m pp f) (G : FnOk X.prog X.w X.K X.mg X.base (L2.CX X.prog X.w) k f fd ps (spF W N F)) (tk : Takes X Wx) (hr : Room k X.A) (hb : KBn X.K fd ps n ks gB gV) (hA : ArrOk W gV arr)
    (ha : PA X (e :: es) (tEvs W Wx ga)) (hkw : PK X kws (tEvs W Wx gk))
    (hf : methodCallForm ((e :: es).length + kws.length) (backTo pos (starEach (e :: es) X.env)) (backToKw pos (keywordEach kws X.env)) = true) (hl : (apos.endLine == pos.line) = true)
    (hall : (backToKw pos (keywordEach kws X.env)).all (·.1.isSome) = true) (hks : (backToKw pos (keywordEach kws X.env)).filterMap (·.1) = ks)
    (hst : starEach (e :: es) X.env = (false, eval e X.env) :: starEach es X.env) (hpl : ((backTo pos (starEach (e :: es) X.env)).any (·.1) || (backToKw pos (keywordEach kws X.env)).any (·.1.isNone)) = false) :
    PE X (.Call (.Attribute (.Name x cpos) m apos) (e :: es) kws pos) (tEv W Wx (fKD n ks.length N F arr [] ga gk)) :=
  PE.imp (pe_smethKD (q := 0) (E := fun σ cls dd H' => Wx cls dd σ H') hg hm hdb (by rw [hK]; exact SM) G hr hb (fun σ => passAt' tk σ) ha hkw hf hl hall hks hst hpl) fun σ H Q ⟨S, μ, env, res, hS, hE, hf, hk⟩ => kd_wish hA hS hE .nil hf hk
theorem ev_smeth0 (hK : X.K = W.K) {mc : Value} {cpos : Pos} {pp : Addr} (hg : Gl X x) (hm : X.mg x = some (.ref (W.ca c))) (hdb : (x == ("__debug__" : Str)) = false) (SM : SMet W.K (W.ca c) mc m pp f) (G : FnOk X.prog X.w X.K X.mg X.base (L2.CX X.prog X.w) k f fd ps (spF W N F)) (tk : Takes X Wx) (hr : Room k X.A) (hb : KBn X.K fd ps 0 ks gB gV) (hA : ArrOk W gV arr)
    (hkw : PK X kws (tEvs W Wx gk))
    (hf : methodCallForm (([] : List Expr).length + kws.length) (backTo pos (starEach [] X.env)) (backToKw pos (keywordEach kws X.env)) = true) (hl : (apos.endLine == pos.line) = true)
    (hall : (backToKw pos (keywordEach kws X.env)).all (·.1.isSome) = true) (hks : (backToKw pos (keywordEach kws X.env)).filterMap (·.1) = ks)
    (hpl : ((backTo pos (starEach [] X.env)).any (·.1) || (backToKw pos (keywordEach kws X.env)).any (·.1.isNone)) = false) :
    PE X (.Call (.Attribute (.Name x cpos) m apos) [] kws pos) (tEv W Wx (fKD 0 ks.length N F arr [] fNil gk)) :=
  PE.imp (pe_smethKD0 (q := 0) (E := fun σ cls dd H' => Wx cls dd σ H') hg hm hdb (by rw [hK]; exact SM) G hr hb (fun σ => passAt' tk σ) hkw hf hl hall hks hpl) fun σ H Q ⟨S, μ, env, res, hS, hE, hf, hk⟩ => by
    have hf : bindE (gk env) (fun es => guardE (decide (([] : List D).length = 0 ∧ es.length = ks.length ∧ (arr ([] ++ []) es).length = N)) (F (arr ([] ++ []) es))) μ = some res := hf
    refine tG.bind hS hE hf hk fun es μ2 S2 H2 l2 g2 e2 hf2 hk2 zs rzs => ?_
    obtain ⟨hl, hf2⟩ := guardE_some hf2
    obtain ⟨d1, d2, d3⟩ := of_decide_eq_true hl
    exact ⟨rzs.length.trans d2, spF_of g2 d3 (hA S2 H2 _ _ _ _ .nil rzs) hf2 hk2⟩
/-- f(e, .., k = v, ..) -/
theorem ev_callK (hg : Gl X x) (hm : X.mg x = some (.ref f)) (hkp : PySem.W.keepIn X.K (.ref f) = true) (G : FnOk X.prog X.w X.K X.mg X.base (L2.CX X.prog X.w) k f fd ps (spF W N F)) (tk : Takes X Wx) (hr : Room k X.A) (hb : KBn X.K fd ps n ks gB gV) (hA : ArrOk W gV arr)
    (ha : PA X (e :: es) (tEvs W Wx ga)) (hkw : PK X kws (tEvs W Wx gk)) (hdb : (x == ("__debug__" : Str)) = false)
    (hall : (backToKw pos (keywordEach kws X.env)).all (·.1.isSome) = true) (hks : (backToKw pos (keywordEach kws X.env)).filterMap (·.1) = ks)
    (hst : starEach (e :: es) X.env = (false, eval e X.env) :: starEach es X.env) (hpl : ((backTo pos (starEach (e :: es) X.env)).any (·.1) || (backToKw pos (keywordEach kws X.env)).any (·.1.isNone)) = false) :
    PE X (.Call (.Name x p) (e :: es) kws pos) (tEv W Wx (fKD n ks.length N F arr [] ga gk)) := by
  have hp : PE X (.Call (.Name x p) (e :: es) kws pos) (tKD n ks.length (spF W N F) [] gV (fun σ cls dd H' => Wx cls dd σ H') (tEvs W Wx ga) (tEvs W Wx gk)) := ⟨fun pins s σ H Q I h => wpAny_Call_Name_kw (ld_glob I hg hm (run_kd (first := []) (fV := []) G hr hkp (by rw [List.length_nil, Nat.zero_add]; exact hb) (fun σ => passAt' tk σ) .nil ha hkw I hall hks hst hpl h) hdb)⟩
  exact PE.imp hp fun σ H Q ⟨S, μ, env, res, hS, hE, hf, hk⟩ => kd_wish hA hS hE .nil hf hk
end
end
end EG
namespace EG
open PySem PySem.Spec PyProof.Rows L2
/-! != by object.__ne__ over an own __eq__ -/
section
variable {prog : Program} {w : World} {A : Around} {E : Value → Shared → Prop} {s : Shared} {K : PySem.W.Frag} {x C L f : Addr} {h₀ : Heap} {m : Str → Option Value} {ox : Obj} {od : Option Obj} {name : Str} {b tb : Value}
theorem ifBound_B {M : Model} {id : String} {args : List Value} {Q : Option Value → Shared → Prop} (X : K.In s.heap) (I : PySem.W.InstAt s.heap x ox C od) (hs : PySem.W.findIn K (.ref C) name = some (some (.builtin id))) (hb : ∀ self, bindSpecial (.builtin id) self = pure (.builtin id, [self]))
    (h : wpAny M A (call (.builtin id) (.ref x :: args)) (fun v => Q (some v)) E s) : wpAny M A (callSpecialIfBound? (.ref x) name args) Q E s := by
  simp only [callSpecialIfBound?, bindSpecialIfBound?]
  refine wpAny_holding (wpAny_bind (wpAny_bind (wpAny_bind (I.type.here ((PySem.W.looks_findIn X hs).here ?_)))))
  simp only [hb]
  refine wpAny_bind (wpAny_askSetting (wpAny_ite ?_))
  have fin : wpAny M A (call (.builtin id) ([.ref x] ++ args) >>= fun v => pure (some v)) Q E s := wpAny_bind (wpAny_mono h (fun v s' h' => wpAny_pure h') fun _ _ h' => h')
  split
  · exact wpAny_bind (wpAny_pure (wpAny_pure (by exact fin)))
  · exact wpAny_tryCatch (wpAny_bind (wpAny_pure (wpAny_pure (by exact fin))))
def NeBack (Q : Value → Shared → Prop) (v : Value) (s' : Shared) : Prop := ∃ c, v = .bool c ∧ Q (.bool (!c)) s'
theorem objNe_K {Q : Value → Shared → Prop} (hu : A.in1.units < cLine) (X : K.In s.heap) (I : PySem.W.InstAt s.heap x ox C od) (hm : PySem.W.mroIn K C (.type "object") = some true) (hr : PySem.W.findIn K (.ref C) "__eq__" = some (some (.ref f))) (hf : PySem.W.isFn K (.ref f) = true)
    (h : wpAny (model prog w) A.in1 (call (.ref f) [.ref x, b]) (NeBack Q) E s) : wpAny (model prog w) A (call (.builtin "object.__ne__") [.ref x, b]) Q E s := by
  refine wpAny_call (codeAny_call_builtin PySem.F.cmp_object.ne.plain PySem.F.cmpEntry_ne (PySem.W.check_slot (i := "object.__ne__") (owner := "object") (n := "__ne__") (by decide +kernel) (by decide +kernel) (I.type.andThen (PySem.W.looks_mroIn X hm)) (PySem.F.cmpArgs_ne _ _) ?_))
  unfold Builtin.«object.__ne__»
  repeat (first
    | with_reducible refine wpAny_cRoomFor hu ?_
    | (refine wpAny_bind (m := callSpecialIfBound? (.ref x) (Str.ofString "__eq__") [b])
        (PySem.W.ifBound_K X I hr hf (wpAny_mono h (fun r s' hr => by
          obtain ⟨b, rfl, hq⟩ := hr
          repeat (first | exact hq | exact wpAny_pure hq | exact wpAny_truthy_bool hq | (refine wpAny_bind (m := truthy (.bool _)) (wpAny_truthy_bool ?_)) | wp_step)) fun _ _ e => e)))
    | wp_step)
theorem ne_K {Q : Value → Shared → Prop} (hu : A.units < cLine) (hu1 : A.in1.units < cLine) (X : K.In s.heap) (I : PySem.W.InstAt s.heap x ox C od) (hb : PySem.W.Looks (model prog w) s.heap (typeOf b) tb) (hn : PySem.W.notFirst K C tb = true)
    (hs : PySem.W.findIn K (.ref C) "__ne__" = some (some (.builtin "object.__ne__"))) (hm : PySem.W.mroIn K C (.type "object") = some true) (hr : PySem.W.findIn K (.ref C) "__eq__" = some (some (.ref f))) (hf : PySem.W.isFn K (.ref f) = true)
    (h : wpAny (model prog w) A.in1 (call (.ref f) [.ref x, b]) (NeBack Q) E s) : wpAny (model prog w) A (richCompare .NotEq (.ref x) b) Q E s := by
  have one : wpAny (model prog w) A (tryCompare (.ref x) (cmpInfo .NotEq).2.1 b) (fun r s' => ∃ v, r = some v ∧ Q v s') E s := by
    unfold tryCompare
    refine wpAny_bind (ifBound_B X I hs PySem.F.cmp_object.ne.bind (objNe_K hu1 X I hm hr hf (wpAny_mono h (fun v s' hv => ?_) fun _ _ e => e)))
    obtain ⟨c, rfl, hq⟩ := hv
    exact ⟨c, rfl, wpAny_pure ⟨_, rfl, hq⟩⟩
  unfold richCompare
  simp only [oneThing_ref]
  refine wpAny_holding (wpAny_bind (wpAny_cRoomFor hu ?_))
  refine wpAny_bind (I.type.here (wpAny_bind (hb.here ?_)))
  split
  · rename_i q
    have e : PySem.W.subIn K tb (.ref C) = some false := by
      rcases Bool.or_eq_true_iff.mp hn with e | e
      · rw [beq_iff_eq.mp e] at q; simp at q
      · exact beq_iff_eq.mp e
    refine wpAny_bind ((PySem.W.looks_subIn X e).here ?_)
    simp only [Bool.false_eq_true, if_false]
    refine wpAny_bind (wpAny_mono one (fun r s' z => ?_) fun _ _ e => e)
    obtain ⟨v, rfl, hq⟩ := z
    exact wpAny_pure hq
  · refine wpAny_bind (wpAny_pure ?_)
    simp only [Bool.false_eq_true, if_false]
    refine wpAny_bind (wpAny_mono one (fun r s' z => ?_) fun _ _ e => e)
    obtain ⟨v, rfl, hq⟩ := z
    exact wpAny_pure hq
end
section
variable {X : Cx} {k : Nat} {C f : Addr} {fd : FuncData} {ps : List Str} {sp : Sp}
theorem run_in1 {A : Around} {pins : List (Addr × Obj)} {σ : L2.St} {H : Hp} {s : Shared} {Q : VK} {us : List Value} {vs : List V} {E : Value → Shared → Prop} (F : FnOk X.prog X.w X.K X.mg X.base (L2.CX X.prog X.w) k f fd ps sp) (hr : Room k A) (e0 : Env0 X.prog X.w X.K X.mg X.base A X.stack s H) (hb : Binds X.K fd ps [])
    (I : Inv X pins σ H s) (r : Vals vs us) (h : sp vs H Q E0) : wpAny (model X.prog X.w) A (call (.ref f) us) (EP X pins σ Q) E s := by
  refine wpAny_call (codeAny_mono (F.run A X.stack s H ⟨us, []⟩ us vs Q E0 hr e0 ?_ r h) fun r s' hq => ?_)
  · have hl : (us ++ []).length = ps.length := by
      rw [List.append_nil, ← r.length]
      exact F.len _ _ _ _ h
    have := hb s us I.kIn hl
    rw [List.append_nil] at this
    exact this
  · cases r with
    | error e =>
      obtain ⟨_, _, _, _, _, _, _, _, _, _, _, _, z⟩ := hq
      exact z.elim
    | ok fl => cases fl <;> first | exact I.after hq | exact False.elim hq
end
end EG
namespace EG
open PySem L2
section
variable {W : Wd} {S S' S1 : Ws} {H H' H1 : Hp} {σ : St} {env : Env} {μ : Mu} {Wx : WX} {X : Cx} {k : Nat} {C f : Addr} {fd : FuncData} {ps : List Str} {sp : Sp}
structure NeFacts (K : PySem.W.Frag) (C f : Addr) : Prop where
  ne : PySem.W.findIn K (.ref C) "__ne__" = some (some (.builtin "object.__ne__"))
  mro : PySem.W.mroIn K C (.type "object") = some true
  eq : PySem.W.findIn K (.ref C) "__eq__" = some (some (.ref f))
  fn : PySem.W.isFn K (.ref f) = true
/-- a != b by a's own __eq__, nothing raised -/
def rOwnNe (K : PySem.W.Frag) (C : Addr) (sp : Sp) : R2 := fun x y H Q => ∃ a dx fs t, x = .ref a ∧ H a = some (.ins C dx fs) ∧ TyX K H y t ∧ PySem.W.notFirst K C t = true ∧ sp [x, y] H (fun v H' => ∃ b, v = .bl b ∧ Q (.bl (!b)) H') E0
theorem op_ownNe (F : FnOk X.prog X.w X.K X.mg X.base (L2.CX X.prog X.w) k f fd ps sp) (hr : Room (k + 1) X.A) (N : NeFacts X.K C f) (hb : Binds X.K fd ps []) : OpR X (compareOp .NotEq) (rOwnNe X.K C sp) := by
  intro pins s σ H x y v u Q I rx ry ⟨a, dx, fs, t, ex, ea, ty, nf, hq⟩
  subst ex
  cases rx
  obtain ⟨P, Z, hP, _⟩ := kit_of I ry ty
  obtain ⟨mA, J, _⟩ := ins_get I.hok ea
  obtain ⟨od, J, _⟩ := J.look
  show wpAny (model X.prog X.w) X.A (richCompare .NotEq (.ref a) u) (EP X pins σ Q) X.xe s
  refine ne_K hr.units0 hr.in1.units0 I.kIn J (Z.ty _ _ I.kIn hP) nf N.ne N.mro N.eq N.fn ?_
  refine wpAny_mono (run_in1 (us := [.ref a, u]) (vs := [.ref a, y]) F hr.in1 I.env0.in1 hb I (.cons rfl (.cons ry .nil)) hq) (fun r s' z => ?_) fun _ _ x => x
  obtain ⟨w, H', I', rv, b, rfl, q⟩ := z
  cases rv
  exact ⟨b, rfl, .bl _, H', I', rfl, q⟩
def fOwnNe (c : Nat) (F : Fn) (T : Isi) (fa fb : Env → EM D) : Env → EM D := fun env => bindE (fa env) fun d => bindE (fb env) fun e => fun μ => match objD d μ, tagD e μ with
  | some (c', _), some t => (match c' == c && rightB T c t with
    | true => (match F [d, e] μ with
      | some (.ok (.bl b), μ') => some (.ok (.bl (!b)), μ')
      | _ => none)
    | false => none)
  | _, _ => none
theorem ownNe_spec {c : Nat} {F : Fn} {T : Isi} (hT : IsiOk W T) {d e : D} {x y : V} {res : Out D × Mu} {Q : VK} (g : Sg W S H μ) (rx : RepV W S H x d) (ry : RepV W S H y e)
    (hf : (match objD d μ, tagD e μ with
      | some (c', _), some t => (match c' == c && rightB T c t with
        | true => (match F [d, e] μ with
          | some (.ok (.bl b), μ') => some (.ok (.bl (!b)), μ')
          | _ => none)
        | false => none)
      | _, _ => (none : Option (Out D × Mu))) = some res) (hc : ClsOk W c) (hk : KG W S H σ Wx (okV W Q) res) : rOwnNe W.K (W.ca c) (spF W 2 F) x y H Q := by
  cases q1 : objD d μ with
  | none => rw [q1] at hf; cases hf
  | some p =>
    obtain ⟨c', fs⟩ := p
    cases q2 : tagD e μ with
    | none => rw [q1, q2] at hf; cases hf
    | some t =>
      rw [q1, q2] at hf
      dsimp only at hf
      split at hf
      · rename_i hb
        obtain ⟨hb1, hb2⟩ := Bool.and_eq_true_iff.mp hb
        have hcc : c' = c := beq_iff_eq.mp hb1
        subst hcc
        obtain ⟨a, dx, vs, rfl, h1, h2⟩ := objD_rep g (.inl rx) q1
        have hft : PySem.W.notFirst W.K (W.ca c') (tagV W t) = true ∧ ∀ b, t = .cls b → ClsOk W b := by
          cases t with
          | cls b =>
            rcases Bool.or_eq_true_iff.mp hb2 with z | z
            · cases beq_iff_eq.mp z
              exact ⟨first_self, fun b e => by cases e; exact hc⟩
            · have z := beq_iff_eq.mp z
              exact ⟨first_of (isi1_ok hT z), fun b' e => by cases e; exact hT.cls _ _ _ z⟩
          | ty m => exact ⟨first_of (isi1_ok hT (beq_iff_eq.mp hb2)), fun b e => nomatch e⟩
        refine ⟨a, dx, vs, tagV W t, rfl, h1, tag_rep g (.inl ry) q2 hft.2, hft.1, ?_⟩
        split at hf
        · rename_i q3
          cases hf
          have r2 : RepVs W S H [.ref a, y] [d, e] := .cons rx (.cons ry .nil)
          refine ⟨rfl, S, μ, [d, e], _, g, r2, q3, fun S' H' v l g' rv => ?_⟩
          cases rv
          exact ⟨_, rfl, hk S' H' l g' _ (.bl _)⟩
        · cases hf
      · cases hf
theorem ev_ownNe (hK : X.K = W.K) {c : Nat} {F : Fn} {T : Isi} {a b : Expr} {pos : Pos} {fa fb : Env → EM D} (hT : IsiOk W T) (hc : ClsOk W c) (G : FnOk X.prog X.w X.K X.mg X.base (L2.CX X.prog X.w) k f fd ps (spF W 2 F)) (hr : Room (k + 1) X.A) (N : NeFacts W.K (W.ca c) f)
    (hb : Binds X.K fd ps []) (ha : PE X a (tEv W Wx fa)) (hb' : PE X b (tEv W Wx fb)) (hm : behindInMarks .NotEq b = false) : PE X (.Compare a [.NotEq] [b] pos) (tEv W Wx (fOwnNe c F T fa fb)) :=
  PE.imp (pe_cmpR (op_ownNe (C := W.ca c) G hr (by rw [hK]; exact N) hb) ha hb' hm) fun σ H Q ⟨S, μ, env, res, hS, hE, hg, hk⟩ => by
    refine tG.bind hS hE hg hk fun d μ1 S1 H1 l1 g1 e1 hf1 hk1 x rx => ?_
    refine tG.bind g1 e1 hf1 hk1 fun e μ2 S2 H2 l2 g2 e2 hf2 hk2 y ry => ?_
    rw [hK]
    exact ownNe_spec hT g2 (rx.later l2) ry hf2 hc hk2
theorem et_ownNe (hK : X.K = W.K) {c : Nat} {F : Fn} {T : Isi} {a b : Expr} {pos : Pos} {fa fb : Env → EM D} (hT : IsiOk W T) (hc : ClsOk W c) (G : FnOk X.prog X.w X.K X.mg X.base (L2.CX X.prog X.w) k f fd ps (spF W 2 F)) (hr : Room (k + 1) X.A) (N : NeFacts W.K (W.ca c) f)
    (hb : Binds X.K fd ps []) (ha : PE X a (tEv W Wx fa)) (hb' : PE X b (tEv W Wx fb)) (hm : behindInMarks .NotEq b = false) : PT X (.Compare a [.NotEq] [b] pos) (tEvT W Wx (fT (fOwnNe c F T fa fb))) :=
  PT.imp (pt_cmpR (op_ownNe (C := W.ca c) G hr (by rw [hK]; exact N) hb) ha hb' hm) fun σ H Q h => by
    obtain ⟨S, μ, env, res, hS, hE, hg, hk⟩ := tB_of h
    refine tG.bind hS hE hg hk fun d μ1 S1 H1 l1 g1 e1 hf1 hk1 x rx => ?_
    refine tG.bind g1 e1 hf1 hk1 fun e μ2 S2 H2 l2 g2 e2 hf2 hk2 y ry => ?_
    rw [hK]
    exact ownNe_spec hT g2 (rx.later l2) ry hf2 hc hk2
end
/-! len(o), repr(o), bool(o), o as a test -/
open PySem.Spec PyProof.Rows
inductive Own1 where | len | repr | bool
  deriving DecidableEq
def Own1.dunder : Own1 → Str
  | .len => "__len__" | .repr => "__repr__" | .bool => "__bool__"
def Own1.bltn : Own1 → Str
  | .len => "len" | .repr => "repr" | .bool => "bool"
/-- what such a def may give -/
def Own1.okD : Own1 → D → Bool
  | .len, .int i => decide (0 ≤ i ∧ i < 2 ^ 62)
  | .repr, .str _ => true
  | .bool, .bl _ => true
  | _, _ => false
end EG
namespace EG
open PySem PySem.Spec PyProof.Rows L2
section
variable {X : Cx} {k : Nat} {C f : Addr} {fd : FuncData} {ps : List Str} {sp : Sp}
def rOwn1 (C : Addr) (sp : Sp) (ok : V → Prop) : List V → Hp → VK → Prop := fun xs H Q => ∃ a dx fs, xs = [.ref a] ∧ H a = some (.ins C dx fs) ∧ sp [.ref a] H (fun v H' => ok v ∧ Q v H') E0
theorem call_ownLen (F : FnOk X.prog X.w X.K X.mg X.base (L2.CX X.prog X.w) k f fd ps sp) (hr : Room (k + 1) X.A) (hs : PySem.W.findIn X.K (.ref C) "__len__" = some (some (.ref f))) (hf : PySem.W.isFn X.K (.ref f) = true) (hb : Binds X.K fd ps []) :
    CallR X (.builtin "len") (rOwn1 C sp fun v => ∃ i : Int, v = .int i ∧ 0 ≤ i ∧ i < 2 ^ 63) := by
  intro pins s σ H xs us Q I r h
  obtain ⟨a, dx, fs, rfl, ea, hq⟩ := h
  obtain ⟨u, rfl, ru⟩ := vals1 r
  cases ru
  obtain ⟨mA, J, _⟩ := ins_get I.hok ea
  obtain ⟨od, J, _⟩ := J.look
  obtain ⟨m, hF⟩ := I.fr
  refine PySem.W.len_K hF I.ok.mod.kin J hs hf ?_
  refine wpAny_mono (run_in1 (us := [.ref a]) (vs := [.ref a]) F hr.in1 I.env0.in1 hb I (.cons rfl .nil) hq) (fun r s' z => ?_) fun _ _ x => x
  obtain ⟨w, H', I', rv, ⟨i, rfl, h0, h1⟩, q⟩ := z
  obtain ⟨t, rfl⟩ := rv
  exact ⟨⟨h0, h1⟩, .int i, H', I'.tok _, ⟨_, rfl⟩, q⟩
theorem call_ownRepr (F : FnOk X.prog X.w X.K X.mg X.base (L2.CX X.prog X.w) k f fd ps sp) (hr : Room (k + 1) X.A) (hs : PySem.W.findIn X.K (.ref C) "__repr__" = some (some (.ref f))) (hf : PySem.W.isFn X.K (.ref f) = true) (hb : Binds X.K fd ps []) :
    CallR X (.builtin "repr") (rOwn1 C sp fun v => ∃ i : Str, v = .str i) := by
  intro pins s σ H xs us Q I r h
  obtain ⟨a, dx, fs, rfl, ea, hq⟩ := h
  obtain ⟨u, rfl, ru⟩ := vals1 r
  cases ru
  obtain ⟨mA, J, _⟩ := ins_get I.hok ea
  obtain ⟨od, J, _⟩ := J.look
  obtain ⟨m, hF⟩ := I.fr
  refine PySem.W.repr_K hr.in1.units0 hF I.ok.mod.kin J hs hf ?_
  refine wpAny_mono (run_in1 (us := [.ref a]) (vs := [.ref a]) F hr.in1 I.env0.in1 hb I (.cons rfl .nil) hq) (fun r s' z => ?_) fun _ _ x => x
  obtain ⟨w, H', I', rv, ⟨i, rfl⟩, q⟩ := z
  obtain ⟨t, rfl⟩ := rv
  exact ⟨.str i, H', I', ⟨_, rfl⟩, q⟩
theorem tru_own {A : Around} {pins : List (Addr × Obj)} {σ : L2.St} {H : Hp} {s : Shared} {a dx : Addr} {fs : List (Str × V)} {Q : Bool → Hp → Prop} {E : Value → Shared → Prop} {R : Bool → Shared → Prop} (F : FnOk X.prog X.w X.K X.mg X.base (L2.CX X.prog X.w) k f fd ps sp) (hr : Room k A) (e0 : Env0 X.prog X.w X.K X.mg X.base A X.stack s H)
    (hs : PySem.W.findIn X.K (.ref C) "__bool__" = some (some (.ref f))) (hf : PySem.W.isFn X.K (.ref f) = true) (hb : Binds X.K fd ps []) (I : Inv X pins σ H s) (ea : H a = some (.ins C dx fs))
    (hq : sp [.ref a] H (fun v H' => ∃ b, v = .bl b ∧ Q b H') E0) (hR : ∀ b H' s', Inv X pins σ H' s' → Q b H' → R b s') : wpAny (model X.prog X.w) A (truthy (.ref a)) R E s := by
  obtain ⟨mA, J, _⟩ := ins_get I.hok ea
  obtain ⟨od, J, _⟩ := J.look
  obtain ⟨m, hF⟩ := I.fr
  refine PySem.W.truthy_K hF I.ok.mod.kin J hs hf ?_
  refine wpAny_mono (run_in1 (us := [.ref a]) (vs := [.ref a]) F hr e0 hb I (.cons rfl .nil) hq) (fun r s' z => ?_) fun _ _ x => x
  obtain ⟨w, H', I', rv, b, rfl, q⟩ := z
  cases rv
  exact hR b H' s' I' q
end
end EG
namespace EG
open PySem L2
theorem meth_formK {env : PySem.Env} {pos : Pos} {es : List Expr} {kws : List Keyword} (hst : (backTo pos (starEach es env)).any (·.1) = false) (hk : (backToKw pos (keywordEach kws env)).all (·.1.isSome) = true) (hl : es.length + kws.length + 1 < 30) :
    methodCallForm (es.length + kws.length) (backTo pos (starEach es env)) (backToKw pos (keywordEach kws env)) = true := by
  have ha : (backTo pos (starEach es env)).all (fun x => !x.1) = true := by
    rw [List.all_eq_true]
    rw [List.any_eq_false] at hst
    intro x hx
    have := hst x hx
    cases q : x.1 <;> simp_all
  unfold methodCallForm
  rw [ha, hk]
  simp only [Bool.true_and, decide_eq_true_eq]
  split <;> omega
section
variable {W : Wd} {S S' S1 : Ws} {H H' H1 : Hp} {σ : St} {env : Env} {μ : Mu} {Wx : WX} {X : Cx} {k : Nat}
/-- a built-in's call over strict values -/
def CallSpecS (W : Wd) (r : List V → Hp → VK → Prop) (op : List D → EM D) : Prop := ∀ (vs : List V) (ds : List D) (S : Ws) (H : Hp) (μ : Mu) (res : Out D × Mu) (σ : St) (Wx : WX) (Q : VK), Sg W S H μ → RepVs W S H vs ds → op ds μ = some res → KG W S H σ Wx (okV W Q) res → r vs H Q
theorem tCBs_of {r : List V → Hp → VK → Prop} {op : List D → EM D} {g : Env → EM (List D)} (hs : CallSpecS W r op) {H : Hp} {Q : VK} (h : tEv W Wx (fCB op g) σ H Q) : tCB r (tEvs W Wx g) σ H Q := by
  obtain ⟨S, μ, env, res, hS, hE, hf, hk⟩ := h
  exact tG.bind hS hE hf hk fun ds μ1 S1 H1 l1 g1 e1 hf1 hk1 vs rvs => hs vs ds S1 H1 μ1 res σ Wx Q g1 rvs hf1 hk1
theorem ev_callBs {id : String} {x : Str} {p pos : Pos} {e : Expr} {es : List Expr} {r : List V → Hp → VK → Prop} {op : List D → EM D} {g : Env → EM (List D)} (hc : CallR X (.builtin id) r) (hs : CallSpecS W r op) (hg : Gl X x) (hm : X.mg x = none) (hv : bootBuiltins x = some (.builtin id))
    (ha : PA X (e :: es) (tEvs W Wx g)) (hn : x ≠ "__name__") (hdb : (x == ("__debug__" : Str)) = false) (he : starEach (e :: es) X.env = (false, eval e X.env) :: starEach es X.env) (hpl : (backTo pos (starEach es X.env)).any (·.1) = false) :
    PE X (.Call (.Name x p) (e :: es) [] pos) (tEv W Wx (fCB op g)) := PE.imp (pe_callB hc hg hm hv ha hn hdb he hpl) fun σ H Q h => tCBs_of hs h
theorem ev_callTys {ty : String} {x : Str} {p pos : Pos} {e : Expr} {es : List Expr} {r : List V → Hp → VK → Prop} {op : List D → EM D} {g : Env → EM (List D)} (hc : CallR X (.type ty) r) (hs : CallSpecS W r op) (hg : Gl X x) (hm : X.mg x = none) (hv : bootBuiltins x = some (.type ty))
    (ha : PA X (e :: es) (tEvs W Wx g)) (hn : x ≠ "__name__") (hdb : (x == ("__debug__" : Str)) = false) (he : starEach (e :: es) X.env = (false, eval e X.env) :: starEach es X.env) (hpl : (backTo pos (starEach es X.env)).any (·.1) = false) :
    PE X (.Call (.Name x p) (e :: es) [] pos) (tEv W Wx (fCB op g)) := PE.imp (pe_callTy hc hg hm hv ha hn hdb he hpl) fun σ H Q h => tCBs_of hs h
/-! len(o), repr(o) by own defs -/
def own1D (c : Nat) (o : Own1) (F : Fn) : List D → EM D
  | [d] => fun μ => match objD d μ with
    | some (c', _) => (match c' == c with
      | true => (match F [d] μ with
        | some (.ok v, μ') => (match o.okD v with
          | true => some (.ok v, μ')
          | false => none)
        | _ => none)
      | false => none)
    | none => none
  | _ => failE
def Own1.okV : Own1 → V → Prop
  | .len, v => ∃ i : Int, v = .int i ∧ 0 ≤ i ∧ i < 2 ^ 63
  | .repr, v => ∃ i : Str, v = .str i
  | .bool, v => ∃ b : Bool, v = .bl b
theorem okD_rep {o : Own1} {d : D} {v : V} (h : RepV W S H v d) (e : o.okD d = true) : o.okV v := by
  cases o <;> cases d <;> first
    | (cases e; done)
    | (cases h; exact ⟨_, rfl⟩)
    | (cases h; have e := of_decide_eq_true e; exact ⟨_, rfl, e.1, by omega⟩)
theorem cs_own1 {c : Nat} {o : Own1} {F : Fn} : CallSpecS W (rOwn1 (W.ca c) (spF W 1 F) o.okV) (own1D c o F) := by
  intro vs ds S H μ res σ Wx Q hS rvs hf hk
  unfold own1D at hf
  split at hf
  · rename_i d
    cases rvs with
    | cons rv t =>
      cases t
      cases q : objD d μ with
      | none => rw [q] at hf; cases hf
      | some pr =>
        obtain ⟨c', fs⟩ := pr
        rw [q] at hf
        obtain ⟨a, dx, vs, rfl, h1, h2⟩ := objD_rep hS (.inl rv) q
        dsimp only at hf
        split at hf
        · rename_i hc
          cases beq_iff_eq.mp hc
          split at hf
          · rename_i w μ' hF
            split at hf
            · rename_i hok
              cases hf
              exact ⟨a, dx, vs, rfl, h1, rfl, S, μ, [d], _, hS, .cons rv .nil, hF, fun S' H' v' l g' rv' => ⟨okD_rep rv' hok, hk S' H' l g' v' rv'⟩⟩
            · cases hf
          · cases hf
        · cases hf
  · cases hf
theorem ev_ownLR (hK : X.K = W.K) {c : Nat} {o : Own1} (ho : o ≠ .bool) {F : Fn} {f : Addr} {fd : FuncData} {ps : List Str} {a : Expr} {p pos : Pos} {fa : Env → EM (List D)} (hg : Gl X o.bltn) (hm : X.mg o.bltn = none)
    (G : FnOk X.prog X.w X.K X.mg X.base (L2.CX X.prog X.w) k f fd ps (spF W 1 F)) (hr : Room (k + 1) X.A) (hs : PySem.W.findIn W.K (.ref (W.ca c)) o.dunder = some (some (.ref f))) (hf : PySem.W.isFn W.K (.ref f) = true) (hb : Binds X.K fd ps [])
    (ha : PA X [a] (tEvs W Wx fa)) (he : starEach [a] X.env = (false, eval a X.env) :: starEach [] X.env) : PE X (.Call (.Name o.bltn p) [a] [] pos) (tEv W Wx (fCB (own1D c o F) fa)) := by
  cases o with
  | len => exact ev_callBs (call_ownLen (C := W.ca c) G hr (by rw [hK]; exact hs) (by rw [hK]; exact hf) hb) (cs_own1 (o := .len)) hg hm PySem.boot_len ha (by decide) (by decide) he rfl
  | repr => exact ev_callBs (call_ownRepr (C := W.ca c) G hr (by rw [hK]; exact hs) (by rw [hK]; exact hf) hb) (cs_own1 (o := .repr)) hg hm PyProof.Rows.boot_repr ha (by decide) (by decide) he rfl
  | bool => exact absurd rfl ho
/-- o as a test, by its own __bool__ -/
def fOwnT (c : Nat) (F : Fn) (fa : Env → EM D) : Env → EM Bool := fT (fun env => bindE (fa env) fun d => own1D c .bool F [d])
theorem et_ownT (hK : X.K = W.K) {c : Nat} {F : Fn} {f : Addr} {fd : FuncData} {ps : List Str} {a : Expr} {fa : Env → EM D}
    (G : FnOk X.prog X.w X.K X.mg X.base (L2.CX X.prog X.w) k f fd ps (spF W 1 F)) (hr : Room k X.A) (hs : PySem.W.findIn W.K (.ref (W.ca c)) "__bool__" = some (some (.ref f))) (hf : PySem.W.isFn W.K (.ref f) = true) (hb : Binds X.K fd ps [])
    (ha : PE X a (tEv W Wx fa)) (he : ∀ whole, isTrue a X.env whole = (do let v ← whole; standAt a.pos; holding [v] (truthy v))) : PT X a (tEvT W Wx (fOwnT c F fa)) := by
  have hp : PT X a (fun σ H Q => tEv W Wx fa σ H fun x H1 => rOwn1 (W.ca c) (spF W 1 F) (fun v => ∃ b, v = .bl b) [x] H1 fun v H' => ∀ b, v = .bl b → Q b H') := by
    refine ⟨fun pins s σ H Q I h => ?_⟩
    refine PyProof.Rows.isTrue_plain (thn (ha.run pins s σ H _ I h) fun v s1 ⟨x, H1, I1, r1, a, dx, fs, ex, ea, q1⟩ => ?_) (he _)
    cases ex
    cases r1
    exact tru_own G hr I1.env0 (by rw [hK]; exact hs) (by rw [hK]; exact hf) hb I1 ea (Q := Q) (by
      obtain ⟨hl, S, μ, ds, res, a1, a2, a3, a4⟩ := q1
      refine ⟨hl, S, μ, ds, res, a1, a2, a3, ?_⟩
      obtain ⟨oo, μ'⟩ := res
      cases oo with
      | ok d => exact fun S' H' v l g rv => let ⟨⟨b, hb⟩, z⟩ := a4 S' H' v l g rv; ⟨b, hb, z b hb⟩
      | exc c fs => exact a4) fun b H' s' I' q => ⟨H', I', q⟩
  refine PT.imp hp fun σ H Q h => ?_
  obtain ⟨S, μ, env, res, hS, hE, hf, hk⟩ := h
  unfold fOwnT fT at hf
  obtain ⟨S, μ, env, res, hS, hE, hf, hk⟩ := tB_of (f := fun env => bindE (fa env) fun d => own1D c .bool F [d]) ⟨S, μ, env, res, hS, hE, hf, hk⟩
  refine tG.bind hS hE hf hk fun d μ1 S1 H1 l1 g1 e1 hf1 hk1 v rv => ?_
  have z := cs_own1 (o := .bool) [v] [d] S1 H1 μ1 res σ Wx _ g1 (.cons rv .nil) hf1 hk1
  obtain ⟨a, dx, fs, e1, e2, hl, S, μ, ds, res, a1, a2, a3, a4⟩ := z
  refine ⟨a, dx, fs, e1, e2, hl, S, μ, ds, res, a1, a2, a3, ?_⟩
  obtain ⟨oo, μ'⟩ := res
  cases oo with
  | ok d => exact fun S' H' v l g rv => let ⟨h1, b, h2, h3⟩ := a4 S' H' v l g rv; ⟨h1, fun b' e => by rw [h2] at e; cases e; exact h3⟩
  | exc c fs => exact a4
/-! f-strings -/
def fmtD : D → EM Str
  | .str s => pureE s
  | .int i => guardE (decide (i.natAbs.log2 < 1920)) (pureE (toString i : String))
  | _ => failE
def fFn : Env → Str → EM Str := fun _ acc => pureE acc
def fFc (f : Env → EM D) (g : Env → Str → EM Str) : Env → Str → EM Str := fun env acc => bindE (f env) fun d => bindE (fmtD d) fun y => guardE (decide ((acc ++ y).length ≤ big)) (g env (acc ++ y))
def fFstr (g : Env → Str → EM Str) : Env → EM D := fun env => bindE (g env Str.empty) fun out => guardE (decide (out.length ≤ big)) (pureE (.str out))
structure PFs (W : Wd) (Wx : WX) (X : Cx) (es : List Expr) (g : Env → Str → EM Str) : Prop where
  ok : ∃ ts, PJ X es ts ∧ ∀ acc σ H Q, tG W Wx (fun env => g env acc) (fun out _ H' => Q out H') σ H → tJs ts acc σ H Q
theorem pf_nil : PFs W Wx X [] fFn := ⟨[], .nil, fun acc σ H Q ⟨S, μ, env, res, hS, hE, hf, hk⟩ => by
  cases hf
  exact hk.now hS⟩
theorem fmtD_some {d : D} {r : Out Str × Mu} (h : fmtD d μ = some r) : (∃ y, d = .str y ∧ r = (.ok y, μ)) ∨ ∃ i : Int, d = .int i ∧ i.natAbs.log2 < 1920 ∧ r = (.ok (toString i : String), μ) := by
  cases d with
  | str y => cases h; exact .inl ⟨y, rfl, rfl⟩
  | int i =>
    obtain ⟨h1, h2⟩ := guardE_some h
    cases h2
    exact .inr ⟨i, rfl, of_decide_eq_true h1, rfl⟩
  | _ => cases h
theorem pf_fmt {e : Expr} {es : List Expr} {pos : Pos} {f : Env → EM D} {g : Env → Str → EM Str} (he : PE X e (tEvB W Wx f)) (hr : PFs W Wx X es g) : PFs W Wx X (.FormattedValue e (-1) none pos :: es) (fFc f g) := by
  obtain ⟨ts, h1, h2⟩ := hr.ok
  refine ⟨_, .cons (pe_fmt he) h1, fun acc σ H Q ⟨S, μ, env, res, hS, hE, hf, hk⟩ => ?_⟩
  refine tG.bind hS hE hf hk fun d μ1 S1 H1 l1 g1 e1 hf1 hk1 v rv => ?_
  unfold bindE at hf1
  cases q : fmtD d μ1 with
  | none => rw [q] at hf1; cases hf1
  | some r =>
    rcases fmtD_some q with ⟨y, rfl, rfl⟩ | ⟨i, rfl, hi, rfl⟩
    · rw [q] at hf1
      obtain ⟨hl, hf1⟩ := guardE_some hf1
      obtain ⟨rfl, hy⟩ := rv.str
      exact .inl ⟨y, rfl, Nat.le_trans hy big_le, y, rfl, Nat.le_trans (of_decide_eq_true hl) big_le, h2 _ _ _ _ ⟨S1, μ1, env, res, g1, e1, hf1, hk1⟩⟩
    · rw [q] at hf1
      obtain ⟨hl, hf1⟩ := guardE_some hf1
      cases rv.int
      exact .inr ⟨i, rfl, hi, _, rfl, Nat.le_trans (of_decide_eq_true hl) big_le, h2 _ _ _ _ ⟨S1, μ1, env, res, g1, e1, hf1, hk1⟩⟩
theorem pf_con {s : Str} {j : Nat} {es : List Expr} {pos : Pos} {g : Env → Str → EM Str} (hr : PFs W Wx X es g) : PFs W Wx X (.Constant (.str s) j pos :: es) (fFc (fC (.str s)) g) := by
  obtain ⟨ts, h1, h2⟩ := hr.ok
  refine ⟨_, .cons (pe_str (x := s)) h1, fun acc σ H Q ⟨S, μ, env, res, hS, hE, hf, hk⟩ => ?_⟩
  have hf : guardE (decide ((acc ++ s).length ≤ big)) (g env (acc ++ s)) μ = some res := hf
  obtain ⟨hl, hf1⟩ := guardE_some hf
  exact ⟨s, rfl, Nat.le_trans (of_decide_eq_true hl) big_le, h2 _ _ _ _ ⟨S, μ, env, res, hS, hE, hf1, hk⟩⟩
theorem ev_fstr {e e2 : Expr} {es : List Expr} {pos : Pos} {g : Env → Str → EM Str} (h : PFs W Wx X (e :: e2 :: es) g) : PE X (.JoinedStr (e :: e2 :: es) pos) (tEv W Wx (fFstr g)) := by
  obtain ⟨ts, h1, h2⟩ := h.ok
  refine PE.imp (pe_joined h1) fun σ H Q ⟨S, μ, env, res, hS, hE, hf, hk⟩ => ?_
  refine h2 Str.empty σ H _ ?_
  refine tG.bind hS hE hf hk fun out μ1 S1 H1 l1 g1 e1 hf1 hk1 => ?_
  obtain ⟨hl, hf1⟩ := guardE_some hf1
  cases hf1
  exact hk1.now g1 _ (.str _ (of_decide_eq_true hl))
end
end EG
namespace EG
open PySem L2 PySem.Spec PyProof.Rows
theorem call_fun {K : PySem.W.Frag} : PySem.W.findIn K (.type "function") "__call__" = some (some (.builtin "function.__call__")) := by
  show PySem.fastLookup "function" "__call__" = _
  kernel_rfl
/-- a def that may be kept is one by its data too -/
theorem fnIn_of {K : PySem.W.Frag} {f : Addr} (h1 : PySem.W.isFn K (.ref f) = true) (h2 : PySem.W.keepIn K (.ref f) = true) : PySem.W.fnIn K f = true := by
  have h1 : ((K.lookup f).map (·.cls) == some (.type "function")) = true := h1
  have h2 : (match K.lookup f with
      | some ⟨_, _, .func _, _⟩ => true
      | some ⟨_, _, .cls _, _⟩ => PySem.W.specialIn K (.ref f) "__call__" == some (some (.builtin "type.__call__"))
      | _ => false) = true := h2
  unfold PySem.W.fnIn
  cases q : K.lookup f with
  | none => rw [q] at h1; cases h1
  | some o =>
    rw [q] at h1 h2
    obtain ⟨c, dd, da, x⟩ := o
    have hc : c = .type "function" := by
      have h1 : (some c == some (Value.type "function")) = true := h1
      simpa using h1
    subst hc
    cases da with
    | func fd => rfl
    | cls cd =>
      have h2 : (PySem.W.specialIn K (.ref f) "__call__" == some (some (.builtin "type.__call__"))) = true := h2
      have e : PySem.W.specialIn K (.ref f) "__call__" = some (some (.builtin "function.__call__")) := by
        have e1 : PySem.W.typeIn K (.ref f) = some (.type "function") := by
          show (K.lookup f).map (·.cls) = _
          rw [q]; rfl
        unfold PySem.W.specialIn
        rw [e1]
        exact call_fun (K := K)
      rw [e] at h2
      exact absurd h2 (by decide)
    | _ => cases h2
section
variable {X : Cx} {CX : CXT} {k : Nat} {f C : Addr} {fd : FuncData} {ps : List Str} {sp : Sp} {dvs : List V} {ds : List Value} {E : L2.St → XK} {x m : Str} {p pos apos : Pos} {e o fe : Expr} {es : List Expr} {tf : TE} {t : TA}
theorem code_fnSD {pins : List (Addr × Obj)} {σ : L2.St} {H : Hp} {s : Shared} {Q : VK} {us : List Value} {vs : List V} (F : FnOk X.prog X.w X.K X.mg X.base CX k f fd ps sp) (hr : Room k X.A) (hb : Binds X.K fd ps ds) (hd : Vals dvs ds) (hx : PassesAt CX X σ (E σ))
    (I : Inv X pins σ H s) (r : Vals vs us) (h : sp (vs ++ dvs) H Q (E σ)) : codeAny (model X.prog X.w) X.A (.call (.ref f) ⟨us, []⟩) (fun r s' => match r with | .ok (.ret v) => EP X pins σ Q v s' | .ok _ => False | .error e => X.xe e s') s := by
  have r2 : Vals (vs ++ dvs) (us ++ ds) := r.append hd
  have hl : (us ++ ds).length = ps.length := by rw [← r2.length]; exact F.len _ _ _ _ h
  refine codeAny_mono (F.run X.A X.stack s H ⟨us, []⟩ (us ++ ds) (vs ++ dvs) Q (E σ) hr I.env0 (hb s us I.kIn hl) r2 h) fun r s' hq => ?_
  cases r with
  | error e => exact hx pins H s e s' I hq
  | ok fl =>
    cases fl with
    | ret u => exact I.after hq
    | next => exact False.elim hq
    | brk => exact False.elim hq
    | cont => exact False.elim hq
/-- f(e, ..), f an instance of C, with an own __call__ -/
def tCallOS (C : Addr) (sp : Sp) (dvs : List V) (E : L2.St → XK) (tf : TE) (t : TA) : TE := fun σ H Q => tf σ H fun y H1 => ∃ a, y = V.ref a ∧ t σ H1 fun vs H2 => (∃ dx fs, H2 a = some (.ins C dx fs)) ∧ sp (V.ref a :: (vs ++ dvs)) H2 Q (E σ)
theorem pe_callOS (hf : PE X fe tf) (hm : Meth X.K C "__call__" f) (F : FnOk X.prog X.w X.K X.mg X.base CX k f fd ps sp) (hr : Room k X.A) (hb : Binds X.K fd ps ds) (hd : Vals dvs ds) (hx : ∀ σ, PassesAt CX X σ (E σ)) (ha : PA X (e :: es) t)
    (ht : eval (.Call fe (e :: es) [] pos) X.env = (do callWith pos (← eval fe X.env) [] (backTo pos (starEach (e :: es) X.env)) (backToKw pos (keywordEach [] X.env))))
    (he : starEach (e :: es) X.env = (false, eval e X.env) :: starEach es X.env) (hpl : (backTo pos (starEach es X.env)).any (·.1) = false) : PE X (.Call fe (e :: es) [] pos) (tCallOS C sp dvs E tf t) := by
  refine ⟨fun pins s σ H Q I h => ?_⟩
  refine Call_ (thn (hf.run pins s σ H _ I h) fun u s1 ⟨y, H1, I1, ry, a, ey, q⟩ => ?_) ht
  subst ey
  obtain rfl : u = Value.ref a := ry
  refine StX.callO_with (thn (ha.run pos pins s1 σ H1 _ I1 q) fun us s2 ⟨vs, H2, I2, r, hi, q2⟩ => ?_) he hpl
  obtain ⟨ox, od, J, hd1⟩ := StX.insC_at I2 (.inr hi)
  exact ⟨⟨C, ox, od, J, hd1⟩, wpAny_call (PySem.W.kco_code I2.kIn J hd1 hm.at_ hm.fn (fnIn_of hm.fn hm.kp) (code_fnSD (us := .ref a :: us) (vs := .ref a :: vs) F hr hb hd (hx σ) I2 (.cons rfl r) q2))⟩
end
section
variable {W : Wd} {S S' S1 : Ws} {H H' H1 : Hp} {σ : L2.St} {env : Env} {μ : Mu} {Wx : WX} {X : Cx} {k n c : Nat} {f : Addr} {fd : FuncData} {ps : List Str} {fe e : Expr} {es : List Expr} {pos : Pos} {F : Fn} {go : Env → EM D} {ga : Env → EM (List D)} {dds : List D} {dvs : List V} {dus : List Value}
def fCallO (c : Nat) (n : Nat) (F : Fn) (dds : List D) (go : Env → EM D) (ga : Env → EM (List D)) : Env → EM D := fun env => bindE (go env) fun d μ => match isObj c "__call__" d μ with
  | true => bindE (ga env) (fun ds μ' => match isObj c "__call__" d μ' with
    | true => guardE (decide (ds.length + dds.length + 1 = n)) (F (d :: (ds ++ dds))) μ'
    | false => none) μ
  | false => none
theorem ev_callO (hK : X.K = W.K) (he : PE X fe (tEv W Wx go)) (hm : Meth W.K (W.ca c) "__call__" f) (G : FnOk X.prog X.w X.K X.mg X.base (L2.CX X.prog X.w) k f fd ps (spF W n F)) (tk : Takes X Wx) (hr : Room k X.A) (hb : Binds X.K fd ps dus) (hd : Vals dvs dus)
    (hdd : ∀ S H, RepVs W S H dvs dds) (ha : PA X (e :: es) (tEvs W Wx ga))
    (ht : eval (.Call fe (e :: es) [] pos) X.env = (do callWith pos (← eval fe X.env) [] (backTo pos (starEach (e :: es) X.env)) (backToKw pos (keywordEach [] X.env))))
    (hst : starEach (e :: es) X.env = (false, eval e X.env) :: starEach es X.env) (hpl : (backTo pos (starEach es X.env)).any (·.1) = false) : PE X (.Call fe (e :: es) [] pos) (tEv W Wx (fCallO c n F dds go ga)) :=
  PE.imp (pe_callOS (E := fun σ cls dd H' => Wx cls dd σ H') he (by rw [hK]; exact hm) G hr hb hd (fun σ => passAt' tk σ) ha ht hst hpl) fun σ H Q ⟨S, μ, env, res, hS, hE, hf, hk⟩ => by
    refine tG.bind hS hE hf hk fun d μ1 S1 H1 l1 g1 e1 hf1 hk1 v rv => ?_
    obtain ⟨h1, hf1⟩ := isObj_match hf1
    obtain ⟨a, dx, vs, rfl, h2, h3⟩ := isObj_rep g1 (.inl rv) h1
    refine ⟨a, rfl, tG.bind g1 e1 hf1 hk1 fun ds μ2 S2 H2 l2 g2 e2 hf2 hk2 vs rvs => ?_⟩
    obtain ⟨h4, hf2⟩ := isObj_match hf2
    obtain ⟨a', dx', vs', e', h5, h6⟩ := isObj_rep g2 (.inl (rv.later l2)) h4
    cases e'
    obtain ⟨hl, hf2⟩ := guardE_some hf2
    have hl := of_decide_eq_true hl
    exact ⟨⟨dx', vs', h5⟩, spF_of g2 (by simp only [List.length_cons, List.length_append]; exact hl) (.cons (rv.later l2) (rvs.append (hdd S2 H2))) hf2 hk2⟩
end
end EG
namespace EG
open PySem L2
section
variable {W : Wd} {S S' S1 : Ws} {H H' H1 : Hp} {σ : L2.St} {env : Env} {μ : Mu} {Wx : WX} {X : Cx}
theorem rg_eq {a b : Int} {n : Nat} (h : (b - a).toNat = n) : rgV a b = ((List.range n).map fun (i : Nat) => a + (i : Int)).map V.int := by
  subst h; unfold rgV; rw [List.map_map]; rfl
theorem rangeL_eq {a : Int} {n : Nat} : rangeL a n = ((List.range n).map fun (i : Nat) => a + (i : Int)).map D.int := by
  unfold rangeL; rw [List.map_map]; rfl
def rgI1 : D → EM (List D)
  | .int j => guardE (decide (-(2 ^ 62) ≤ j ∧ j < 2 ^ 62 ∧ j.toNat ≤ big)) (pureE (rangeL 0 j.toNat))
  | _ => failE
def rgI2 : D → D → EM (List D)
  | .int i, .int j => guardE (decide (-(2 ^ 62) ≤ i ∧ i < 2 ^ 62 ∧ -(2 ^ 62) ≤ j ∧ j < 2 ^ 62 ∧ (j - i).toNat ≤ big)) (pureE (rangeL i (j - i).toNat))
  | _, _ => failE
def fRg1 (f : Env → EM D) : Env → EM (List D) := fun env => bindE (f env) rgI1
def fRg2 (f g : Env → EM D) : Env → EM (List D) := fun env => bindE (f env) fun d => bindE (g env) fun e => rgI2 d e
theorem el_rg1 {a : Expr} {p pos p2 pos2 : Pos} {f : Env → EM D} (hc : X.calm = true) (hg : Gl X "list") (hm : X.mg "list" = none) (hg2 : Gl X "range") (hm2 : X.mg "range" = none) (ha : PE X a (tEvB W Wx f)) (na : starEach [a] X.env = (false, eval a X.env) :: starEach [] X.env) (nr : starEach [.Call (.Name "range" p2) [a] [] pos2] X.env = (false, eval (.Call (.Name "range" p2) [a] [] pos2) X.env) :: starEach [] X.env) :
    PE X (.Call (.Name "list" p) [.Call (.Name "range" p2) [a] [] pos2] [] pos) (tEvL W Wx (fRg1 f)) :=
  PE.imp (pe_listRg hc hg hm (prg_1 hg2 hm2 ha na) nr) fun σ H Q ⟨S, μ, env, res, hS, hE, hf, hk⟩ => by
    refine tG.bind hS hE hf hk fun d μ1 S1 H1 l1 g1 e1 hf1 hk1 v rv => ?_
    cases d with
    | int j =>
      obtain ⟨hl, hf1⟩ := guardE_some (show guardE (decide (-(2 ^ 62) ≤ j ∧ j < 2 ^ 62 ∧ j.toNat ≤ big)) (pureE (rangeL 0 j.toNat)) μ1 = some res from hf1)
      have hl := of_decide_eq_true hl
      cases hf1
      cases rv.int
      have e0 : (j - 0).toNat = j.toNat := by rw [Int.sub_zero]
      refine ⟨j, rfl, ⟨by decide, by decide, hl.1, hl.2.1, by rw [e0]; exact hl.2.2⟩, fun q hq => ?_⟩
      rw [rangeL_eq] at hk1
      rw [rg_eq e0]
      exact okL_new g1 l1.mem hk1 hq (by rw [List.length_map, List.length_map, List.length_range]; exact hl.2.2) (reps_ints _)
    | _ => cases hf1
theorem el_rg2 {a b : Expr} {p pos p2 pos2 : Pos} {f g : Env → EM D} (hc : X.calm = true) (hg : Gl X "list") (hm : X.mg "list" = none) (hg2 : Gl X "range") (hm2 : X.mg "range" = none) (ha : PE X a (tEvB W Wx f)) (hb : PE X b (tEvB W Wx g)) (na : starEach [a, b] X.env = (false, eval a X.env) :: starEach [b] X.env)
    (nb : starEach [b] X.env = (false, eval b X.env) :: starEach [] X.env) (hp : (backTo pos2 (starEach [b] X.env)).any (·.1) = false) (nr : starEach [.Call (.Name "range" p2) [a, b] [] pos2] X.env = (false, eval (.Call (.Name "range" p2) [a, b] [] pos2) X.env) :: starEach [] X.env) :
    PE X (.Call (.Name "list" p) [.Call (.Name "range" p2) [a, b] [] pos2] [] pos) (tEvL W Wx (fRg2 f g)) :=
  PE.imp (pe_listRg hc hg hm (prg_2 hg2 hm2 ha hb na nb hp) nr) fun σ H Q ⟨S, μ, env, res, hS, hE, hf, hk⟩ => by
    refine tG.bind hS hE hf hk fun d μ1 S1 H1 l1 g1 e1 hf1 hk1 v rv => ?_
    refine tG.bind g1 e1 hf1 hk1 fun d2 μ2 S2 H2 l2 g2 e2 hf2 hk2 v2 rv2 => ?_
    have rv := rv.laterE l2
    cases d with
    | int i =>
      cases d2 with
      | int j =>
        obtain ⟨hl, hf2⟩ := guardE_some (show guardE (decide (-(2 ^ 62) ≤ i ∧ i < 2 ^ 62 ∧ -(2 ^ 62) ≤ j ∧ j < 2 ^ 62 ∧ (j - i).toNat ≤ big)) (pureE (rangeL i (j - i).toNat)) μ2 = some res from hf2)
        have hl := of_decide_eq_true hl
        cases hf2
        cases rv.int; cases rv2.int
        refine ⟨i, j, rfl, rfl, ⟨hl.1, hl.2.1, hl.2.2.1, hl.2.2.2.1, hl.2.2.2.2⟩, fun q hq => ?_⟩
        rw [rangeL_eq] at hk2
        rw [rg_eq rfl]
        exact okL_new g2 (fun a h => l2.mem a (l1.mem a h)) hk2 hq (by rw [List.length_map, List.length_map, List.length_range]; exact hl.2.2.2.2) (reps_ints _)
      | _ => cases hf2
    | _ => cases hf2
end
end EG
namespace EG
open PySem L2

/-! side conditions by the syntax -/
def notStar : Expr → Bool
  | .Starred _ _ => false
  | _ => true
theorem starEach_of {e : Expr} {es : List Expr} {env : PySem.Env} (h : notStar e = true) : starEach (e :: es) env = (false, eval e env) :: starEach es env := by
  cases e <;> first | rfl | cases h
theorem noStars {es : List Expr} {env : PySem.Env} {pos : Pos} (h : es.all notStar = true) : (backTo pos (starEach es env)).any (·.1) = false := by
  induction es with
  | nil => rfl
  | cons e es ih =>
    rw [List.all_cons, Bool.and_eq_true] at h
    rw [starEach_of h.1]
    have := ih h.2
    simp only [backTo, List.map_cons, List.any_cons, Bool.false_or] at this ⊢
    exact this
theorem assignEach_of {e : Expr} {es : List Expr} {env : PySem.Env} (h : notStar e = true) : assignEach (e :: es) env = (false, assign e env) :: assignEach es env := by
  cases e <;> first | rfl | cases h
theorem assignEach_len : ∀ {es : List Expr} {env : PySem.Env}, (assignEach es env).length = es.length
  | [], _ => rfl
  | e :: es, env => by cases e <;> simp [assignEach, assignEach_len (es := es)]
theorem assignEach_no {es : List Expr} {env : PySem.Env} (h : es.all notStar = true) : (assignEach es env).findIdx? (·.1) = none := by
  induction es with
  | nil => rfl
  | cons e es ih =>
    rw [List.all_cons, Bool.and_eq_true] at h
    rw [assignEach_of h.1]
    simp [List.findIdx?_cons, ih h.2]
def notComp : Expr → Bool
  | .ListComp .. => false
  | .SetComp .. => false
  | .DictComp .. => false
  | _ => true
theorem swaps_of {e : Expr} {t : Option Expr} {l : Nat} {env : PySem.Env} (h : notComp e = true) : swapsWith e t l env = pure false := by
  cases e <;> first | rfl | cases h
def notTuple : Expr → Bool
  | .Tuple .. => false
  | _ => true
def notTL : Expr → Bool
  | .Tuple .. => false
  | .List .. => false
  | _ => true
theorem swapped_of {t e : Expr} {env : PySem.Env} (h : (notTL t || notTuple e) = true) : swappedStores [t] e env = pure none := by
  cases t <;> cases e <;> first | rfl | simp [notTuple, notTL] at h
def notSet : Expr → Bool
  | .Set .. => false
  | _ => true
theorem folded_of {e : Expr} {env : PySem.Env} (h : notSet e = true) : ∀ x, foldedSetIterable e env x = pure x := by
  cases e <;> first | (intro x; rfl) | cases h
def notSlice : Expr → Bool
  | .Slice .. => false
  | _ => true
theorem plainIx_of {e : Expr} (h : notSlice e = true) : PlainIx e := by
  cases e <;> first | (intro o i; rfl) | cases h
/-- isTrue has no arm of its own -/
def plainT : Expr → Bool
  | .UnaryOp .Not _ _ => false
  | .BoolOp .. => false
  | .IfExp .. => false
  | .Compare .. => false
  | _ => true
theorem plainT_of {e : Expr} {env : PySem.Env} (h : plainT e = true) : ∀ whole, isTrue e env whole = (do let v ← whole; standAt e.pos; holding [v] (truthy v)) := by
  cases e <;> first
    | (intro w; rfl)
    | (cases h; done)
    | (rename_i op x p; cases op <;> first | (intro w; rfl) | cases h)
theorem pt_ifExp {X : Cx} {c a b : Expr} {pos : Pos} {tc ta tb : TT} (hc : PT X c tc) (ha : PT X a ta) (hb : PT X b tb) : PT X (.IfExp c a b pos) (fun σ H Q => tc σ H fun k H1 => if k = true then ta σ H1 Q else tb σ H1 Q) := by
  refine ⟨fun pins s σ H Q I h => ?_⟩
  refine PyProof.Rows.isTrue_IfExp (thn (hc.run pins s σ H _ I h) fun d s1 ⟨H1, I1, q1⟩ => ?_)
  cases d with
  | true => exact ha.run pins s1 σ H1 Q I1 q1
  | false => exact hb.run pins s1 σ H1 Q I1 q1

/-! the small syntax -/
inductive BOp where | add | sub | mul | div | mod | pow
  deriving DecidableEq
inductive COp where | eq | ne | lt | le | gt | ge | isN | notN | in_ | notIn
  deriving DecidableEq
inductive Blt where | len | abs | int | str | bool | all | any | sum | max | min | tuple
  deriving DecidableEq
inductive LBlt where | sorted | list
  deriving DecidableEq
mutual
inductive E where
  | v (i : Nat) | non | bl (b : Bool) | int (i : Int) | str (s : Str) | gc (i : Nat)
  | bin (o : BOp) (a b : E) | neg (a : E)
  | cmp (o : COp) (a b : E) | chain (o p : COp) (a b c : E)
  | ban (as : Es) | bor (as : Es) | nt (a : E) | ife (c a b : E)
  | call (f : Nat) (as : Es) | blt (b : Blt) (as : Es) | isi (t : Tag) (a : E) | isiT (ts : List Tag) (a : E)
  | ix (a b : E) | sl (a : E) (lo hi : Oe) | tup (as : Es)
  | lst (as : Es) | lblt (b : LBlt) (as : Es) | lsl (a : E) (lo hi : Oe) | cat (a b : E) | rep (a b : E)
  | comp (own : List (Str × Nat)) (p : Pat) (s : Sr) (c : Oe) (e : E)
  | fld (a : E) (f : Str) | prop (j : Nat) (a : E) | meth (j : Nat) (a : E) (as : Es) | make (j : Nat) (as kws : Es) | eqo (j : Nat) (a b : E)
  | nev | kc (j : Nat) (as kws : Es) | km (j : Nat) (o : E) (as kws : Es) | ks (j : Nat) (as kws : Es) | neo (j : Nat) (a b : E) | o1 (j : Nat) (a : E) | o1t (j : Nat) (a : E) | fs (as : Es)
  | lr1 (a : E) | lr2 (a b : E) | co (j : Nat) (f : E) (as : Es)
inductive Es where
  | nil | cons (e : E) (r : Es)
inductive Oe where
  | none | some (e : E)
inductive Sr where
  | seq (e : E) | own (e : E) | rng1 (a : E) | rng2 (a b : E) | str (e : E) | enum (a : E) | zip (a b : E)
end
def Es.len : Es → Nat
  | .nil => 0
  | .cons _ r => r.len + 1

/-- what the text's own names stand for -/
structure GFn where
  name : Str
  n : Nat
  F : Fn
  lvl : Nat
  dds : List D
structure GC where
  name : Str
  d : D
/-- a method, a property's getter, an own __eq__: the class, the name, the def -/
structure GM where
  cls : Nat
  name : Str
  n : Nat
  F : Fn
  lvl : Nat
  dds : List D
/-- C(..): np values by place, keywords ks -/
structure GMk where
  name : Str
  cls : Nat
  fz : Bool
  np : Nat
  ks : List Str
  n : Nat
  F : Fn
  arr : List D → List D → List D
  lvl : Nat
/-- a call with keywords: of a def (name), of a method (cls, name), of a static method (cname, name) -/
structure GK where
  cname : Str
  cls : Nat
  name : Str
  np : Nat
  ks : List Str
  n : Nat
  F : Fn
  arr : List D → List D → List D
  lvl : Nat
structure GO where
  cls : Nat
  k : Own1
  F : Fn
  lvl : Nat
structure Gam where
  fns : List GFn
  consts : List GC
  clss : List (Str × Nat)
  frees : List Str
  isi : Isi
  flds : List (Nat × Str) := []
  meths : List GM := []
  props : List GM := []
  makes : List GMk := []
  eqs : List GM := []
  kcs : List GK := []
  kms : List GK := []
  kss : List GK := []
  o1s : List GO := []

def bopF : BOp → D → D → EM D
  | .add => addD | .sub => subD | .mul => mulD | .div => divD | .mod => modD | .pow => powD
def bopO : BOp → Operator
  | .add => .Add | .sub => .Sub | .mul => .Mult | .div => .FloorDiv | .mod => .Mod | .pow => .Pow
def copF : COp → D → D → EM D
  | .eq => eqDD | .ne => neDD | .lt => cmpI fun i j => decide (i < j) | .le => cmpI fun i j => decide (i ≤ j) | .gt => cmpI fun i j => decide (j < i) | .ge => cmpI fun i j => decide (j ≤ i)
  | .isN => isND | .notN => notND | .in_ => inD | .notIn => notInD
def copO : COp → CmpOp
  | .eq => .Eq | .ne => .NotEq | .lt => .Lt | .le => .LtE | .gt => .Gt | .ge => .GtE | .isN => .Is | .notN => .IsNot | .in_ => .In | .notIn => .NotIn
def bltF : Blt → List D → EM D
  | .len => lenD | .abs => absD | .int => intD | .str => strD | .bool => boolD | .all => allD | .any => anyD | .sum => sumD | .max => maxD | .min => minD | .tuple => tupleD
def bltN : Blt → Str
  | .len => "len" | .abs => "abs" | .int => "int" | .str => "str" | .bool => "bool" | .all => "all" | .any => "any" | .sum => "sum" | .max => "max" | .min => "min" | .tuple => "tuple"
def lbltF : LBlt → List D → EM (List D)
  | .sorted => sortedD | .list => listD
def lbltN : LBlt → Str
  | .sorted => "sorted" | .list => "list"
def negD : D → EM D
  | .int i => pureE (.int (-i))
  | _ => failE
def fNeg (f : Env → EM D) : Env → EM D := fun env => bindE (f env) negD

/-- the readings of a piece: as data, borrowed, as a new list, as a test -/
structure Bn where
  e : Env → EM D
  b : Env → EM D
  l : Env → EM (List D)
  t : Env → EM Bool
def failL : Env → EM (List D) := fun _ => failE
def mkE (f : Env → EM D) : Bn := ⟨f, f, failL, fTru f⟩
def mkL (g : Env → EM (List D)) : Bn := ⟨fD g, fD g, g, fTru (fD g)⟩
structure Bs where
  s : Env → EM (List D)
  b : Env → EM (List D)
  an : Env → EM D
  anT : Env → EM Bool
  or : Env → EM D
  orT : Env → EM Bool
def fFail : Env → EM D := fun _ => failE
def fFailT : Env → EM Bool := fun _ => failE
noncomputable section
mutual
def ev (Γ : Gam) : E → Bn
  | .v i => ⟨fV i, fVB i, failL, fTru (fVB i)⟩
  | .non => mkE (fC .non)
  | .bl b => mkE (fC (.bl b))
  | .int i => mkE (fC (.int i))
  | .str s => mkE (fC (.str s))
  | .gc i => match Γ.consts[i]? with
    | some c => mkE (fC c.d)
    | none => mkE fFail
  | .bin o a b => mkE (fOp2 (bopF o) (ev Γ a).b (ev Γ b).b)
  | .neg a => mkE (fNeg (ev Γ a).b)
  | .cmp o a b => ⟨fOp2 (copF o) (ev Γ a).b (ev Γ b).b, fOp2 (copF o) (ev Γ a).b (ev Γ b).b, failL, fT (fOp2 (copF o) (ev Γ a).b (ev Γ b).b)⟩
  | .chain o p a b c => ⟨fChain (copF o) (copF p) (ev Γ a).b (ev Γ b).b (ev Γ c).b, fChain (copF o) (copF p) (ev Γ a).b (ev Γ b).b (ev Γ c).b, failL, fT (fChain (copF o) (copF p) (ev Γ a).b (ev Γ b).b (ev Γ c).b)⟩
  | .ban as => ⟨(evs Γ as).an, (evs Γ as).an, failL, (evs Γ as).anT⟩
  | .bor as => ⟨(evs Γ as).or, (evs Γ as).or, failL, (evs Γ as).orT⟩
  | .nt a => ⟨fNotV (ev Γ a).e, fNotV (ev Γ a).e, failL, fNotT (ev Γ a).t⟩
  | .ife c a b => ⟨fIf (ev Γ c).t (ev Γ a).e (ev Γ b).e, fIf (ev Γ c).t (ev Γ a).e (ev Γ b).e, failL, fun env => bindE ((ev Γ c).t env) fun k => match k with
    | true => (ev Γ a).t env
    | false => (ev Γ b).t env⟩
  | .call f as => match Γ.fns[f]? with
    | some g => mkE (fCall g.n g.F g.dds (evs Γ as).s)
    | none => mkE fFail
  | .blt b as => mkE (fCB (bltF b) (evs Γ as).b)
  | .isi t a => mkE (fIsi Γ.isi [t] (ev Γ a).b)
  | .isiT ts a => mkE (fIsi Γ.isi ts (ev Γ a).b)
  | .ix a b => mkE (fOp2 ixD (ev Γ a).b (ev Γ b).b)
  | .sl a lo hi => mkE (fSl slD (ev Γ a).b (evo Γ lo).1 (evo Γ hi).1)
  | .tup as => mkE (fTup (evs Γ as).s)
  | .lst as => mkL (fLst (evs Γ as).s)
  | .lblt b as => mkL (fCB (lbltF b) (evs Γ as).b)
  | .lsl a lo hi => mkL (fSl slL (ev Γ a).b (evo Γ lo).1 (evo Γ hi).1)
  | .cat a b => mkL (fOp2L catD (ev Γ a).b (ev Γ b).b)
  | .rep a b => mkL (fOp2L repD (ev Γ a).b (ev Γ b).b)
  | .comp own p s c e => mkL (fComp (own.map (·.2)) p (evr Γ s) (evo Γ c).2 (ev Γ e).e)
  | .fld a f => mkE (fGet Γ.flds f (ev Γ a).b)
  | .prop j a => match Γ.props[j]? with
    | some g => mkE (fProp g.cls g.n g.F g.dds (ev Γ a).e)
    | none => mkE fFail
  | .meth j a as => match Γ.meths[j]? with
    | some g => mkE (fMeth g.cls g.name g.n g.F g.dds (ev Γ a).e (evs Γ as).s)
    | none => mkE fFail
  | .make j as kws => match Γ.makes[j]? with
    | some g => mkE (fMk g.fz g.cls g.np g.ks.length g.n g.F g.arr (evs Γ as).s (evs Γ kws).s)
    | none => mkE fFail
  | .eqo j a b => match Γ.eqs[j]? with
    | some g => ⟨fOwn g.cls g.F Γ.isi (ev Γ a).e (ev Γ b).e, fOwn g.cls g.F Γ.isi (ev Γ a).e (ev Γ b).e, failL, fT (fOwn g.cls g.F Γ.isi (ev Γ a).e (ev Γ b).e)⟩
    | none => mkE fFail
  | .nev => mkE fFail
  | .lr1 a => mkL (fRg1 (ev Γ a).b)
  | .lr2 a b => mkL (fRg2 (ev Γ a).b (ev Γ b).b)
  | .co j f as => match Γ.meths[j]? with
    | some g => mkE (fCallO g.cls g.n g.F g.dds (ev Γ f).e (evs Γ as).s)
    | none => mkE fFail
  | .kc j as kws => match Γ.kcs[j]? with
    | some g => mkE (fKD g.np g.ks.length g.n g.F g.arr [] (evs Γ as).s (evs Γ kws).s)
    | none => mkE fFail
  | .km j o as kws => match Γ.kms[j]? with
    | some g => mkE (fMethK g.cls g.name g.np g.ks.length g.n g.F g.arr (ev Γ o).e (evs Γ as).s (evs Γ kws).s)
    | none => mkE fFail
  | .ks j as kws => match Γ.kss[j]? with
    | some g => mkE (fKD g.np g.ks.length g.n g.F g.arr [] (evs Γ as).s (evs Γ kws).s)
    | none => mkE fFail
  | .neo j a b => match Γ.eqs[j]? with
    | some g => ⟨fOwnNe g.cls g.F Γ.isi (ev Γ a).e (ev Γ b).e, fOwnNe g.cls g.F Γ.isi (ev Γ a).e (ev Γ b).e, failL, fT (fOwnNe g.cls g.F Γ.isi (ev Γ a).e (ev Γ b).e)⟩
    | none => mkE fFail
  | .o1 j a => match Γ.o1s[j]? with
    | some g => mkE (fCB (own1D g.cls g.k g.F) (fCons (ev Γ a).e fNil))
    | none => mkE fFail
  | .o1t j a => match Γ.o1s[j]? with
    | some g => ⟨fFail, fFail, failL, fOwnT g.cls g.F (ev Γ a).e⟩
    | none => ⟨fFail, fFail, failL, fFailT⟩
  | .fs as => mkE (fFstr (evf Γ as))
def evf (Γ : Gam) : Es → Env → Str → EM Str
  | .nil => fFn
  | .cons e r => fFc (ev Γ e).b (evf Γ r)
def evs (Γ : Gam) : Es → Bs
  | .nil => ⟨fNil, fNil, fFail, fFailT, fFail, fFailT⟩
  | .cons e r => ⟨fCons (ev Γ e).e (evs Γ r).s, fCons (ev Γ e).b (evs Γ r).b,
      (match r with | .nil => (ev Γ e).e | .cons _ _ => fAndV (ev Γ e).e (evs Γ r).an), (match r with | .nil => (ev Γ e).t | .cons _ _ => fAndT (ev Γ e).t (evs Γ r).anT),
      (match r with | .nil => (ev Γ e).e | .cons _ _ => fOrV (ev Γ e).e (evs Γ r).or), (match r with | .nil => (ev Γ e).t | .cons _ _ => fOrT (ev Γ e).t (evs Γ r).orT)⟩
def evo (Γ : Gam) : Oe → (Env → EM (Option Int)) × (Env → EM Bool)
  | .none => (fNoP, fYes)
  | .some e => (fP (ev Γ e).b, (ev Γ e).t)
def evr (Γ : Gam) : Sr → Env → EM (List D)
  | .seq e => fItems (ev Γ e).e
  | .own e => fItems (ev Γ e).b
  | .rng1 a => fCB rangeD1 (fCons (ev Γ a).b fNil)
  | .rng2 a b => fCB rangeD2 (fCons (ev Γ a).b (fCons (ev Γ b).b fNil))
  | .str e => fSigns (ev Γ e).b
  | .enum a => fCB enumD (fCons (ev Γ a).e fNil)
  | .zip a b => fCB zipD (fCons (ev Γ a).e (fCons (ev Γ b).e fNil))
end
end

def kwName : Keyword → Option Str
  | ⟨n, _, _⟩ => n
/-! the check that a term reads a piece of the text -/
def seen (sc : Scope) (x : Str) : Bool := match sc.names.lookup x with
  | some .local => true
  | some .cell => true
  | some .free => true
  | _ => false
def isLoc (sc : Scope) (x : Str) : Bool := match sc.names.lookup x with
  | some .local => true
  | some .cell => true
  | _ => false
def isGl (sc : Scope) (x : Str) : Bool := decide (sc.names.lookup x = some .globalImplicit) && !(x == ("__debug__" : Str)) && !(x == ("__name__" : Str))
def chkV (N : List Str) (sc : Scope) (i : Nat) (x : Str) : Bool := decide (N[i]? = some x) && seen sc x && !(x == ("__debug__" : Str)) && !(x == ("__classdict__" : Str))
def chkFree (Γ : Gam) (sc : Scope) (x : Str) : Bool := isGl sc x && Γ.frees.contains x
mutual
def chkP (N : List Str) (sc : Scope) : Pat → Expr → Bool
  | .nm i, e => match e with
    | .Name x _ => decide (N[i]? = some x) && isLoc sc x
    | _ => false
  | .tp ps, e => match e with
    | .Tuple es _ _ => chkPs N sc ps es && es.all notStar
    | _ => false
def chkPs (N : List Str) (sc : Scope) : Pats → List Expr → Bool
  | .nil, es => es.isEmpty
  | .cons p r, es => match es with
    | [] => false
    | e :: es => chkP N sc p e && chkPs N sc r es && notStar e
end
def chkTag (Γ : Gam) (sc : Scope) (t : Tag) (e : Expr) : Bool := match e with
  | .Name x _ => match t with
    | .ty n => decide (x = Str.ofString n) && chkFree Γ sc x && ["int", "bool", "str", "list", "tuple"].contains n
    | .cls c => isGl sc x && decide ((x, c) ∈ Γ.clss)
  | _ => false
def chkTags (Γ : Gam) (sc : Scope) : List Tag → List Expr → Bool
  | [], es => es.isEmpty
  | t :: ts, es => match es with
    | [] => false
    | e :: es => chkTag Γ sc t e && chkTags Γ sc ts es && notStar e
mutual
def chk (Γ : Gam) (N : List Str) (sc : Scope) : E → Expr → Bool
  | .v i, e => match e with
    | .Name x _ => chkV N sc i x
    | _ => false
  | .non, e => match e with
    | .Constant .none _ _ => true
    | _ => false
  | .bl b, e => match e with
    | .Constant (.bool c) _ _ => b == c
    | _ => false
  | .int i, e => match e with
    | .Constant (.int j) _ _ => i == j
    | _ => false
  | .str s, e => match e with
    | .Constant (.str t) _ _ => decide (s = t) && decide (s.length ≤ big)
    | _ => false
  | .gc i, e => match e with
    | .Name x _ => isGl sc x && (match Γ.consts[i]? with
      | some c => decide (c.name = x)
      | none => false)
    | _ => false
  | .bin o a b, e => match e with
    | .BinOp x op y _ => decide (op = bopO o) && chk Γ N sc a x && chk Γ N sc b y
    | _ => false
  | .neg a, e => match e with
    | .UnaryOp .USub x _ => chk Γ N sc a x
    | _ => false
  | .cmp o a b, e => match e with
    | .Compare x [op] [y] _ => decide (op = copO o) && chk Γ N sc a x && chk Γ N sc b y && !(behindInMarks op y)
    | _ => false
  | .chain o p a b c, e => match e with
    | .Compare x [op, oq] [y, z] _ => decide (op = copO o) && decide (oq = copO p) && chk Γ N sc a x && chk Γ N sc b y && chk Γ N sc c z && !(lastMarks [op, oq] [y, z])
    | _ => false
  | .ban as, e => match e with
    | .BoolOp .And (x :: y :: r) _ => chks Γ N sc as (x :: y :: r)
    | _ => false
  | .bor as, e => match e with
    | .BoolOp .Or (x :: y :: r) _ => chks Γ N sc as (x :: y :: r)
    | _ => false
  | .nt a, e => match e with
    | .UnaryOp .Not x _ => chk Γ N sc a x
    | _ => false
  | .ife c a b, e => match e with
    | .IfExp x y z _ => chk Γ N sc c x && chk Γ N sc a y && chk Γ N sc b z
    | _ => false
  | .call f as, e => match e with
    | .Call (.Name x _) (y :: r) [] _ => isGl sc x && chks Γ N sc as (y :: r) && (match Γ.fns[f]? with
      | some g => decide (g.name = x)
      | none => false)
    | _ => false
  | .blt b as, e => match e with
    | .Call (.Name x _) (y :: r) [] _ => decide (x = bltN b) && chkFree Γ sc x && chks Γ N sc as (y :: r)
    | _ => false
  | .isi t a, e => match e with
    | .Call (.Name x _) [y, z] [] _ => decide (x = "isinstance") && chkFree Γ sc x && chk Γ N sc a y && chkTag Γ sc t z && notStar y
    | _ => false
  | .isiT ts a, e => match e with
    | .Call (.Name x _) [y, .Tuple es _ _] [] _ => decide (x = "isinstance") && chkFree Γ sc x && chk Γ N sc a y && chkTags Γ sc ts es && notStar y && decide (ts ≠ []) && decide (ts.length ≤ 100)
    | _ => false
  | .ix a b, e => match e with
    | .Subscript x y _ => chk Γ N sc a x && chk Γ N sc b y && notSlice y
    | _ => false
  | .sl a lo hi, e => match e with
    | .Subscript x (.Slice l h none _) _ => chk Γ N sc a x && chko Γ N sc lo l && chko Γ N sc hi h
    | _ => false
  | .tup as, e => match e with
    | .Tuple es _ _ => chks Γ N sc as es
    | _ => false
  | .lst as, e => match e with
    | .List es _ => chks Γ N sc as es
    | _ => false
  | .lblt b as, e => match e with
    | .Call (.Name x _) (y :: r) [] _ => decide (x = lbltN b) && chkFree Γ sc x && chks Γ N sc as (y :: r)
    | _ => false
  | .lsl a lo hi, e => match e with
    | .Subscript x (.Slice l h none _) _ => chk Γ N sc a x && chko Γ N sc lo l && chko Γ N sc hi h
    | _ => false
  | .cat a b, e => match e with
    | .BinOp x .Add y _ => chk Γ N sc a x && chk Γ N sc b y
    | _ => false
  | .rep a b, e => match e with
    | .BinOp x .Mult y _ => chk Γ N sc a x && chk Γ N sc b y
    | _ => false
  | .comp own p s c el, e => match e with
    | .ListComp x [⟨tg, iter, ifs, 0⟩] scope _ => chkr Γ N sc s tg iter && blkC N sc scope own && p.slots.all (fun i => (own.map (·.2)).contains i) && chkP N scope p tg && chkc Γ N scope c ifs && chk Γ N scope el x && notSet iter
    | _ => false
  | .fld a f, e => match e with
    | .Attribute x g _ => decide (g = f) && chk Γ N sc a x && attrOk x
    | _ => false
  | .prop j a, e => match e with
    | .Attribute x m _ => chk Γ N sc a x && attrOk x && (match Γ.props[j]? with
      | some g => decide (g.name = m)
      | none => false)
    | _ => false
  | .meth j a as, e => match e with
    | .Call (.Attribute x m ap) es [] cp => chk Γ N sc a x && attrOk x && chks Γ N sc as es && decide (es.length < 30) && ap.endLine == cp.line && (match Γ.meths[j]? with
      | some g => decide (g.name = m)
      | none => false)
    | _ => false
  | .make j as kws, e => match e with
    | .Call (.Name x _) (y :: r) ks _ => isGl sc x && chks Γ N sc as (y :: r) && chkk Γ N sc kws ks && (match Γ.makes[j]? with
      | some g => decide (g.name = x) && decide (ks.map kwName = g.ks.map some)
      | none => false)
    | _ => false
  | .eqo j a b, e => match e with
    | .Compare x [.Eq] [y] _ => chk Γ N sc a x && chk Γ N sc b y && !(behindInMarks .Eq y) && (match Γ.eqs[j]? with
      | some _ => true
      | none => false)
    | _ => false
  | .nev, e => notComp e
  | .lr1 a, e => match e with
    | .Call (.Name x _) [.Call (.Name y _) [z] [] _] [] _ => decide (x = "list") && chkFree Γ sc x && (decide (y = "range") && chkFree Γ sc y) && chk Γ N sc a z && notStar z
    | _ => false
  | .lr2 a b, e => match e with
    | .Call (.Name x _) [.Call (.Name y _) [z, w] [] _] [] _ => decide (x = "list") && chkFree Γ sc x && (decide (y = "range") && chkFree Γ sc y) && (chk Γ N sc a z && notStar z) && (chk Γ N sc b w && notStar w)
    | _ => false
  | .co j f as, e => match e with
    | .Call (.Name x p) (y :: r) [] _ => chk Γ N sc f (.Name x p) && chks Γ N sc as (y :: r) && (match Γ.meths[j]? with
      | some g => decide (g.name = "__call__")
      | none => false)
    | _ => false
  | .kc j as kws, e => match e with
    | .Call (.Name x _) (y :: r) ks _ => isGl sc x && chks Γ N sc as (y :: r) && chkk Γ N sc kws ks && (match Γ.kcs[j]? with
      | some g => decide (g.name = x) && decide (ks.map kwName = g.ks.map some)
      | none => false)
    | _ => false
  | .km j o as kws, e => match e with
    | .Call (.Attribute x m ap) es ks cp => chk Γ N sc o x && attrOk x && chks Γ N sc as es && chkk Γ N sc kws ks && decide (es.length + ks.length + 1 < 30) && ap.endLine == cp.line && (match Γ.kms[j]? with
      | some g => decide (g.name = m) && decide (ks.map kwName = g.ks.map some) && (!(es.isEmpty) || g.np == 0)
      | none => false)
    | _ => false
  | .ks j as kws, e => match e with
    | .Call (.Attribute (.Name x _) m ap) es ks cp => isGl sc x && chks Γ N sc as es && chkk Γ N sc kws ks && decide (es.length + ks.length + 1 < 30) && ap.endLine == cp.line && (match Γ.kss[j]? with
      | some g => decide (g.cname = x) && decide (g.name = m) && decide (ks.map kwName = g.ks.map some) && (!(es.isEmpty) || g.np == 0)
      | none => false)
    | _ => false
  | .neo j a b, e => match e with
    | .Compare x [.NotEq] [y] _ => chk Γ N sc a x && chk Γ N sc b y && !(behindInMarks .NotEq y) && (match Γ.eqs[j]? with
      | some _ => true
      | none => false)
    | _ => false
  | .o1 j a, e => match e with
    | .Call (.Name x _) [y] [] _ => chkFree Γ sc x && chk Γ N sc a y && notStar y && (match Γ.o1s[j]? with
      | some g => decide (x = g.k.bltn) && decide (g.k ≠ .bool)
      | none => false)
    | _ => false
  | .o1t j a, e => notComp e && (chk Γ N sc a e && plainT e) && (match Γ.o1s[j]? with
      | some g => decide (g.k = .bool)
      | none => false)
  | .fs as, e => match e with
    | .JoinedStr (y :: z :: r) _ => chkf Γ N sc as (y :: z :: r)
    | _ => false
def chkf (Γ : Gam) (N : List Str) (sc : Scope) : Es → List Expr → Bool
  | .nil, es => es.isEmpty
  | .cons a r, es => match es with
    | [] => false
    | e :: es => (match e with
      | .FormattedValue x c sp _ => c == -1 && sp.isNone && chk Γ N sc a x
      | .Constant (.str t) _ _ => (match a with
        | .str s => decide (s = t)
        | _ => false)
      | _ => false) && chkf Γ N sc r es
def chkk (Γ : Gam) (N : List Str) (sc : Scope) : Es → List Keyword → Bool
  | .nil, ks => ks.isEmpty
  | .cons a r, ks => match ks with
    | [] => false
    | ⟨_, e, _⟩ :: ks => chk Γ N sc a e && chkk Γ N sc r ks
def chks (Γ : Gam) (N : List Str) (sc : Scope) : Es → List Expr → Bool
  | .nil, es => es.isEmpty
  | .cons a r, es => match es with
    | [] => false
    | e :: es => chk Γ N sc a e && chks Γ N sc r es && notStar e
def chko (Γ : Gam) (N : List Str) (sc : Scope) : Oe → Option Expr → Bool
  | .none, o => o.isNone
  | .some a, o => match o with
    | none => false
    | some e => chk Γ N sc a e
def chkc (Γ : Gam) (N : List Str) (sc : Scope) : Oe → List Expr → Bool
  | .none, es => es.isEmpty
  | .some a, es => match es with
    | [e] => chk Γ N sc a e
    | _ => false
def chkr (Γ : Gam) (N : List Str) (sc : Scope) : Sr → Expr → Expr → Bool
  | .seq a, _, e => chk Γ N sc a e
  | .own a, _, e => chk Γ N sc a e
  | .rng1 a, _, e => match e with
    | .Call (.Name x _) [y] [] _ => decide (x = "range") && chkFree Γ sc x && chk Γ N sc a y && notStar y
    | _ => false
  | .rng2 a b, _, e => match e with
    | .Call (.Name x _) [y, z] [] _ => decide (x = "range") && chkFree Γ sc x && chk Γ N sc a y && chk Γ N sc b z && notStar y && notStar z
    | _ => false
  | .str a, _, e => chk Γ N sc a e
  | .enum a, tg, e => match tg, e with
    | .Tuple _ _ _, .Call (.Name x _) [y] [] _ => decide (x = "enumerate") && chkFree Γ sc x && chk Γ N sc a y && notStar y
    | _, _ => false
  | .zip a b, tg, e => match tg, e with
    | .Tuple _ _ _, .Call (.Name x _) [y, z] [] _ => decide (x = "zip") && chkFree Γ sc x && chk Γ N sc a y && chk Γ N sc b z && notStar y && notStar z
    | _, _ => false
end
end EG
namespace EG
open PySem L2

structure GFnOk (W : Wd) (X : Cx) (g : GFn) : Prop where
  ok : ∃ f fd ps dvs dus, FnOk X.prog X.w X.K X.mg X.base (L2.CX X.prog X.w) g.lvl f fd ps (spF W g.n g.F) ∧ X.mg g.name = some (.ref f) ∧ PySem.W.keepIn X.K (.ref f) = true ∧ Binds X.K fd ps dus ∧ Vals dvs dus ∧ ∀ S H, RepVs W S H dvs g.dds
structure GCOk (W : Wd) (X : Cx) (c : GC) : Prop where
  ok : ∃ v u, X.mg c.name = some u ∧ RelV v u ∧ ∀ S H, RepV W S H v c.d
theorem kw_all {env : PySem.Env} {pos : Pos} : ∀ {kws : List Keyword} {ks : List Str}, kws.map kwName = ks.map some →
    (backToKw pos (keywordEach kws env)).all (·.1.isSome) = true ∧ (backToKw pos (keywordEach kws env)).filterMap (·.1) = ks ∧ (backToKw pos (keywordEach kws env)).any (·.1.isNone) = false
  | [], ks, h => by
    cases ks with
    | nil => exact ⟨rfl, rfl, rfl⟩
    | cons k ks => cases h
  | ⟨nm, e, kp⟩ :: r, ks, h => by
    cases ks with
    | nil => cases h
    | cons k ks =>
      rw [List.map_cons, List.map_cons, List.cons.injEq] at h
      obtain ⟨h1, h2⟩ := h
      have h1 : nm = some k := h1
      subst h1
      obtain ⟨a, b, c⟩ := kw_all (env := env) (pos := pos) h2
      have e1 : backToKw pos (keywordEach (⟨some k, e, kp⟩ :: r) env) = (some k, eval e env >>= fun v => standAt pos >>= fun _ => pure v) :: backToKw pos (keywordEach r env) := rfl
      rw [e1]
      exact ⟨by rw [List.all_cons, a]; rfl, by rw [List.filterMap_cons]; exact congrArg _ b, by rw [List.any_cons, c]; rfl⟩
theorem meth_form {env : PySem.Env} {pos : Pos} {es : List Expr} (hs : es.all notStar = true) (hl : es.length < 30) : methodCallForm (es.length + 0) (backTo pos (starEach es env)) (backToKw pos (keywordEach [] env)) = true := by
  have ha : (backTo pos (starEach es env)).all (fun x => !x.1) = true := by
    have := noStars (env := env) (pos := pos) hs
    rw [List.all_eq_true]
    rw [List.any_eq_false] at this
    intro x hx
    have := this x hx
    cases q : x.1 <;> simp_all
  unfold methodCallForm
  rw [ha]
  simp only [Bool.true_and, Bool.and_eq_true, decide_eq_true_eq]
  exact ⟨rfl, by show es.length + 0 + 0 < 30; omega⟩
structure GMOk (W : Wd) (X : Cx) (g : GM) : Prop where
  ok : ∃ f fd ps dvs dus, FnOk X.prog X.w X.K X.mg X.base (L2.CX X.prog X.w) g.lvl f fd ps (spF W g.n g.F) ∧ Cls W.K (W.ca g.cls) ∧ Meth W.K (W.ca g.cls) g.name f ∧ Binds X.K fd ps dus ∧ Vals dvs dus ∧ ∀ S H, RepVs W S H dvs g.dds
structure GPOk (W : Wd) (X : Cx) (g : GM) : Prop where
  ok : ∃ pp f fd ps dvs dus, FnOk X.prog X.w X.K X.mg X.base (L2.CX X.prog X.w) g.lvl f fd ps (spF W g.n g.F) ∧ Cls W.K (W.ca g.cls) ∧ PropOf W.K (W.ca g.cls) g.name pp f ∧ Binds X.K fd ps dus ∧ Vals dvs dus ∧ ∀ S H, RepVs W S H dvs g.dds
structure GMkOk (W : Wd) (X : Cx) (g : GMk) : Prop where
  ok : ∃ f fd ps gB gV, FnOk X.prog X.w X.K X.mg X.base (L2.CX X.prog X.w) g.lvl f fd ps (spF W g.n g.F) ∧ Mk W.K (W.ca g.cls) f ∧ X.mg g.name = some (.ref (W.ca g.cls)) ∧ KBn X.K fd ps (g.np + 1) g.ks gB gV ∧ ArrOk W gV g.arr
structure GEOk (W : Wd) (X : Cx) (g : GM) : Prop where
  ok : ∃ f fd ps, FnOk X.prog X.w X.K X.mg X.base (L2.CX X.prog X.w) g.lvl f fd ps (spF W 2 g.F) ∧ ClsOk W g.cls ∧ PySem.W.findIn W.K (.ref (W.ca g.cls)) "__eq__" = some (some (.ref f)) ∧ PySem.W.isFn W.K (.ref f) = true ∧ Binds X.K fd ps [] ∧ NeFacts W.K (W.ca g.cls) f
structure GKcOk (W : Wd) (X : Cx) (g : GK) : Prop where
  ok : ∃ f fd ps gB gV, FnOk X.prog X.w X.K X.mg X.base (L2.CX X.prog X.w) g.lvl f fd ps (spF W g.n g.F) ∧ X.mg g.name = some (.ref f) ∧ PySem.W.keepIn X.K (.ref f) = true ∧ KBn X.K fd ps g.np g.ks gB gV ∧ ArrOk W gV g.arr
structure GKmOk (W : Wd) (X : Cx) (g : GK) : Prop where
  ok : ∃ f fd ps gB gV, FnOk X.prog X.w X.K X.mg X.base (L2.CX X.prog X.w) g.lvl f fd ps (spF W g.n g.F) ∧ Cls W.K (W.ca g.cls) ∧ Meth W.K (W.ca g.cls) g.name f ∧ KBn X.K fd ps (1 + g.np) g.ks gB gV ∧ ArrOk W gV g.arr
structure GKsOk (W : Wd) (X : Cx) (g : GK) : Prop where
  ok : ∃ mc pp f fd ps gB gV, FnOk X.prog X.w X.K X.mg X.base (L2.CX X.prog X.w) g.lvl f fd ps (spF W g.n g.F) ∧ X.mg g.cname = some (.ref (W.ca g.cls)) ∧ SMet W.K (W.ca g.cls) mc g.name pp f ∧ KBn X.K fd ps g.np g.ks gB gV ∧ ArrOk W gV g.arr
structure GOOk (W : Wd) (X : Cx) (g : GO) : Prop where
  ok : ∃ f fd ps, FnOk X.prog X.w X.K X.mg X.base (L2.CX X.prog X.w) g.lvl f fd ps (spF W 1 g.F) ∧ PySem.W.findIn W.K (.ref (W.ca g.cls)) g.k.dunder = some (some (.ref f)) ∧ PySem.W.isFn W.K (.ref f) = true ∧ Binds X.K fd ps []
/-- what the text's scope tells, the running one tells too (a free name may be a cell there) -/
def Scopes (sc sc' : Scope) : Prop := ∀ x k, sc.names.lookup x = some k → ∃ k', sc'.names.lookup x = some k' ∧ (k' = k ∨ (k = NameKind.free ∧ k' = NameKind.cell))
theorem Scopes.refl {sc : Scope} : Scopes sc sc := fun x k h => ⟨k, h, .inl rfl⟩
theorem relabel_look {p : Str → NameKind → Bool} (hp : ∀ n k, p n k = true → k = NameKind.free) : ∀ (names : List (Str × NameKind)) (x : Str) (k : NameKind), names.lookup x = some k →
    ∃ k', (names.map fun (n, k) => if p n k then (n, NameKind.cell) else (n, k)).lookup x = some k' ∧ (k' = k ∨ (k = NameKind.free ∧ k' = NameKind.cell))
  | [], x, k, h => by simp at h
  | (n, kk) :: r, x, k, h => by
    rw [List.lookup_cons] at h
    rw [List.map_cons]
    by_cases q : p n kk = true
    · simp only [q, if_true]
      rw [List.lookup_cons]
      split at h
      · cases h
        rename_i e
        exact ⟨_, rfl, .inr ⟨hp _ _ q, rfl⟩⟩
      · rename_i e
        exact relabel_look hp r x k h
    · simp only [q, if_false, Bool.false_eq_true]
      rw [List.lookup_cons]
      split at h
      · cases h
        rename_i e
        exact ⟨_, rfl, .inl rfl⟩
      · rename_i e
        exact relabel_look hp r x k h
theorem scopes_relabel {sc : Scope} {env : PySem.Env} : Scopes sc (relabel sc env) := fun x k h => relabel_look (p := fun n k => (k == NameKind.free && env.scope.kind == .function && env.kindOf n == some .cell)) (fun n k h => by
  simp only [Bool.and_eq_true, beq_iff_eq] at h
  exact h.1.1) sc.names x k h
theorem blkOk_scopes {N : List Str} {sc sc' scope : Scope} {own : List (Str × Nat)} (h : BlkOk N sc scope own) (s : Scopes sc sc') : BlkOk N sc' scope own where
  kind := h.kind
  uniq := h.uniq
  ix := h.ix
  free := fun y hy e => by
    rcases h.free y hy e with q | q
    · obtain ⟨k', e1, e2⟩ := s _ _ q
      rcases e2 with rfl | ⟨e2, _⟩
      · exact .inl e1
      · cases e2
    · obtain ⟨k', e1, e2⟩ := s _ _ q
      rcases e2 with rfl | ⟨_, rfl⟩
      · exact .inr e1
      · exact .inl e1
  own := h.own
structure XOk (Γ : Gam) (N : List Str) (sc : Scope) (W : Wd) (Wx : WX) (k : Nat) (X : Cx) : Prop where
  hN : X.N = N
  nd : N.Nodup
  hlk : Scopes sc X.env.scope
  hK : X.K = W.K
  calm : X.calm = true
  tk : Takes X Wx
  room : Room k X.A
  fn : ∀ x, sc.names.lookup x = some .cell → X.fn x = true
  fns : ∀ (i : Nat) g, Γ.fns[i]? = some g → GFnOk W X g ∧ g.lvl ≤ k
  consts : ∀ (i : Nat) c, Γ.consts[i]? = some c → GCOk W X c
  clss : ∀ x c, (x, c) ∈ Γ.clss → X.mg x = some (.ref (W.ca c))
  frees : ∀ x, x ∈ Γ.frees → X.mg x = none
  isi : IsiOk W Γ.isi
  flds : FldOk W Γ.flds
  meths : ∀ (i : Nat) g, Γ.meths[i]? = some g → GMOk W X g ∧ g.lvl ≤ k
  props : ∀ (i : Nat) g, Γ.props[i]? = some g → GPOk W X g ∧ g.lvl + 1 ≤ k
  makes : ∀ (i : Nat) g, Γ.makes[i]? = some g → GMkOk W X g ∧ g.lvl + 1 ≤ k
  eqs : ∀ (i : Nat) g, Γ.eqs[i]? = some g → GEOk W X g ∧ g.lvl + 1 ≤ k
  kcs : ∀ (i : Nat) g, Γ.kcs[i]? = some g → GKcOk W X g ∧ g.lvl ≤ k
  kms : ∀ (i : Nat) g, Γ.kms[i]? = some g → GKmOk W X g ∧ g.lvl ≤ k
  kss : ∀ (i : Nat) g, Γ.kss[i]? = some g → GKsOk W X g ∧ g.lvl ≤ k
  o1s : ∀ (i : Nat) g, Γ.o1s[i]? = some g → GOOk W X g ∧ g.lvl + 1 ≤ k
section
variable {Γ : Gam} {N : List Str} {sc : Scope} {W : Wd} {Wx : WX} {k : Nat} {X : Cx}
theorem XOk.blk (h : XOk Γ N sc W Wx k X) (s : Shared) (H : Hp) (scope : Scope) (C : Addr) (cl : List (Str × Addr)) (fp : List Addr) : XOk Γ N scope W Wx0 k (X.blk s H scope (compEnvC scope cl C X.env) fp) where
  hN := h.hN
  nd := h.nd
  hlk := scopes_relabel
  hK := h.hK
  calm := h.calm
  tk := L2.takes0
  room := h.room
  fn := fun x e => by
    show (scope.names.lookup x == some .cell) = true
    rw [e]; rfl
  fns := fun i g e => let ⟨⟨q⟩, l⟩ := h.fns i g e; ⟨⟨q⟩, l⟩
  consts := fun i c e => let ⟨q⟩ := h.consts i c e; ⟨q⟩
  clss := h.clss
  frees := h.frees
  isi := h.isi
  flds := h.flds
  meths := fun i g e => let ⟨⟨q⟩, l⟩ := h.meths i g e; ⟨⟨q⟩, l⟩
  props := fun i g e => let ⟨⟨q⟩, l⟩ := h.props i g e; ⟨⟨q⟩, l⟩
  makes := fun i g e => let ⟨⟨q⟩, l⟩ := h.makes i g e; ⟨⟨q⟩, l⟩
  eqs := fun i g e => let ⟨⟨q⟩, l⟩ := h.eqs i g e; ⟨⟨q⟩, l⟩
  kcs := fun i g e => let ⟨⟨q⟩, l⟩ := h.kcs i g e; ⟨⟨q⟩, l⟩
  kms := fun i g e => let ⟨⟨q⟩, l⟩ := h.kms i g e; ⟨⟨q⟩, l⟩
  kss := fun i g e => let ⟨⟨q⟩, l⟩ := h.kss i g e; ⟨⟨q⟩, l⟩
  o1s := fun i g e => let ⟨⟨q⟩, l⟩ := h.o1s i g e; ⟨⟨q⟩, l⟩
structure PB (W : Wd) (Wx : WX) (X : Cx) (e : Expr) (bn : Bn) : Prop where
  pe : PE X e (tEv W Wx bn.e)
  pb : PE X e (tEvB W Wx bn.b)
  pl : PE X e (tEvL W Wx bn.l)
  pt : PT X e (tEvT W Wx bn.t)
structure PBs (W : Wd) (Wx : WX) (X : Cx) (es : List Expr) (bs : Bs) : Prop where
  ps : PA X es (tEvs W Wx bs.s)
  pb : PA X es (tEvBs W Wx bs.b)
  pan : ∀ pos, es ≠ [] → PE X (.BoolOp .And es pos) (tEv W Wx bs.an)
  panT : ∀ pos, es ≠ [] → PW X (.BoolOp .And es pos) (tEvT W Wx bs.anT)
  por : ∀ pos, es ≠ [] → PE X (.BoolOp .Or es pos) (tEv W Wx bs.or)
  porT : ∀ pos, es ≠ [] → PW X (.BoolOp .Or es pos) (tEvT W Wx bs.orT)
theorem failL_of {e : Expr} {t : TE} (h : PE X e t) : PE X e (tEvL W Wx failL) := PE.imp h fun σ H Q ⟨S, μ, env, r, hS, hE, hf, hk⟩ => by cases hf
theorem mkE_ok (hK : X.K = W.K) {e : Expr} {f : Env → EM D} (hp : plainT e = true) (h : PE X e (tEv W Wx f)) : PB W Wx X e (mkE f) :=
  ⟨h, toB h, failL_of h, et_truth hK (toB h) (plainT_of hp)⟩
theorem mkL_ok (hK : X.K = W.K) {e : Expr} {g : Env → EM (List D)} (hp : plainT e = true) (h : PE X e (tEvL W Wx g)) : PB W Wx X e (mkL g) :=
  ⟨ev_new h, toB (ev_new h), h, et_truth hK (toB (ev_new h)) (plainT_of hp)⟩
theorem pe_none {e : Expr} : PE X e (fun _ _ _ => False) := ⟨fun _ _ _ _ _ _ h => h.elim⟩
theorem pt_none {e : Expr} : PT X e (fun _ _ _ => False) := ⟨fun _ _ _ _ _ _ h => h.elim⟩
theorem pb_fail {e : Expr} : PB W Wx X e (mkE fFail) := ⟨PE.imp pe_none fun σ H Q ⟨S, μ, env, r, hS, hE, hf, hk⟩ => (nomatch hf), PE.imp pe_none fun σ H Q ⟨S, μ, env, r, hS, hE, hf, hk⟩ => (nomatch hf), failL_of pe_none, PT.imp pt_none fun σ H Q ⟨S, μ, env, r, hS, hE, hf, hk⟩ => (nomatch hf)⟩
theorem fail_any {e : Expr} {t : TE} (h : PE X e t) : PE X e (tEv W Wx fFail) := PE.imp h fun σ H Q ⟨S, μ, env, r, hS, hE, hf, hk⟩ => by cases hf
theorem seen_vis {sc' : Scope} (s : Scopes sc sc') {x : Str} (h : seen sc x = true) : Vis sc' x := by
  unfold seen at h
  split at h <;> first
    | (cases h; done)
    | (rename_i e
       obtain ⟨k', e1, e2⟩ := s _ _ e
       rcases e2 with rfl | ⟨_, rfl⟩ <;> first | exact .inl e1 | exact .inr (.inl e1) | exact .inr (.inr e1))
theorem isLoc_loc {x : Str} (h : isLoc sc x = true) : Loc sc x := by
  unfold isLoc at h
  split at h <;> first | exact .inl (by assumption) | exact .inr (by assumption) | cases h
theorem loc_scopes {sc' : Scope} (s : Scopes sc sc') {x : Str} (h : Loc sc x) : Loc sc' x := by
  rcases h with h | h
  · obtain ⟨k', e1, e2⟩ := s _ _ h
    rcases e2 with rfl | ⟨e2, _⟩
    · exact .inl e1
    · cases e2
  · obtain ⟨k', e1, e2⟩ := s _ _ h
    rcases e2 with rfl | ⟨e2, _⟩
    · exact .inr e1
    · cases e2
theorem isGl_of (h : XOk Γ N sc W Wx k X) {x : Str} (hg : isGl sc x = true) : Gl X x ∧ (x == ("__debug__" : Str)) = false ∧ x ≠ "__name__" := by
  unfold isGl at hg
  simp only [Bool.and_eq_true, Bool.not_eq_true', decide_eq_true_eq] at hg
  obtain ⟨⟨h1, h2⟩, h3⟩ := hg
  refine ⟨?_, h2, fun z => ?_⟩
  · obtain ⟨k', e1, e2⟩ := h.hlk _ _ h1
    rcases e2 with rfl | ⟨e2, _⟩
    · exact e1
    · cases e2
  · rw [z] at h3; exact absurd h3 (by decide)
theorem free_of (h : XOk Γ N sc W Wx k X) {x : Str} (hg : chkFree Γ sc x = true) : Gl X x ∧ (x == ("__debug__" : Str)) = false ∧ x ≠ "__name__" ∧ X.mg x = none := by
  unfold chkFree at hg
  rw [Bool.and_eq_true] at hg
  obtain ⟨a, b, c⟩ := isGl_of h hg.1
  exact ⟨a, b, c, h.frees x (by simpa using hg.2)⟩
theorem var_of (h : XOk Γ N sc W Wx k X) {i : Nat} {x : Str} {pos : Pos} (hc : chkV N sc i x = true) : PE X (.Name x pos) (tVar i) := by
  unfold chkV at hc
  simp only [Bool.and_eq_true, Bool.not_eq_true', decide_eq_true_eq] at hc
  obtain ⟨⟨⟨h1, h2⟩, h3⟩, h4⟩ := hc
  exact pe_var (by rw [h.hN]; exact h1) (seen_vis h.hlk h2) h3 h4
theorem store_of (h : XOk Γ N sc W Wx k X) {i : Nat} {x : Str} {pos : Pos} (h1 : N[i]? = some x) (h2 : isLoc sc x = true) : PG X (.Name x pos) (gName i) := by
  have l := isLoc_loc h2
  refine pg_name (by rw [h.hN]; exact h.nd) (by rw [h.hN]; exact h1) (loc_scopes h.hlk l) ?_
  rcases l with l | l
  · obtain ⟨k', e1, e2⟩ := h.hlk _ _ l
    rcases e2 with rfl | ⟨e2, _⟩
    · exact .inr e1
    · cases e2
  · exact .inl (h.fn x l)
mutual
theorem pat_of (h : XOk Γ N sc W Wx k X) : ∀ (p : Pat) (e : Expr), chkP N sc p e = true → PG X e (tTg W p)
  | .nm i, e, hc => by
    unfold chkP at hc
    split at hc
    · rw [Bool.and_eq_true] at hc
      exact eg_name (store_of h (of_decide_eq_true hc.1) hc.2)
    · cases hc
  | .tp ps, e, hc => by
    unfold chkP at hc
    split at hc
    · rw [Bool.and_eq_true] at hc
      obtain ⟨h1, h2⟩ := pats_of h ps _ hc.1
      exact eg_tup h.hK h.calm h1 assignEach_len h2 (assignEach_no hc.2)
    · cases hc
theorem pats_of (h : XOk Γ N sc W Wx k X) : ∀ (p : Pats) (es : List Expr), chkPs N sc p es = true → PGs X es (tTgs W p) ∧ p.len = es.length
  | .nil, es, hc => by
    unfold chkPs at hc
    cases es with
    | nil => exact ⟨eg_nil, rfl⟩
    | cons e es => cases hc
  | .cons p r, es, hc => by
    unfold chkPs at hc
    cases es with
    | nil => cases hc
    | cons e es =>
      simp only [Bool.and_eq_true] at hc
      obtain ⟨⟨h1, h2⟩, h3⟩ := hc
      obtain ⟨q1, q2⟩ := pats_of h r es h2
      exact ⟨eg_cons (pat_of h p e h1) q1 (by rw [assignEach_of h3]; rfl), by simp [Pats.len, q2]⟩
end
theorem tag_of (h : XOk Γ N sc W Wx k X) {t : Tag} {e : Expr} (hc : chkTag Γ sc t e = true) : PE X e (tC (tagC W t)) := by
  unfold chkTag at hc
  split at hc
  · split at hc
    · rename_i n
      simp only [Bool.and_eq_true, decide_eq_true_eq] at hc
      obtain ⟨⟨h1, h2⟩, h3⟩ := hc
      obtain ⟨a, b, c, d⟩ := free_of h h2
      have hb : bootBuiltins (Str.ofString n) = some (.type n) := by
        have h3 : n ∈ ["int", "bool", "str", "list", "tuple"] := by simpa using h3
        simp only [List.mem_cons, List.not_mem_nil, or_false] at h3
        rcases h3 with rfl | rfl | rfl | rfl | rfl
        · exact PyProof.Rows.boot_int
        · exact PyProof.Rows.boot_bool
        · exact PyProof.Rows.boot_str
        · exact PyProof.Rows.boot_list
        · exact PyProof.Rows.boot_tuple
      subst h1
      exact pe_bltn a d hb rfl c b
    · rename_i c
      simp only [Bool.and_eq_true, decide_eq_true_eq] at hc
      obtain ⟨a, b, _⟩ := isGl_of h hc.1
      exact pe_glob a (h.clss _ _ hc.2) rfl b
  · cases hc
theorem tags_of (h : XOk Γ N sc W Wx k X) : ∀ {ts : List Tag} {es : List Expr}, chkTags Γ sc ts es = true → ClsEs W X es ts
  | [], es, hc => by
    unfold chkTags at hc
    cases es with
    | nil => exact .nil
    | cons e es => cases hc
  | t :: ts, es, hc => by
    unfold chkTags at hc
    cases es with
    | nil => cases hc
    | cons e es =>
      simp only [Bool.and_eq_true] at hc
      exact .cons (tag_of h hc.1.1) (starEach_of hc.2) (tags_of h hc.1.2)
theorem bop_ok (hK : X.K = W.K) (o : BOp) : ∃ r, OpR X (binaryOp (bopO o)) r ∧ OpSpec W r (bopF o) := by
  cases o with
  | add => exact ⟨_, opr_add hK, os_add⟩
  | sub => exact ⟨_, op_sub, os_sub⟩
  | mul => exact ⟨_, opr_mul, os_mul⟩
  | div => exact ⟨_, op_fdivW, os_div⟩
  | mod => exact ⟨_, op_mod, os_mod⟩
  | pow => exact ⟨_, op_pow, os_pow⟩
theorem cop_ok (hK : X.K = W.K) (hu : X.A.units + 64 < cLine) (o : COp) : ∃ r, OpR X (compareOp (copO o)) r ∧ OpSpec W r (copF o) := by
  cases o with
  | eq => exact ⟨_, opr_eq hK hu, os_eq⟩
  | ne => exact ⟨_, opr_ne hK hu, os_ne⟩
  | lt => exact ⟨_, op_lt, os_cmp _⟩
  | le => exact ⟨_, op_le, os_cmp _⟩
  | gt => exact ⟨_, op_gt, os_cmp _⟩
  | ge => exact ⟨_, op_ge, os_cmp _⟩
  | isN => exact ⟨_, op_isN, os_isN⟩
  | notN => exact ⟨_, op_notN, os_notN⟩
  | in_ => exact ⟨_, opr_in hK, os_in⟩
  | notIn => exact ⟨_, opr_notIn hK, os_notIn⟩
theorem blt_call (h : XOk Γ N sc W Wx k X) (b : Blt) {x : Str} {p pos : Pos} {e : Expr} {es : List Expr} {g : Env → EM (List D)} (hx : x = bltN b) (hf : chkFree Γ sc x = true) (ha : PA X (e :: es) (tEvBs W Wx g)) (he : starEach (e :: es) X.env = (false, eval e X.env) :: starEach es X.env) (hpl : (backTo pos (starEach es X.env)).any (·.1) = false) :
    PE X (.Call (.Name x p) (e :: es) [] pos) (tEv W Wx (fCB (bltF b) g)) := by
  obtain ⟨a, b', c, d⟩ := free_of h hf
  have hK := h.hK
  subst hx
  cases b with
  | len => exact ev_callB call_len (cs_len hK) a d PySem.boot_len ha c b' he hpl
  | abs => exact ev_callB call_abs cs_abs a d (by decide +kernel) ha c b' he hpl
  | int => exact ev_callTy cr_int cs_int a d PyProof.Rows.boot_int ha c b' he hpl
  | str => exact ev_callTy call_str_int cs_str a d PyProof.Rows.boot_str ha c b' he hpl
  | bool => exact ev_callTy call_bool1 cs_bool a d PyProof.Rows.boot_bool ha c b' he hpl
  | all => exact ev_callB (cr_all h.calm) (by rw [hK]; exact cs_all) a d PyProof.Rows.boot_all ha c b' he hpl
  | any => exact ev_callB (cr_any h.calm) (by rw [hK]; exact cs_any) a d PyProof.Rows.boot_any ha c b' he hpl
  | sum => exact ev_callB (cr_sum h.calm) (by rw [hK]; exact cs_sum) a d PyProof.Rows.boot_sum ha c b' he hpl
  | max => exact ev_callB (cr_max' h.calm) (by rw [hK]; exact cs_max) a d PyProof.Rows.boot_max ha c b' he hpl
  | min => exact ev_callB (cr_min' h.calm) (by rw [hK]; exact cs_min) a d PyProof.Rows.boot_min ha c b' he hpl
  | tuple => exact ev_callTy call_tuple_of (by rw [hK]; exact cs_tuple) a d PyProof.Rows.boot_tuple ha c b' he hpl
theorem lblt_call (h : XOk Γ N sc W Wx k X) (b : LBlt) {x : Str} {p pos : Pos} {e : Expr} {es : List Expr} {g : Env → EM (List D)} (hx : x = lbltN b) (hf : chkFree Γ sc x = true) (ha : PA X (e :: es) (tEvBs W Wx g)) (he : starEach (e :: es) X.env = (false, eval e X.env) :: starEach es X.env) (hpl : (backTo pos (starEach es X.env)).any (·.1) = false) :
    PE X (.Call (.Name x p) (e :: es) [] pos) (tEvL W Wx (fCB (lbltF b) g)) := by
  obtain ⟨a, b', c, d⟩ := free_of h hf
  have hK := h.hK
  subst hx
  cases b with
  | sorted => exact el_callB cr_sorted (by rw [hK]; exact cs_sorted) a d PyProof.Rows.boot_sorted ha c b' he hpl
  | list => exact el_callTy call_list_of (by rw [hK]; exact cs_list) a d PyProof.Rows.boot_list ha c b' he hpl
theorem ev_neg {a : Expr} {pos : Pos} {f : Env → EM D} (ha : PE X a (tEvB W Wx f)) : PE X (.UnaryOp .USub a pos) (tEv W Wx (fNeg f)) :=
  PE.imp (pe_un un_neg ha) fun σ H Q ⟨S, μ, env, res, hS, hE, hf, hk⟩ => by
    refine tG.bind hS hE hf hk fun d μ1 S1 H1 l1 g1 e1 hf1 hk1 v rv => ?_
    cases d <;> first
      | (cases hf1; done)
      | skip
    cases hf1
    cases rv.int
    exact ⟨_, rfl, hk1.val g1 (.int _)⟩
theorem et_ife {c a b : Expr} {pos : Pos} {fc f g : Env → EM Bool} (hc : PT X c (tEvT W Wx fc)) (ha : PT X a (tEvT W Wx f)) (hb : PT X b (tEvT W Wx g)) : PT X (.IfExp c a b pos) (tEvT W Wx fun env => bindE (fc env) fun k => match k with
    | true => f env
    | false => g env) :=
  PT.imp (pt_ifExp hc ha hb) fun σ H Q ⟨S, μ, env, res, hS, hE, hf, hk⟩ => by
    refine tG.bind hS hE hf hk fun b μ1 S1 H1 l1 g1 e1 hf1 hk1 => okT_mk ?_
    cases b with
    | true => exact iT rfl ⟨S1, μ1, env, res, g1, e1, hf1, hk1⟩
    | false => exact iF Bool.false_ne_true ⟨S1, μ1, env, res, g1, e1, hf1, hk1⟩
end
end EG
namespace EG
open PySem L2
section
variable {Γ : Gam} {N : List Str} {W : Wd} {k : Nat}
theorem er_seq {X : Cx} (hK : X.K = W.K) {tg l : Expr} {Wx : WX} {f : Env → EM D} {kk : Own → Prop} (hl : PE X l (tEv W Wx f)) : PI X tg l (tSrc' W Wx kk (fItems f)) := src_seq hK hl
theorem chks_stars : ∀ (as : Es) (es : List Expr) {sc : Scope}, chks Γ N sc as es = true → es.all notStar = true
  | .nil, es, sc, h => by
    unfold chks at h
    cases es with
    | nil => rfl
    | cons e es => cases h
  | .cons a r, es, sc, h => by
    unfold chks at h
    cases es with
    | nil => cases h
    | cons e es =>
      simp only [Bool.and_eq_true] at h
      rw [List.all_cons, Bool.and_eq_true]
      exact ⟨h.2, chks_stars r es h.1.2⟩
theorem chkTag_star {sc : Scope} {t : Tag} {e : Expr} (h : chkTag Γ sc t e = true) : notStar e = true := by
  unfold chkTag at h
  split at h
  · rfl
  · cases h
def notOwn : Sr → Bool
  | .own _ => false
  | _ => true
mutual
theorem snd : ∀ (a : E) (e : Expr) (sc : Scope) (Wx : WX) (X : Cx), chk Γ N sc a e = true → XOk Γ N sc W Wx k X → PB W Wx X e (ev Γ a)
  | .v i, e, sc, Wx, X, h, hX => by
    unfold chk at h
    split at h
    · have q := var_of hX (pos := ‹Pos›) h
      have hb : PE X _ (tEvB W Wx (fVB i)) := ev_varB q
      exact ⟨ev_var q, hb, failL_of q, et_truth hX.hK hb (plainT_of rfl)⟩
    · cases h
  | .non, e, sc, Wx, X, h, hX => by
    unfold chk at h
    split at h
    · exact mkE_ok hX.hK rfl (ev_const pe_non fun _ _ => .non)
    · cases h
  | .bl b, e, sc, Wx, X, h, hX => by
    unfold chk at h
    split at h
    · rename_i c _ _
      have e : b = c := by simpa using h
      subst e
      exact mkE_ok hX.hK rfl (ev_const pe_bl fun _ _ => .bl _)
    · cases h
  | .int i, e, sc, Wx, X, h, hX => by
    unfold chk at h
    split at h
    · rename_i c _ _
      have e : i = c := by simpa using h
      subst e
      exact mkE_ok hX.hK rfl (ev_const pe_int fun _ _ => .int _)
    · cases h
  | .str s, e, sc, Wx, X, h, hX => by
    unfold chk at h
    split at h
    · simp only [Bool.and_eq_true, decide_eq_true_eq] at h
      obtain ⟨rfl, h2⟩ := h
      exact mkE_ok hX.hK rfl (ev_const pe_str fun _ _ => .str _ h2)
    · cases h
  | .gc i, e, sc, Wx, X, h, hX => by
    unfold chk at h
    split at h
    · rename_i x pos
      rw [Bool.and_eq_true] at h
      obtain ⟨a, b, _⟩ := isGl_of hX h.1
      unfold ev
      cases q : Γ.consts[i]? with
      | none => rw [q] at h; exact absurd h.2 (by simp)
      | some c =>
        rw [q] at h
        have e : c.name = x := of_decide_eq_true h.2
        subst e
        obtain ⟨v, u, h1, h2, h3⟩ := (hX.consts i c q).ok
        exact mkE_ok hX.hK rfl (ev_const (pe_glob a h1 h2 b) h3)
    · cases h
  | .bin o a b, e, sc, Wx, X, h, hX => by
    unfold chk at h
    split at h
    · simp only [Bool.and_eq_true, decide_eq_true_eq] at h
      obtain ⟨⟨rfl, h2⟩, h3⟩ := h
      obtain ⟨r, r1, r2⟩ := bop_ok hX.hK o
      exact mkE_ok hX.hK rfl (ev_bin r1 r2 (snd a _ sc Wx X h2 hX).pb (snd b _ sc Wx X h3 hX).pb)
    · cases h
  | .neg a, e, sc, Wx, X, h, hX => by
    unfold chk at h
    split at h
    · exact mkE_ok hX.hK rfl (ev_neg (snd a _ sc Wx X h hX).pb)
    · cases h
  | .cmp o a b, e, sc, Wx, X, h, hX => by
    unfold chk at h
    split at h
    · simp only [Bool.and_eq_true, decide_eq_true_eq, Bool.not_eq_true'] at h
      obtain ⟨⟨⟨rfl, h2⟩, h3⟩, h4⟩ := h
      obtain ⟨r, r1, r2⟩ := cop_ok hX.hK hX.room.units o
      have pa := (snd a _ sc Wx X h2 hX).pb
      have pb := (snd b _ sc Wx X h3 hX).pb
      have q := ev_cmp (pos := ‹Pos›) r1 r2 pa pb h4
      exact ⟨q, toB q, failL_of q, et_cmp r1 r2 pa pb h4⟩
    · cases h
  | .chain o p a b c, e, sc, Wx, X, h, hX => by
    unfold chk at h
    split at h
    · simp only [Bool.and_eq_true, decide_eq_true_eq, Bool.not_eq_true'] at h
      obtain ⟨⟨⟨⟨⟨rfl, rfl⟩, h2⟩, h3⟩, h4⟩, h5⟩ := h
      obtain ⟨r, r1, r2⟩ := cop_ok hX.hK hX.room.units o
      obtain ⟨r', r1', r2'⟩ := cop_ok hX.hK hX.room.units p
      have pa := (snd a _ sc Wx X h2 hX).pb
      have pb := (snd b _ sc Wx X h3 hX).pb
      have pc := (snd c _ sc Wx X h4 hX).pb
      have q := ev_chain (pos := ‹Pos›) r1 r1' r2 r2' pa pb pc h5
      exact ⟨q, toB q, failL_of q, et_chain r1 r1' r2 r2' pa pb pc h5⟩
    · cases h
  | .ban as, e, sc, Wx, X, h, hX => by
    unfold chk at h
    split at h
    · have q := snds as _ sc Wx X h hX
      have z := q.pan ‹Pos› (by simp)
      exact ⟨z, toB z, failL_of z, (q.panT _ (by simp)).pt⟩
    · cases h
  | .bor as, e, sc, Wx, X, h, hX => by
    unfold chk at h
    split at h
    · have q := snds as _ sc Wx X h hX
      have z := q.por ‹Pos› (by simp)
      exact ⟨z, toB z, failL_of z, (q.porT _ (by simp)).pt⟩
    · cases h
  | .nt a, e, sc, Wx, X, h, hX => by
    unfold chk at h
    split at h
    · have q := snd a _ sc Wx X h hX
      have z := ev_not (pos := ‹Pos›) q.pe
      exact ⟨z, toB z, failL_of z, et_not q.pt⟩
    · cases h
  | .ife c a b, e, sc, Wx, X, h, hX => by
    unfold chk at h
    split at h
    · simp only [Bool.and_eq_true] at h
      obtain ⟨⟨h1, h2⟩, h3⟩ := h
      have pc := snd c _ sc Wx X h1 hX
      have pa := snd a _ sc Wx X h2 hX
      have pb := snd b _ sc Wx X h3 hX
      have z := ev_ife (pos := ‹Pos›) pc.pt pa.pe pb.pe
      exact ⟨z, toB z, failL_of z, et_ife pc.pt pa.pt pb.pt⟩
    · cases h
  | .call f as, e, sc, Wx, X, h, hX => by
    unfold chk at h
    split at h
    · rename_i x p y r pos
      simp only [Bool.and_eq_true] at h
      obtain ⟨⟨h1, h2⟩, h3⟩ := h
      obtain ⟨a, b, _⟩ := isGl_of hX h1
      have hs := chks_stars as _ h2
      unfold ev
      cases q : Γ.fns[f]? with
      | none => rw [q] at h3; exact absurd h3 (by simp)
      | some g =>
        rw [q] at h3
        have e : g.name = x := of_decide_eq_true h3
        subst e
        obtain ⟨⟨f', fd, ps, dvs, dus, g1, g2, g3, g4, g5, g6⟩, hl⟩ := hX.fns f g q
        rw [List.all_cons, Bool.and_eq_true] at hs
        exact mkE_ok hX.hK rfl (ev_call g1 hX.tk (hX.room.mono hl) a g2 g3 g4 g5 g6 (snds as _ sc Wx X h2 hX).ps b (starEach_of hs.1) (noStars hs.2))
    · cases h
  | .blt b as, e, sc, Wx, X, h, hX => by
    unfold chk at h
    split at h
    · simp only [Bool.and_eq_true, decide_eq_true_eq] at h
      obtain ⟨⟨h1, h2⟩, h3⟩ := h
      have hs := chks_stars as _ h3
      rw [List.all_cons, Bool.and_eq_true] at hs
      exact mkE_ok hX.hK rfl (blt_call hX b h1 h2 (snds as _ sc Wx X h3 hX).pb (starEach_of hs.1) (noStars hs.2))
    · cases h
  | .isi t a, e, sc, Wx, X, h, hX => by
    unfold chk at h
    split at h
    · simp only [Bool.and_eq_true, decide_eq_true_eq] at h
      obtain ⟨⟨⟨⟨rfl, h2⟩, h3⟩, h4⟩, h5⟩ := h
      obtain ⟨a', b', _, d'⟩ := free_of hX h2
      have hz : notStar _ = true := chkTag_star h4
      exact mkE_ok hX.hK rfl (ev_isi hX.hK hX.isi a' d' (snd a _ sc Wx X h3 hX).pb (tag_of hX h4) (starEach_of h5) (starEach_of hz))
    · cases h
  | .isiT ts a, e, sc, Wx, X, h, hX => by
    unfold chk at h
    split at h
    · simp only [Bool.and_eq_true, decide_eq_true_eq] at h
      obtain ⟨⟨⟨⟨⟨⟨rfl, h2⟩, h3⟩, h4⟩, h5⟩, h6⟩, h7⟩ := h
      obtain ⟨a', b', _, d'⟩ := free_of hX h2
      exact mkE_ok hX.hK rfl (ev_isiT hX.hK hX.isi a' d' (snd a _ sc Wx X h3 hX).pb (tags_of hX h4) h6 h7 (starEach_of h5))
    · cases h
  | .ix a b, e, sc, Wx, X, h, hX => by
    unfold chk at h
    split at h
    · simp only [Bool.and_eq_true] at h
      obtain ⟨⟨h1, h2⟩, h3⟩ := h
      exact mkE_ok hX.hK rfl (ev_ix hX.hK (snd a _ sc Wx X h1 hX).pb (snd b _ sc Wx X h2 hX).pb (plainIx_of h3))
    · cases h
  | .sl a lo hi, e, sc, Wx, X, h, hX => by
    unfold chk at h
    split at h
    · simp only [Bool.and_eq_true] at h
      obtain ⟨⟨h1, h2⟩, h3⟩ := h
      exact mkE_ok hX.hK rfl (ev_sl hX.hK (snd a _ sc Wx X h1 hX).pb (sndo lo _ sc Wx X h2 hX) (sndo hi _ sc Wx X h3 hX))
    · cases h
  | .tup as, e, sc, Wx, X, h, hX => by
    unfold chk at h
    split at h
    · exact mkE_ok hX.hK rfl (ev_tup (snds as _ sc Wx X h hX).ps)
    · cases h
  | .lst as, e, sc, Wx, X, h, hX => by
    unfold chk at h
    split at h
    · exact mkL_ok hX.hK rfl (el_lst (snds as _ sc Wx X h hX).ps)
    · cases h
  | .lblt b as, e, sc, Wx, X, h, hX => by
    unfold chk at h
    split at h
    · simp only [Bool.and_eq_true, decide_eq_true_eq] at h
      obtain ⟨⟨h1, h2⟩, h3⟩ := h
      have hs := chks_stars as _ h3
      rw [List.all_cons, Bool.and_eq_true] at hs
      exact mkL_ok hX.hK rfl (lblt_call hX b h1 h2 (snds as _ sc Wx X h3 hX).pb (starEach_of hs.1) (noStars hs.2))
    · cases h
  | .lsl a lo hi, e, sc, Wx, X, h, hX => by
    unfold chk at h
    split at h
    · simp only [Bool.and_eq_true] at h
      obtain ⟨⟨h1, h2⟩, h3⟩ := h
      exact mkL_ok hX.hK rfl (el_sl hX.hK (snd a _ sc Wx X h1 hX).pb (sndo lo _ sc Wx X h2 hX) (sndo hi _ sc Wx X h3 hX))
    · cases h
  | .cat a b, e, sc, Wx, X, h, hX => by
    unfold chk at h
    split at h
    · simp only [Bool.and_eq_true] at h
      exact mkL_ok hX.hK rfl (el_bin op_cat os_cat (snd a _ sc Wx X h.1 hX).pb (snd b _ sc Wx X h.2 hX).pb)
    · cases h
  | .rep a b, e, sc, Wx, X, h, hX => by
    unfold chk at h
    split at h
    · simp only [Bool.and_eq_true] at h
      exact mkL_ok hX.hK rfl (el_bin op_rep os_rep (snd a _ sc Wx X h.1 hX).pb (snd b _ sc Wx X h.2 hX).pb)
    · cases h
  | .comp own p s c el, e, sc, Wx, X, h, hX => by
    unfold chk at h
    split at h
    · rename_i x tg iter ifs scope pos
      simp only [Bool.and_eq_true] at h
      obtain ⟨⟨⟨⟨⟨⟨h1, h2⟩, h3⟩, h4⟩, h5⟩, h6⟩, h7⟩ := h
      have bk : BlkOk X.N X.env.scope scope own := by rw [hX.hN]; exact blkOk_scopes (blkOk_by h2) hX.hlk
      refine mkL_ok hX.hK rfl (el_comp hX.calm (by rw [hX.hN]; exact hX.nd) (sndr s _ _ sc Wx X h1 hX) bk (fun i hi => ?_) (fun s H C cl fp => pat_of (hX.blk s H _ C cl fp) p _ h4) (fun s H C cl fp => sndc c _ _ Wx0 _ h5 (hX.blk s H _ C cl fp)) (fun s H C cl fp => (snd el _ _ Wx0 _ h6 (hX.blk s H _ C cl fp)).pe) (folded_of h7))
      have := List.all_eq_true.mp h3 i hi
      simpa using this
    · cases h
  | .fld a f, e, sc, Wx, X, h, hX => by
    unfold chk at h
    split at h
    · simp only [Bool.and_eq_true, decide_eq_true_eq] at h
      obtain ⟨⟨rfl, h2⟩, h3⟩ := h
      exact mkE_ok hX.hK rfl (ev_fld hX.flds hX.hK (snd a _ sc Wx X h2 hX).pb (attrBase_of h3))
    · cases h
  | .prop j a, e, sc, Wx, X, h, hX => by
    unfold chk at h
    split at h
    · rename_i x m pos
      simp only [Bool.and_eq_true] at h
      obtain ⟨⟨h1, h2⟩, h3⟩ := h
      unfold ev
      cases q : Γ.props[j]? with
      | none => rw [q] at h3; exact absurd h3 (by simp)
      | some g =>
        rw [q] at h3
        have e : g.name = m := of_decide_eq_true h3
        subst e
        obtain ⟨⟨pp, f, fd, ps, dvs, dus, g1, g2, g3, g4, g5, g6⟩, hl⟩ := hX.props j g q
        exact mkE_ok hX.hK rfl (ev_prop hX.hK (snd a _ sc Wx X h1 hX).pe g2 g3 g1 (hX.room.mono hl) g4 g5 g6 (attrBase_of h2))
    · cases h
  | .meth j a as, e, sc, Wx, X, h, hX => by
    unfold chk at h
    split at h
    · rename_i x m ap es pos
      simp only [Bool.and_eq_true, decide_eq_true_eq] at h
      obtain ⟨⟨⟨⟨⟨h1, h2⟩, h3⟩, h4⟩, h5⟩, h6⟩ := h
      have hs := chks_stars as _ h3
      unfold ev
      cases q : Γ.meths[j]? with
      | none => rw [q] at h6; exact absurd h6 (by simp)
      | some g =>
        rw [q] at h6
        have e : g.name = m := of_decide_eq_true h6
        subst e
        obtain ⟨⟨f, fd, ps, dvs, dus, g1, g2, g3, g4, g5, g6⟩, hl⟩ := hX.meths j g q
        cases es with
        | nil =>
          cases as with
          | nil => exact mkE_ok hX.hK rfl (ev_meth0 hX.hK (snd a _ sc Wx X h1 hX).pe g2 g3 g1 hX.tk (hX.room.mono hl) g4 g5 g6 (attrBase_of h2) h5)
          | cons a' r => unfold chks at h3; cases h3
        | cons y r =>
          have hf := meth_form (env := X.env) (pos := pos) hs h4
          rw [List.all_cons, Bool.and_eq_true] at hs
          exact mkE_ok hX.hK rfl (ev_meth hX.hK (snd a _ sc Wx X h1 hX).pe g2 g3 g1 hX.tk (hX.room.mono hl) g4 g5 g6 (snds as _ sc Wx X h3 hX).ps (attrBase_of h2) hf h5 (starEach_of hs.1) (noStars hs.2))
    · cases h
  | .make j as kws, e, sc, Wx, X, h, hX => by
    unfold chk at h
    split at h
    · rename_i x p y r ks pos
      simp only [Bool.and_eq_true] at h
      obtain ⟨⟨⟨h1, h2⟩, h3⟩, h4⟩ := h
      obtain ⟨a', b', _⟩ := isGl_of hX h1
      have hs := chks_stars as _ h2
      unfold ev
      cases q : Γ.makes[j]? with
      | none => rw [q] at h4; exact absurd h4 (by simp)
      | some g =>
        rw [q] at h4
        simp only [Bool.and_eq_true, decide_eq_true_eq] at h4
        obtain ⟨e, hn⟩ := h4
        subst e
        obtain ⟨⟨f, fd, ps, gB, gV, g1, g2, g3, g4, g5⟩, hl⟩ := hX.makes j g q
        obtain ⟨k1, k2, k3⟩ := kw_all (env := X.env) (pos := pos) hn
        have hp := noStars (env := X.env) (pos := pos) hs
        rw [List.all_cons, Bool.and_eq_true] at hs
        exact mkE_ok hX.hK rfl (ev_mkK hX.hK g2 g1 hX.tk (hX.room.mono hl) a' g3 g4 g5 (snds as _ sc Wx X h2 hX).ps (sndk kws ks sc Wx X h3 hX) k1 k2 b' (starEach_of hs.1) (by rw [hp, k3]; rfl))
    · cases h
  | .eqo j a b, e, sc, Wx, X, h, hX => by
    unfold chk at h
    split at h
    · simp only [Bool.and_eq_true, Bool.not_eq_true'] at h
      obtain ⟨⟨⟨h1, h2⟩, h3⟩, h4⟩ := h
      unfold ev
      cases q : Γ.eqs[j]? with
      | none => rw [q] at h4; exact absurd h4 (by simp)
      | some g =>
        obtain ⟨⟨f, fd, ps, g1, g2, g3, g4, g5, g6⟩, hl⟩ := hX.eqs j g q
        have hl := Nat.le_of_succ_le hl
        have z := ev_own (pos := ‹Pos›) hX.hK hX.isi g2 g1 (hX.room.mono hl) g3 g4 g5 (snd a _ sc Wx X h1 hX).pe (snd b _ sc Wx X h2 hX).pe h3
        exact ⟨z, toB z, failL_of z, et_own hX.hK hX.isi g2 g1 (hX.room.mono hl) g3 g4 g5 (snd a _ sc Wx X h1 hX).pe (snd b _ sc Wx X h2 hX).pe h3⟩
    · cases h
  | .nev, e, sc, Wx, X, h, hX => pb_fail
  | .lr1 a, e, sc, Wx, X, h, hX => by
    unfold chk at h
    split at h
    · simp only [Bool.and_eq_true, decide_eq_true_eq] at h
      obtain ⟨⟨⟨⟨rfl, h1⟩, rfl, h2⟩, h3⟩, h4⟩ := h
      obtain ⟨a1, _, _, d1⟩ := free_of hX h1
      obtain ⟨a2, _, _, d2⟩ := free_of hX h2
      exact mkL_ok hX.hK rfl (el_rg1 hX.calm a1 d1 a2 d2 (snd a _ sc Wx X h3 hX).pb (starEach_of h4) (starEach_of rfl))
    · cases h
  | .lr2 a b, e, sc, Wx, X, h, hX => by
    unfold chk at h
    split at h
    · simp only [Bool.and_eq_true, decide_eq_true_eq] at h
      obtain ⟨⟨⟨⟨rfl, h1⟩, rfl, h2⟩, h3, h4⟩, h5, h6⟩ := h
      obtain ⟨a1, _, _, d1⟩ := free_of hX h1
      obtain ⟨a2, _, _, d2⟩ := free_of hX h2
      exact mkL_ok hX.hK rfl (el_rg2 hX.calm a1 d1 a2 d2 (snd a _ sc Wx X h3 hX).pb (snd b _ sc Wx X h5 hX).pb (starEach_of h4) (starEach_of h6) (noStars (by rw [List.all_cons, h6]; rfl)) (starEach_of rfl))
    · cases h
  | .co j f as, e, sc, Wx, X, h, hX => by
    unfold chk at h
    split at h
    · rename_i x p y r pos
      simp only [Bool.and_eq_true] at h
      obtain ⟨⟨h1, h3⟩, h6⟩ := h
      have hs := chks_stars as _ h3
      unfold ev
      cases q : Γ.meths[j]? with
      | none => rw [q] at h6; exact absurd h6 (by simp)
      | some g =>
        rw [q] at h6
        have e : g.name = "__call__" := of_decide_eq_true h6
        obtain ⟨⟨f, fd, ps, dvs, dus, g1, g2, g3, g4, g5, g6⟩, hl⟩ := hX.meths j g q
        rw [e] at g3
        rw [List.all_cons, Bool.and_eq_true] at hs
        exact mkE_ok hX.hK rfl (ev_callO hX.hK (snd _ _ sc Wx X h1 hX).pe g3 g1 hX.tk (hX.room.mono hl) g4 g5 g6 (snds as _ sc Wx X h3 hX).ps rfl (starEach_of hs.1) (noStars hs.2))
    · cases h
  | .kc j as kws, e, sc, Wx, X, h, hX => by
    unfold chk at h
    split at h
    · rename_i x p y r ks pos
      simp only [Bool.and_eq_true] at h
      obtain ⟨⟨⟨h1, h2⟩, h3⟩, h4⟩ := h
      obtain ⟨a', b', _⟩ := isGl_of hX h1
      have hs := chks_stars as _ h2
      unfold ev
      cases q : Γ.kcs[j]? with
      | none => rw [q] at h4; exact absurd h4 (by simp)
      | some g =>
        rw [q] at h4
        simp only [Bool.and_eq_true, decide_eq_true_eq] at h4
        obtain ⟨e, hn⟩ := h4
        subst e
        obtain ⟨⟨f, fd, ps, gB, gV, g1, g2, g3, g4, g5⟩, hl⟩ := hX.kcs j g q
        obtain ⟨k1, k2, k3⟩ := kw_all (env := X.env) (pos := pos) hn
        have hp := noStars (env := X.env) (pos := pos) hs
        rw [List.all_cons, Bool.and_eq_true] at hs
        exact mkE_ok hX.hK rfl (ev_callK a' g2 g3 g1 hX.tk (hX.room.mono hl) g4 g5 (snds as _ sc Wx X h2 hX).ps (sndk kws ks sc Wx X h3 hX) b' k1 k2 (starEach_of hs.1) (by rw [hp, k3]; rfl))
    · cases h
  | .km j o as kws, e, sc, Wx, X, h, hX => by
    unfold chk at h
    split at h
    · rename_i x m ap es ks pos
      simp only [Bool.and_eq_true, decide_eq_true_eq] at h
      obtain ⟨⟨⟨⟨⟨⟨h0, h1⟩, h2⟩, h3⟩, h5⟩, h6⟩, h4⟩ := h
      have hs := chks_stars as _ h2
      unfold ev
      cases q : Γ.kms[j]? with
      | none => rw [q] at h4; exact absurd h4 (by simp)
      | some g =>
        rw [q] at h4
        simp only [Bool.and_eq_true, decide_eq_true_eq] at h4
        obtain ⟨⟨e, hn⟩, hz⟩ := h4
        subst e
        obtain ⟨⟨f, fd, ps, gB, gV, g1, g2, g3, g4, g5⟩, hl⟩ := hX.kms j g q
        obtain ⟨k1, k2, k3⟩ := kw_all (env := X.env) (pos := pos) hn
        have hp := noStars (env := X.env) (pos := pos) hs
        have hf := meth_formK (env := X.env) (pos := pos) (kws := ks) (es := es) hp k1 h5
        cases es with
        | nil =>
          cases as with
          | nil =>
            have hz : g.np = 0 := by simpa using hz
            have z := ev_methK0 hX.hK (snd o _ sc Wx X h0 hX).pe g2 g3 g1 hX.tk (hX.room.mono hl) (by rw [hz] at g4; exact g4) g5 (sndk kws ks sc Wx X h3 hX) (attrBase_of h1) hf h6 k1 k2 (by rw [hp, k3]; rfl)
            have e : (evs Γ Es.nil).s = fNil := by unfold evs; rfl
            simp only [hz, e]
            exact mkE_ok hX.hK rfl z
          | cons a' r => unfold chks at h2; cases h2
        | cons y r =>
          rw [List.all_cons, Bool.and_eq_true] at hs
          exact mkE_ok hX.hK rfl (ev_methK hX.hK (snd o _ sc Wx X h0 hX).pe g2 g3 g1 hX.tk (hX.room.mono hl) g4 g5 (snds as _ sc Wx X h2 hX).ps (sndk kws ks sc Wx X h3 hX) (attrBase_of h1) hf h6 k1 k2 (starEach_of hs.1) (by rw [hp, k3]; rfl))
    · cases h
  | .ks j as kws, e, sc, Wx, X, h, hX => by
    unfold chk at h
    split at h
    · rename_i x cpos m ap es ks pos
      simp only [Bool.and_eq_true, decide_eq_true_eq] at h
      obtain ⟨⟨⟨⟨⟨h1, h2⟩, h3⟩, h5⟩, h6⟩, h4⟩ := h
      obtain ⟨a', b', _⟩ := isGl_of hX h1
      have hs := chks_stars as _ h2
      unfold ev
      cases q : Γ.kss[j]? with
      | none => rw [q] at h4; exact absurd h4 (by simp)
      | some g =>
        rw [q] at h4
        simp only [Bool.and_eq_true, decide_eq_true_eq] at h4
        obtain ⟨⟨⟨e1, e2⟩, hn⟩, hz⟩ := h4
        subst e1 e2
        obtain ⟨⟨mc, pp, f, fd, ps, gB, gV, g1, g2, g3, g4, g5⟩, hl⟩ := hX.kss j g q
        obtain ⟨k1, k2, k3⟩ := kw_all (env := X.env) (pos := pos) hn
        have hp := noStars (env := X.env) (pos := pos) hs
        have hf := meth_formK (env := X.env) (pos := pos) (kws := ks) (es := es) hp k1 h5
        cases es with
        | nil =>
          cases as with
          | nil =>
            have hz : g.np = 0 := by simpa using hz
            have z := ev_smeth0 (cpos := cpos) (x := g.cname) (m := g.name) (apos := ap) (pos := pos) hX.hK a' g2 b' g3 g1 hX.tk (hX.room.mono hl) (by rw [hz] at g4; exact g4) g5 (sndk kws ks sc Wx X h3 hX) hf h6 k1 k2 (by rw [hp, k3]; rfl)
            have e : (evs Γ Es.nil).s = fNil := by unfold evs; rfl
            simp only [hz, e]
            exact mkE_ok hX.hK rfl z
          | cons a' r => unfold chks at h2; cases h2
        | cons y r =>
          rw [List.all_cons, Bool.and_eq_true] at hs
          exact mkE_ok hX.hK rfl (ev_smeth hX.hK a' g2 b' g3 g1 hX.tk (hX.room.mono hl) g4 g5 (snds as _ sc Wx X h2 hX).ps (sndk kws ks sc Wx X h3 hX) hf h6 k1 k2 (starEach_of hs.1) (by rw [hp, k3]; rfl))
    · cases h
  | .neo j a b, e, sc, Wx, X, h, hX => by
    unfold chk at h
    split at h
    · simp only [Bool.and_eq_true, Bool.not_eq_true'] at h
      obtain ⟨⟨⟨h1, h2⟩, h3⟩, h4⟩ := h
      unfold ev
      cases q : Γ.eqs[j]? with
      | none => rw [q] at h4; exact absurd h4 (by simp)
      | some g =>
        obtain ⟨⟨f, fd, ps, g1, g2, g3, g4, g5, g6⟩, hl⟩ := hX.eqs j g q
        have z := ev_ownNe (pos := ‹Pos›) hX.hK hX.isi g2 g1 (hX.room.mono hl) g6 g5 (snd a _ sc Wx X h1 hX).pe (snd b _ sc Wx X h2 hX).pe h3
        exact ⟨z, toB z, failL_of z, et_ownNe hX.hK hX.isi g2 g1 (hX.room.mono hl) g6 g5 (snd a _ sc Wx X h1 hX).pe (snd b _ sc Wx X h2 hX).pe h3⟩
    · cases h
  | .o1 j a, e, sc, Wx, X, h, hX => by
    unfold chk at h
    split at h
    · simp only [Bool.and_eq_true] at h
      obtain ⟨⟨⟨h1, h2⟩, h3⟩, h4⟩ := h
      obtain ⟨a', b', c', d'⟩ := free_of hX h1
      unfold ev
      cases q : Γ.o1s[j]? with
      | none => rw [q] at h4; exact absurd h4 (by simp)
      | some g =>
        rw [q] at h4
        simp only [Bool.and_eq_true, decide_eq_true_eq] at h4
        obtain ⟨e1, e2⟩ := h4
        subst e1
        obtain ⟨⟨f, fd, ps, g1, g2, g3, g4⟩, hl⟩ := hX.o1s j g q
        exact mkE_ok hX.hK rfl (ev_ownLR hX.hK e2 a' d' g1 (hX.room.mono hl) g2 g3 g4 (ea_cons (snd a _ sc Wx X h2 hX).pe ea_nil (starEach_of h3)) (starEach_of h3))
    · cases h
  | .o1t j a, e, sc, Wx, X, h, hX => by
    unfold chk at h
    simp only [Bool.and_eq_true] at h
    obtain ⟨⟨_, h1, h2⟩, h4⟩ := h
    unfold ev
    cases q : Γ.o1s[j]? with
    | none => rw [q] at h4; exact absurd h4 (by simp)
    | some g =>
      rw [q] at h4
      have hb : g.k = .bool := of_decide_eq_true h4
      obtain ⟨⟨f, fd, ps, g1, g2, g3, g4⟩, hl⟩ := hX.o1s j g q
      rw [hb] at g2
      exact ⟨fail_any pe_none, toB (fail_any pe_none), failL_of pe_none, et_ownT hX.hK g1 (hX.room.mono (Nat.le_of_succ_le hl)) g2 g3 g4 (snd a _ sc Wx X h1 hX).pe (plainT_of h2)⟩
  | .fs as, e, sc, Wx, X, h, hX => by
    unfold chk at h
    split at h
    · unfold ev
      exact mkE_ok hX.hK rfl (ev_fstr (sndf as _ sc Wx X h hX))
    · cases h
theorem sndf : ∀ (as : Es) (es : List Expr) (sc : Scope) (Wx : WX) (X : Cx), chkf Γ N sc as es = true → XOk Γ N sc W Wx k X → PFs W Wx X es (evf Γ as)
  | .nil, es, sc, Wx, X, h, hX => by
    unfold chkf at h
    cases es with
    | nil => unfold evf; exact pf_nil
    | cons e es => cases h
  | .cons a r, es, sc, Wx, X, h, hX => by
    unfold chkf at h
    cases es with
    | nil => cases h
    | cons e es =>
      simp only [Bool.and_eq_true] at h
      obtain ⟨h1, h2⟩ := h
      unfold evf
      split at h1
      · rename_i x c sp p
        simp only [Bool.and_eq_true, beq_iff_eq] at h1
        obtain ⟨⟨c1, c2⟩, c3⟩ := h1
        subst c1
        cases sp with
        | some _ => cases c2
        | none => exact pf_fmt (snd a _ sc Wx X c3 hX).pb (sndf r es sc Wx X h2 hX)
      · rename_i t j p
        cases a with
        | str s =>
          have e : s = t := of_decide_eq_true h1
          subst e
          unfold ev
          exact pf_con (sndf r es sc Wx X h2 hX)
        | _ => cases h1
      · cases h1
theorem sndk : ∀ (as : Es) (ks : List Keyword) (sc : Scope) (Wx : WX) (X : Cx), chkk Γ N sc as ks = true → XOk Γ N sc W Wx k X → PK X ks (tEvs W Wx (evs Γ as).s)
  | .nil, ks, sc, Wx, X, h, hX => by
    unfold chkk at h
    cases ks with
    | nil => exact ek_nil
    | cons e es => cases h
  | .cons a r, ks, sc, Wx, X, h, hX => by
    unfold chkk at h
    cases ks with
    | nil => cases h
    | cons kw ks =>
      obtain ⟨nm, e, kp⟩ := kw
      rw [Bool.and_eq_true] at h
      exact ek_cons (snd a e sc Wx X h.1 hX).pe (sndk r ks sc Wx X h.2 hX)
theorem snds : ∀ (as : Es) (es : List Expr) (sc : Scope) (Wx : WX) (X : Cx), chks Γ N sc as es = true → XOk Γ N sc W Wx k X → PBs W Wx X es (evs Γ as)
  | .nil, es, sc, Wx, X, h, hX => by
    unfold chks at h
    cases es with
    | cons e es => cases h
    | nil => exact ⟨ea_nil, eb_nil, fun _ z => absurd rfl z, fun _ z => absurd rfl z, fun _ z => absurd rfl z, fun _ z => absurd rfl z⟩
  | .cons a r, es, sc, Wx, X, h, hX => by
    unfold chks at h
    cases es with
    | nil => cases h
    | cons e es =>
      simp only [Bool.and_eq_true] at h
      obtain ⟨⟨h1, h2⟩, h3⟩ := h
      have pa := snd a e sc Wx X h1 hX
      have pr := snds r es sc Wx X h2 hX
      refine ⟨ea_cons pa.pe pr.ps (starEach_of h3), eb_cons pa.pb pr.pb (starEach_of h3), fun pos _ => ?_, fun pos _ => ?_, fun pos _ => ?_, fun pos _ => ?_⟩
      all_goals
        cases r with
        | nil =>
          cases es with
          | nil => first | exact ev_one pa.pe | exact ew_and1 pa.pt | exact ew_or1 pa.pt
          | cons e' es => unfold chks at h2; cases h2
        | cons a' r' =>
          cases es with
          | nil => unfold chks at h2; cases h2
          | cons e' es => first | exact ev_and pa.pe (pr.pan pos (by simp)) | exact ew_and pa.pt (pr.panT pos (by simp)) | exact ev_or pa.pe (pr.por pos (by simp)) | exact ew_or pa.pt (pr.porT pos (by simp))
theorem sndo : ∀ (o : Oe) (e : Option Expr) (sc : Scope) (Wx : WX) (X : Cx), chko Γ N sc o e = true → XOk Γ N sc W Wx k X → POe W Wx X e (evo Γ o).1
  | .none, e, sc, Wx, X, h, hX => by
    unfold chko at h
    cases e with
    | none => exact eo_none
    | some e => cases h
  | .some a, e, sc, Wx, X, h, hX => by
    unfold chko at h
    cases e with
    | none => cases h
    | some e => exact eo_some (snd a e sc Wx X h hX).pb
theorem sndc : ∀ (o : Oe) (es : List Expr) (sc : Scope) (Wx : WX) (X : Cx), chkc Γ N sc o es = true → XOk Γ N sc W Wx k X → PTs X es (tEvT W Wx (evo Γ o).2)
  | .none, es, sc, Wx, X, h, hX => by
    unfold chkc at h
    cases es with
    | nil => exact ets_nil
    | cons e es => cases h
  | .some a, es, sc, Wx, X, h, hX => by
    unfold chkc at h
    split at h
    · exact ets_one (snd a _ sc Wx X h hX).pt
    · cases h
theorem sndr : ∀ (s : Sr) (tg e : Expr) (sc : Scope) (Wx : WX) (X : Cx), chkr Γ N sc s tg e = true → XOk Γ N sc W Wx k X → PI X tg e (tSrc' W Wx kE (evr Γ s))
  | .seq a, tg, e, sc, Wx, X, h, hX => by
    unfold chkr at h
    exact src_seq hX.hK (snd a e sc Wx X h hX).pe
  | .own a, tg, e, sc, Wx, X, h, hX => by
    unfold chkr at h
    exact src_own hX.hK (snd a e sc Wx X h hX).pb
  | .rng1 a, tg, e, sc, Wx, X, h, hX => by
    unfold chkr at h
    split at h
    · simp only [Bool.and_eq_true, decide_eq_true_eq] at h
      obtain ⟨⟨⟨rfl, h2⟩, h3⟩, h4⟩ := h
      obtain ⟨a', b', _, d'⟩ := free_of hX h2
      exact src_range1 a' d' (eb_cons (snd a _ sc Wx X h3 hX).pb eb_nil (starEach_of h4)) (starEach_of h4)
    · cases h
  | .rng2 a b, tg, e, sc, Wx, X, h, hX => by
    unfold chkr at h
    split at h
    · simp only [Bool.and_eq_true, decide_eq_true_eq] at h
      obtain ⟨⟨⟨⟨⟨rfl, h2⟩, h3⟩, h4⟩, h5⟩, h6⟩ := h
      obtain ⟨a', b', _, d'⟩ := free_of hX h2
      exact src_range2 a' d' (eb_cons (snd a _ sc Wx X h3 hX).pb (eb_cons (snd b _ sc Wx X h4 hX).pb eb_nil (starEach_of h6)) (starEach_of h5)) (by rw [starEach_of h5, starEach_of h6]; rfl) (starEach_of h6)
    · cases h
  | .str a, tg, e, sc, Wx, X, h, hX => by
    unfold chkr at h
    exact src_str (snd a e sc Wx X h hX).pb
  | .enum a, tg, e, sc, Wx, X, h, hX => by
    unfold chkr at h
    split at h
    · simp only [Bool.and_eq_true, decide_eq_true_eq] at h
      obtain ⟨⟨⟨rfl, h2⟩, h3⟩, h4⟩ := h
      obtain ⟨a', b', _, d'⟩ := free_of hX h2
      exact src_enum hX.hK a' d' (ea_cons (snd a _ sc Wx X h3 hX).pe ea_nil (starEach_of h4)) (starEach_of h4)
    · cases h
  | .zip a b, tg, e, sc, Wx, X, h, hX => by
    unfold chkr at h
    split at h
    · simp only [Bool.and_eq_true, decide_eq_true_eq] at h
      obtain ⟨⟨⟨⟨⟨rfl, h2⟩, h3⟩, h4⟩, h5⟩, h6⟩ := h
      obtain ⟨a', b', _, d'⟩ := free_of hX h2
      exact src_zip hX.hK a' d' (ea_cons (snd a _ sc Wx X h3 hX).pe (ea_cons (snd b _ sc Wx X h4 hX).pe ea_nil (starEach_of h6)) (starEach_of h5)) (starEach_of h5) (by rw [starEach_of h6]; rfl)
    · cases h
end
theorem sndrS {kk : Own → Prop} : ∀ (s : Sr) (tg e : Expr) (sc : Scope) (Wx : WX) (X : Cx), chkr Γ N sc s tg e = true → notOwn s = true → XOk Γ N sc W Wx k X → PI X tg e (tSrc' W Wx kk (evr Γ s))
  | .seq a, tg, e, sc, Wx, X, h, ho, hX => by
    unfold chkr at h
    exact src_seq hX.hK (snd a e sc Wx X h hX).pe
  | .own a, tg, e, sc, Wx, X, h, ho, hX => by
    cases ho
  | .rng1 a, tg, e, sc, Wx, X, h, ho, hX => by
    unfold chkr at h
    split at h
    · simp only [Bool.and_eq_true, decide_eq_true_eq] at h
      obtain ⟨⟨⟨rfl, h2⟩, h3⟩, h4⟩ := h
      obtain ⟨a', b', _, d'⟩ := free_of hX h2
      exact src_range1 a' d' (eb_cons (snd a _ sc Wx X h3 hX).pb eb_nil (starEach_of h4)) (starEach_of h4)
    · cases h
  | .rng2 a b, tg, e, sc, Wx, X, h, ho, hX => by
    unfold chkr at h
    split at h
    · simp only [Bool.and_eq_true, decide_eq_true_eq] at h
      obtain ⟨⟨⟨⟨⟨rfl, h2⟩, h3⟩, h4⟩, h5⟩, h6⟩ := h
      obtain ⟨a', b', _, d'⟩ := free_of hX h2
      exact src_range2 a' d' (eb_cons (snd a _ sc Wx X h3 hX).pb (eb_cons (snd b _ sc Wx X h4 hX).pb eb_nil (starEach_of h6)) (starEach_of h5)) (by rw [starEach_of h5, starEach_of h6]; rfl) (starEach_of h6)
    · cases h
  | .str a, tg, e, sc, Wx, X, h, ho, hX => by
    unfold chkr at h
    exact src_str (snd a e sc Wx X h hX).pb
  | .enum a, tg, e, sc, Wx, X, h, ho, hX => by
    unfold chkr at h
    split at h
    · simp only [Bool.and_eq_true, decide_eq_true_eq] at h
      obtain ⟨⟨⟨rfl, h2⟩, h3⟩, h4⟩ := h
      obtain ⟨a', b', _, d'⟩ := free_of hX h2
      exact src_enum hX.hK a' d' (ea_cons (snd a _ sc Wx X h3 hX).pe ea_nil (starEach_of h4)) (starEach_of h4)
    · cases h
  | .zip a b, tg, e, sc, Wx, X, h, ho, hX => by
    unfold chkr at h
    split at h
    · simp only [Bool.and_eq_true, decide_eq_true_eq] at h
      obtain ⟨⟨⟨⟨⟨rfl, h2⟩, h3⟩, h4⟩, h5⟩, h6⟩ := h
      obtain ⟨a', b', _, d'⟩ := free_of hX h2
      exact src_zip hX.hK a' d' (ea_cons (snd a _ sc Wx X h3 hX).pe (ea_cons (snd b _ sc Wx X h4 hX).pe ea_nil (starEach_of h6)) (starEach_of h5)) (starEach_of h5) (by rw [starEach_of h6]; rfl)
    · cases h
end
end EG
namespace EG
open PySem L2

/-! new cells, writes -/
def newC (c : Cell) : EM D := fun μ => some (.ok (.cell μ.length), μ ++ [c])
def fNewc (g : Env → EM (List D)) : Env → EM D := fun env => bindE (g env) fun xs => newC (.lst xs)
section
variable {W : Wd} {S S' S1 : Ws} {H H' H1 : Hp} {σ : St} {env : Env} {μ : Mu} {Wx : WX} {α β : Type} {X : Cx} {Dn : Ends}
theorem ev_newc {e : Expr} {g : Env → EM (List D)} (h : PE X e (tEvL W Wx g)) : PE X e (tEv W Wx (fNewc g)) :=
  PE.imp h fun σ H Q ⟨S, μ, env, res, hS, hE, hf, hk⟩ => by
    unfold fNewc bindE at hf
    cases e : g env μ with
    | none => rw [e] at hf; cases hf
    | some q =>
      obtain ⟨o, μ1⟩ := q
      rw [e] at hf
      cases o with
      | exc c fs => cases hf; exact ⟨S, μ, env, _, hS, hE, e, hk⟩
      | ok ds =>
        cases hf
        refine ⟨S, μ, env, _, hS, hE, e, fun S' H' l g' p vs hp ho hh hl r => ?_⟩
        obtain ⟨S2, l2, g2, r2⟩ := cell_new' (c := .lst ds) hS hp l g' ho ⟨vs, hh, hl, r⟩
        exact hk S2 H' l2 g2 _ r2
/-- a cell is written -/
theorem cell_write {n : Nat} {a : Addr} {c : Cell} {o : HO} (g : Sg W S H μ) (e1 : S.ρ[n]? = some a) (e2 : S.Ow a = some (.cell n)) (hn : n < μ.length) (r : CellRep W S (upd H a o) a c) : LtE S H S (upd H a o) ∧ Sg W S (upd H a o) (μ.set n c) := by
  have lt : LtE S H S (upd H a o) := by
    refine ⟨fun b u e q => ?_, fun b w e k => ?_, fun m b e q => ⟨e, q⟩, upd_mem⟩
    · have : b ≠ a := fun z => by rw [z, e2] at e; cases e
      rw [upd_ne this]; exact ⟨e, q⟩
    · have : b ≠ a := fun z => by rw [z, e2] at e; cases e; exact k
      rw [upd_ne this]; exact ⟨e, rfl⟩
  refine ⟨lt, fun b w e => ?_, by rw [List.length_set]; exact g.len, fun m c' e => ?_⟩
  · by_cases h : b = a
    · subst h; exact ⟨o, upd_same⟩
    · obtain ⟨u, q⟩ := g.wf b w e
      exact ⟨u, by rw [upd_ne h]; exact q⟩
  · by_cases hm : m = n
    · subst hm
      rw [List.getElem?_set_self hn] at e
      cases e
      exact ⟨a, e1, e2, r⟩
    · rw [List.getElem?_set_ne (Ne.symm hm)] at e
      obtain ⟨b, h1, h2, r'⟩ := g.cells m c' e
      have hb : b ≠ a := fun z => by rw [z, e2] at h2; cases h2; exact hm rfl
      exact ⟨b, h1, h2, r'.later lt (by rw [upd_ne hb])⟩
/-- an own thing of a local is written -/
theorem own_write {i : Nat} {a : Addr} {c c0 : Cell} {o : HO} (g : Sg W S H μ) (hE : EnvOk W S H σ env) (h0 : env[i]? = some (.own c0)) (hv : σ[i]? = some (some (.ref a))) (ho : S.Ow a = some (.slot i)) (r : CellRep W S (upd H a o) a c) :
    LtS S H S (upd H a o) ∧ Sg W S (upd H a o) μ ∧ EnvOk W S (upd H a o) σ (env.set i (.own c)) := by
  have lt : Lt (fun w => w ≠ .slot i) S H S (upd H a o) := by
    refine ⟨fun b u e q => ?_, fun b w e k => ?_, fun m b e q => ⟨e, q⟩, upd_mem⟩
    · have : b ≠ a := fun z => by rw [z, ho] at e; cases e
      rw [upd_ne this]; exact ⟨e, q⟩
    · have : b ≠ a := fun z => by rw [z, ho] at e; cases e; exact k rfl
      rw [upd_ne this]; exact ⟨e, rfl⟩
  refine ⟨⟨lt.dat, fun b w q k => lt.own b w q (by rintro rfl; exact k), lt.cel, lt.mem⟩, g.own_write ho (fun n z => nomatch z), by rw [List.length_set]; exact hE.len, fun j sl e => ?_⟩
  by_cases hj : j = i
  · subst hj
    have hl : j < env.length := (List.getElem?_eq_some_iff.mp h0).1
    rw [List.getElem?_set_self hl] at e
    cases e
    exact ⟨a, hv, ho, r⟩
  · rw [List.getElem?_set_ne (Ne.symm hj)] at e
    have z := hE.at_ j sl e
    cases sl with
    | no => trivial
    | v d => obtain ⟨v, e, r⟩ := z; exact ⟨v, e, r.later lt⟩
    | own c =>
      obtain ⟨b, e, o', r⟩ := z
      obtain ⟨q1, q2⟩ := lt.own b _ o' (fun z => hj (by cases z; rfl))
      exact ⟨b, e, q1, r.later lt q2⟩
/-! o[i] = e -/
def setAt (xs : List D) (i : D) (d : D) : Option (List D) := match i with
  | .int k => (ixN xs.length k).map fun j => xs.set j d
  | _ => none
/-- o a cell -/
def fSetC (o i e : Env → EM D) : SM := liftE e fun d => liftE o fun x => liftE i fun y => fun env μ => match x with
  | .cell n => match μ[n]? with
    | some (.lst xs) => match setAt xs y d with
      | some ys => some (.nx env, μ.set n (.lst ys))
      | none => none
    | _ => none
  | _ => none
theorem setAt_rep {vs : List V} {xs ys : List D} {y d : D} {v : V} {iv : V} (h : RepVs W S H vs xs) (rd : RepV W S H v d) (ri : RepB W S H iv y) (e : setAt xs y d = some ys) : ∃ k j, iv = .int k ∧ ixN vs.length k = some j ∧ RepVs W S H (vs.set j v) ys := by
  unfold setAt at e
  split at e
  · rename_i k
    obtain ⟨j, hj, rfl⟩ := map_some e
    exact ⟨k, j, ri.int, by rw [h.length]; exact hj, h.set rd j⟩
  · cases e
theorem asgSub_of {o i : Expr} {p : Pos} {env : PySem.Env} (h : notSlice i = true) : ∀ v, assign (.Subscript o i p) env v = (holding [v] (eval o env) >>= fun a => holding [v, a] (eval i env) >>= fun b => standAt p >>= fun _ => holding [v, a, b] (setItem a b v) >>= fun _ => release [v, a, b] []) := by
  cases i <;> first | (intro v; rfl) | cases h
theorem swapsSole_of {t e : Expr} {l : Nat} {env : PySem.Env} (h : notComp e = true) : swapsWithSole [t] e l env = pure false := swaps_of h
theorem tG.lift' {f : Env → EM α} {k : α → SM} {ok : α → Ws → Hp → Prop} {r : SO × Mu} (hS : Sg W S H μ) (hE : EnvOk W S H σ env) (hf : liftE f k env μ = some r) (hk : KS W S H Wx Dn r)
    (hR : ∀ a μ1 S1 H1, LtE S H S1 H1 → Sg W S1 H1 μ1 → EnvOk W S1 H1 σ env → k a env μ1 = some r → KS W S1 H1 Wx Dn r → ok a S1 H1) : tG W Wx f ok σ H := by
  unfold liftE at hf
  cases e : f env μ with
  | none => rw [e] at hf; cases hf
  | some q =>
    obtain ⟨o, μ1⟩ := q
    rw [e] at hf
    refine ⟨S, μ, env, _, hS, hE, e, ?_⟩
    cases o with
    | ok a => exact fun S' H' l g => hR a μ1 S' H' l g (hE.laterE l) hf (hk.later l.toS)
    | exc c fs =>
      cases hf
      exact fun S' H' dd vs l g h1 h2 h3 => hk S' H' σ dd vs l.toS g (hE.laterE l) h1 h2 h3
theorem es_setC {o i e : Expr} {p pos : Pos} {fo fi fe : Env → EM D} (he : PE X e (tEv W Wx fe)) (ho : PE X o (tEvB W Wx fo)) (hi : PE X i (tEvB W Wx fi)) (hns : notSlice i = true) (hc : notComp e = true) :
    PS X (.Assign [.Subscript o i p] e pos) (tSt W Wx (fSetC fo fi fe)) :=
  PS.imp (ps_asg he (pg_sub ho hi set_list (asgSub_of hns)) (swapsSole_of hc) (swapped_of rfl)) fun D σ H ⟨S, μ, env, r, hS, hE, hf, hk⟩ => by
    refine tG.lift' hS hE hf hk fun d μ1 S1 H1 l1 g1 e1 hf1 hk1 v rv => ?_
    refine tG.lift' g1 e1 hf1 hk1 fun x μ2 S2 H2 l2 g2 e2 hf2 hk2 ov ro => ?_
    refine tG.lift' g2 e2 hf2 hk2 fun y μ3 S3 H3 l3 g3 e3 hf3 hk3 iv ri => ?_
    have rv := (rv.later l2).later l3
    have ro := ro.laterE l3
    cases x with
    | cell n =>
      simp only at hf3
      cases q : μ3[n]? with
      | none => rw [q] at hf3; cases hf3
      | some c =>
        rw [q] at hf3
        cases c with
        | lst xs =>
          simp only at hf3
          cases z : setAt xs y d with
          | none => rw [z] at hf3; cases hf3
          | some ys =>
            rw [z] at hf3
            cases hf3
            obtain ⟨a, rfl, a1, a2⟩ := ro.cell
            obtain ⟨a', b1, b2, vs, b3, b4, b5⟩ := g3.cells n _ q
            rw [a1] at b1; cases b1
            obtain ⟨k, j, rfl, hj, rys⟩ := setAt_rep b5 rv ri z
            refine ⟨a, vs, k, j, rfl, rfl, b3, hj, ?_⟩
            have hn : n < μ3.length := (List.getElem?_eq_some_iff.mp q).1
            have lw : Lt (fun _ => False) S3 H3 S3 (upd H3 a (.lst (vs.set j v))) := by
              refine ⟨fun b u e q => ?_, fun _ _ _ h => h.elim, fun m b e q => ⟨e, q⟩, upd_mem⟩
              have : b ≠ a := fun z => by rw [z, a2] at e; cases e
              rw [upd_ne this]; exact ⟨e, q⟩
            obtain ⟨lt, gw⟩ := cell_write (c := .lst ys) (o := .lst (vs.set j v)) g3 a1 a2 hn ⟨_, upd_same, by rw [List.length_set]; exact b4, rys.later lw⟩
            exact hk3 S3 _ σ lt.toS gw (e3.laterE lt)
        | obj _ _ => cases hf3
        | dK _ => cases hf3
        | dT _ => cases hf3
    | _ => cases hf3
/-- x's own list: x[i] = e -/
def ownL (n : Nat) (k : List D → SM) : SM := fun env μ => match env[n]? with
  | some (.own (.lst xs)) => k xs env μ
  | _ => none
theorem ownL_some {n : Nat} {k : List D → SM} {r : SO × Mu} (hE : EnvOk W S H σ env) (h : ownL n k env μ = some r) : ∃ xs a vs, env[n]? = some (.own (.lst xs)) ∧ σ[n]? = some (some (.ref a)) ∧ S.Ow a = some (.slot n) ∧ H a = some (.lst vs) ∧ vs.length ≤ big ∧ RepVs W S H vs xs ∧ k xs env μ = some r := by
  unfold ownL at h
  cases e : env[n]? with
  | none => rw [e] at h; cases h
  | some sl =>
    rw [e] at h
    cases sl with
    | no => cases h
    | v d => cases h
    | own c =>
      cases c with
      | lst xs =>
        obtain ⟨a, e1, o, vs, h1, h2, h3⟩ := hE.at_ n _ e
        exact ⟨xs, a, vs, rfl, e1, o, h1, h2, h3, h⟩
      | obj _ _ => cases h
      | dK _ => cases h
      | dT _ => cases h
theorem lt_noneOwned {a : Addr} {o : HO} {w : Own} (ho : S.Ow a = some w) : Lt (fun _ => False) S H S (upd H a o) := by
  refine ⟨fun b u e q => ?_, fun _ _ _ h => h.elim, fun m b e q => ⟨e, q⟩, upd_mem⟩
  have : b ≠ a := fun z => by rw [z, ho] at e; cases e
  rw [upd_ne this]; exact ⟨e, q⟩
def fSetI (n : Nat) (i e : Env → EM D) : SM := liftE e fun d => ownL n fun xs => liftE i fun y => fun env μ => match setAt xs y d with
    | some ys => some (.nx (env.set n (.own (.lst ys))), μ)
    | none => none
theorem es_setI {n : Nat} {x : Str} {i e : Expr} {px p pos : Pos} {fi fe : Env → EM D} (he : PE X e (tEv W Wx fe)) (ho : PE X (.Name x px) (tVar n)) (hi : PE X i (tEvB W Wx fi)) (hns : notSlice i = true) (hc : notComp e = true) :
    PS X (.Assign [.Subscript (.Name x px) i p] e pos) (tSt W Wx (fSetI n fi fe)) :=
  PS.imp (ps_asg he (pg_sub ho hi set_list (asgSub_of hns)) (swapsSole_of hc) (swapped_of rfl)) fun D σ H ⟨S, μ, env, r, hS, hE, hf, hk⟩ => by
    refine tG.lift' hS hE hf hk fun d μ1 S1 H1 l1 g1 e1 hf1 hk1 v rv => ?_
    obtain ⟨xs, a, vs, q1, q2, q3, q4, q5, q6, hf2⟩ := ownL_some e1 hf1
    refine ⟨_, q2, tG.lift' g1 e1 hf2 hk1 fun y μ3 S3 H3 l3 g3 e3 hf3 hk3 iv ri => ?_⟩
    obtain ⟨o1, o2⟩ := l3.own a _ q3 trivial
    cases z : setAt xs y d with
    | none => rw [z] at hf3; cases hf3
    | some ys =>
      rw [z] at hf3
      cases hf3
      obtain ⟨k, j, rfl, hj, rys⟩ := setAt_rep (q6.later l3) (rv.later l3) ri z
      have h3 : H3 a = some (.lst vs) := o2.trans q4
      refine ⟨a, vs, k, j, rfl, rfl, h3, hj, ?_⟩
      obtain ⟨lt, gw, ew⟩ := own_write (c := .lst ys) (o := .lst (vs.set j v)) g3 e3 q1 q2 o1 ⟨_, upd_same, by rw [List.length_set]; exact q5, rys.later (lt_noneOwned o1)⟩
      exact hk3 S3 _ σ lt gw ew
/-! x.append(e), x.extend(e) -/
def fApp (n : Nat) (e : Env → EM D) : SM := ownL n fun xs => liftE e fun d => fun env μ => if xs.length < big then some (.nx (env.set n (.own (.lst (xs ++ [d])))), μ) else none
theorem few1 {e : Expr} {pos : Pos} {env : PySem.Env} (h : notStar e = true) : ((backTo pos (starEach [e] env)).all (fun x => !x.1) && (backToKw pos (keywordEach [] env)).all (fun x => x.1.isSome)
      && decide (([e] : List Expr).length + ([] : List Keyword).length + (if ([] : List Keyword).isEmpty then 0 else 1) < 30)) = true := by
  rw [starEach_of h]; rfl
theorem es_app {n : Nat} {x : Str} {e : Expr} {px ap cp pos : Pos} {fe : Env → EM D} (he : PE X e (tEv W Wx fe)) (ho : PE X (.Name x px) (tVar n)) (hs : notStar e = true) (hl : (ap.endLine == cp.line) = true) :
    PS X (.Expr (.Call (.Attribute (.Name x px) "append" ap) [e] [] cp) pos) (tSt W Wx (fApp n fe)) :=
  PS.imp (ps_expr (pe_bm PySem.F.plainAttrs_list PySem.F.slot_list_append PySem.F.type_list_append mt_append ho (pa_cons he pa_nil (starEach_of hs)) (attrBase_of rfl) (few1 hs) hl (starEach_of hs) rfl) rfl) fun D σ H ⟨S, μ, env, r, hS, hE, hf, hk⟩ => by
    obtain ⟨xs, a, vs, q1, q2, q3, q4, q5, q6, hf2⟩ := ownL_some hE hf
    refine ⟨_, q2, .inl ⟨rfl, vs, SqL.of q4⟩, tG.lift' hS hE hf2 hk fun d μ3 S3 H3 l3 g3 e3 hf3 hk3 v rv => ?_⟩
    obtain ⟨o1, o2⟩ := l3.own a _ q3 trivial
    have hf3 : (if xs.length < big then some (SO.nx (env.set n (.own (.lst (xs ++ [d])))), μ3) else none) = some r := hf3
    split at hf3
    · rename_i hlt
      cases hf3
      have h3 : H3 a = some (.lst vs) := o2.trans q4
      have hlen : vs.length < big := by rw [q6.length]; exact hlt
      refine ⟨a, vs, v, rfl, rfl, h3, Nat.lt_of_lt_of_le hlen big_le, ?_⟩
      obtain ⟨lt, gw, ew⟩ := own_write (c := .lst (xs ++ [d])) (o := .lst (vs ++ [v])) g3 e3 q1 q2 o1 ⟨_, upd_same, by rw [List.length_append]; simp; omega, ((q6.later l3).append (.one rv)).later (lt_noneOwned o1)⟩
      exact hk3 S3 _ σ lt gw ew
    · cases hf3
def fExt (n : Nat) (e : Env → EM D) : SM := ownL n fun xs => liftE e fun d => fun env μ => match lstD d μ with
  | some ys => if xs.length + ys.length ≤ big then some (.nx (env.set n (.own (.lst (xs ++ ys)))), μ) else none
  | none => none
theorem es_ext {n : Nat} {x : Str} {e : Expr} {px ap cp pos : Pos} {fe : Env → EM D} (he : PE X e (tEv W Wx fe)) (ho : PE X (.Name x px) (tVar n)) (hs : notStar e = true) (hl : (ap.endLine == cp.line) = true) :
    PS X (.Expr (.Call (.Attribute (.Name x px) "extend" ap) [e] [] cp) pos) (tSt W Wx (fExt n fe)) :=
  PS.imp (ps_expr (pe_bm PySem.F.plainAttrs_list PySem.F.slot_list_extend PySem.F.type_list_extend mt_extend ho (pa_cons he pa_nil (starEach_of hs)) (attrBase_of rfl) (few1 hs) hl (starEach_of hs) rfl) rfl) fun D σ H ⟨S, μ, env, r, hS, hE, hf, hk⟩ => by
    obtain ⟨xs, a, vs, q1, q2, q3, q4, q5, q6, hf2⟩ := ownL_some hE hf
    refine ⟨_, q2, .inl ⟨rfl, vs, SqL.of q4⟩, tG.lift' hS hE hf2 hk fun d μ3 S3 H3 l3 g3 e3 hf3 hk3 v rv => ?_⟩
    obtain ⟨o1, o2⟩ := l3.own a _ q3 trivial
    cases z : lstD d μ3 with
    | none => rw [z] at hf3; cases hf3
    | some ys =>
      rw [z] at hf3
      have hf3 : (if xs.length + ys.length ≤ big then some (SO.nx (env.set n (.own (.lst (xs ++ ys)))), μ3) else none) = some r := hf3
      obtain ⟨b, ws, rfl, b1, b2, b3⟩ := lstD_rep g3 (.inl rv) z
      split at hf3
      · rename_i hlt
        cases hf3
        have h3 : H3 a = some (.lst vs) := o2.trans q4
        have hlen : vs.length + ws.length ≤ big := by rw [q6.length, b3.length]; exact hlt
        refine ⟨a, b, vs, ws, rfl, rfl, h3, b1, Nat.le_trans hlen big_le, ?_⟩
        obtain ⟨lt, gw, ew⟩ := own_write (c := .lst (xs ++ ys)) (o := .lst (vs ++ ws)) g3 e3 q1 q2 o1 ⟨_, upd_same, by rw [List.length_append]; exact hlen, ((q6.later l3).append b3).later (lt_noneOwned o1)⟩
        exact hk3 S3 _ σ lt gw ew
      · cases hf3
/-! a, b = e, f (two plain names: no tuple) -/
def fPar (i j : Nat) (e f : Env → EM D) : SM := liftE e fun d => liftE f fun d' => fun env μ => some (.nx ((env.set i (.v d)).set j (.v d')), μ)
theorem es_par {i j : Nat} {x y : Str} {a b : Expr} {px py pt pt2 pos : Pos} {kt k2 : Nat} {fa fb : Env → EM D} (hc : X.calm = true) (hN : X.N.Nodup) (hi : X.N[i]? = some x) (hj : X.N[j]? = some y) (hij : i ≠ j)
    (hx : X.env.scope.names.lookup x = some .local) (hy : X.env.scope.names.lookup y = some .local) (ha : PE X a (tEv W Wx fa)) (hb : PE X b (tEv W Wx fb)) (s1 : notStar a = true) (s2 : notStar b = true)
    (hw : swappedStores [.Tuple [.Name x px, .Name y py] kt pt] (.Tuple [a, b] k2 pt2) X.env = pure (some [x, y])) :
    PS X (.Assign [.Tuple [.Name x px, .Name y py] kt pt] (.Tuple [a, b] k2 pt2) pos) (tSt W Wx (fPar i j fa fb)) :=
  PS.imp (ps_par hc hN hi hj hij hx hy (pa_cons ha (pa_cons hb pa_nil (starEach_of s2)) (starEach_of s1)) hw (swapsSole_of rfl)) fun D σ H ⟨S, μ, env, r, hS, hE, hf, hk⟩ => by
    refine tG.lift' hS hE hf hk fun d μ1 S1 H1 l1 g1 e1 hf1 hk1 v rv => ?_
    refine tG.lift' g1 e1 hf1 hk1 fun d' μ2 S2 H2 l2 g2 e2 hf2 hk2 v' rv' => ?_
    cases hf2
    exact ⟨v, v', rfl, hk2 S2 H2 _ .refl g2 ((e2.set (sl := .v d) ⟨v, rfl, rv.later l2⟩).set (sl := .v d') ⟨v', rfl, rv'⟩)⟩
def fPar3 (i j l : Nat) (e f g : Env → EM D) : SM := liftE e fun d => liftE f fun d' => liftE g fun d'' => fun env μ => some (.nx (((env.set i (.v d)).set j (.v d')).set l (.v d'')), μ)
theorem es_par3 {i j l : Nat} {x y z : Str} {a b c : Expr} {px py pz pt pt2 pos : Pos} {kt k2 : Nat} {fa fb fc : Env → EM D} (hc : X.calm = true) (hN : X.N.Nodup) (hi : X.N[i]? = some x) (hj : X.N[j]? = some y) (hl : X.N[l]? = some z) (hij : i ≠ j) (hil : i ≠ l) (hjl : j ≠ l)
    (hx : X.env.scope.names.lookup x = some .local) (hy : X.env.scope.names.lookup y = some .local) (hz : X.env.scope.names.lookup z = some .local) (ha : PE X a (tEv W Wx fa)) (hb : PE X b (tEv W Wx fb)) (hcc : PE X c (tEv W Wx fc)) (s1 : notStar a = true) (s2 : notStar b = true) (s3 : notStar c = true)
    (hw : swappedStores [.Tuple [.Name x px, .Name y py, .Name z pz] kt pt] (.Tuple [a, b, c] k2 pt2) X.env = pure (some [x, y, z])) :
    PS X (.Assign [.Tuple [.Name x px, .Name y py, .Name z pz] kt pt] (.Tuple [a, b, c] k2 pt2) pos) (tSt W Wx (fPar3 i j l fa fb fc)) :=
  PS.imp (ps_par3 hc hN hi hj hl hij hil hjl hx hy hz (pa_cons ha (pa_cons hb (pa_cons hcc pa_nil (starEach_of s3)) (starEach_of s2)) (starEach_of s1)) hw (swapsSole_of rfl)) fun D σ H ⟨S, μ, env, r, hS, hE, hf, hk⟩ => by
    refine tG.lift' hS hE hf hk fun d μ1 S1 H1 l1 g1 e1 hf1 hk1 v rv => ?_
    refine tG.lift' g1 e1 hf1 hk1 fun d' μ2 S2 H2 l2 g2 e2 hf2 hk2 v' rv' => ?_
    refine tG.lift' g2 e2 hf2 hk2 fun d'' μ3 S3 H3 l3 g3 e3 hf3 hk3 v'' rv'' => ?_
    cases hf3
    exact ⟨v, v', v'', rfl, hk3 S3 H3 _ .refl g3 (((e3.set (sl := .v d) ⟨v, rfl, (rv.later l2).later l3⟩).set (sl := .v d') ⟨v', rfl, rv'.later l3⟩).set (sl := .v d'') ⟨v'', rfl, rv''⟩)⟩
end
end EG
namespace EG
open PySem L2
/-! o.f = e, o a cell -/
def putD (f : Str) (d : D) : List (Str × D) → List (Str × D)
  | [] => [(f, d)]
  | (g, x) :: r => if g = f then (g, d) :: r else (g, x) :: putD f d r
section
variable {W : Wd} {S S' S1 : Ws} {H H' H1 : Hp} {σ : St} {env : Env} {μ : Mu} {Wx : WX} {α β : Type} {X : Cx} {Dn : Ends}
theorem RepFs.put {f : Str} {v : V} {d : D} (rd : RepV W S H v d) : ∀ {vs : List (Str × V)} {fs : List (Str × D)}, RepFs W S H vs fs → RepFs W S H (putF f v vs) (putD f d fs)
  | _, _, .nil => .cons rd .nil
  | _, _, .cons (f := g) r t => by
    unfold putF putD
    by_cases h : g = f
    · rw [if_pos h, if_pos h]; exact .cons rd t
    · rw [if_neg h, if_neg h]; exact .cons r (RepFs.put rd t)
theorem RepFs.len : ∀ {vs : List (Str × V)} {fs : List (Str × D)}, RepFs W S H vs fs → vs.length = fs.length
  | _, _, .nil => rfl
  | _, _, .cons _ t => by rw [List.length_cons, List.length_cons, RepFs.len t]
def cellO (x : D) (μ : Mu) : Option (Nat × Nat × List (Str × D)) := match x with
  | .cell n => match μ[n]? with
    | some (.obj c fs) => some (n, c, fs)
    | _ => none
  | _ => none
def fSetF (flds : List (Nat × Str)) (f : Str) (o e : Env → EM D) : SM := liftE e fun d => liftE o fun x => fun env μ => match cellO x μ with
  | some (n, c, fs) => if (c, f) ∈ flds ∧ fs.length < 1000 then some (.nx env, μ.set n (.obj c (putD f d fs))) else none
  | none => none
theorem es_setF {flds : List (Nat × Str)} (hf : FldOk W flds) (hK : X.K = W.K) {o e : Expr} {f : Str} {p pos : Pos} {fo fe : Env → EM D} (he : PE X e (tEv W Wx fe)) (ho : PE X o (tEvB W Wx fo)) (hs : swapsWith e (some (.Attribute o f p)) pos.line X.env = pure false) :
    PS X (.Assign [.Attribute o f p] e pos) (tSt W Wx (fSetF flds f fo fe)) :=
  PS.imp (ps_fld ho he hs) fun Dn σ H ⟨S, μ, env, r, hS, hE, hg, hk⟩ => by
    refine tG.lift' hS hE hg hk fun d μ1 S1 H1 l1 g1 e1 hf1 hk1 v rv => ?_
    refine tG.lift' g1 e1 hf1 hk1 fun x μ2 S2 H2 l2 g2 e2 hf2 hk2 u ru => ?_
    have hf2 : (match cellO x μ2 with
      | some (n, c, fs) => if (c, f) ∈ flds ∧ fs.length < 1000 then some (SO.nx env, μ2.set n (.obj c (putD f d fs))) else none
      | none => none) = some r := hf2
    cases q : cellO x μ2 with
    | none => rw [q] at hf2; cases hf2
    | some z =>
      obtain ⟨n, c, fs⟩ := z
      rw [q] at hf2
      simp only at hf2
      split at hf2
      · rename_i hh
        cases hf2
        unfold cellO at q
        split at q
        · rename_i m
          split at q
          · rename_i hm
            cases q
            obtain ⟨a, rfl, a1, a2⟩ := ru.cell
            obtain ⟨a', b1, b2, dx, vs, b3, b4⟩ := g2.cells _ _ hm
            rw [a1] at b1; cases b1
            obtain ⟨k1, k2⟩ := hf.ok c f hh.1
            refine ⟨a, _, dx, vs, rfl, b3, by rw [hK]; exact k1, by rw [hK]; exact k2, by rw [b4.len]; exact hh.2, ?_⟩
            have hn := (List.getElem?_eq_some_iff.mp hm).1
            have lw : Lt (fun _ => False) S2 H2 S2 (upd H2 a (.ins (W.ca c) dx (putF f v vs))) := by
              refine ⟨fun b u e q => ?_, fun _ _ _ h => h.elim, fun m b e q => ⟨e, q⟩, upd_mem⟩
              have : b ≠ a := fun z => by rw [z, a2] at e; cases e
              rw [upd_ne this]; exact ⟨e, q⟩
            obtain ⟨lt, gw⟩ := cell_write (c := .obj c (putD f d fs)) (o := .ins (W.ca c) dx (putF f v vs)) g2 a1 a2 hn ⟨dx, _, upd_same, (b4.put (rv.later l2)).later lw⟩
            exact hk2 S2 _ σ lt.toS gw (e2.laterE lt)
          · cases q
        · cases q
      · cases hf2
end
end EG
namespace EG
open PySem L2

/-! commands -/
mutual
inductive C where
  | pass | doc | nev | brk | cnt | retN
  | set (i : Nat) (e : E) | own (i : Nat) (e : E) | cell (i : Nat) (e : E) | asg (p : Pat) (e : E) | par (i j : Nat) (e f : E) | par3 (i j l : Nat) (e f g : E)
  | ret (e : E) | retC (e : E) | expr (e : E)
  | iff (c : E) (a b : Cs) | forr (p : Pat) (s : Sr) (b : Cs)
  | setC (o i e : E) | setF (o : E) (f : Str) (e : E) | setI (n : Nat) (i e : E) | app (n : Nat) (e : E) | ext (n : Nat) (e : E)
inductive Cs where
  | nil | cons (c : C) (r : Cs) | ghost (i : Nat) (r : Cs)
end
noncomputable section
mutual
def run (Γ : Gam) : C → SM
  | .pass => fSkip
  | .doc => fSkip
  | .nev => fNever
  | .brk => fBreak
  | .cnt => fCont
  | .retN => fRetN
  | .set i e => fSet i (ev Γ e).e
  | .own i e => fSetOwn i (ev Γ e).l
  | .cell i e => fSet i (fNewc (ev Γ e).l)
  | .asg p e => fAsg p (ev Γ e).e
  | .par i j e f => fPar i j (ev Γ e).e (ev Γ f).e
  | .par3 i j l e f g => fPar3 i j l (ev Γ e).e (ev Γ f).e (ev Γ g).e
  | .ret e => fRet (ev Γ e).e
  | .retC e => fRet (fNewc (ev Γ e).l)
  | .expr e => fDrop (ev Γ e).e
  | .iff c a b => fIfS (ev Γ c).t (runs Γ a) (runs Γ b)
  | .forr p s b => fFor p (evr Γ s) (runs Γ b)
  | .setC o i e => fSetC (ev Γ o).b (ev Γ i).b (ev Γ e).e
  | .setF o f e => fSetF Γ.flds f (ev Γ o).b (ev Γ e).e
  | .setI n i e => fSetI n (ev Γ i).b (ev Γ e).e
  | .app n e => fApp n (ev Γ e).e
  | .ext n e => fExt n (ev Γ e).e
def runs (Γ : Gam) : Cs → SM
  | .nil => fSkip
  | .cons c r => fSeq (run Γ c) (runs Γ r)
  | .ghost i r => fSeq (fFreeze i) (runs Γ r)
end
end
/-- what swapsWith says of a name and a value, in a def -/
def swB (sc : Scope) (t : Str) (tl : Nat) (v : Expr) : Bool := match v with
  | .ListComp _ _ s p => decide (sc.names.lookup t = some .local) && tl == p.line && !(s.names.any fun (n, k) => n == t && (k == .local || k == .cell))
  | _ => false
def okStore (N : List Str) (sc : Scope) (i : Nat) (x : Str) : Bool := decide (N[i]? = some x) && isLoc sc x
def swPar (x y : Str) (px py : Pos) (a b : Expr) : Bool := px.line == py.line && decide (x ≠ y) && !([a, b].all (foldedForSure 8)) && !([a, b].all (constantsAlone 8))
def swPar3 (x y z : Str) (px py pz : Pos) (a b c : Expr) : Bool := px.line == py.line && px.line == pz.line && decide (x ≠ y) && decide (x ≠ z) && decide (y ≠ z) && !([a, b, c].all (foldedForSure 8)) && !([a, b, c].all (constantsAlone 8))
/-- two displays that are not swapped -/
def swNone (sc : Scope) : Expr → Expr → Bool
  | .Tuple ts _ _, .Tuple vs _ _ => !(ts.length == 2 || ts.length == 3) || ts.any fun
    | .Name x _ => decide (sc.names.lookup x ≠ some .local)
    | _ => true
  | _, _ => false
def isListComp : Expr → Bool
  | .ListComp .. => true
  | _ => false
mutual
def chkC (Γ : Gam) (N : List Str) (sc : Scope) : C → Stmt → Bool
  | .pass, s => match s with
    | .Pass _ => true
    | _ => false
  | .doc, s => match s with
    | .Expr (.Constant (.str _) _ _) _ => true
    | _ => false
  | .nev, _ => true
  | .brk, s => match s with
    | .Break _ => true
    | _ => false
  | .cnt, s => match s with
    | .Continue _ => true
    | _ => false
  | .retN, s => match s with
    | .Return none _ => true
    | _ => false
  | .set i e, s => match s with
    | .Assign [.Name x p] v _ => okStore N sc i x && chk Γ N sc e v && (notComp v || isListComp v && (!(swB sc x p.line v) || decide (sc.names.lookup x = some .local)))
    | _ => false
  | .own i e, s => match s with
    | .Assign [.Name x p] v _ => okStore N sc i x && chk Γ N sc e v && (notComp v || isListComp v && (!(swB sc x p.line v) || decide (sc.names.lookup x = some .local)))
    | _ => false
  | .cell i e, s => match s with
    | .Assign [.Name x p] v _ => okStore N sc i x && chk Γ N sc e v && notComp v
    | _ => false
  | .asg p e, s => match s with
    | .Assign [t] v _ => chkP N sc p t && chk Γ N sc e v && notComp v && ((notTL t || notTuple v) || swNone sc t v) && notStar t
    | _ => false
  | .par i j e f, s => match s with
    | .Assign [.Tuple [.Name x px, .Name y py] _ _] (.Tuple [a, b] _ _) _ => decide (N[i]? = some x) && decide (N[j]? = some y) && decide (i ≠ j) && decide (sc.names.lookup x = some .local) && decide (sc.names.lookup y = some .local) && chk Γ N sc e a && chk Γ N sc f b && notStar a && notStar b && swPar x y px py a b
    | _ => false
  | .par3 i j l e f g, s => match s with
    | .Assign [.Tuple [.Name x px, .Name y py, .Name z pz] _ _] (.Tuple [a, b, c] _ _) _ => (decide (N[i]? = some x) && decide (N[j]? = some y) && decide (N[l]? = some z)) && (decide (i ≠ j) && decide (i ≠ l) && decide (j ≠ l)) && (decide (sc.names.lookup x = some .local) && decide (sc.names.lookup y = some .local) && decide (sc.names.lookup z = some .local)) && (chk Γ N sc e a && chk Γ N sc f b && chk Γ N sc g c) && (notStar a && notStar b && notStar c) && swPar3 x y z px py pz a b c
    | _ => false
  | .ret e, s => match s with
    | .Return (some v) _ => chk Γ N sc e v
    | _ => false
  | .retC e, s => match s with
    | .Return (some v) _ => chk Γ N sc e v
    | _ => false
  | .expr e, s => match s with
    | .Expr v _ => chk Γ N sc e v && notComp v
    | _ => false
  | .iff c a b, s => match s with
    | .If x y z _ => chk Γ N sc c x && chkCs Γ N sc a y && chkCs Γ N sc b z
    | _ => false
  | .forr p r b, s => match s with
    | .For tg it body [] _ => chkP N sc p tg && chkr Γ N sc r tg it && chkCs Γ N sc b body && notSet it && notOwn r
    | _ => false
  | .setC o i e, s => match s with
    | .Assign [.Subscript x y _] v _ => chk Γ N sc o x && chk Γ N sc i y && chk Γ N sc e v && notSlice y && notComp v
    | _ => false
  | .setF o f e, s => match s with
    | .Assign [.Attribute x g _] v _ => decide (g = f) && chk Γ N sc o x && chk Γ N sc e v && notComp v
    | _ => false
  | .setI n i e, s => match s with
    | .Assign [.Subscript (.Name x _) y _] v _ => chkV N sc n x && chk Γ N sc i y && chk Γ N sc e v && notSlice y && notComp v
    | _ => false
  | .app n e, s => match s with
    | .Expr (.Call (.Attribute (.Name x _) m ap) [v] [] cp) _ => decide (m = "append") && chkV N sc n x && chk Γ N sc e v && notStar v && ap.endLine == cp.line
    | _ => false
  | .ext n e, s => match s with
    | .Expr (.Call (.Attribute (.Name x _) m ap) [v] [] cp) _ => decide (m = "extend") && chkV N sc n x && chk Γ N sc e v && notStar v && ap.endLine == cp.line
    | _ => false
def chkCs (Γ : Gam) (N : List Str) (sc : Scope) : Cs → List Stmt → Bool
  | .nil, ss => ss.isEmpty
  | .cons c r, ss => match ss with
    | [] => false
    | s :: ss => chkC Γ N sc c s && chkCs Γ N sc r ss
  | .ghost _ r, ss => chkCs Γ N sc r ss
end
structure XSt (Γ : Gam) (N : List Str) (sc : Scope) (W : Wd) (Wx : WX) (k : Nat) (X : Cx) : Prop extends XOk Γ N sc W Wx k X where
  hsc : X.env.scope = sc
  hkind : sc.kind = .function
  po : PassesOwn (model X.prog X.w) X.A X.env X.xe
section
variable {Γ : Gam} {N : List Str} {W : Wd} {k : Nat} {X : Cx} {sc : Scope} {Wx : WX}
theorem PS.asgImp {st : Stmt} {te te' : TE} {g : TG} (h : PS X st (tAsg te g)) (hi : ∀ σ H Q, te' σ H Q → te σ H Q) : PS X st (tAsg te' g) := PS.imp h fun D σ H q => hi _ _ _ q
theorem swB_of (hX : XSt Γ N sc W Wx k X) {x : Str} {p pos : Pos} {v : Expr} {b : Bool} (hl : isListComp v = true) (h : swB sc x p.line v = b) : swapsWith v (some (.Name x p)) pos.line X.env = pure b := by
  cases v <;> first
    | (cases hl; done)
    | skip
  subst h
  rename_i el gs s pp
  have hk : X.env.blockKind = .function := by
    show (if X.env.scope.kind.isAnnotationScope then ScopeKind.function else X.env.scope.kind) = _
    rw [hX.hsc, hX.hkind]; rfl
  have hn : X.env.kindOf x = sc.names.lookup x := by
    show X.env.scope.names.lookup x = _
    rw [hX.hsc]
  show (pure (X.env.blockKind == .function && X.env.kindOf x == some .local && p.line == pp.line && !(s.names.any fun (n, k) => n == x && (k == .local || k == .cell))) : Sem Bool) = _
  rw [hk, hn]
  unfold swB
  congr 1
  have : (some NameKind.local == sc.names.lookup x) = decide (sc.names.lookup x = some .local) := by
    by_cases q : sc.names.lookup x = some .local
    · rw [q]; rfl
    · rw [decide_eq_false q]
      exact beq_eq_false_iff_ne.mpr fun z => q z.symm
  have this2 : (sc.names.lookup x == some NameKind.local) = decide (sc.names.lookup x = some .local) := by
    by_cases q : sc.names.lookup x = some .local
    · rw [q]; rfl
    · rw [decide_eq_false q]
      exact beq_eq_false_iff_ne.mpr q
  rw [this2]
  rfl
theorem anyStar {a b : Expr} (h1 : notStar a = true) (h2 : notStar b = true) : ([a, b].any fun | .Starred .. => true | _ => false) = false := by
  cases a <;> first
    | (cases h1; done)
    | (cases b <;> first
        | (cases h2; done)
        | rfl)
theorem swapped_par (hX : XSt Γ N sc W Wx k X) {x y : Str} {a b : Expr} {px py pt pt2 : Pos} {kt k2 : Nat} (h : swPar x y px py a b = true) (hx : sc.names.lookup x = some .local) (hy : sc.names.lookup y = some .local) (s1 : notStar a = true) (s2 : notStar b = true) :
    swappedStores [.Tuple [.Name x px, .Name y py] kt pt] (.Tuple [a, b] k2 pt2) X.env = pure (some [x, y]) := by
  have hk : X.env.blockKind = .function := by
    show (if X.env.scope.kind.isAnnotationScope then ScopeKind.function else X.env.scope.kind) = _
    rw [hX.hsc, hX.hkind]; rfl
  have nx : X.env.kindOf x = some .local := by
    show X.env.scope.names.lookup x = _
    rw [hX.hsc]; exact hx
  have ny : X.env.kindOf y = some .local := by
    show X.env.scope.names.lookup y = _
    rw [hX.hsc]; exact hy
  unfold swPar at h
  simp only [Bool.and_eq_true, Bool.not_eq_true', decide_eq_true_eq, beq_iff_eq] at h
  obtain ⟨⟨⟨h1, h2⟩, h3⟩, h4⟩ := h
  have hn : ([Expr.Name x px, Expr.Name y py].filterMap fun
    | .Name id pos => if X.env.kindOf id == some .local && pos.line == px.line then some id else none
    | _ => none) = [x, y] := by
    simp [List.filterMap_cons, nx, ny, h1]
  have he : ([x, y] : List Str).eraseDups.length = 2 := by
    have : (y == x) = false := beq_eq_false_iff_ne.mpr fun z => h2 z.symm
    simp [List.eraseDups_cons, this]
  show (do
    if !(2 == 2 || 2 == 3) || 2 != 2 || X.env.blockKind != .function then return none
    if [a, b].any fun | .Starred .. => true | _ => false then return none
    let names := [Expr.Name x px, Expr.Name y py].filterMap fun
      | .Name id pos => if X.env.kindOf id == some .local && pos.line == px.line then some id else none
      | _ => none
    if names.length != 2 || names.eraseDups.length != names.length then return none
    if [a, b].all (foldedForSure 8) then return none
    if [a, b].all (constantsAlone 8) then unsupported "assign.tuple-of-constant-expressions:order-of-the-stores"
    return some names : Sem (Option (List Str))) = _
  rw [hn]
  simp only [hk, anyStar s1 s2, he, h3, h4]
  rfl
theorem filterMap_short {α β : Type} {f : α → Option β} {l : List α} (h : ∃ x ∈ l, f x = none) : (l.filterMap f).length ≠ l.length := by
  obtain ⟨x, hx, e⟩ := h
  induction l with
  | nil => cases hx
  | cons y r ih =>
    rw [List.filterMap_cons]
    rcases List.mem_cons.mp hx with rfl | hx
    · rw [e]
      have := List.length_filterMap_le f r
      simp only [List.length_cons]
      omega
    · have := ih hx
      cases f y with
      | none =>
        have := List.length_filterMap_le f r
        simp only [List.length_cons]
        omega
      | some z => simp only [List.length_cons]; omega
theorem swapped_ofS (hX : XSt Γ N sc W Wx k X) {t v : Expr} (h : ((notTL t || notTuple v) || swNone sc t v) = true) : swappedStores [t] v X.env = pure none := by
  rw [Bool.or_eq_true] at h
  rcases h with h | h
  · exact swapped_of h
  · unfold swNone at h
    split at h
    · rename_i ts kt pt vs kv pv
      rw [Bool.or_eq_true] at h
      have fin : ((!(ts.length == 2 || ts.length == 3)) = true) ∨ ∃ e ∈ ts, (fun
          | Expr.Name id pos => if X.env.kindOf id == some .local && pos.line == (ts.head?.map (·.pos.line)).getD 0 then some id else none
          | _ => (none : Option Str)) e = none := by
        rcases h with h | h
        · exact .inl h
        · refine .inr ?_
          obtain ⟨e, he, h⟩ := List.any_eq_true.mp h
          refine ⟨e, he, ?_⟩
          cases e <;> first
            | rfl
            | skip
          rename_i x px
          have h : sc.names.lookup x ≠ some .local := of_decide_eq_true h
          have nx : (X.env.kindOf x == some .local) = false := by
            have : X.env.kindOf x = sc.names.lookup x := by
              show X.env.scope.names.lookup x = _
              rw [hX.hsc]
            rw [this]
            exact beq_eq_false_iff_ne.mpr h
          show (if X.env.kindOf x == some .local && _ then some x else none) = none
          rw [nx]
          rfl
      show (do
        if !(ts.length == 2 || ts.length == 3) || vs.length != ts.length || X.env.blockKind != .function then return none
        if vs.any fun | .Starred .. => true | _ => false then return none
        let line := (ts.head?.map (·.pos.line)).getD 0
        let names := ts.filterMap fun
          | .Name id pos => if X.env.kindOf id == some .local && pos.line == line then some id else none
          | _ => none
        if names.length != ts.length || names.eraseDups.length != names.length then return none
        if vs.all (foldedForSure 8) then return none
        if vs.all (constantsAlone 8) then unsupported "assign.tuple-of-constant-expressions:order-of-the-stores"
        return some names : Sem (Option (List Str))) = _
      rcases fin with h | h
      · rw [h]; rfl
      · have hl := filterMap_short h
        cases q : (!(ts.length == 2 || ts.length == 3) || vs.length != ts.length || X.env.blockKind != .function) with
        | true => rfl
        | false =>
          cases q2 : (vs.any fun | .Starred .. => true | _ => false) with
          | true => rfl
          | false =>
            have : ((ts.filterMap fun
              | Expr.Name id pos => if X.env.kindOf id == some .local && pos.line == (ts.head?.map (·.pos.line)).getD 0 then some id else none
              | _ => (none : Option Str)).length != ts.length) = true := bne_iff_ne.mpr hl
            simp only [this, Bool.true_or, Bool.false_eq_true, if_false, if_true]
    · cases h
theorem swapped_par3 (hX : XSt Γ N sc W Wx k X) {x y z : Str} {a b c : Expr} {px py pz pt pt2 : Pos} {kt k2 : Nat} (h : swPar3 x y z px py pz a b c = true) (hx : sc.names.lookup x = some .local) (hy : sc.names.lookup y = some .local) (hz : sc.names.lookup z = some .local) (s1 : notStar a = true) (s2 : notStar b = true) (s3 : notStar c = true) :
    swappedStores [.Tuple [.Name x px, .Name y py, .Name z pz] kt pt] (.Tuple [a, b, c] k2 pt2) X.env = pure (some [x, y, z]) := by
  have hk : X.env.blockKind = .function := by
    show (if X.env.scope.kind.isAnnotationScope then ScopeKind.function else X.env.scope.kind) = _
    rw [hX.hsc, hX.hkind]; rfl
  have kf : ∀ x, X.env.kindOf x = sc.names.lookup x := fun x => by
    show X.env.scope.names.lookup x = _
    rw [hX.hsc]
  unfold swPar3 at h
  simp only [Bool.and_eq_true, Bool.not_eq_true', decide_eq_true_eq, beq_iff_eq] at h
  obtain ⟨⟨⟨⟨⟨⟨h1, h1'⟩, h2⟩, h2'⟩, h2''⟩, h3⟩, h4⟩ := h
  have hn : ([Expr.Name x px, Expr.Name y py, Expr.Name z pz].filterMap fun
    | .Name id pos => if X.env.kindOf id == some .local && pos.line == px.line then some id else none
    | _ => none) = [x, y, z] := by
    simp [List.filterMap_cons, kf, hx, hy, hz, h1, ← h1']
  have he : ([x, y, z] : List Str).eraseDups.length = 3 := by
    have e1 : (y == x) = false := beq_eq_false_iff_ne.mpr fun q => h2 q.symm
    have e2 : (z == x) = false := beq_eq_false_iff_ne.mpr fun q => h2' q.symm
    have e3 : (z == y) = false := beq_eq_false_iff_ne.mpr fun q => h2'' q.symm
    simp [List.eraseDups_cons, e1, e2, e3]
  show (do
    if !(3 == 2 || 3 == 3) || 3 != 3 || X.env.blockKind != .function then return none
    if [a, b, c].any fun | .Starred .. => true | _ => false then return none
    let names := [Expr.Name x px, Expr.Name y py, Expr.Name z pz].filterMap fun
      | .Name id pos => if X.env.kindOf id == some .local && pos.line == px.line then some id else none
      | _ => none
    if names.length != 3 || names.eraseDups.length != names.length then return none
    if [a, b, c].all (foldedForSure 8) then return none
    if [a, b, c].all (constantsAlone 8) then unsupported "assign.tuple-of-constant-expressions:order-of-the-stores"
    return some names : Sem (Option (List Str))) = _
  rw [hn]
  have n1 : ∀ {e : Expr}, notStar e = true → (match e with | .Starred .. => true | _ => false) = false := fun {e} h => by cases e <;> first | rfl | cases h
  have s : ([a, b, c].any fun | .Starred .. => true | _ => false) = false := by
    simp only [List.any_cons, List.any_nil, n1 s1, n1 s2, n1 s3, Bool.or_false]
  simp only [hk, s, he, h3, h4]
  rfl
/-! comprehensions given to a name on one line -/
theorem comp_lc (hX : XSt Γ N sc W Wx k X) {i : Nat} {x : Str} {p pos : Pos} {v : Expr} {e : E} (hl : isListComp v = true) (hc : chk Γ N sc e v = true) (h1 : N[i]? = some x) (h2 : sc.names.lookup x = some .local) (hs : swB sc x p.line v = true) :
    PS X (.Assign [.Name x p] v pos) (tAsg (tEvL W Wx (ev Γ e).l) (gName i)) := by
  cases e <;> first
    | (unfold chk at hc; cases v <;> first | (cases hl; done) | (cases hc; done))
    | skip
  rename_i own q s c el
  unfold chk at hc
  split at hc
  · rename_i el' tg iter ifs scope pp
    have hs' := swB_of hX (pos := pos) hl hs
    simp only [Bool.and_eq_true] at hc
    obtain ⟨⟨⟨⟨⟨⟨k1, k2⟩, k3⟩, k4⟩, k5⟩, k6⟩, k7⟩ := hc
    have bk : BlkOk X.N X.env.scope scope own := by rw [hX.hN]; exact blkOk_scopes (blkOk_by k2) hX.hlk
    refine PS.asgImp (ps_setLc (own := own) hX.calm (by rw [hX.hN]; exact hX.nd) (by rw [hX.hN]; exact h1) (by rw [hX.hsc]; exact h2) hs' (sndr s _ _ sc Wx X k1 hX.toXOk) bk (fun s H C cl fp => pat_of (hX.toXOk.blk s H _ C cl fp) q _ k4) (fun s H C cl fp => sndc c _ _ Wx0 _ k5 (hX.toXOk.blk s H _ C cl fp)) (fun s H C cl fp => (snd el _ _ Wx0 _ k6 (hX.toXOk.blk s H _ C cl fp)).pe) (folded_of k7)) fun σ H Q h => lc_of (fun i hi => ?_) h
    have := List.all_eq_true.mp k3 i hi
    simpa using this
  · cases hc
theorem storeN (hX : XSt Γ N sc W Wx k X) {i : Nat} {x : Str} {p pos : Pos} {v : Expr} {te : TE} (h : okStore N sc i x = true) (he : PE X v te) (hs : swapsWith v (some (.Name x p)) pos.line X.env = pure false) : PS X (.Assign [.Name x p] v pos) (tAsg te (gName i)) := by
  unfold okStore at h
  rw [Bool.and_eq_true] at h
  have l := isLoc_loc h.2
  refine ps_set (by rw [hX.hN]; exact hX.nd) (by rw [hX.hN]; exact of_decide_eq_true h.1) (by rw [hX.hsc]; exact l) he hs ?_
  rcases l with l | l
  · exact .inr (by rw [hX.hsc]; exact l)
  · exact .inl (hX.fn x l)
/-- x = a new list, whichever way the comprehension is stored -/
theorem asgL (hX : XSt Γ N sc W Wx k X) {i : Nat} {x : Str} {p pos : Pos} {v : Expr} {e : E} (h : okStore N sc i x = true) (hc : chk Γ N sc e v = true) (hv : (notComp v || isListComp v && (!(swB sc x p.line v) || decide (sc.names.lookup x = some .local))) = true) :
    PS X (.Assign [.Name x p] v pos) (tAsg (tEvL W Wx (ev Γ e).l) (gName i)) := by
  rcases (Bool.or_eq_true _ _).mp hv with q | q
  · exact storeN hX h (snd e v sc Wx X hc hX.toXOk).pl (swaps_of q)
  · rw [Bool.and_eq_true] at q
    cases z : swB sc x p.line v with
    | false => exact storeN hX h (snd e v sc Wx X hc hX.toXOk).pl (swB_of hX q.1 z)
    | true =>
      rw [z] at q
      have h' := h
      unfold okStore at h'
      rw [Bool.and_eq_true] at h'
      exact comp_lc hX q.1 hc (of_decide_eq_true h'.1) (by simpa using q.2) z
theorem asgE (hX : XSt Γ N sc W Wx k X) {i : Nat} {x : Str} {p pos : Pos} {v : Expr} {e : E} (h : okStore N sc i x = true) (hc : chk Γ N sc e v = true) (hv : (notComp v || isListComp v && (!(swB sc x p.line v) || decide (sc.names.lookup x = some .local))) = true) :
    PS X (.Assign [.Name x p] v pos) (tAsg (tEv W Wx (ev Γ e).e) (gName i)) := by
  rcases (Bool.or_eq_true _ _).mp hv with q | q
  · exact storeN hX h (snd e v sc Wx X hc hX.toXOk).pe (swaps_of q)
  · have hL := asgL hX (pos := pos) h hc hv
    rw [Bool.and_eq_true] at q
    cases e <;> first
      | (unfold chk at hc; cases v <;> first | (cases q.1; done) | (cases hc; done) | (have := q.1; cases this))
      | skip
    exact PS.asgImp hL fun σ H Q h => new_of h
mutual
theorem sndC : ∀ (c : C) (s : Stmt), chkC Γ N sc c s = true → XSt Γ N sc W Wx k X → PS X s (tSt W Wx (run Γ c))
  | .pass, s, h, hX => by
    unfold chkC at h
    split at h
    · exact es_pass
    · cases h
  | .doc, s, h, hX => by
    unfold chkC at h
    split at h
    · exact es_doc
    · cases h
  | .nev, s, h, hX => es_never
  | .brk, s, h, hX => by
    unfold chkC at h
    split at h
    · exact es_break
    · cases h
  | .cnt, s, h, hX => by
    unfold chkC at h
    split at h
    · exact es_cont
    · cases h
  | .retN, s, h, hX => by
    unfold chkC at h
    split at h
    · exact es_retN
    · cases h
  | .set i e, s, h, hX => by
    unfold chkC at h
    split at h
    · simp only [Bool.and_eq_true] at h
      exact es_set (asgE hX h.1.1 h.1.2 h.2)
    · cases h
  | .own i e, s, h, hX => by
    unfold chkC at h
    split at h
    · simp only [Bool.and_eq_true] at h
      exact es_setOwn (asgL hX h.1.1 h.1.2 h.2)
    · cases h
  | .cell i e, s, h, hX => by
    unfold chkC at h
    split at h
    · simp only [Bool.and_eq_true] at h
      exact es_set (storeN hX h.1.1 (ev_newc (snd e _ sc Wx X h.1.2 hX.toXOk).pl) (swaps_of h.2))
    · cases h
  | .asg p e, s, h, hX => by
    unfold chkC at h
    split at h
    · simp only [Bool.and_eq_true] at h
      obtain ⟨⟨⟨⟨h1, h2⟩, h3⟩, h4⟩, h5⟩ := h
      exact es_asg (ps_asg (snd e _ sc Wx X h2 hX.toXOk).pe (pat_of hX.toXOk p _ h1) (swapsSole_of h3) (swapped_ofS hX h4) (by rw [assignEach_of h5]; rfl))
    · cases h
  | .par i j e f, s, h, hX => by
    unfold chkC at h
    split at h
    · simp only [Bool.and_eq_true, decide_eq_true_eq] at h
      obtain ⟨⟨⟨⟨⟨⟨⟨⟨⟨h1, h2⟩, h3⟩, h4⟩, h5⟩, h6⟩, h7⟩, h8⟩, h9⟩, h10⟩ := h
      exact es_par hX.calm (by rw [hX.hN]; exact hX.nd) (by rw [hX.hN]; exact h1) (by rw [hX.hN]; exact h2) h3 (by rw [hX.hsc]; exact h4) (by rw [hX.hsc]; exact h5) (snd e _ sc Wx X h6 hX.toXOk).pe (snd f _ sc Wx X h7 hX.toXOk).pe h8 h9 (swapped_par hX h10 h4 h5 h8 h9)
    · cases h
  | .par3 i j l e f g, s, h, hX => by
    unfold chkC at h
    split at h
    · simp only [Bool.and_eq_true, decide_eq_true_eq] at h
      obtain ⟨⟨⟨⟨⟨⟨⟨a1, a2⟩, a3⟩, ⟨b1, b2⟩, b3⟩, ⟨c1, c2⟩, c3⟩, ⟨d1, d2⟩, d3⟩, ⟨e1, e2⟩, e3⟩, h10⟩ := h
      exact es_par3 hX.calm (by rw [hX.hN]; exact hX.nd) (by rw [hX.hN]; exact a1) (by rw [hX.hN]; exact a2) (by rw [hX.hN]; exact a3) b1 b2 b3 (by rw [hX.hsc]; exact c1) (by rw [hX.hsc]; exact c2) (by rw [hX.hsc]; exact c3) (snd e _ sc Wx X d1 hX.toXOk).pe (snd f _ sc Wx X d2 hX.toXOk).pe (snd g _ sc Wx X d3 hX.toXOk).pe e1 e2 e3 (swapped_par3 hX h10 c1 c2 c3 e1 e2 e3)
    · cases h
  | .ret e, s, h, hX => by
    unfold chkC at h
    split at h
    · exact es_ret (snd e _ sc Wx X h hX.toXOk).pe
    · cases h
  | .retC e, s, h, hX => by
    unfold chkC at h
    split at h
    · exact es_ret (ev_newc (snd e _ sc Wx X h hX.toXOk).pl)
    · cases h
  | .expr e, s, h, hX => by
    unfold chkC at h
    split at h
    · simp only [Bool.and_eq_true] at h
      exact es_expr (snd e _ sc Wx X h.1 hX.toXOk).pe (swaps_of h.2)
    · cases h
  | .iff c a b, s, h, hX => by
    unfold chkC at h
    split at h
    · simp only [Bool.and_eq_true] at h
      exact es_if (snd c _ sc Wx X h.1.1 hX.toXOk).pt (sndCs a _ h.1.2 hX) (sndCs b _ h.2 hX)
    · cases h
  | .forr p r b, s, h, hX => by
    unfold chkC at h
    split at h
    · simp only [Bool.and_eq_true] at h
      obtain ⟨⟨⟨⟨h1, h2⟩, h3⟩, h4⟩, h5⟩ := h
      exact es_for hX.po hX.calm (sndrS r _ _ sc Wx X h2 h5 hX.toXOk) (pat_of hX.toXOk p _ h1) (sndCs b _ h3 hX) (folded_of h4)
    · cases h
  | .setC o i e, s, h, hX => by
    unfold chkC at h
    split at h
    · simp only [Bool.and_eq_true] at h
      obtain ⟨⟨⟨⟨h1, h2⟩, h3⟩, h4⟩, h5⟩ := h
      exact es_setC (snd e _ sc Wx X h3 hX.toXOk).pe (snd o _ sc Wx X h1 hX.toXOk).pb (snd i _ sc Wx X h2 hX.toXOk).pb h4 h5
    · cases h
  | .setF o f e, s, h, hX => by
    unfold chkC at h
    split at h
    · simp only [Bool.and_eq_true, decide_eq_true_eq] at h
      obtain ⟨⟨⟨rfl, h2⟩, h3⟩, h4⟩ := h
      exact es_setF hX.flds hX.hK (snd e _ sc Wx X h3 hX.toXOk).pe (snd o _ sc Wx X h2 hX.toXOk).pb (swaps_of h4)
    · cases h
  | .setI n i e, s, h, hX => by
    unfold chkC at h
    split at h
    · simp only [Bool.and_eq_true] at h
      obtain ⟨⟨⟨⟨h1, h2⟩, h3⟩, h4⟩, h5⟩ := h
      exact es_setI (snd e _ sc Wx X h3 hX.toXOk).pe (var_of hX.toXOk h1) (snd i _ sc Wx X h2 hX.toXOk).pb h4 h5
    · cases h
  | .app n e, s, h, hX => by
    unfold chkC at h
    split at h
    · simp only [Bool.and_eq_true, decide_eq_true_eq] at h
      obtain ⟨⟨⟨⟨rfl, h2⟩, h3⟩, h4⟩, h5⟩ := h
      exact es_app (snd e _ sc Wx X h3 hX.toXOk).pe (var_of hX.toXOk h2) h4 h5
    · cases h
  | .ext n e, s, h, hX => by
    unfold chkC at h
    split at h
    · simp only [Bool.and_eq_true, decide_eq_true_eq] at h
      obtain ⟨⟨⟨⟨rfl, h2⟩, h3⟩, h4⟩, h5⟩ := h
      exact es_ext (snd e _ sc Wx X h3 hX.toXOk).pe (var_of hX.toXOk h2) h4 h5
    · cases h
theorem sndCs : ∀ (c : Cs) (s : List Stmt), chkCs Γ N sc c s = true → XSt Γ N sc W Wx k X → PSs X s (tSt W Wx (runs Γ c))
  | .nil, s, h, hX => by
    unfold chkCs at h
    cases s with
    | nil => exact es_nil
    | cons a r => cases h
  | .cons c r, s, h, hX => by
    unfold chkCs at h
    cases s with
    | nil => cases h
    | cons a t =>
      simp only [Bool.and_eq_true] at h
      exact es_cons (sndC c a h.1 hX) (sndCs r t h.2 hX)
  | .ghost i r, s, h, hX => by
    unfold chkCs at h
    exact es_freeze (sndCs r s h hX)
end
end
end EG
namespace EG
open PySem L2

/-! defs -/
def env0 (n : Nat) (ds : List D) : Env := ds.map Slot.v ++ List.replicate (n - ds.length) Slot.no
def endF : Option (SO × Mu) → Option (Out D × Mu)
  | some (.nx _, μ) => some (.ok .non, μ)
  | some (.rt d, μ) => some (.ok d, μ)
  | some (.exc c fs _, μ) => some (.exc c fs, μ)
  | _ => none
def runF (n : Nat) (F : SM) : Fn := fun ds μ => endF (F (env0 n ds) μ)
/-- what the module holds of a text's names -/
structure MOk (Γ : Gam) (W : Wd) (P : Program) (w : World) (mg : Str → Option Value) (base : Heap) (k : Nat) : Prop where
  fns : ∀ (i : Nat) g, Γ.fns[i]? = some g → (∃ f fd ps dvs dus, FnOk P w W.K mg base (L2.CX P w) g.lvl f fd ps (spF W g.n g.F) ∧ mg g.name = some (.ref f) ∧ PySem.W.keepIn W.K (.ref f) = true ∧ Binds W.K fd ps dus ∧ Vals dvs dus ∧ ∀ S H, RepVs W S H dvs g.dds) ∧ g.lvl ≤ k
  consts : ∀ (i : Nat) c, Γ.consts[i]? = some c → ∃ v u, mg c.name = some u ∧ RelV v u ∧ ∀ S H, RepV W S H v c.d
  clss : ∀ x c, (x, c) ∈ Γ.clss → mg x = some (.ref (W.ca c))
  frees : ∀ x, x ∈ Γ.frees → mg x = none
  isi : IsiOk W Γ.isi
  flds : FldOk W Γ.flds
  meths : ∀ (i : Nat) g, Γ.meths[i]? = some g → (∃ f fd ps dvs dus, FnOk P w W.K mg base (L2.CX P w) g.lvl f fd ps (spF W g.n g.F) ∧ Cls W.K (W.ca g.cls) ∧ Meth W.K (W.ca g.cls) g.name f ∧ Binds W.K fd ps dus ∧ Vals dvs dus ∧ ∀ S H, RepVs W S H dvs g.dds) ∧ g.lvl ≤ k
  props : ∀ (i : Nat) g, Γ.props[i]? = some g → (∃ pp f fd ps dvs dus, FnOk P w W.K mg base (L2.CX P w) g.lvl f fd ps (spF W g.n g.F) ∧ Cls W.K (W.ca g.cls) ∧ PropOf W.K (W.ca g.cls) g.name pp f ∧ Binds W.K fd ps dus ∧ Vals dvs dus ∧ ∀ S H, RepVs W S H dvs g.dds) ∧ g.lvl + 1 ≤ k
  makes : ∀ (i : Nat) g, Γ.makes[i]? = some g → (∃ f fd ps gB gV, FnOk P w W.K mg base (L2.CX P w) g.lvl f fd ps (spF W g.n g.F) ∧ Mk W.K (W.ca g.cls) f ∧ mg g.name = some (.ref (W.ca g.cls)) ∧ KBn W.K fd ps (g.np + 1) g.ks gB gV ∧ ArrOk W gV g.arr) ∧ g.lvl + 1 ≤ k
  eqs : ∀ (i : Nat) g, Γ.eqs[i]? = some g → (∃ f fd ps, FnOk P w W.K mg base (L2.CX P w) g.lvl f fd ps (spF W 2 g.F) ∧ ClsOk W g.cls ∧ PySem.W.findIn W.K (.ref (W.ca g.cls)) "__eq__" = some (some (.ref f)) ∧ PySem.W.isFn W.K (.ref f) = true ∧ Binds W.K fd ps [] ∧ NeFacts W.K (W.ca g.cls) f) ∧ g.lvl + 1 ≤ k
  kcs : ∀ (i : Nat) g, Γ.kcs[i]? = some g → (∃ f fd ps gB gV, FnOk P w W.K mg base (L2.CX P w) g.lvl f fd ps (spF W g.n g.F) ∧ mg g.name = some (.ref f) ∧ PySem.W.keepIn W.K (.ref f) = true ∧ KBn W.K fd ps g.np g.ks gB gV ∧ ArrOk W gV g.arr) ∧ g.lvl ≤ k
  kms : ∀ (i : Nat) g, Γ.kms[i]? = some g → (∃ f fd ps gB gV, FnOk P w W.K mg base (L2.CX P w) g.lvl f fd ps (spF W g.n g.F) ∧ Cls W.K (W.ca g.cls) ∧ Meth W.K (W.ca g.cls) g.name f ∧ KBn W.K fd ps (1 + g.np) g.ks gB gV ∧ ArrOk W gV g.arr) ∧ g.lvl ≤ k
  kss : ∀ (i : Nat) g, Γ.kss[i]? = some g → (∃ mc pp f fd ps gB gV, FnOk P w W.K mg base (L2.CX P w) g.lvl f fd ps (spF W g.n g.F) ∧ mg g.cname = some (.ref (W.ca g.cls)) ∧ SMet W.K (W.ca g.cls) mc g.name pp f ∧ KBn W.K fd ps g.np g.ks gB gV ∧ ArrOk W gV g.arr) ∧ g.lvl ≤ k
  o1s : ∀ (i : Nat) g, Γ.o1s[i]? = some g → (∃ f fd ps, FnOk P w W.K mg base (L2.CX P w) g.lvl f fd ps (spF W 1 g.F) ∧ PySem.W.findIn W.K (.ref (W.ca g.cls)) g.k.dunder = some (some (.ref f)) ∧ PySem.W.isFn W.K (.ref f) = true ∧ Binds W.K fd ps []) ∧ g.lvl + 1 ≤ k
section
variable {Γ : Gam} {W : Wd} {P : Program} {w : World} {mg : Str → Option Value} {base : Heap} {k : Nat}
theorem envOk_start {S : Ws} {H : Hp} {N : List Str} {vs : List V} {ds : List D} (r : RepVs W S H vs ds) : EnvOk W S H (L2.start N vs) (env0 N.length ds) where
  len := by
    unfold env0 L2.start
    simp only [List.length_append, List.length_map, List.length_replicate, r.length]
  at_ := fun i sl e => by
    unfold env0 at e
    unfold L2.start
    by_cases hi : i < ds.length
    · rw [List.getElem?_append_left (by simpa using hi), List.getElem?_map] at e
      cases z : ds[i]? with
      | none => rw [z] at e; cases e
      | some d =>
        rw [z] at e
        cases e
        obtain ⟨v, e1, e2⟩ := r.get z
        rw [List.getElem?_append_left (by rw [List.length_map, r.length]; exact hi), List.getElem?_map, e1]
        exact ⟨v, rfl, e2⟩
    · rw [List.getElem?_append_right (by simpa using Nat.le_of_not_lt hi), List.getElem?_replicate] at e
      split at e
      · cases e; trivial
      · cases e
theorem FunD.okE {x qual : Str} {params : Arguments} {body : List Stmt} {scope : Scope} {dvs : List V} {kws : List (Str × V)} {f : Addr} {fd : FuncData} {N ps : List Str} {cs : Cs}
    (F : FunD W.K x qual params body scope dvs kws f fd) (Sc : FnScope N ps scope) (hM : MOk Γ W P w mg base k) (hc : chkCs Γ N scope cs body = true) :
    FnOk P w W.K mg base (L2.CX P w) (k + 1) f fd ps (spF W ps.length (runF N.length (runs Γ cs))) := by
  refine F.ok Sc (fun vs H Q E h => h.1) fun cdv A outer s H vs Q E hr ⟨hl, S, μ, ds, res, hS, rv, hf, hk⟩ => ?_
  have hX : XSt Γ N scope W (fun c d σ H' => E c d H') k (cxOf (L2.CX P w) P w W.K mg base N qual scope f cdv A outer s H E) := {
    hN := rfl
    nd := Sc.nd
    hlk := Scopes.refl
    hK := rfl
    calm := rfl
    tk := takes_of rfl rfl rfl rfl
    room := hr
    fn := fun _ _ => rfl
    fns := fun i g e => ⟨⟨(hM.fns i g e).1⟩, (hM.fns i g e).2⟩
    consts := fun i c e => ⟨hM.consts i c e⟩
    clss := hM.clss
    frees := hM.frees
    isi := hM.isi
    flds := hM.flds
    meths := fun i g e => ⟨⟨(hM.meths i g e).1⟩, (hM.meths i g e).2⟩
    props := fun i g e => ⟨⟨(hM.props i g e).1⟩, (hM.props i g e).2⟩
    makes := fun i g e => ⟨⟨(hM.makes i g e).1⟩, (hM.makes i g e).2⟩
    eqs := fun i g e => ⟨⟨(hM.eqs i g e).1⟩, (hM.eqs i g e).2⟩
    kcs := fun i g e => ⟨⟨(hM.kcs i g e).1⟩, (hM.kcs i g e).2⟩
    kms := fun i g e => ⟨⟨(hM.kms i g e).1⟩, (hM.kms i g e).2⟩
    kss := fun i g e => ⟨⟨(hM.kss i g e).1⟩, (hM.kss i g e).2⟩
    o1s := fun i g e => ⟨⟨(hM.o1s i g e).1⟩, (hM.o1s i g e).2⟩
    hsc := rfl
    hkind := Sc.kind
    po := passes_of rfl }
  refine ⟨_, sndCs cs body hc hX, ?_⟩
  unfold runF at hf
  cases hr' : runs Γ cs (env0 N.length ds) μ with
  | none => rw [hr'] at hf; cases hf
  | some r =>
    rw [hr'] at hf
    refine ⟨hand S, μ, env0 N.length ds, r, hS.hand, envOk_start (rv.later (lt_hand (k := fun _ => False) fun _ h => h.elim)), hr', ?_⟩
    obtain ⟨o, μ'⟩ := r
    cases o with
    | nx e =>
      cases hf
      exact fun S' H' σ' l g _ => hk (back S S') H' .non (back_lt hS l) (back_sg hS l g) .non
    | rt d =>
      cases hf
      exact fun S' H' v l g r => hk (back S S') H' v (back_lt hS l) (back_sg hS l g) (r.mono (back_mono hS l).1 (back_mono hS l).2)
    | br e => cases hf
    | ct e => cases hf
    | exc c fs e =>
      cases hf
      exact fun S' H' σ' dd vs l g _ h1 h2 h3 => hk (back S S') H' dd vs (back_lt hS l) (back_sg hS l g) h1 ((back_mono hS l).1 dd _ h2 h1).1 (h3.mono (back_mono hS l).1 (back_mono hS l).2)
def FKeep (W : Wd) (P : Program) (w : World) (mg : Str → Option Value) (base : Heap) (g : GFn) : Prop := ∃ f fd ps dvs dus, FnOk P w W.K mg base (L2.CX P w) g.lvl f fd ps (spF W g.n g.F) ∧ mg g.name = some (.ref f) ∧ PySem.W.keepIn W.K (.ref f) = true ∧ Binds W.K fd ps dus ∧ Vals dvs dus ∧ ∀ S H, RepVs W S H dvs g.dds
def MKeep (W : Wd) (P : Program) (w : World) (mg : Str → Option Value) (base : Heap) (g : GM) : Prop := ∃ f fd ps dvs dus, FnOk P w W.K mg base (L2.CX P w) g.lvl f fd ps (spF W g.n g.F) ∧ Cls W.K (W.ca g.cls) ∧ Meth W.K (W.ca g.cls) g.name f ∧ Binds W.K fd ps dus ∧ Vals dvs dus ∧ ∀ S H, RepVs W S H dvs g.dds
def PKeep (W : Wd) (P : Program) (w : World) (mg : Str → Option Value) (base : Heap) (g : GM) : Prop := ∃ pp f fd ps dvs dus, FnOk P w W.K mg base (L2.CX P w) g.lvl f fd ps (spF W g.n g.F) ∧ Cls W.K (W.ca g.cls) ∧ PropOf W.K (W.ca g.cls) g.name pp f ∧ Binds W.K fd ps dus ∧ Vals dvs dus ∧ ∀ S H, RepVs W S H dvs g.dds
def KKeep (W : Wd) (P : Program) (w : World) (mg : Str → Option Value) (base : Heap) (g : GMk) : Prop := ∃ f fd ps gB gV, FnOk P w W.K mg base (L2.CX P w) g.lvl f fd ps (spF W g.n g.F) ∧ Mk W.K (W.ca g.cls) f ∧ mg g.name = some (.ref (W.ca g.cls)) ∧ KBn W.K fd ps (g.np + 1) g.ks gB gV ∧ ArrOk W gV g.arr
def EKeep (W : Wd) (P : Program) (w : World) (mg : Str → Option Value) (base : Heap) (g : GM) : Prop := ∃ f fd ps, FnOk P w W.K mg base (L2.CX P w) g.lvl f fd ps (spF W 2 g.F) ∧ ClsOk W g.cls ∧ PySem.W.findIn W.K (.ref (W.ca g.cls)) "__eq__" = some (some (.ref f)) ∧ PySem.W.isFn W.K (.ref f) = true ∧ Binds W.K fd ps [] ∧ NeFacts W.K (W.ca g.cls) f
def KcKeep (W : Wd) (P : Program) (w : World) (mg : Str → Option Value) (base : Heap) (g : GK) : Prop := ∃ f fd ps gB gV, FnOk P w W.K mg base (L2.CX P w) g.lvl f fd ps (spF W g.n g.F) ∧ mg g.name = some (.ref f) ∧ PySem.W.keepIn W.K (.ref f) = true ∧ KBn W.K fd ps g.np g.ks gB gV ∧ ArrOk W gV g.arr
def KmKeep (W : Wd) (P : Program) (w : World) (mg : Str → Option Value) (base : Heap) (g : GK) : Prop := ∃ f fd ps gB gV, FnOk P w W.K mg base (L2.CX P w) g.lvl f fd ps (spF W g.n g.F) ∧ Cls W.K (W.ca g.cls) ∧ Meth W.K (W.ca g.cls) g.name f ∧ KBn W.K fd ps (1 + g.np) g.ks gB gV ∧ ArrOk W gV g.arr
def KsKeep (W : Wd) (P : Program) (w : World) (mg : Str → Option Value) (base : Heap) (g : GK) : Prop := ∃ mc pp f fd ps gB gV, FnOk P w W.K mg base (L2.CX P w) g.lvl f fd ps (spF W g.n g.F) ∧ mg g.cname = some (.ref (W.ca g.cls)) ∧ SMet W.K (W.ca g.cls) mc g.name pp f ∧ KBn W.K fd ps g.np g.ks gB gV ∧ ArrOk W gV g.arr
def OKeep (W : Wd) (P : Program) (w : World) (mg : Str → Option Value) (base : Heap) (g : GO) : Prop := ∃ f fd ps, FnOk P w W.K mg base (L2.CX P w) g.lvl f fd ps (spF W 1 g.F) ∧ PySem.W.findIn W.K (.ref (W.ca g.cls)) g.k.dunder = some (some (.ref f)) ∧ PySem.W.isFn W.K (.ref f) = true ∧ Binds W.K fd ps []
/-- what the module holds but the defs -/
structure M0k (Γ : Gam) (W : Wd) (mg : Str → Option Value) : Prop where
  consts : ∀ (i : Nat) c, Γ.consts[i]? = some c → ∃ v u, mg c.name = some u ∧ RelV v u ∧ ∀ S H, RepV W S H v c.d
  clss : ∀ x c, (x, c) ∈ Γ.clss → mg x = some (.ref (W.ca c))
  frees : ∀ x, x ∈ Γ.frees → mg x = none
  isi : IsiOk W Γ.isi
  flds : FldOk W Γ.flds
structure Tabs' where
  fns : List GFn := []
  meths : List GM := []
  props : List GM := []
  makes : List GMk := []
  eqs : List GM := []
  kcs : List GK := []
  kms : List GK := []
  kss : List GK := []
  o1s : List GO := []
def Tabs'.lvl (T : Tabs') (k : Nat) : Bool := T.fns.all (fun g => g.lvl ≤ k) && (T.meths.all (fun g => g.lvl ≤ k) && (T.props.all (fun g => g.lvl + 1 ≤ k) && (T.makes.all (fun g => g.lvl + 1 ≤ k) && (T.eqs.all (fun g => g.lvl + 1 ≤ k) && (T.kcs.all (fun g => g.lvl ≤ k) && (T.kms.all (fun g => g.lvl ≤ k) && (T.kss.all (fun g => g.lvl ≤ k) && T.o1s.all (fun g => g.lvl + 1 ≤ k))))))))
def Gam.put (Γ : Gam) (T : Tabs') : Gam := { Γ with fns := T.fns, meths := T.meths, props := T.props, makes := T.makes, eqs := T.eqs, kcs := T.kcs, kms := T.kms, kss := T.kss, o1s := T.o1s }
structure TabsOk (T : Tabs') (W : Wd) (P : Program) (w : World) (mg : Str → Option Value) (base : Heap) : Prop where
  fns : ∀ g ∈ T.fns, FKeep W P w mg base g := by exact List.forall_mem_nil _
  meths : ∀ g ∈ T.meths, MKeep W P w mg base g := by exact List.forall_mem_nil _
  props : ∀ g ∈ T.props, PKeep W P w mg base g := by exact List.forall_mem_nil _
  makes : ∀ g ∈ T.makes, KKeep W P w mg base g := by exact List.forall_mem_nil _
  eqs : ∀ g ∈ T.eqs, EKeep W P w mg base g := by exact List.forall_mem_nil _
  kcs : ∀ g ∈ T.kcs, KcKeep W P w mg base g := by exact List.forall_mem_nil _
  kms : ∀ g ∈ T.kms, KmKeep W P w mg base g := by exact List.forall_mem_nil _
  kss : ∀ g ∈ T.kss, KsKeep W P w mg base g := by exact List.forall_mem_nil _
  o1s : ∀ g ∈ T.o1s, OKeep W P w mg base g := by exact List.forall_mem_nil _
theorem mok_of {Γ0 : Gam} {T : Tabs'} (h : M0k Γ0 W mg) (hT : TabsOk T W P w mg base) (hl : T.lvl k = true) : MOk (Γ0.put T) W P w mg base k := by
  simp only [Tabs'.lvl, Bool.and_eq_true, List.all_eq_true, decide_eq_true_eq] at hl
  obtain ⟨l1, l2, l3, l4, l5, l6, l7, l8, l9⟩ := hl
  exact {
    fns := fun i g e => ⟨hT.fns g (List.mem_of_getElem? e), l1 g (List.mem_of_getElem? e)⟩
    consts := h.consts, clss := h.clss, frees := h.frees, isi := h.isi, flds := h.flds
    meths := fun i g e => ⟨hT.meths g (List.mem_of_getElem? e), l2 g (List.mem_of_getElem? e)⟩
    props := fun i g e => ⟨hT.props g (List.mem_of_getElem? e), l3 g (List.mem_of_getElem? e)⟩
    makes := fun i g e => ⟨hT.makes g (List.mem_of_getElem? e), l4 g (List.mem_of_getElem? e)⟩
    eqs := fun i g e => ⟨hT.eqs g (List.mem_of_getElem? e), l5 g (List.mem_of_getElem? e)⟩
    kcs := fun i g e => ⟨hT.kcs g (List.mem_of_getElem? e), l6 g (List.mem_of_getElem? e)⟩
    kms := fun i g e => ⟨hT.kms g (List.mem_of_getElem? e), l7 g (List.mem_of_getElem? e)⟩
    kss := fun i g e => ⟨hT.kss g (List.mem_of_getElem? e), l8 g (List.mem_of_getElem? e)⟩
    o1s := fun i g e => ⟨hT.o1s g (List.mem_of_getElem? e), l9 g (List.mem_of_getElem? e)⟩ }
theorem FnOk.stuck {f : Addr} {fd : FuncData} {ps : List Str} {n : Nat} : FnOk P w W.K mg base (L2.CX P w) k f fd ps (spF W n fun _ _ => none) :=
  ⟨(fun vs H Q E ⟨_, S, μ, ds, res, _, _, hf, _⟩ => nomatch hf), (fun A outer s H args us vs Q E _ _ _ _ ⟨_, S, μ, ds, res, _, _, hf, _⟩ => nomatch hf)⟩
theorem FnOk.keepE {x qual : Str} {params : Arguments} {body : List Stmt} {scope : Scope} {f : Addr} {fd : FuncData} {ps : List Str} {F : Fn} {n : Nat} (Fd : FunD W.K x qual params body scope [] [] f fd) (h : FnOk P w W.K mg base (L2.CX P w) k f fd ps (spF W n F)) (hm : mg x = some (.ref f))
    (hb : ∀ (kV doc pm : Value) (an : Option Addr) (cdv ct : Value) (us : List Value), us.length = ps.length → bindArgs (PySem.W.fnOf x qual params body scope .none kV doc pm an cdv ct) ⟨us, []⟩ = pure (ps.zip us)) : FKeep W P w mg base ⟨x, n, F, k, []⟩ :=
  ⟨f, fd, ps, [], [], h, hm, Fd.kp, Fd.bindsN hb, .nil, fun _ _ => .nil⟩
end
/-! the end of a law -/
theorem FnOk.calmE {W : Wd} {P : Program} {w : World} {mg : Str → Option Value} {base : Heap} {k : Nat} {f : Addr} {fd : FuncData} {ps : List Str} {sp : Sp} (F : FnOk P w W.K mg base (L2.CX P w) k f fd ps sp) : FnOk P w W.K mg base CX0 k f fd ps (fun vs H Q _ => sp vs H Q fun _ _ _ => False) :=
  ⟨fun vs H Q _ h => F.len vs H Q _ h, fun A outer s H args us vs Q E h1 h2 h3 h4 h5 => codeAny_mono (F.run A outer s H args us vs Q _ h1 h2 h3 h4 h5) fun r s' z => by
    cases r with
    | ok r => cases r <;> exact z
    | error e =>
      obtain ⟨_, _, _, _, _, _, _, _, _, _, _, _, z⟩ := z
      exact z.elim⟩
def lawW (K : PySem.W.Frag) (cls : List Str) : Wd := ⟨K, fun n => He.ga K (cls.getD n "")⟩
theorem law_sp {W : Wd} {F : Fn} (hF : ∀ ns : List Int, ns.length ≤ 63 → ∃ μ, F [.scr ns] [] = some (.ok (.bl true), μ)) (H : Hp) (a : Addr) (ns : List Int) (hl : ns.length ≤ 63) (hS : SqL W.K H a (ns.map V.int)) :
    spF W 1 F [.ref a] H (fun v _ => v = .bl true) fun _ _ _ => False := by
  obtain ⟨μ, e⟩ := hF ns hl
  refine ⟨rfl, ⟨[], fun _ => none⟩, [], [.scr ns], _, ⟨(fun a w e => nomatch e), rfl, (fun n c e => nomatch e)⟩, .cons ?_ .nil, e, fun S' H' v l g r => by cases r; rfl⟩
  have hb : ns.length ≤ big := Nat.le_trans hl (by decide)
  rcases hS with (hS | ⟨o, hS⟩) | hS
  · exact .scr hS rfl (.inl rfl) hb
  · exact .scr hS rfl (.inr ⟨o, rfl⟩) hb
  · exact .scrK (.inr hS) hb
end EG
namespace EG
open PySem PySem.Spec PyProof.Rows L2
/-! what the module holds, as decided facts -/
def recG (K : PySem.W.Frag) (p : Addr) (T : String) : Addr := match PySem.W.recIn K p T with
  | some (.ref g :: _) => g
  | _ => 0
/-- where a def stands: 0 a global, 1 a method, 2 a property's getter, 3 a static method, 4 a classmethod -/
def dAd (K : PySem.W.Frag) (k : Nat) (x m : Str) : Addr := match k with
  | 0 => He.ga K x
  | 1 => He.ma K (He.ga K x) m
  | 2 => recG K (He.ma K (He.ga K x) m) "property"
  | 3 => recG K (He.ma K (He.ga K x) m) "staticmethod"
  | _ => recG K (He.ma K (He.ga K x) m) "classmethod"
mutual
/-- a value of the written part is this data -/
def cstB (K : PySem.W.Frag) : D → Value → Bool
  | .non, u => (match u with | .none => true | _ => false)
  | .bl b, u => (match u with | .bool c => b == c | _ => false)
  | .int i, u => (match u with | .int j _ => decide (i = j) | _ => false)
  | .str s, u => (match u with | .str t _ => decide (s = t) && decide (s.length ≤ big) | _ => false)
  | .tup ds, u => (match u with
    | .ref a => (match K.lookup a with
      | some ⟨.type c, _, .seq its _, _⟩ => decide (c = "tuple") && (decide (its.size ≤ big) && cstBs K ds its.toList)
      | _ => false)
    | _ => false)
  | _, _ => false
def cstBs (K : PySem.W.Frag) : List D → List Value → Bool
  | [], us => us.isEmpty
  | d :: ds, us => (match us with
    | [] => false
    | u :: us => cstB K d u && cstBs K ds us)
end
def vOf : Value → V
  | .none => .non
  | .bool b => .bl b
  | .int i _ => .int i
  | .str s _ => .str s
  | .ref a => .ref a
  | _ => .non
mutual
theorem cst_ok {W : Wd} : ∀ (d : D) (u : Value), cstB W.K d u = true → RelV (vOf u) u ∧ ∀ S H, RepV W S H (vOf u) d
  | .non, u, h => by
    unfold cstB at h
    split at h
    · exact ⟨rfl, fun _ _ => .non⟩
    · cases h
  | .bl b, u, h => by
    unfold cstB at h
    split at h
    · cases beq_iff_eq.mp h
      exact ⟨rfl, fun _ _ => .bl _⟩
    · cases h
  | .int i, u, h => by
    unfold cstB at h
    split at h
    · cases of_decide_eq_true h
      exact ⟨⟨_, rfl⟩, fun _ _ => .int _⟩
    · cases h
  | .str i, u, h => by
    unfold cstB at h
    split at h
    · rw [Bool.and_eq_true] at h
      cases of_decide_eq_true h.1
      exact ⟨⟨_, rfl⟩, fun _ _ => .str _ (of_decide_eq_true h.2)⟩
    · cases h
  | .tup ds, u, h => by
    unfold cstB at h
    split at h
    · rename_i a
      split at h
      · rename_i c od its n sl q
        simp only [Bool.and_eq_true, decide_eq_true_eq] at h
        obtain ⟨h1, h2, h3⟩ := h
        obtain ⟨r1, r2⟩ := csts_ok ds its.toList h3
        have hl : (its.toList.map vOf).length ≤ big := by simpa using h2
        exact ⟨rfl, fun S H => .tupK (vs := its.toList.map vOf) (.inr ⟨_, its, n, q, congrArg Value.type h1, rfl, Nat.le_trans h2 big_le, r1⟩) hl (r2 S H)⟩
      · cases h
    · cases h
  | .lst _, u, h => by unfold cstB at h; cases h
  | .obj _ _, u, h => by unfold cstB at h; cases h
  | .cell _, u, h => by unfold cstB at h; cases h
  | .scr _, u, h => by unfold cstB at h; cases h
  | .dK _, u, h => by unfold cstB at h; cases h
  | .dT _, u, h => by unfold cstB at h; cases h
  | .err _ _, u, h => by unfold cstB at h; cases h
  | .clo _ _, u, h => by unfold cstB at h; cases h
  | .cls _, u, h => by unfold cstB at h; cases h
theorem csts_ok {W : Wd} : ∀ (ds : List D) (us : List Value), cstBs W.K ds us = true → Vals (us.map vOf) us ∧ ∀ S H, RepVs W S H (us.map vOf) ds
  | [], us, h => by
    unfold cstBs at h
    cases us with
    | nil => exact ⟨.nil, fun _ _ => .nil⟩
    | cons u us => cases h
  | d :: ds, us, h => by
    unfold cstBs at h
    cases us with
    | nil => cases h
    | cons u us =>
      simp only [Bool.and_eq_true] at h
      obtain ⟨r1, r2⟩ := cst_ok d u h.1
      obtain ⟨r3, r4⟩ := csts_ok ds us h.2
      exact ⟨.cons r1 r3, fun S H => .cons (r2 S H) (r4 S H)⟩
end
inductive TagN where
  | ty (n : String) | cls (x : Str)
def TagN.v (K : PySem.W.Frag) : TagN → Value
  | .ty n => .type n
  | .cls x => .ref (He.ga K x)
inductive FaN where
  | old (f : He.Fa)
  | cst (x : Str) (d : D)
  | prop (x m : Str)
  | smet (x m : Str)
  | eqf (x : Str)
  | dun (x m : Str)
  | clsok (x : Str)
  | isi (t c : TagN) (b : Bool)
def FaN.ok (K : PySem.W.Frag) : FaN → Bool
  | .old f => f.ok K
  | .cst x d => (match PySem.W.nsIn K mainGlobals x with
    | some (some u) => cstB K d u
    | _ => false)
  | .prop x m => He.eqO (PySem.W.findIn K (.ref (He.ga K x)) m) (some (some (.ref (He.ma K (He.ga K x) m)))) && (He.eqO (PySem.W.specialIn K (.ref (He.ma K (He.ga K x) m)) "__get__") (some (some (.builtin "property.__get__"))) &&
      (decide (PySem.W.takesIn K (.ref (He.ma K (He.ga K x) m)) = some true) && (match PySem.W.recIn K (He.ma K (He.ga K x) m) "property" with
        | some (.ref _ :: _) => true
        | _ => false)))
  | .smet x m => PySem.W.readsIn K (He.ga K x) (.type "type") && (He.eqO (PySem.W.specialIn K (.ref (He.ga K x)) "__getattribute__") (some (some (.builtin "type.__getattribute__"))) &&
      ((match PySem.W.findCls K (.ref (He.ga K x)) (.type "type") m with
        | some (.get g p o c) => decide (g = .builtin "staticmethod.__get__") && (decide (p = .ref (He.ma K (He.ga K x) m)) && (decide (o = .none) && decide (c = .ref (He.ga K x))))
        | _ => false) && ((match PySem.W.recIn K (He.ma K (He.ga K x) m) "staticmethod" with
        | some (.ref _ :: _) => true
        | _ => false) && PySem.W.keepIn K (.ref (dAd K 3 x m)))))
  | .eqf x => He.eqO (PySem.W.findIn K (.ref (He.ga K x)) "__ne__") (some (some (.builtin "object.__ne__"))) && (decide (PySem.W.mroIn K (He.ga K x) (.type "object") = some true) && (He.eqO (PySem.W.findIn K (.ref (He.ga K x)) "__eq__") (some (some (.ref (He.ma K (He.ga K x) "__eq__")))) &&
      PySem.W.isFn K (.ref (He.ma K (He.ga K x) "__eq__"))))
  | .dun x m => He.eqO (PySem.W.findIn K (.ref (He.ga K x)) m) (some (some (.ref (He.ma K (He.ga K x) m)))) && PySem.W.isFn K (.ref (He.ma K (He.ga K x) m))
  | .clsok x => (He.Fa.cls x).ok K && (He.eqO (PySem.W.findIn K (.ref (He.ga K x)) "__class__") (some (some (.builtin "object.__class__"))) && (He.eqO (PySem.W.specialIn K (.builtin "object.__class__") "__get__") (some (some (.builtin "getset_descriptor.__get__"))) &&
      (decide (PySem.W.takesIn K (.builtin "object.__class__") = some true) && decide (PySem.W.mroIn K (He.ga K x) (.type "object") = some true))))
  | .isi t c b => decide (PySem.W.kitOne K (t.v K) (c.v K) = some b)
section
variable {K : PySem.W.Frag} {h : Heap} {mg : Str → Option Value} {x m : Str}
theorem FaN.cst_ok {W : Wd} (X : W.K.In h) (G : h.Ns mainGlobals mg) {d : D} (c : (FaN.cst x d).ok W.K = true) : ∃ v u, mg x = some u ∧ RelV v u ∧ ∀ S H, RepV W S H v d := by
  have c : (match PySem.W.nsIn W.K mainGlobals x with
    | some (some u) => cstB W.K d u
    | _ => false) = true := c
  split at c
  · rename_i u q
    obtain ⟨a, b⟩ := EG.cst_ok d u c
    exact ⟨_, u, PySem.W.mg_of X G q, a, b⟩
  · cases c
theorem recG_of {p : Addr} {T : String} (h : (match PySem.W.recIn K p T with
        | some (.ref _ :: _) => true
        | _ => false) = true) : ∃ rest, PySem.W.recIn K p T = some (.ref (recG K p T) :: rest) := by
  split at h
  · rename_i g rest q
    unfold recG
    rw [q]
    exact ⟨rest, rfl⟩
  · cases h
theorem FaN.prop_ok (c : (FaN.prop x m).ok K = true) : PropOf K (He.ga K x) m (He.ma K (He.ga K x) m) (dAd K 2 x m) := by
  obtain ⟨c1, c⟩ := He.ba c
  obtain ⟨c2, c⟩ := He.ba c
  obtain ⟨c3, c4⟩ := He.ba c
  exact ⟨He.eqO_ok c1, He.eqO_ok c2, of_decide_eq_true c3, recG_of c4⟩
theorem FaN.smet_ok (c : (FaN.smet x m).ok K = true) : SMet K (He.ga K x) (.type "type") m (He.ma K (He.ga K x) m) (dAd K 3 x m) := by
  obtain ⟨c1, c⟩ := He.ba c
  obtain ⟨c2, c⟩ := He.ba c
  obtain ⟨c3, c⟩ := He.ba c
  obtain ⟨c4, c5⟩ := He.ba c
  refine ⟨⟨c1, He.eqO_ok c2⟩, ?_, recG_of c4, c5⟩
  split at c3
  · rename_i g p o cc q
    simp only [Bool.and_eq_true, decide_eq_true_eq] at c3
    obtain ⟨rfl, rfl, rfl, rfl⟩ := c3
    exact q
  · cases c3
theorem FaN.eqf_ok (c : (FaN.eqf x).ok K = true) : NeFacts K (He.ga K x) (He.ma K (He.ga K x) "__eq__") := by
  obtain ⟨c1, c⟩ := He.ba c
  obtain ⟨c2, c⟩ := He.ba c
  obtain ⟨c3, c4⟩ := He.ba c
  exact ⟨He.eqO_ok c1, of_decide_eq_true c2, He.eqO_ok c3, c4⟩
theorem FaN.dun_ok (c : (FaN.dun x m).ok K = true) : PySem.W.findIn K (.ref (He.ga K x)) m = some (some (.ref (He.ma K (He.ga K x) m))) ∧ PySem.W.isFn K (.ref (He.ma K (He.ga K x) m)) = true := by
  obtain ⟨c1, c2⟩ := He.ba c
  exact ⟨He.eqO_ok c1, c2⟩
theorem FaN.clsok_ok {W : Wd} {n : Nat} (hn : W.ca n = He.ga W.K x) (c : (FaN.clsok x).ok W.K = true) : ClsOk W n := by
  obtain ⟨c1, c⟩ := He.ba c
  obtain ⟨c2, c⟩ := He.ba c
  obtain ⟨c3, c⟩ := He.ba c
  obtain ⟨c4, c5⟩ := He.ba c
  exact ⟨by rw [hn]; exact He.cls_ok c1, by rw [hn]; exact He.eqO_ok c2, He.eqO_ok c3, of_decide_eq_true c4, by rw [hn]; exact of_decide_eq_true c5⟩
theorem FaN.isi_ok {t c : TagN} {b : Bool} (e : (FaN.isi t c b).ok K = true) : PySem.W.kitOne K (t.v K) (c.v K) = some b := of_decide_eq_true e
end
/-! defs -/
structure DefN where
  kind : Nat
  x : Str
  m : Str
  name : Str
  qual : Str
  params : Arguments
  body : List Stmt
  scope : Scope
  dfl : List D := []
  kwd : List (Str × D) := []
abbrev FnW : Type := Option (Str × Str × Arguments × FuncBody × Scope × Addr × List (Str × Addr) × Addr)
def fnN (K : PySem.W.Frag) (d : DefN) : FnW := match K.lookup (dAd K d.kind d.x d.m) with
  | some ⟨_, _, .func fd, _⟩ => some (fd.name, fd.qualname, fd.params, fd.body, fd.scope, fd.globals, fd.closure, fd.builtins)
  | _ => none
def DefN.val (d : DefN) : FnW := some (d.name, d.qual, d.params, .stmts d.body, d.scope, mainGlobals, [], builtinsNs)
def dflN (K : PySem.W.Frag) (dV : Value) (ds : List D) : Bool := match ds with
  | [] => (match dV with
    | .none => true
    | _ => false)
  | d :: ds => (match dV with
    | .ref T => (match K.lookup T with
      | some ⟨_, _, .seq its _, _⟩ => cstBs K (d :: ds) its.toList
      | _ => false)
    | _ => false)
def kwdN (K : PySem.W.Frag) (kV : Value) (ks : List (Str × D)) : Bool := match ks with
  | [] => true
  | q :: qs => (match kV with
    | .ref D => (q :: qs).all fun q => (match PySem.W.nsIn K D q.1 with
      | some (some u) => cstB K q.2 u
      | _ => false)
    | _ => false)
def DefN.ok (K : PySem.W.Frag) (d : DefN) : Bool := PySem.W.keepIn K (.ref (dAd K d.kind d.x d.m)) && (match K.lookup (dAd K d.kind d.x d.m) with
  | some ⟨_, _, .func fd, _⟩ => PySem.W.codeIn K fd.code d.qual && (dflN K fd.defaults d.dfl && kwdN K fd.kwdefaults d.kwd)
  | _ => false)
theorem dflN_ok {W : Wd} {dV : Value} {ds : List D} (h : dflN W.K dV ds = true) : ∃ dvs, DflV W.K dV dvs ∧ ∀ S H, RepVs W S H dvs ds := by
  cases ds with
  | nil =>
    cases dV with
    | none => exact ⟨[], .inl ⟨rfl, rfl⟩, fun _ _ => .nil⟩
    | _ => cases h
  | cons d ds =>
    cases dV with
    | ref T =>
      have h1 : (match W.K.lookup T with
        | some ⟨_, _, .seq its _, _⟩ => cstBs W.K (d :: ds) its.toList
        | _ => false) = true := h
      split at h1
      · rename_i its n sl q
        obtain ⟨r1, r2⟩ := csts_ok (d :: ds) its.toList h1
        refine ⟨its.toList.map vOf, .inr ⟨fun z => ?_, T, _, its.toList, n, rfl, q, by simp, r1⟩, r2⟩
        have := r2 ⟨[], fun _ => none⟩ (fun _ => none)
        rw [z] at this
        cases this
      · cases h1
    | _ => cases h
theorem kwdN_all {W : Wd} {A : Addr} : ∀ {ks : List (Str × D)}, (ks.all fun q => (match PySem.W.nsIn W.K A q.1 with
      | some (some u) => cstB W.K q.2 u
      | _ => false)) = true → ∃ kws : List (Str × V), (∀ q ∈ kws, ∃ u, PySem.W.nsIn W.K A q.1 = some (some u) ∧ RelV q.2 u) ∧ kws.map (·.1) = ks.map (·.1) ∧ ∀ S H, RepVs W S H (kws.map (·.2)) (ks.map (·.2))
  | [], _ => ⟨[], (fun q hq => nomatch (show q ∈ ([] : List (Str × V)) from hq)), rfl, (fun _ _ => RepVs.nil)⟩
  | q :: qs, h => by
    rw [List.all_cons, Bool.and_eq_true] at h
    obtain ⟨kws, a1, a2, a3⟩ := kwdN_all h.2
    have h1 := h.1
    split at h1
    · rename_i u e
      obtain ⟨r1, r2⟩ := cst_ok q.2 u h1
      refine ⟨(q.1, vOf u) :: kws, fun p hp => ?_, by simp [a2], fun S H => .cons (r2 S H) (a3 S H)⟩
      rcases List.mem_cons.mp hp with rfl | hp
      · exact ⟨u, e, r1⟩
      · exact a1 p hp
    · cases h1
theorem kwdN_ok {W : Wd} {kV : Value} {ks : List (Str × D)} (h : kwdN W.K kV ks = true) : ∃ kws, KwdV W.K kV kws ∧ kws.map (·.1) = ks.map (·.1) ∧ ∀ S H, RepVs W S H (kws.map (·.2)) (ks.map (·.2)) := by
  cases ks with
  | nil => exact ⟨[], .inl rfl, rfl, fun _ _ => .nil⟩
  | cons q qs =>
    cases kV with
    | ref A =>
      obtain ⟨kws, a1, a2, a3⟩ := kwdN_all (W := W) (A := A) (ks := q :: qs) h
      exact ⟨kws, .inr ⟨A, rfl, a1⟩, a2, a3⟩
    | _ => cases h
/-- a def as it stands, with data for its defaults -/
def DefT (W : Wd) (d : DefN) (f : Addr) (fd : FuncData) (dvs : List V) (kws : List (Str × V)) : Prop := FunD W.K d.name d.qual d.params d.body d.scope dvs kws f fd ∧ (∀ S H, RepVs W S H dvs d.dfl) ∧ kws.map (·.1) = d.kwd.map (·.1) ∧ ∀ S H, RepVs W S H (kws.map (·.2)) (d.kwd.map (·.2))
theorem DefN.funD {W : Wd} {d : DefN} (e : fnN W.K d = d.val) (c : d.ok W.K = true) : ∃ fd dvs kws, DefT W d (dAd W.K d.kind d.x d.m) fd dvs kws := by
  obtain ⟨kp, c2⟩ := He.ba c
  unfold fnN at e
  cases q : W.K.lookup (dAd W.K d.kind d.x d.m) with
  | none =>
    rw [q] at c2
    cases c2
  | some o =>
    obtain ⟨oc, od, dt, osl⟩ := o
    rw [q] at c2 e
    cases dt with
    | func fd =>
      obtain ⟨n1, n2, n3, n4, n5, n6, n7, n8, n9, n10, n11, n12, n13, n14, n15⟩ := fd
      have e2 : (some (n1, n2, n3, n4, n5, n6, n7, n15) : FnW) = some (d.name, d.qual, d.params, .stmts d.body, d.scope, mainGlobals, [], builtinsNs) := e
      simp only [Option.some.injEq, Prod.mk.injEq] at e2
      obtain ⟨h1, h2, h3, h4, h5, h6, h7, h8⟩ := e2
      subst h1 h2 h3 h4 h5 h6 h7 h8
      have c3 : (PySem.W.codeIn W.K n13 d.qual && (dflN W.K n8 d.dfl && kwdN W.K n9 d.kwd)) = true := c2
      obtain ⟨k1, k2⟩ := He.ba c3
      obtain ⟨k3, k4⟩ := He.ba k2
      obtain ⟨dvs, v1, v2⟩ := dflN_ok k3
      obtain ⟨kws, w1, w2, w3⟩ := kwdN_ok k4
      exact ⟨_, dvs, kws, ⟨⟨oc, od, n8, n9, n10, n11, n12, n13, n14, osl, rfl, q, k1, v1, w1⟩, kp⟩, v2, w2, w3⟩
    | _ => cases c2
/-! the hook -/
def growN (g : Addr → Option Obj) : Nat → List Addr → List Addr → List Addr
  | 0, seen, _ => seen
  | n + 1, seen, fr =>
    let nx := ((fr.flatMap fun a => match g a with
      | some o => He.refsD o
      | none => []).filter fun a => !seen.contains a).eraseDups
    growN g n (seen ++ nx) nx
def asN (g : Addr → Option Obj) (n : Nat) : List Addr := growN g n [mainGlobals, cStatics] [mainGlobals]
abbrev AlN : Type := Bool × List FnW
def obsK (fa : List FaN) (fn : List DefN) (K : PySem.W.Frag) : AlN := ((fa.all fun f => f.ok K) && fn.all fun d => d.ok K, fn.map fun d => fnN K d)
def valN (fn : List DefN) : AlN := (true, fn.map DefN.val)
def SaysN (fa : List FaN) (fn : List DefN) (K : PySem.W.Frag) : Prop := obsK fa fn K = valN fn
def obsN (n : Nat) (fa : List FaN) (fn : List DefN) (g : Addr → Option Obj) : AlN := obsK fa fn (He.frG g (asN g n))
def hookN (n : Nat) (fa : List FaN) (fn : List DefN) : PySem.W.Hook where
  α := AlN
  obs := fun s => obsN n fa fn s.heap.get?
  val := fun _ => valN fn
  says := fun _ h => ∃ K : PySem.W.Frag, K.In h ∧ SaysN fa fn K
  of := fun _ _ e => ⟨_, He.frG_in, e⟩
  keeps := fun _ _ _ ⟨K, hK, c⟩ k => ⟨K, PySem.W.Frag.In.keeps hK k, c⟩
theorem obsN_eq {n : Nat} {fa : List FaN} {fn : List DefN} {g : Addr → Option Obj} {s : Shared} (h : ∀ a, g a = s.heap.get? a) : obsN n fa fn g = (hookN n fa fn).obs s := by
  have e : g = s.heap.get? := funext h
  rw [e] <;> rfl
section
variable {fa : List FaN} {fn : List DefN} {W : Wd}
theorem SaysN.fact {K : PySem.W.Frag} (c : SaysN fa fn K) (i : Nat) {f : FaN} (h : fa[i]? = some f) : f.ok K = true := by
  have c1 := (He.ba (show ((fa.all fun f => f.ok K) && fn.all fun d => d.ok K) = true from congrArg (fun z : AlN => z.1) c)).1
  exact List.all_eq_true.mp c1 f (List.mem_of_getElem? h)
theorem SaysN.def_ (c : SaysN fa fn W.K) (i : Nat) {d : DefN} (h : fn[i]? = some d) : ∃ fd dvs kws, DefT W d (dAd W.K d.kind d.x d.m) fd dvs kws := by
  have c2 := (He.ba (show ((fa.all fun f => f.ok W.K) && fn.all fun d => d.ok W.K) = true from congrArg (fun z : AlN => z.1) c)).2
  have e : fn.map (fun d => fnN W.K d) = fn.map DefN.val := congrArg (fun z : AlN => z.2) c
  have e2 : (fn.map fun d => fnN W.K d)[i]? = (fn.map DefN.val)[i]? := by rw [e]
  rw [List.getElem?_map, List.getElem?_map, h] at e2
  exact DefN.funD (Option.some.inj e2) (List.all_eq_true.mp c2 d (List.mem_of_getElem? h))
end
end EG
namespace EG
open PySem PySem.Spec PyProof.Rows L2
/-! what a call binds: places, defaults, lacking keywords' defaults, keywords -/
inductive Pick where
  | p (i : Nat) | d (i : Nat) | m (i : Nat) | k (i : Nat)
def Pick.of {α : Type} (vs ds ms zs : List α) : Pick → Option α
  | .p i => vs[i]?
  | .d i => ds[i]?
  | .m i => ms[i]?
  | .k i => zs[i]?
def arrP {α : Type} (pk : List Pick) (vs ds ms zs : List α) : List α := match pk with
  | [] => []
  | q :: r => match q.of vs ds ms zs with
    | some a => a :: arrP r vs ds ms zs
    | none => arrP r vs ds ms zs
section
variable {W : Wd} {S : Ws} {H : Hp}
theorem RepVs.getO {vs : List V} {ds : List D} (h : RepVs W S H vs ds) (i : Nat) : (vs[i]? = none ∧ ds[i]? = none) ∨ ∃ v d, vs[i]? = some v ∧ ds[i]? = some d ∧ RepV W S H v d := by
  cases e : ds[i]? with
  | some d => obtain ⟨v, h1, h2⟩ := h.get e; exact .inr ⟨v, d, h1, rfl, h2⟩
  | none =>
    refine .inl ⟨?_, rfl⟩
    rw [List.getElem?_eq_none_iff] at e ⊢
    rw [h.length]; exact e
theorem vals_getO {vs : List V} {us : List Value} (h : Vals vs us) (i : Nat) : (vs[i]? = none ∧ us[i]? = none) ∨ ∃ v u, vs[i]? = some v ∧ us[i]? = some u ∧ RelV v u := by
  cases e : vs[i]? with
  | some v => obtain ⟨u, h1, h2⟩ := h.get e; exact .inr ⟨v, u, rfl, h1, h2⟩
  | none =>
    refine .inl ⟨rfl, ?_⟩
    rw [List.getElem?_eq_none_iff] at e ⊢
    rw [← h.length]; exact e
theorem arrP_rep {vs dv mv zv : List V} {ds dd md zd : List D} (h1 : RepVs W S H vs ds) (h2 : RepVs W S H dv dd) (h3 : RepVs W S H mv md) (h4 : RepVs W S H zv zd) : ∀ pk : List Pick, RepVs W S H (arrP pk vs dv mv zv) (arrP pk ds dd md zd)
  | [] => .nil
  | q :: r => by
    have key : (q.of vs dv mv zv = none ∧ q.of ds dd md zd = none) ∨ ∃ v d, q.of vs dv mv zv = some v ∧ q.of ds dd md zd = some d ∧ RepV W S H v d := by
      cases q with
      | p i => exact h1.getO i
      | d i => exact h2.getO i
      | m i => exact h3.getO i
      | k i => exact h4.getO i
    unfold arrP
    rcases key with ⟨e1, e2⟩ | ⟨v, d, e1, e2, rv⟩
    · rw [e1, e2]; exact arrP_rep h1 h2 h3 h4 r
    · rw [e1, e2]; exact .cons rv (arrP_rep h1 h2 h3 h4 r)
theorem arrP_vals {vs dv mv zv : List V} {ds dd md zd : List Value} (h1 : Vals vs ds) (h2 : Vals dv dd) (h3 : Vals mv md) (h4 : Vals zv zd) : ∀ pk : List Pick, Vals (arrP pk vs dv mv zv) (arrP pk ds dd md zd)
  | [] => .nil
  | q :: r => by
    have key : (q.of vs dv mv zv = none ∧ q.of ds dd md zd = none) ∨ ∃ v d, q.of vs dv mv zv = some v ∧ q.of ds dd md zd = some d ∧ RelV v d := by
      cases q with
      | p i => exact vals_getO h1 i
      | d i => exact vals_getO h2 i
      | m i => exact vals_getO h3 i
      | k i => exact vals_getO h4 i
    unfold arrP
    rcases key with ⟨e1, e2⟩ | ⟨v, d, e1, e2, rv⟩
    · rw [e1, e2]; exact arrP_vals h1 h2 h3 h4 r
    · rw [e1, e2]; exact .cons rv (arrP_vals h1 h2 h3 h4 r)
def kwM {α : Type} (mn : List Str) (kws : List (Str × α)) : List (Str × α) := kws.filter fun q => mn.contains q.1
theorem kwM_rep (mn : List Str) : ∀ {kws : List (Str × V)} {kwd : List (Str × D)}, kws.map (·.1) = kwd.map (·.1) → RepVs W S H (kws.map (·.2)) (kwd.map (·.2)) → RepVs W S H ((kwM mn kws).map (·.2)) ((kwM mn kwd).map (·.2))
  | [], [], _, _ => .nil
  | [], _ :: _, h, _ => nomatch h
  | _ :: _, [], h, _ => nomatch h
  | (a, v) :: r, (b, d) :: s, h, hr => by
    simp only [List.map_cons, List.cons.injEq] at h
    obtain ⟨rfl, h⟩ := h
    cases hr with
    | cons r1 r2 =>
      have ih := kwM_rep mn h r2
      unfold kwM at ih ⊢
      rw [List.filter_cons, List.filter_cons]
      cases mn.contains a with
      | true => exact .cons r1 ih
      | false => exact ih
theorem kwM_names (mn : List Str) {α β : Type} : ∀ {kws : List (Str × α)} {kwd : List (Str × β)}, kws.map (·.1) = kwd.map (·.1) → (kwM mn kws).map (·.1) = (kwM mn kwd).map (·.1)
  | [], [], _ => rfl
  | [], _ :: _, h => nomatch h
  | _ :: _, [], h => nomatch h
  | (a, v) :: r, (b, d) :: s, h => by
    simp only [List.map_cons, List.cons.injEq] at h
    obtain ⟨rfl, h⟩ := h
    have ih := kwM_names mn h
    unfold kwM at ih ⊢
    rw [List.filter_cons, List.filter_cons]
    cases mn.contains a with
    | true => simp only [if_true, List.map_cons, ih]
    | false => exact ih
/-- the data in the parameters' order -/
def arrQ (dfl : List D) (kwd : List (Str × D)) (mn : List Str) (pk : List Pick) : List D → List D → List D := fun ds es => arrP pk ds dfl ((kwM mn kwd).map (·.2)) es
abbrev arrD (d : DefN) (mn : List Str) (pk : List Pick) : List D → List D → List D := arrQ d.dfl d.kwd mn pk
variable {d : DefN} {f : Addr} {fd : FuncData} {dvs : List V} {kws : List (Str × V)} {ps ks mn : List Str} {n : Nat} {pk : List Pick}
theorem DefT.arr (T : DefT W d f fd dvs kws) (mn : List Str) (pk : List Pick) : ArrOk W (fun vs zs => arrP pk vs dvs ((kwM mn kws).map (·.2)) zs) (arrD d mn pk) := fun S H vs zs ds es r1 r2 => arrP_rep r1 (T.2.1 S H) (kwM_rep mn T.2.2.1 (T.2.2.2 S H)) r2 pk
def KB (W : Wd) (fd : FuncData) (d : DefN) (ps : List Str) (n : Nat) (ks mn : List Str) (pk : List Pick) : Prop := ∃ gB gV, KBn W.K fd ps n ks gB gV ∧ ArrOk W gV (arrD d mn pk)
/-- no positional defaults, no keyword-only one lacks -/
theorem DefT.kb0 (T : DefT W d f fd dvs kws) (hd : d.dfl = []) (h : ∀ (kV doc pm : Value) (an : Option Addr) (cdv ct : Value) (us ws : List Value), us.length = n → ws.length = ks.length →
      bindArgs (PySem.W.fnOf d.name d.qual d.params d.body d.scope .none kV doc pm an cdv ct) ⟨us, ks.zip ws⟩ = pure (ps.zip (arrP pk us [] [] ws))) : KB W fd d ps n ks [] pk := by
  have e1 : dvs = [] := by
    have := T.2.1 ⟨[], fun _ => none⟩ fun _ => none
    rw [hd] at this
    cases this; rfl
  have A := T.arr [] pk
  obtain ⟨oc, od, dV, kV, doc, pm, an, cdv, ct, osl, rfl, lk, hcd, hD, hK⟩ := T.1.ex
  refine ⟨fun us ws => arrP pk us [] [] ws, _, ⟨fun s us ws X l1 l2 => ?_, fun r1 r2 => ?_⟩, A⟩
  · rcases hD with ⟨_, rfl⟩ | ⟨e, _⟩
    · exact .of_eq (h kV doc pm an cdv ct us ws l1 l2)
    · exact absurd e1 e
  · subst e1
    have : (kwM ([] : List Str) kws).map (·.2) = [] := by unfold kwM; simp
    rw [this]
    exact arrP_vals r1 .nil .nil r2 pk
/-- no positional defaults, keyword-only ones lack -/
theorem DefT.kbK (T : DefT W d f fd dvs kws) (hd : d.dfl = []) (hk : d.kwd ≠ []) (h : ∀ (A : Addr) (doc pm : Value) (an : Option Addr) (cdv ct : Value) (us mv ws : List Value), us.length = n → mv.length = (kwM mn d.kwd).length → ws.length = ks.length →
      KwChain A (((kwM mn d.kwd).map (·.1)).zip mv) (bindArgs (PySem.W.fnOf d.name d.qual d.params d.body d.scope .none (.ref A) doc pm an cdv ct) ⟨us, ks.zip ws⟩) (ps.zip (arrP pk us [] mv ws))) : KB W fd d ps n ks mn pk := by
  have e1 : dvs = [] := by
    have := T.2.1 ⟨[], fun _ => none⟩ fun _ => none
    rw [hd] at this
    cases this; rfl
  subst e1
  have hk' : kws ≠ [] := fun z => by
    have := T.2.2.1
    rw [z] at this
    exact hk (by simpa using this.symm)
  obtain ⟨mv, q⟩ := FunD.kbinds0 T.1 n ks (kwM mn kws) (fun vs ms zs => arrP pk vs [] ms zs) hk' (fun q hq => (List.mem_filter.mp hq).1) (fun r1 r2 r3 => arrP_vals r1 .nil r2 r3 pk) fun A doc pm an cdv ct us mv ws l1 l2 l3 => by
    have e := kwM_names mn T.2.2.1
    have z := h A doc pm an cdv ct us mv ws l1 (by rw [l2]; have := congrArg List.length e; simpa using this) l3
    rw [e]; exact z
  exact ⟨_, _, q, T.arr mn pk⟩
/-- positional defaults, no keyword-only one lacks -/
theorem DefT.kbD (T : DefT W d f fd dvs kws) (hd : d.dfl ≠ []) (h : ∀ (A : Addr) (kV doc pm : Value) (an : Option Addr) (cdv ct : Value) (us its ws : List Value), us.length = n → its.length = d.dfl.length → ws.length = ks.length →
      ∃ k, bindArgs (PySem.W.fnOf d.name d.qual d.params d.body d.scope (.ref A) kV doc pm an cdv ct) ⟨us, ks.zip ws⟩ = seqItems? (.ref A) >>= k ∧ k (some its.toArray) = pure (ps.zip (arrP pk us its [] ws))) : KB W fd d ps n ks [] pk := by
  have hl : dvs.length = d.dfl.length := (T.2.1 ⟨[], fun _ => none⟩ fun _ => none).length
  have hd' : dvs ≠ [] := fun z => hd (by
    rw [z] at hl
    exact List.length_eq_zero_iff.mp hl.symm)
  obtain ⟨its, q⟩ := FunD.kbindsD T.1 n ks (fun vs ds zs => arrP pk vs ds [] zs) hd' (fun r1 r2 r3 => arrP_vals r1 r2 .nil r3 pk) fun A kV doc pm an cdv ct us its ws l1 l2 l3 => h A kV doc pm an cdv ct us its ws l1 (l2.trans hl) l3
  have A := T.arr [] pk
  have e : (kwM ([] : List Str) kws).map (·.2) = [] := by unfold kwM; simp
  rw [e] at A
  exact ⟨_, _, q, A⟩
end
end EG
namespace EG
open PySem PySem.Spec PyProof.Rows L2
def clsTab (cls : List Str) : List (Str × Nat) := cls.zipIdx
def isiOf (T : List (Tag × Tag × Bool)) : Isi := fun t c => match T with
  | [] => none
  | (a, b, r) :: T => if a = t ∧ b = c then some r else isiOf T t c
def Tag.nm (cls : List Str) : Tag → TagN
  | .ty n => .ty n
  | .cls c => .cls (cls.getD c "")
def genFa (cls frees : List Str) (consts : List GC) (isi : List (Tag × Tag × Bool)) (flds : List (Nat × Str)) : List FaN :=
  frees.map (fun x => .old (.free x)) ++ (consts.map (fun c => .cst c.name c.d) ++ (cls.map (fun x => .old (.glo x)) ++ (cls.map FaN.clsok ++ (isi.map (fun p => .isi (p.1.nm cls) (p.2.1.nm cls) p.2.2) ++ flds.map (fun p => .old (.noat (cls.getD p.1 "") p.2))))))
theorem isiOf_mem : ∀ {T : List (Tag × Tag × Bool)} {t c : Tag} {b : Bool}, isiOf T t c = some b → (t, c, b) ∈ T
  | [], t, c, b, h => by unfold isiOf at h; cases h
  | (a, a', r) :: T, t, c, b, h => by
    unfold isiOf at h
    split at h
    · rename_i e
      obtain ⟨rfl, rfl⟩ := e
      cases h
      exact List.mem_cons_self ..
    · exact List.mem_cons_of_mem _ (isiOf_mem h)
theorem tagV_nm {K : PySem.W.Frag} {cls : List Str} (t : Tag) : tagV (lawW K cls) t = (t.nm cls).v K := by cases t <;> rfl
section
variable {K : PySem.W.Frag} {fa : List FaN} {fn : List DefN} {h : Heap} {mg : Str → Option Value} {cls frees : List Str} {consts : List GC} {isi : List (Tag × Tag × Bool)} {flds : List (Nat × Str)}
theorem SaysN.mem (c : SaysN fa fn K) {f : FaN} (h : f ∈ fa) : f.ok K = true := by
  have c1 := (He.ba (show ((fa.all fun f => f.ok K) && fn.all fun d => d.ok K) = true from congrArg (fun z : AlN => z.1) c)).1
  exact List.all_eq_true.mp c1 f h
theorem clsok_of (c : SaysN fa fn K) (sub : ∀ f ∈ genFa cls frees consts isi flds, f ∈ fa) (n : Nat) (hn : n < cls.length) : ClsOk (lawW K cls) n := by
  refine FaN.clsok_ok (x := cls.getD n "") rfl (c.mem (sub _ ?_))
  refine List.mem_append_right _ (List.mem_append_right _ (List.mem_append_right _ (List.mem_append_left _ (List.mem_map.mpr ⟨_, ?_, rfl⟩))))
  rw [List.getD_eq_getElem?_getD, List.getElem?_eq_getElem hn]
  exact List.getElem_mem hn
theorem m0_of (X : K.In h) (G : h.Ns mainGlobals mg) (c : SaysN fa fn K) (sub : ∀ f ∈ genFa cls frees consts isi flds, f ∈ fa) (hi : (isi.all fun p => match p.1 with | .cls k => decide (k < cls.length) | _ => true) = true := by decide) (hf : (flds.all fun p => decide (p.1 < cls.length)) = true := by decide) :
    M0k { fns := [], consts := consts, clss := clsTab cls, frees := frees, isi := isiOf isi, flds := flds } (lawW K cls) mg where
  consts := fun i cc e => FaN.cst_ok (W := lawW K cls) X G (c.mem (sub _ (List.mem_append_right _ (List.mem_append_left _ (List.mem_map.mpr ⟨cc, List.mem_of_getElem? e, rfl⟩)))))
  clss := fun x n hx => by
    have hx : (x, n) ∈ cls.zipIdx := hx
    have hg := List.mk_mem_zipIdx_iff_getElem?.mp hx
    have hw : (lawW K cls).ca n = He.ga K x := by
      show He.ga K (cls.getD n "") = _
      rw [List.getD_eq_getElem?_getD, hg]; rfl
    rw [hw]
    exact He.glo_ok X G (c.mem (sub _ (List.mem_append_right _ (List.mem_append_right _ (List.mem_append_left _ (List.mem_map.mpr ⟨x, List.mem_of_getElem? hg, rfl⟩))))))
  frees := fun x hx => He.free_ok X G (c.mem (sub _ (List.mem_append_left _ (List.mem_map.mpr ⟨x, hx, rfl⟩))))
  isi := ⟨fun t cc b e => by
      rw [tagV_nm, tagV_nm]
      exact FaN.isi_ok (c.mem (sub _ (List.mem_append_right _ (List.mem_append_right _ (List.mem_append_right _ (List.mem_append_right _ (List.mem_append_left _ (List.mem_map.mpr ⟨_, isiOf_mem e, rfl⟩)))))))),
    fun k cc b e => clsok_of c sub k (by
      have := List.all_eq_true.mp hi _ (isiOf_mem e)
      exact of_decide_eq_true this)⟩
  flds := ⟨fun k f e => by
    have hk : k < cls.length := of_decide_eq_true (List.all_eq_true.mp hf _ e)
    exact ⟨(clsok_of c sub k hk).cl, He.noat_ok (c.mem (sub _ (List.mem_append_right _ (List.mem_append_right _ (List.mem_append_right _ (List.mem_append_right _ (List.mem_append_right _ (List.mem_map.mpr ⟨_, e, rfl⟩))))))))⟩⟩
end
section
variable {W : Wd} {P : Program} {w : World} {mg : Str → Option Value} {base : Heap} {d : DefN} {f : Addr} {fd : FuncData} {dvs : List V} {kws : List (Str × V)} {ps ks mn : List Str} {n np k c : Nat} {F : Fn} {x m : Str} {pk : List Pick}
theorem DefT.nodfl (T : DefT W d f fd dvs kws) (hd : d.dfl = []) : dvs = [] := by
  have := T.2.1 ⟨[], fun _ => none⟩ fun _ => none
  rw [hd] at this
  cases this; rfl
theorem DefT.binds (T : DefT W d f fd dvs kws) (hd : d.dfl = []) (h : ∀ (kV doc pm : Value) (an : Option Addr) (cdv ct : Value) (us : List Value), us.length = ps.length → bindArgs (PySem.W.fnOf d.name d.qual d.params d.body d.scope .none kV doc pm an cdv ct) ⟨us, []⟩ = pure (ps.zip us)) : Binds W.K fd ps [] := by
  have e := T.nodfl hd
  subst e
  exact FunD.bindsN T.1 h
theorem DefT.bindsA (T : DefT W d f fd dvs kws) (hd : d.dfl = []) (h : ∀ (kV doc pm : Value) (an : Option Addr) (cdv ct : Value) (us : List Value), us.length = ps.length → bindArgs (PySem.W.fnOf d.name d.qual d.params d.body d.scope .none kV doc pm an cdv ct) ⟨us, []⟩ = pure (ps.zip us)) (s : Shared) (us : List Value) (hl : us.length = ps.length) : BindsTo s fd ⟨us, []⟩ (ps.zip us) := by
  have e := T.nodfl hd
  subst e
  exact FunD.bindsA T.1 h s us hl
variable (T : DefT W d f fd dvs kws) (hf : FnOk P w W.K mg base (L2.CX P w) k f fd ps (spF W n F))
include T hf
theorem use_fn (gm : mg x = some (.ref f)) (hb : Binds W.K fd ps []) : FKeep W P w mg base ⟨x, n, F, k, []⟩ := ⟨f, fd, ps, [], [], hf, gm, T.1.kp, hb, .nil, fun _ _ => .nil⟩
theorem use_kc (gm : mg m = some (.ref f)) (hb : KB W fd d ps np ks mn pk) : KcKeep W P w mg base ⟨x, c, m, np, ks, n, F, arrD d mn pk, k⟩ := let ⟨gB, gV, h1, h2⟩ := hb; ⟨f, fd, ps, gB, gV, hf, gm, T.1.kp, h1, h2⟩
theorem use_meth (c1 : Cls W.K (W.ca c)) (c2 : Meth W.K (W.ca c) m f) (hb : Binds W.K fd ps []) : MKeep W P w mg base ⟨c, m, n, F, k, []⟩ := ⟨f, fd, ps, [], [], hf, c1, c2, hb, .nil, fun _ _ => .nil⟩
theorem use_km (c1 : Cls W.K (W.ca c)) (c2 : Meth W.K (W.ca c) m f) (hb : KB W fd d ps (1 + np) ks mn pk) : KmKeep W P w mg base ⟨x, c, m, np, ks, n, F, arrD d mn pk, k⟩ := let ⟨gB, gV, h1, h2⟩ := hb; ⟨f, fd, ps, gB, gV, hf, c1, c2, h1, h2⟩
theorem use_prop {pp : Addr} (c1 : Cls W.K (W.ca c)) (c2 : PropOf W.K (W.ca c) m pp f) (hb : Binds W.K fd ps []) : PKeep W P w mg base ⟨c, m, n, F, k, []⟩ := ⟨pp, f, fd, ps, [], [], hf, c1, c2, hb, .nil, fun _ _ => .nil⟩
theorem use_make {fz : Bool} (c1 : Mk W.K (W.ca c) f) (gm : mg x = some (.ref (W.ca c))) (hb : KB W fd d ps (np + 1) ks mn pk) : KKeep W P w mg base ⟨x, c, fz, np, ks, n, F, arrD d mn pk, k⟩ := let ⟨gB, gV, h1, h2⟩ := hb; ⟨f, fd, ps, gB, gV, hf, c1, gm, h1, h2⟩
theorem use_ks {mc : Value} {pp : Addr} (c1 : SMet W.K (W.ca c) mc m pp f) (gm : mg x = some (.ref (W.ca c))) (hb : KB W fd d ps np ks mn pk) : KsKeep W P w mg base ⟨x, c, m, np, ks, n, F, arrD d mn pk, k⟩ := let ⟨gB, gV, h1, h2⟩ := hb; ⟨mc, pp, f, fd, ps, gB, gV, hf, gm, c1, h1, h2⟩
omit T hf
theorem use_eq (T : DefT W d f fd dvs kws) (hf : FnOk P w W.K mg base (L2.CX P w) k f fd ps (spF W 2 F)) (c1 : ClsOk W c) (c2 : NeFacts W.K (W.ca c) f) (hb : Binds W.K fd ps []) : EKeep W P w mg base ⟨c, m, n, F, k, []⟩ := ⟨f, fd, ps, hf, c1, c2.eq, c2.fn, hb, c2⟩
theorem use_o1 {o : Own1} (T : DefT W d f fd dvs kws) (hf : FnOk P w W.K mg base (L2.CX P w) k f fd ps (spF W 1 F)) (c1 : PySem.W.findIn W.K (.ref (W.ca c)) o.dunder = some (some (.ref f)) ∧ PySem.W.isFn W.K (.ref f) = true) (hb : Binds W.K fd ps []) : OKeep W P w mg base ⟨c, o, F, k⟩ := ⟨f, fd, ps, hf, c1.1, c1.2, hb⟩
end
end EG
namespace EG
open PySem L2

/-! what a run must do: weakest wishes -/
abbrev PX := Nat → List (Str × D) → Mu → Prop
/-- the simplifier does not walk into what another argument's type names -/
structure Tk {α : Sort u} (a : α) : Type where
theorem eqp {α : Sort u} {a b : α} (h : a = b) : a = b := h
def Wp {α : Type} (m : EM α) (μ : Mu) (Q : α → Mu → Prop) (E : PX) (_u : Tk (Q, E) := ⟨⟩) : Prop := match m μ with
  | some (.ok a, μ') => Q a μ'
  | some (.exc c fs, μ') => E c fs μ'
  | none => False
def Wr (F : SM) (env : Env) (μ : Mu) (K : SO → Mu → Prop) (_u : Tk K := ⟨⟩) : Prop := match F env μ with
  | some (o, μ') => K o μ'
  | none => False
def Wf (F : Fn) (ds : List D) (μ : Mu) (Q : D → Mu → Prop) (E : PX) (_u : Tk (F, Q, E) := ⟨⟩) : Prop := Wp (F ds) μ Q E
def Br (b : Bool) (p q : Prop) (_u : Tk (p ∧ q) := ⟨⟩) : Prop := match b with
  | true => p
  | false => q
def Op {α : Type} (o : Option α) (p : α → Prop) (_u : Tk p := ⟨⟩) : Prop := ∃ a, o = some a ∧ p a
section
variable {α β : Type} {μ : Mu} {Q : α → Mu → Prop} {E : PX} {env : Env} {K : SO → Mu → Prop} {P : D → Mu → Prop}
theorem wp_ext {m : EM α} {Q' : α → Mu → Prop} (h : ∀ a μ', Q a μ' = Q' a μ') : Wp m μ Q E = Wp m μ Q' E := by
  have : Q = Q' := funext fun a => funext fun μ' => h a μ'
  subst this; rfl
theorem op_ext {o : Option α} {p p' : α → Prop} (h : ∀ a, p a = p' a) : Op o p = Op o p' := by
  have : p = p' := funext h
  subst this; rfl
theorem br_true {p q : Prop} : Br true p q = p := eqp rfl
theorem br_false {p q : Prop} : Br false p q = q := eqp rfl
theorem br_cases {b : Bool} {p q : Prop} (h1 : b = true → p) (h2 : b = false → q) : Br b p q := by
  cases b with
  | true => exact h1 rfl
  | false => exact h2 rfl
theorem op_some {a : α} {p : α → Prop} : Op (some a) p = p a := propext ⟨fun ⟨_, e, h⟩ => by cases e; exact h, fun h => ⟨a, rfl, h⟩⟩
theorem wp_bind {m : EM α} {f : α → EM β} {Q : β → Mu → Prop} : Wp (bindE m f) μ Q E = Wp m μ (fun a μ' => Wp (f a) μ' Q E) E := by
  unfold Wp bindE
  cases m μ with
  | none => rfl
  | some r => obtain ⟨o, μ'⟩ := r; cases o <;> rfl
theorem wp_pure {a : α} : Wp (pureE a) μ Q E = Q a μ := eqp rfl
theorem wp_fail : Wp (failE : EM α) μ Q E = False := eqp rfl
theorem wp_opt {o : Option α} : Wp (optE o) μ Q E = Op o fun a => Q a μ := by
  unfold Wp optE
  cases o with
  | none => exact propext ⟨fun h => False.elim h, fun ⟨_, h, _⟩ => (nomatch h)⟩
  | some a => rw [op_some]
theorem wp_guard {b : Bool} {m : EM α} : Wp (guardE b m) μ Q E = (b = true ∧ Wp m μ Q E) := by
  cases b <;> simp [Wp, guardE]
theorem wp_noX {m : EM α} : Wp (noX m) μ Q E = Wp m μ Q fun _ _ _ => False := by
  unfold Wp noX
  cases m μ with
  | none => rfl
  | some r => obtain ⟨o, μ'⟩ := r; cases o <;> rfl
theorem wp_v {i : Nat} {Q : D → Mu → Prop} : Wp (fV i env) μ Q E = Op (valS env[i]?) fun d => Q d μ := wp_opt
theorem wp_vB {i : Nat} {Q : D → Mu → Prop} : Wp (fVB i env) μ Q E = Op (valB env[i]?) fun d => Q d μ := wp_opt
theorem wp_c {d : D} {Q : D → Mu → Prop} : Wp (fC d env) μ Q E = Q d μ := eqp rfl
theorem wp_op2 {op : D → D → EM D} {f g : Env → EM D} {Q : D → Mu → Prop} : Wp (fOp2 op f g env) μ Q E = Wp (f env) μ (fun d μ1 => Wp (g env) μ1 (fun e μ2 => Wp (op d e) μ2 Q E) E) E := by
  unfold fOp2; rw [wp_bind]; refine wp_ext fun d μ1 => ?_; rw [wp_bind]
theorem wp_op2L {op : D → D → EM (List D)} {f g : Env → EM D} {Q : List D → Mu → Prop} : Wp (fOp2L op f g env) μ Q E = Wp (f env) μ (fun d μ1 => Wp (g env) μ1 (fun e μ2 => Wp (op d e) μ2 Q E) E) E := by
  unfold fOp2L; rw [wp_bind]; refine wp_ext fun d μ1 => ?_; rw [wp_bind]
theorem wp_t {f : Env → EM D} {Q : Bool → Mu → Prop} : Wp (fT f env) μ Q E = Wp (f env) μ (fun d μ1 => Op (asB d) fun b => Q b μ1) E := by
  unfold fT; rw [wp_bind]; refine wp_ext fun d μ1 => ?_; rw [wp_opt]
theorem wp_tru {f : Env → EM D} {Q : Bool → Mu → Prop} : Wp (fTru f env) μ Q E = Wp (f env) μ (fun d μ1 => Op (truD d) fun b => Q b μ1) E := by
  unfold fTru; rw [wp_bind]; refine wp_ext fun d μ1 => ?_; rw [wp_opt]
theorem wp_chain {op op' : D → D → EM D} {f g k : Env → EM D} {Q : D → Mu → Prop} : Wp (fChain op op' f g k env) μ Q E = Wp (f env) μ (fun d μ1 => Wp (g env) μ1 (fun e μ2 => Wp (op d e) μ2 (fun z μ3 => Op (asB z) fun b => Br b (Wp (k env) μ3 (fun z' μ4 => Wp (op' e z') μ4 Q E) E) (Q (.bl false) μ3)) E) E) E := by
  unfold fChain; rw [wp_bind]; refine wp_ext fun d μ1 => ?_; rw [wp_bind]; refine wp_ext fun e μ2 => ?_; rw [wp_bind]; refine wp_ext fun z μ3 => ?_
  cases asB z with
  | none => exact propext ⟨fun h => False.elim h, fun ⟨_, h, _⟩ => (nomatch h)⟩
  | some b => rw [op_some]; cases b <;> simp only [br_true, br_false, wp_bind, wp_pure]
theorem wp_ite {b : Bool} {f g : EM α} : Wp (match b with | true => f | false => g) μ Q E = Br b (Wp f μ Q E) (Wp g μ Q E) := by cases b <;> rfl
theorem wp_andT {f g : Env → EM Bool} {Q : Bool → Mu → Prop} : Wp (fAndT f g env) μ Q E = Wp (f env) μ (fun b μ1 => Br b (Wp (g env) μ1 Q E) (Q false μ1)) E := by
  unfold fAndT; rw [wp_bind]; refine wp_ext fun b μ1 => ?_; cases b <;> rfl
theorem wp_orT {f g : Env → EM Bool} {Q : Bool → Mu → Prop} : Wp (fOrT f g env) μ Q E = Wp (f env) μ (fun b μ1 => Br b (Q true μ1) (Wp (g env) μ1 Q E)) E := by
  unfold fOrT; rw [wp_bind]; refine wp_ext fun b μ1 => ?_; cases b <;> rfl
theorem wp_notT {f : Env → EM Bool} {Q : Bool → Mu → Prop} : Wp (fNotT f env) μ Q E = Wp (f env) μ (fun b μ1 => Q (!b) μ1) E := by
  unfold fNotT; rw [wp_bind]; rfl
theorem wp_andV {f g : Env → EM D} {Q : D → Mu → Prop} : Wp (fAndV f g env) μ Q E = Wp (f env) μ (fun d μ1 => Op (asB d) fun b => Br b (Wp (g env) μ1 Q E) (Q (.bl false) μ1)) E := by
  unfold fAndV; rw [wp_bind]; refine wp_ext fun b μ1 => ?_
  cases asB b with
  | none => exact propext ⟨fun h => False.elim h, fun ⟨_, h, _⟩ => (nomatch h)⟩
  | some b => rw [op_some]; cases b <;> rfl
theorem wp_orV {f g : Env → EM D} {Q : D → Mu → Prop} : Wp (fOrV f g env) μ Q E = Wp (f env) μ (fun d μ1 => Op (asB d) fun b => Br b (Q (.bl true) μ1) (Wp (g env) μ1 Q E)) E := by
  unfold fOrV; rw [wp_bind]; refine wp_ext fun b μ1 => ?_
  cases asB b with
  | none => exact propext ⟨fun h => False.elim h, fun ⟨_, h, _⟩ => (nomatch h)⟩
  | some b => rw [op_some]; cases b <;> rfl
theorem wp_notV {f : Env → EM D} {Q : D → Mu → Prop} : Wp (fNotV f env) μ Q E = Wp (f env) μ (fun d μ1 => Op (asB d) fun b => Q (.bl (!b)) μ1) E := by
  unfold fNotV; rw [wp_bind]; refine wp_ext fun b μ1 => ?_
  cases asB b with
  | none => exact propext ⟨fun h => False.elim h, fun ⟨_, h, _⟩ => (nomatch h)⟩
  | some b => rw [op_some]; rfl
theorem wp_if {c : Env → EM Bool} {f g : Env → EM D} {Q : D → Mu → Prop} : Wp (fIf c f g env) μ Q E = Wp (c env) μ (fun b μ1 => Br b (Wp (f env) μ1 Q E) (Wp (g env) μ1 Q E)) E := by
  unfold fIf; rw [wp_bind]; refine wp_ext fun b μ1 => ?_; cases b <;> rfl
theorem wp_nil {Q : List D → Mu → Prop} : Wp (fNil env) μ Q E = Q [] μ := eqp rfl
theorem wp_cons {f : Env → EM D} {g : Env → EM (List D)} {Q : List D → Mu → Prop} : Wp (fCons f g env) μ Q E = Wp (f env) μ (fun d μ1 => Wp (g env) μ1 (fun ds μ2 => Q (d :: ds) μ2) E) E := by
  unfold fCons; rw [wp_bind]; refine wp_ext fun d μ1 => ?_; rw [wp_bind]; rfl
theorem wp_tup {g : Env → EM (List D)} {Q : D → Mu → Prop} : Wp (fTup g env) μ Q E = Wp (g env) μ (fun ds μ1 => ds.length ≤ big ∧ Q (.tup ds) μ1) E := by
  unfold fTup; rw [wp_bind]; refine wp_ext fun d μ1 => ?_; rw [wp_guard, decide_eq_true_eq]; rfl
theorem wp_lst {g : Env → EM (List D)} {Q : List D → Mu → Prop} : Wp (fLst g env) μ Q E = Wp (g env) μ (fun ds μ1 => ds.length ≤ big ∧ Q ds μ1) E := by
  unfold fLst; rw [wp_bind]; refine wp_ext fun d μ1 => ?_; rw [wp_guard, decide_eq_true_eq]; rfl
theorem wp_D {g : Env → EM (List D)} {Q : D → Mu → Prop} : Wp (fD g env) μ Q E = Wp (g env) μ (fun ds μ1 => Q (.lst ds) μ1) E := by
  unfold fD; rw [wp_bind]; rfl
theorem wp_cb {op : List D → EM α} {g : Env → EM (List D)} : Wp (fCB op g env) μ Q E = Wp (g env) μ (fun ds μ1 => Wp (op ds) μ1 Q E) E := wp_bind
theorem wp_call {n : Nat} {F : Fn} {dds : List D} {g : Env → EM (List D)} {Q : D → Mu → Prop} : Wp (fCall n F dds g env) μ Q E = Wp (g env) μ (fun ds μ1 => (ds ++ dds).length = n ∧ Wf F (ds ++ dds) μ1 Q E) E := by
  unfold fCall; rw [wp_bind]; refine wp_ext fun d μ1 => ?_; rw [wp_guard, decide_eq_true_eq, List.length_append]; rfl
theorem wp_isi {T : Isi} {cs : List Tag} {f : Env → EM D} {Q : D → Mu → Prop} : Wp (fIsi T cs f env) μ Q E = Wp (f env) μ (fun d μ1 => Op (tagD d μ1) fun t => Op (isiAny T t cs) fun b => Q (.bl b) μ1) E := by
  unfold fIsi; rw [wp_bind]; refine wp_ext fun d μ1 => ?_
  unfold isiE Wp
  cases h1 : tagD d μ1 with
  | none => simp only [h1]; exact propext ⟨fun h => False.elim h, fun ⟨_, h, _⟩ => (nomatch h)⟩
  | some t =>
    rw [op_some]
    cases h : isiAny T t cs with
    | none => simp only [h1, h]; exact propext ⟨fun h => False.elim h, fun ⟨_, h, _⟩ => (nomatch h)⟩
    | some b => rw [op_some]; simp only [h1, h]
theorem wp_neg {f : Env → EM D} {Q : D → Mu → Prop} : Wp (fNeg f env) μ Q E = Wp (f env) μ (fun d μ1 => Wp (negD d) μ1 Q E) E := wp_bind
theorem wp_sl {op : Option Int → Option Int → D → EM α} {f : Env → EM D} {l h : Env → EM (Option Int)} : Wp (fSl op f l h env) μ Q E = Wp (f env) μ (fun d μ1 => Wp (l env) μ1 (fun lo μ2 => Wp (h env) μ2 (fun hi μ3 => Wp (op lo hi d) μ3 Q E) E) E) E := by
  unfold fSl; rw [wp_bind]; refine wp_ext fun d μ1 => ?_; rw [wp_bind]; refine wp_ext fun lo μ2 => ?_; rw [wp_bind]
theorem wp_noP {Q : Option Int → Mu → Prop} : Wp (fNoP env) μ Q E = Q none μ := eqp rfl
def asI : D → Option Int
  | .int i => some i
  | _ => none
theorem wp_P {f : Env → EM D} {Q : Option Int → Mu → Prop} : Wp (fP f env) μ Q E = Wp (f env) μ (fun d μ1 => Op (asI d) fun i => Q (some i) μ1) E := by
  unfold fP; rw [wp_bind]; refine wp_ext fun d μ1 => ?_
  cases d <;> first
    | (exact propext ⟨fun h => False.elim h, fun ⟨_, h, _⟩ => (nomatch h)⟩)
    | (show Q _ _ = Op (some _) _; rw [op_some])
theorem wp_yes {Q : Bool → Mu → Prop} : Wp (fYes env) μ Q E = Q true μ := eqp rfl
theorem wp_items {f : Env → EM D} {Q : List D → Mu → Prop} : Wp (fItems f env) μ Q E = Wp (f env) μ (fun d μ1 => Op (itemsD d) fun ds => Q ds μ1) E := by
  unfold fItems; rw [wp_bind]; refine wp_ext fun d μ1 => ?_; rw [wp_opt]
def asS : D → Option Str
  | .str i => some i
  | _ => none
theorem wp_signs {f : Env → EM D} {Q : List D → Mu → Prop} : Wp (fSigns f env) μ Q E = Wp (f env) μ (fun d μ1 => Op (asS d) fun s => Q (signs s) μ1) E := by
  unfold fSigns; rw [wp_bind]; refine wp_ext fun d μ1 => ?_
  cases d <;> first
    | (exact propext ⟨fun h => False.elim h, fun ⟨_, h, _⟩ => (nomatch h)⟩)
    | (show Q _ _ = Op (some _) _; rw [op_some])
theorem wp_comp {vs : List Nat} {p : Pat} {src : Env → EM (List D)} {cond : Env → EM Bool} {elt : Env → EM D} {Q : List D → Mu → Prop} : Wp (fComp vs p src cond elt env) μ Q E = Wp (src env) μ (fun ds μ1 => Wp (compL p cond elt (wipeE env vs) ds) μ1 Q E) E := by
  unfold fComp; rw [wp_bind]
/-- each element alone, the store stays -/
theorem compL_pure {p : Pat} {cond : Env → EM Bool} {elt : Env → EM D} (c : D → Bool) (g : D → D) : ∀ (ds : List D), (∀ d ∈ ds, ∃ env1, bindP p d env = some env1 ∧ Wp (cond env1) μ (fun b μ' => b = c d ∧ μ' = μ) (fun _ _ _ => False) ∧ (c d = true → Wp (elt env1) μ (fun x μ' => x = g d ∧ μ' = μ) (fun _ _ _ => False))) →
    compL p cond elt env ds μ = some (.ok ((ds.filter c).map g), μ)
  | [], h => rfl
  | d :: r, h => by
    obtain ⟨env1, e1, h1, h2⟩ := h d (List.mem_cons_self ..)
    have ih := compL_pure c g r fun x hx => h x (List.mem_cons_of_mem _ hx)
    unfold compL
    rw [e1]
    simp only
    unfold Wp at h1 h2
    cases q : cond env1 μ with
    | none => rw [q] at h1; exact h1.elim
    | some o =>
      obtain ⟨o, μ'⟩ := o
      rw [q] at h1
      cases o with
      | exc c fs => exact h1.elim
      | ok b =>
        obtain ⟨rfl, rfl⟩ := h1
        cases hc : c d with
        | false =>
          simp only [bindE, noX, q, hc, List.filter_cons, Bool.false_eq_true, if_false]
          exact ih
        | true =>
          have h2 := h2 hc
          cases q2 : elt env1 μ' with
          | none => rw [q2] at h2; exact h2.elim
          | some o =>
            obtain ⟨o, μ''⟩ := o
            rw [q2] at h2
            cases o with
            | exc c fs => exact h2.elim
            | ok x =>
              obtain ⟨rfl, rfl⟩ := h2
              simp only [bindE, noX, q, q2, hc, List.filter_cons, if_true, ih, pureE, List.map_cons]
theorem wp_of_eq {m : EM α} {a : α} {μ' : Mu} (e : m μ = some (.ok a, μ')) (h : Q a μ') : Wp m μ Q E := by unfold Wp; rw [e]; exact h
theorem eq_of_wp {m : EM α} {a : α} {μ' : Mu} (h : Wp m μ (fun x μ1 => x = a ∧ μ1 = μ') (fun _ _ _ => False)) : m μ = some (.ok a, μ') := by
  unfold Wp at h
  cases q : m μ with
  | none => rw [q] at h; exact h.elim
  | some o =>
    obtain ⟨o, μ1⟩ := o
    rw [q] at h
    cases o with
    | exc c fs => exact h.elim
    | ok x => obtain ⟨rfl, rfl⟩ := h; rfl
theorem Wp.imp {m : EM α} {Q' : α → Mu → Prop} (h : Wp m μ Q E) (hi : ∀ a μ', Q a μ' → Q' a μ') : Wp m μ Q' E := by
  unfold Wp at h ⊢
  cases q : m μ with
  | none => rw [q] at h; exact h.elim
  | some o =>
    obtain ⟨o, μ1⟩ := o
    rw [q] at h
    cases o with
    | exc c fs => exact h
    | ok x => exact hi _ _ h

/-! commands -/
def thn (G : SM) (K : SO → Mu → Prop) : SO → Mu → Prop
  | .nx env', μ' => Wr G env' μ' K
  | o, μ' => K o μ'
theorem ws_seq {F G : SM} : Wr (fSeq F G) env μ K = Wr F env μ (thn G K) := by
  unfold Wr fSeq
  cases F env μ with
  | none => rfl
  | some r => obtain ⟨o, μ'⟩ := r; cases o <;> rfl
theorem thn_nx {G : SM} {e : Env} : thn G K (.nx e) μ = Wr G e μ K := eqp rfl
theorem thn_rt {G : SM} {d : D} : thn G K (.rt d) μ = K (.rt d) μ := eqp rfl
theorem thn_br {G : SM} {e : Env} : thn G K (.br e) μ = K (.br e) μ := eqp rfl
theorem thn_ct {G : SM} {e : Env} : thn G K (.ct e) μ = K (.ct e) μ := eqp rfl
theorem thn_exc {G : SM} {e : Env} {c : Nat} {fs : List (Str × D)} : thn G K (.exc c fs e) μ = K (.exc c fs e) μ := eqp rfl
def exS (env : Env) (K : SO → Mu → Prop) : PX := fun c fs μ' => K (.exc c fs env) μ'
theorem ws_lift {f : Env → EM α} {k : α → SM} : Wr (liftE f k) env μ K = Wp (f env) μ (fun a μ1 => Wr (k a) env μ1 K) (exS env K) := by
  unfold Wr liftE Wp
  cases f env μ with
  | none => rfl
  | some r => obtain ⟨o, μ'⟩ := r; cases o <;> rfl
theorem ws_skip : Wr fSkip env μ K = K (.nx env) μ := eqp rfl
theorem ws_break : Wr fBreak env μ K = K (.br env) μ := eqp rfl
theorem ws_cont : Wr fCont env μ K = K (.ct env) μ := eqp rfl
theorem ws_retN : Wr fRetN env μ K = K (.rt .non) μ := eqp rfl
theorem ws_set {i : Nat} {f : Env → EM D} : Wr (fSet i f) env μ K = Wp (f env) μ (fun d μ1 => K (.nx (env.set i (.v d))) μ1) (exS env K) := ws_lift
theorem ws_own {i : Nat} {f : Env → EM (List D)} : Wr (fSetOwn i f) env μ K = Wp (f env) μ (fun xs μ1 => K (.nx (env.set i (.own (.lst xs)))) μ1) (exS env K) := ws_lift
theorem ws_ret {f : Env → EM D} : Wr (fRet f) env μ K = Wp (f env) μ (fun d μ1 => K (.rt d) μ1) (exS env K) := ws_lift
theorem ws_drop {f : Env → EM D} : Wr (fDrop f) env μ K = Wp (f env) μ (fun d μ1 => K (.nx env) μ1) (exS env K) := ws_lift
theorem ws_if {c : Env → EM Bool} {F G : SM} : Wr (fIfS c F G) env μ K = Wp (c env) μ (fun b μ1 => Br b (Wr F env μ1 K) (Wr G env μ1 K)) (exS env K) := by
  unfold fIfS; rw [ws_lift]; refine wp_ext fun b μ1 => ?_; cases b <;> rfl
theorem ws_asg {p : Pat} {f : Env → EM D} : Wr (fAsg p f) env μ K = Wp (f env) μ (fun d μ1 => Op (bindP p d env) fun e => K (.nx e) μ1) (exS env K) := by
  unfold fAsg; rw [ws_lift]; refine wp_ext fun d μ1 => ?_
  unfold Wr
  cases h : bindP p d env with
  | none => simp only [h]; exact propext ⟨fun h => False.elim h, fun ⟨_, h, _⟩ => (nomatch h)⟩
  | some e => rw [op_some]; simp only [h]
theorem ws_par3 {i j l : Nat} {f g h : Env → EM D} : Wr (fPar3 i j l f g h) env μ K = Wp (f env) μ (fun d μ1 => Wp (g env) μ1 (fun e μ2 => Wp (h env) μ2 (fun d3 μ3 => K (.nx (((env.set i (.v d)).set j (.v e)).set l (.v d3))) μ3) (exS env K)) (exS env K)) (exS env K) := by
  unfold fPar3; rw [ws_lift]; refine wp_ext fun d μ1 => ?_; rw [ws_lift]; refine wp_ext fun e μ2 => ?_; rw [ws_lift]; rfl
theorem ws_par {i j : Nat} {f g : Env → EM D} : Wr (fPar i j f g) env μ K = Wp (f env) μ (fun d μ1 => Wp (g env) μ1 (fun e μ2 => K (.nx ((env.set i (.v d)).set j (.v e))) μ2) (exS env K)) (exS env K) := by
  unfold fPar; rw [ws_lift]; refine wp_ext fun d μ1 => ?_; rw [ws_lift]; rfl
def cellL (x : D) (μ : Mu) : Option (Nat × List D) := match x with
  | .cell n => match μ[n]? with
    | some (.lst xs) => some (n, xs)
    | _ => none
  | _ => none
theorem ws_setC {o i e : Env → EM D} : Wr (fSetC o i e) env μ K = Wp (e env) μ (fun d μ1 => Wp (o env) μ1 (fun x μ2 => Wp (i env) μ2 (fun y μ3 => Op (cellL x μ3) fun p => Op (setAt p.2 y d) fun ys => K (.nx env) (μ3.set p.1 (.lst ys))) (exS env K)) (exS env K)) (exS env K) := by
  unfold fSetC; rw [ws_lift]; refine wp_ext fun d μ1 => ?_; rw [ws_lift]; refine wp_ext fun x μ2 => ?_; rw [ws_lift]; refine wp_ext fun y μ3 => ?_
  unfold Wr cellL
  have no : ∀ {α : Type} {p : α → Prop}, False = Op (none : Option α) p := fun {α p} => propext ⟨fun h => False.elim h, fun ⟨_, h, _⟩ => (nomatch h)⟩
  cases x with
  | cell n =>
    simp only
    cases h : μ3[n]? with
    | none => exact no
    | some c =>
      cases c with
      | lst xs =>
        simp only [op_some]
        cases h : setAt xs y d with
        | none => exact no
        | some ys => simp only [op_some]
      | _ => exact no
  | _ => exact no
theorem wp_newc {g : Env → EM (List D)} {Q : D → Mu → Prop} : Wp (fNewc g env) μ Q E = Wp (g env) μ (fun xs μ1 => Q (.cell μ1.length) (μ1 ++ [.lst xs])) E := by
  unfold fNewc; rw [wp_bind]; rfl
def ownO (sl : Option Slot) : Option (List D) := match sl with
  | some (.own (.lst xs)) => some xs
  | _ => none
theorem ws_ownL {n : Nat} {k : List D → SM} : Wr (ownL n k) env μ K = Op (ownO env[n]?) fun xs => Wr (k xs) env μ K := by
  unfold ownL Wr ownO
  dsimp only
  have no : ∀ {α : Type} {p : α → Prop}, False = Op (none : Option α) p := fun {α p} => propext ⟨fun h => False.elim h, fun ⟨_, h, _⟩ => (nomatch h)⟩
  cases env[n]? with
  | none => exact no
  | some sl =>
    cases sl with
    | own c =>
      cases c with
      | lst xs => rw [op_some]
      | _ => exact no
    | _ => exact no
theorem ws_app {n : Nat} {e : Env → EM D} : Wr (fApp n e) env μ K = Op (ownO env[n]?) fun xs => Wp (e env) μ (fun d μ1 => xs.length < big ∧ K (.nx (env.set n (.own (.lst (xs ++ [d]))))) μ1) (exS env K) := by
  unfold fApp; rw [ws_ownL]; refine op_ext fun xs => ?_; rw [ws_lift]; refine wp_ext fun d μ1 => ?_
  unfold Wr
  by_cases h : xs.length < big <;> simp [h]
theorem ws_ext {n : Nat} {e : Env → EM D} : Wr (fExt n e) env μ K = Op (ownO env[n]?) fun xs => Wp (e env) μ (fun d μ1 => Op (lstD d μ1) fun ys => xs.length + ys.length ≤ big ∧ K (.nx (env.set n (.own (.lst (xs ++ ys))))) μ1) (exS env K) := by
  unfold fExt; rw [ws_ownL]; refine op_ext fun xs => ?_; rw [ws_lift]; refine wp_ext fun d μ1 => ?_
  unfold Wr
  cases h : lstD d μ1 with
  | none => simp only [h]; exact propext ⟨fun h => False.elim h, fun ⟨_, h, _⟩ => (nomatch h)⟩
  | some ys => rw [op_some]; simp only [h]; by_cases h : xs.length + ys.length ≤ big <;> simp [h]
theorem ws_setI {n : Nat} {i e : Env → EM D} : Wr (fSetI n i e) env μ K = Wp (e env) μ (fun d μ1 => Op (ownO env[n]?) fun xs => Wp (i env) μ1 (fun y μ2 => Op (setAt xs y d) fun ys => K (.nx (env.set n (.own (.lst ys)))) μ2) (exS env K)) (exS env K) := by
  unfold fSetI; rw [ws_lift]; refine wp_ext fun d μ1 => ?_; rw [ws_ownL]; refine op_ext fun xs => ?_; rw [ws_lift]; refine wp_ext fun y μ2 => ?_
  unfold Wr
  cases h : setAt xs y d with
  | none => simp only [h]; exact propext ⟨fun h => False.elim h, fun ⟨_, h, _⟩ => (nomatch h)⟩
  | some ys => rw [op_some]
def frzS (env : Env) (i : Nat) : Option Env := match env[i]? with
  | some (.own c) => some (env.set i (.v c.toD))
  | some (.v d) => some (env.set i (.v d))
  | _ => none
theorem ws_frz {i : Nat} : Wr (fFreeze i) env μ K = Op (frzS env i) fun e => K (.nx e) μ := by
  unfold fFreeze Wr frzS
  dsimp only
  cases env[i]? with
  | none => exact propext ⟨fun h => False.elim h, fun ⟨_, h, _⟩ => (nomatch h)⟩
  | some sl =>
    cases sl with
    | no => exact propext ⟨fun h => False.elim h, fun ⟨_, h, _⟩ => (nomatch h)⟩
    | v d => rw [op_some]
    | own c => rw [op_some]
def Wl (p : Pat) (body : SM) (ds : List D) (env : Env) (μ : Mu) (K : SO → Mu → Prop) (_u : Tk (body, K) := ⟨⟩) : Prop := Wr (loopF p body ds) env μ K
theorem ws_for {p : Pat} {src : Env → EM (List D)} {body : SM} : Wr (fFor p src body) env μ K = Wp (src env) μ (fun ds μ1 => Wl p body ds env μ1 K) (exS env K) := ws_lift
/-- one turn's end -/
def turn (p : Pat) (body : SM) (r : List D) (K : SO → Mu → Prop) : SO → Mu → Prop
  | .nx e, μ => Wl p body r e μ K
  | .ct e, μ => Wl p body r e μ K
  | .br e, μ => K (.nx e) μ
  | .rt d, μ => K (.rt d) μ
  | .exc c fs e, μ => K (.exc c fs e) μ
theorem wl_nil {p : Pat} {body : SM} : Wl p body [] env μ K = K (.nx env) μ := eqp rfl
theorem wl_cons {p : Pat} {body : SM} {d : D} {r : List D} : Wl p body (d :: r) env μ K = Op (bindP p d env) fun e => Wr body e μ (turn p body r K) := by
  show Wr (loopF p body (d :: r)) env μ K = _
  unfold Wr
  unfold loopF
  cases h : bindP p d env with
  | none => simp only [h]; exact propext ⟨fun h => False.elim h, fun ⟨_, h, _⟩ => (nomatch h)⟩
  | some e =>
    rw [op_some]
    simp only [h]
    cases h2 : body e μ with
    | none => simp only [h2]
    | some r => obtain ⟨o, μ'⟩ := r; cases o <;> simp only [h2] <;> rfl
def lpS (I : Env → Mu → Prop) (K : SO → Mu → Prop) : SO → Mu → Prop
  | .nx e, μ => I e μ
  | .ct e, μ => I e μ
  | .br e, μ => K (.nx e) μ
  | .rt d, μ => K (.rt d) μ
  | .exc c fs e, μ => K (.exc c fs e) μ
theorem Wr.imp {F : SM} {K' : SO → Mu → Prop} (h : Wr F env μ K) (hi : ∀ o μ', K o μ' → K' o μ') : Wr F env μ K' := by
  unfold Wr at h ⊢
  cases q : F env μ with
  | none => rw [q] at h; exact h.elim
  | some o => rw [q] at h; exact hi _ _ h
/-- an invariant over what is left -/
theorem wl_inv {p : Pat} {body : SM} (I : List D → Env → Mu → Prop) (step : ∀ d r env μ, I (d :: r) env μ → ∃ e, bindP p d env = some e ∧ Wr body e μ (lpS (I r) K)) (fin : ∀ env μ, I [] env μ → K (.nx env) μ) :
    ∀ (ds : List D) (env : Env) (μ : Mu), I ds env μ → Wl p body ds env μ K
  | [], env, μ, h => fin env μ h
  | d :: r, env, μ, h => by
    obtain ⟨e, e1, h1⟩ := step d r env μ h
    rw [wl_cons, e1, op_some]
    refine h1.imp fun o μ' q => ?_
    cases o with
    | nx e => exact wl_inv I step fin r e μ' q
    | ct e => exact wl_inv I step fin r e μ' q
    | br e => exact q
    | rt d => exact q
    | exc c fs e => exact q
/-! defs -/
def retS (Q : D → Mu → Prop) (E : PX) : SO → Mu → Prop
  | .nx _, μ => Q .non μ
  | .rt d, μ => Q d μ
  | .exc c fs _, μ => E c fs μ
  | _, _ => False
theorem wf_run {n : Nat} {F : SM} {ds : List D} {Q : D → Mu → Prop} : Wf (runF n F) ds μ Q E = Wr F (env0 n ds) μ (retS Q E) := by
  unfold Wf Wp runF Wr
  cases F (env0 n ds) μ with
  | none => rfl
  | some r => obtain ⟨o, μ'⟩ := r; cases o <;> rfl
theorem retS_nx {Q : D → Mu → Prop} {e : Env} : retS Q E (.nx e) μ = Q .non μ := eqp rfl
theorem retS_rt {Q : D → Mu → Prop} {d : D} : retS Q E (.rt d) μ = Q d μ := eqp rfl
theorem lpS_nx {I : Env → Mu → Prop} {e : Env} : lpS I K (.nx e) μ = I e μ := eqp rfl
theorem lpS_ct {I : Env → Mu → Prop} {e : Env} : lpS I K (.ct e) μ = I e μ := eqp rfl
theorem lpS_br {I : Env → Mu → Prop} {e : Env} : lpS I K (.br e) μ = K (.nx e) μ := eqp rfl
theorem lpS_rt {I : Env → Mu → Prop} {d : D} : lpS I K (.rt d) μ = K (.rt d) μ := eqp rfl
theorem turn_nx {p : Pat} {body : SM} {r : List D} {e : Env} : turn p body r K (.nx e) μ = Wl p body r e μ K := eqp rfl
theorem turn_ct {p : Pat} {body : SM} {r : List D} {e : Env} : turn p body r K (.ct e) μ = Wl p body r e μ K := eqp rfl
theorem turn_br {p : Pat} {body : SM} {r : List D} {e : Env} : turn p body r K (.br e) μ = K (.nx e) μ := eqp rfl
theorem turn_rt {p : Pat} {body : SM} {r : List D} {d : D} : turn p body r K (.rt d) μ = K (.rt d) μ := eqp rfl

/-! operators on what is known -/
theorem wp_addI {i j : Int} {Q : D → Mu → Prop} : Wp (addD (.int i) (.int j)) μ Q E = Q (.int (i + j)) μ := eqp rfl
theorem wp_addS {i j : Str} {Q : D → Mu → Prop} : Wp (addD (.str i) (.str j)) μ Q E = (i.length + j.length ≤ big ∧ Q (.str (i ++ j)) μ) := by
  unfold addD; rw [wp_guard, decide_eq_true_eq]; rfl
theorem wp_subI {i j : Int} {Q : D → Mu → Prop} : Wp (subD (.int i) (.int j)) μ Q E = Q (.int (i - j)) μ := eqp rfl
theorem wp_mulI {i j : Int} {Q : D → Mu → Prop} : Wp (mulD (.int i) (.int j)) μ Q E = (okMul i j = true ∧ Q (.int (i * j)) μ) := wp_guard
theorem wp_divI {i j : Int} {Q : D → Mu → Prop} : Wp (divD (.int i) (.int j)) μ Q E = ((0 < j ∧ j < 2 ^ 64) ∧ Q (.int (i / j)) μ) := by
  unfold divD; rw [wp_guard, decide_eq_true_eq]; rfl
theorem wp_modI {i j : Int} {Q : D → Mu → Prop} : Wp (modD (.int i) (.int j)) μ Q E = (0 < j ∧ Q (.int (i % j)) μ) := by
  unfold modD; rw [wp_guard, decide_eq_true_eq]; rfl
theorem wp_powI {i j : Int} {Q : D → Mu → Prop} : Wp (powD (.int i) (.int j)) μ Q E = ((0 ≤ j ∧ j ≤ 1000000 ∧ i.natAbs < 2 ^ 64) ∧ Q (.int (i ^ j.toNat)) μ) := by
  unfold powD; rw [wp_guard, decide_eq_true_eq]; rfl
theorem wp_cmpI {p : Int → Int → Bool} {i j : Int} {Q : D → Mu → Prop} : Wp (cmpI p (.int i) (.int j)) μ Q E = Q (.bl (p i j)) μ := eqp rfl
theorem wp_eq {d e : D} {Q : D → Mu → Prop} : Wp (eqDD d e) μ Q E = Op (eqD d e) fun b => Q (.bl b) μ := by
  unfold eqDD; rw [wp_opt]
  cases eqD d e with
  | none => exact propext ⟨fun ⟨_, h, _⟩ => (nomatch h), fun ⟨_, h, _⟩ => (nomatch h)⟩
  | some b => rw [Option.map_some, op_some, op_some]
theorem wp_ne {d e : D} {Q : D → Mu → Prop} : Wp (neDD d e) μ Q E = Op (eqD d e) fun b => Q (.bl (!b)) μ := by
  unfold neDD; rw [wp_opt]
  cases eqD d e with
  | none => exact propext ⟨fun ⟨_, h, _⟩ => (nomatch h), fun ⟨_, h, _⟩ => (nomatch h)⟩
  | some b => rw [Option.map_some, op_some, op_some]
theorem wp_negI {i : Int} {Q : D → Mu → Prop} : Wp (negD (.int i)) μ Q E = Q (.int (-i)) μ := eqp rfl
theorem wp_seqE {d : D} {Q : List D → Mu → Prop} : Wp (seqE d) μ Q E = Op (seqD d μ) fun xs => Q xs μ := by
  unfold Wp seqE
  cases seqD d μ with
  | none => exact propext ⟨fun h => False.elim h, fun ⟨_, h, _⟩ => (nomatch h)⟩
  | some xs => rw [op_some]
theorem wp_lstE {d : D} {Q : List D → Mu → Prop} : Wp (lstE d) μ Q E = Op (lstD d μ) fun xs => Q xs μ := by
  unfold Wp lstE
  cases lstD d μ with
  | none => exact propext ⟨fun h => False.elim h, fun ⟨_, h, _⟩ => (nomatch h)⟩
  | some xs => rw [op_some]
theorem isN_eq : ∀ d : D, isND d .non = (match d with | .non => pureE (.bl true) | .cell _ => pureE (.bl false) | .bl _ => pureE (.bl false) | .int _ => pureE (.bl false) | .str _ => pureE (.bl false) | .lst _ => pureE (.bl false) | .tup _ => pureE (.bl false) | .obj _ _ => pureE (.bl false) | _ => failE) := fun d => by cases d <;> rfl
end
end EG
namespace EG
open PySem L2

section
variable {α β : Type} {μ : Mu} {E : PX} {Q : D → Mu → Prop} {QL : List D → Mu → Prop}
theorem atI_nn {xs : List α} {i : Int} (h : 0 ≤ i) : atI xs i = xs[i.toNat]? := by
  unfold atI ixN
  by_cases h2 : i < xs.length
  · simp [h, h2]
  · simp [h, h2]
theorem setAt_nn {xs : List D} {i : Int} {d : D} (h : 0 ≤ i) (h2 : i.toNat < xs.length) : setAt xs (.int i) d = some (xs.set i.toNat d) := by
  unfold setAt ixN
  have : i < xs.length := by omega
  simp [h, this]
theorem wp_ixL {xs : List D} {i : Int} : Wp (ixD (.lst xs) (.int i)) μ Q E = Op (atI xs i) fun d => Q d μ := by
  show Wp (bindE (seqE (.lst xs)) fun ys => optE (atI ys i)) μ Q E = _
  rw [wp_bind, wp_seqE]; show Op (some xs) _ = _; rw [op_some, wp_opt]
theorem wp_ixT {xs : List D} {i : Int} : Wp (ixD (.tup xs) (.int i)) μ Q E = Op (atI xs i) fun d => Q d μ := by
  show Wp (bindE (seqE (.tup xs)) fun ys => optE (atI ys i)) μ Q E = _
  rw [wp_bind, wp_seqE]; show Op (some xs) _ = _; rw [op_some, wp_opt]
theorem wp_ixC {n : Nat} {i : Int} : Wp (ixD (.cell n) (.int i)) μ Q E = Op (seqD (.cell n) μ) fun xs => Op (atI xs i) fun d => Q d μ := by
  show Wp (bindE (seqE _) _) μ Q E = _
  rw [wp_bind, wp_seqE]; refine op_ext fun xs => ?_; rw [wp_opt]
theorem wp_ixS {s : Str} {i : Int} : Wp (ixD (.str s) (.int i)) μ Q E = Op (atI s.cps.toList i) fun c => Q (.str ⟨#[c]⟩) μ := by
  unfold ixD
  simp only
  cases h : atI s.cps.toList i with
  | none => exact propext ⟨fun h => False.elim h, fun ⟨_, h, _⟩ => (nomatch h)⟩
  | some c => rw [op_some]; rfl
theorem wp_lenS {s : Str} : Wp (lenD [.str s]) μ Q E = Q (.int s.length) μ := eqp rfl
theorem wp_lenL {xs : List D} : Wp (lenD [.lst xs]) μ Q E = Q (.int xs.length) μ := eqp rfl
theorem wp_lenT {xs : List D} : Wp (lenD [.tup xs]) μ Q E = Q (.int xs.length) μ := eqp rfl
theorem wp_lenC {n : Nat} : Wp (lenD [.cell n]) μ Q E = Op (seqD (.cell n) μ) fun xs => Q (.int xs.length) μ := by
  show Wp (bindE (seqE _) _) μ Q E = _
  rw [wp_bind, wp_seqE]; rfl
theorem wp_absI {i : Int} : Wp (absD [.int i]) μ Q E = Q (.int (if i < 0 then -i else i)) μ := eqp rfl
theorem wp_intI {i : Int} : Wp (intD [.int i]) μ Q E = Q (.int i) μ := eqp rfl
theorem wp_intB {b : Bool} : Wp (intD [.bl b]) μ Q E = Q (.int (if b then 1 else 0)) μ := eqp rfl
theorem wp_intS {s : Str} : Wp (intD [.str s]) μ Q E = (s.length ≤ 640 ∧ Op (PySem.intText? s) fun i => Q (.int i) μ) := by
  unfold intD; rw [wp_guard, decide_eq_true_eq, wp_opt]
  cases PySem.intText? s with
  | none => congr 1; exact propext ⟨fun ⟨_, h, _⟩ => (nomatch h), fun ⟨_, h, _⟩ => (nomatch h)⟩
  | some i => rw [Option.map_some, op_some, op_some]
theorem wp_strI {i : Int} : Wp (strD [.int i]) μ Q E = ((i.natAbs.log2 < 1920 ∧ (Str.ofString (toString i)).length ≤ big) ∧ Q (.str (toString i)) μ) := by
  unfold strD; rw [wp_guard, Bool.and_eq_true, decide_eq_true_eq, decide_eq_true_eq]; rfl
theorem wp_boolI {i : Int} : Wp (boolD [.int i]) μ Q E = Q (.bl (i != 0)) μ := eqp rfl
theorem wp_boolB {i : Bool} : Wp (boolD [.bl i]) μ Q E = Q (.bl i) μ := eqp rfl
theorem wp_all {d : D} : Wp (allD [d]) μ Q E = Op (lstD d μ) fun xs => Op (boolsD xs) fun bs => Q (.bl (bs.all id)) μ := by
  unfold allD; rw [wp_bind, wp_lstE]; refine op_ext fun xs => ?_; rw [wp_opt]
  cases boolsD xs with
  | none => exact propext ⟨fun ⟨_, h, _⟩ => (nomatch h), fun ⟨_, h, _⟩ => (nomatch h)⟩
  | some i => rw [Option.map_some, op_some, op_some]
theorem wp_any {d : D} : Wp (anyD [d]) μ Q E = Op (lstD d μ) fun xs => Op (boolsD xs) fun bs => Q (.bl (bs.any id)) μ := by
  unfold anyD; rw [wp_bind, wp_lstE]; refine op_ext fun xs => ?_; rw [wp_opt]
  cases boolsD xs with
  | none => exact propext ⟨fun ⟨_, h, _⟩ => (nomatch h), fun ⟨_, h, _⟩ => (nomatch h)⟩
  | some i => rw [Option.map_some, op_some, op_some]
theorem wp_sum {d : D} : Wp (sumD [d]) μ Q E = Op (lstD d μ) fun xs => Op (intsD xs) fun bs => Q (.int bs.sum) μ := by
  unfold sumD; rw [wp_bind, wp_lstE]; refine op_ext fun xs => ?_; rw [wp_opt]
  cases intsD xs with
  | none => exact propext ⟨fun ⟨_, h, _⟩ => (nomatch h), fun ⟨_, h, _⟩ => (nomatch h)⟩
  | some i => rw [Option.map_some, op_some, op_some]
theorem wp_max2 {i j : Int} : Wp (maxD [.int i, .int j]) μ Q E = Q (.int (max i j)) μ := eqp rfl
theorem wp_min2 {i j : Int} : Wp (minD [.int i, .int j]) μ Q E = Q (.int (min i j)) μ := eqp rfl
theorem wp_list {d : D} : Wp (listD [d]) μ QL E = Op (seqD d μ) fun xs => QL xs μ := wp_seqE
theorem wp_tuple {d : D} : Wp (tupleD [d]) μ Q E = Op (seqD d μ) fun xs => Q (.tup xs) μ := by
  unfold tupleD; rw [wp_bind, wp_seqE]; rfl
theorem wp_sorted {d : D} : Wp (sortedD [d]) μ QL E = Op (lstD d μ) fun xs => Op (intsD xs) fun ns => ns.length < 64 ∧ QL ((sortI ns).map .int) μ := by
  unfold sortedD; rw [wp_bind, wp_lstE]; refine op_ext fun xs => ?_
  cases intsD xs with
  | none => exact propext ⟨fun h => False.elim h, fun ⟨_, h, _⟩ => (nomatch h)⟩
  | some i => rw [op_some]; simp only; rw [wp_guard, decide_eq_true_eq]; rfl
theorem wp_slS {s : Str} {lo hi : Option Int} : Wp (slD lo hi (.str s)) μ Q E = Q (.str (cutS s lo hi)) μ := eqp rfl
theorem wp_slT {xs : List D} {lo hi : Option Int} : Wp (slD lo hi (.tup xs)) μ Q E = Q (.tup (cutL xs lo hi)) μ := eqp rfl
theorem wp_slLD {xs : List D} {lo hi : Option Int} : Wp (slD lo hi (.lst xs)) μ Q E = Q (.lst (cutL xs lo hi)) μ := eqp rfl
theorem wp_slC {ns : List Int} {lo hi : Option Int} : Wp (slL lo hi (.scr ns)) μ QL E = QL (cutL (ns.map D.int) lo hi) μ := eqp rfl
theorem wp_slL {xs : List D} {lo hi : Option Int} : Wp (slL lo hi (.lst xs)) μ QL E = QL (cutL xs lo hi) μ := eqp rfl
theorem wp_range1 {j : Int} : Wp (rangeD1 [.int j]) μ QL E = ((-(2 ^ 62) ≤ j ∧ j < 2 ^ 62 ∧ j.toNat ≤ big) ∧ QL (rangeL 0 j.toNat) μ) := by
  unfold rangeD1; rw [wp_guard, decide_eq_true_eq]; rfl
theorem wp_range2 {i j : Int} : Wp (rangeD2 [.int i, .int j]) μ QL E = ((-(2 ^ 62) ≤ i ∧ i < 2 ^ 62 ∧ -(2 ^ 62) ≤ j ∧ j < 2 ^ 62 ∧ (j - i).toNat ≤ big) ∧ QL (rangeL i (j - i).toNat) μ) := by
  unfold rangeD2; rw [wp_guard, decide_eq_true_eq]; rfl
theorem wp_enum {xs : List D} : Wp (enumD [.lst xs]) μ QL E = QL (enumL 0 xs) μ := eqp rfl
theorem wp_enumT {xs : List D} : Wp (enumD [.tup xs]) μ QL E = QL (enumL 0 xs) μ := eqp rfl
theorem wp_zip {xs ys : List D} : Wp (zipD [.lst xs, .lst ys]) μ QL E = QL (zipL xs ys) μ := eqp rfl
theorem wp_zipTT {xs ys : List D} : Wp (zipD [.tup xs, .tup ys]) μ QL E = QL (zipL xs ys) μ := eqp rfl
theorem wp_zipTL {xs ys : List D} : Wp (zipD [.tup xs, .lst ys]) μ QL E = QL (zipL xs ys) μ := eqp rfl
theorem wp_zipLT {xs ys : List D} : Wp (zipD [.lst xs, .tup ys]) μ QL E = QL (zipL xs ys) μ := eqp rfl
theorem wp_cat {x y : D} : Wp (catD x y) μ QL E = Op (lstD x μ) fun xs => Op (lstD y μ) fun ys => xs.length + ys.length ≤ big ∧ QL (xs ++ ys) μ := by
  unfold catD; rw [wp_bind, wp_lstE]; refine op_ext fun xs => ?_; rw [wp_bind, wp_lstE]; refine op_ext fun ys => ?_; rw [wp_guard, decide_eq_true_eq]; rfl
theorem wp_rep {x : D} {k : Int} : Wp (repD x (.int k)) μ QL E = Op (lstD x μ) fun xs => (-(2 ^ 63) ≤ k ∧ k < 2 ^ 63 ∧ xs.length * k.toNat ≤ big) ∧ QL (repL k.toNat xs) μ := by
  unfold repD; simp only; rw [wp_bind, wp_lstE]; refine op_ext fun xs => ?_; rw [wp_guard, decide_eq_true_eq]; rfl
theorem wp_inSg {c : Nat} {z : Str} : Wp (inD (.str ⟨#[c]⟩) (.str z)) μ Q E = Q (.bl (decide (c ∈ z.cps.toList))) μ := eqp rfl
theorem wp_notInSg {c : Nat} {z : Str} : Wp (notInD (.str ⟨#[c]⟩) (.str z)) μ Q E = Q (.bl (!decide (c ∈ z.cps.toList))) μ := eqp rfl
theorem in_eq {x y : D} (h : ∀ a z, x = .str a → y = .str z → False) : inD x y = bindE (seqE y) fun xs => optE ((inL x xs).map .bl) := by
  unfold inD
  split
  · exact (h _ _ rfl rfl).elim
  · rfl
theorem wp_inL {x : D} {xs : List D} : Wp (inD x (.lst xs)) μ Q E = Op (inL x xs) fun b => Q (.bl b) μ := by
  rw [in_eq (fun _ _ _ h => by cases h), wp_bind, wp_seqE]; show Op (some xs) _ = _; rw [op_some, wp_opt]
  cases inL x xs with
  | none => exact propext ⟨fun ⟨_, h, _⟩ => (nomatch h), fun ⟨_, h, _⟩ => (nomatch h)⟩
  | some i => rw [Option.map_some, op_some, op_some]
theorem wp_inT {x : D} {xs : List D} : Wp (inD x (.tup xs)) μ Q E = Op (inL x xs) fun b => Q (.bl b) μ := by
  rw [in_eq (fun _ _ _ h => by cases h), wp_bind, wp_seqE]; show Op (some xs) _ = _; rw [op_some, wp_opt]
  cases inL x xs with
  | none => exact propext ⟨fun ⟨_, h, _⟩ => (nomatch h), fun ⟨_, h, _⟩ => (nomatch h)⟩
  | some i => rw [Option.map_some, op_some, op_some]
theorem wp_notIn {x y : D} : Wp (notInD x y) μ Q E = Wp (inD x y) μ (fun z μ' => Op (asB z) fun b => Q (.bl (!b)) μ') E := by
  unfold notInD; rw [wp_bind]; refine wp_ext fun z μ' => ?_
  cases z <;> first
    | (exact propext ⟨fun h => False.elim h, fun ⟨_, h, _⟩ => (nomatch h)⟩)
    | (show Q _ _ = Op (some _) _; rw [op_some])
/-- is None -/
def nonB : D → Option Bool
  | .non => some true
  | .cell _ => some false | .bl _ => some false | .int _ => some false | .str _ => some false | .lst _ => some false | .tup _ => some false | .obj _ _ => some false
  | _ => none
theorem wp_isN {d : D} : Wp (isND d .non) μ Q E = Op (nonB d) fun b => Q (.bl b) μ := by
  cases d <;> first
    | (show Q _ _ = Op (some _) _; rw [op_some])
    | (exact propext ⟨fun h => False.elim h, fun ⟨_, h, _⟩ => (nomatch h)⟩)
theorem wp_notN {d : D} : Wp (notND d .non) μ Q E = Op (nonB d) fun b => Q (.bl (!b)) μ := by
  unfold notND; rw [wp_bind, wp_isN]; congr 1
theorem tt1 : tyTab "bool" "int" = some true := by decide
theorem tt2 : tyTab "bool" "bool" = some true := by decide
theorem tt3 : tyTab "int" "int" = some true := by decide
theorem tt4 : tyTab "str" "str" = some true := by decide
theorem tt5 : tyTab "list" "list" = some true := by decide
theorem tt6 : tyTab "tuple" "tuple" = some true := by decide
theorem tu1 : tyTab "NoneType" "bool" = some false := by decide
theorem tu2 : tyTab "NoneType" "int" = some false := by decide
theorem tu3 : tyTab "NoneType" "str" = some false := by decide
theorem tu4 : tyTab "NoneType" "list" = some false := by decide
theorem tu5 : tyTab "NoneType" "tuple" = some false := by decide
theorem tu6 : tyTab "bool" "str" = some false := by decide
theorem tu7 : tyTab "bool" "list" = some false := by decide
theorem tu8 : tyTab "bool" "tuple" = some false := by decide
theorem tu9 : tyTab "int" "bool" = some false := by decide
theorem tu10 : tyTab "int" "str" = some false := by decide
theorem tu11 : tyTab "int" "list" = some false := by decide
theorem tu12 : tyTab "int" "tuple" = some false := by decide
theorem tu13 : tyTab "str" "bool" = some false := by decide
theorem tu14 : tyTab "str" "int" = some false := by decide
theorem tu15 : tyTab "str" "list" = some false := by decide
theorem tu16 : tyTab "str" "tuple" = some false := by decide
theorem tu17 : tyTab "list" "bool" = some false := by decide
theorem tu18 : tyTab "list" "int" = some false := by decide
theorem tu19 : tyTab "list" "str" = some false := by decide
theorem tu20 : tyTab "list" "tuple" = some false := by decide
theorem tu21 : tyTab "tuple" "bool" = some false := by decide
theorem tu22 : tyTab "tuple" "int" = some false := by decide
theorem tu23 : tyTab "tuple" "str" = some false := by decide
theorem tu24 : tyTab "tuple" "list" = some false := by decide
theorem le_big {n : Nat} (h : n ≤ 16777216) : (n ≤ big) = True := eq_true h
theorem nA10 : Int.natAbs 10 = 10 := eqp rfl
theorem nA2 : Int.natAbs 2 = 2 := eqp rfl
theorem asB_bl {b : Bool} : asB (.bl b) = some b := eqp rfl
theorem truD_non : truD .non = some false := eqp rfl
theorem truD_bl {b : Bool} : truD (.bl b) = some b := eqp rfl
theorem truD_int {i : Int} : truD (.int i) = some (i != 0) := eqp rfl
theorem truD_str {s : Str} : truD (.str s) = some (s.length != 0) := eqp rfl
theorem truD_lst {xs : List D} : truD (.lst xs) = some (!xs.isEmpty) := eqp rfl
theorem truD_tup {xs : List D} : truD (.tup xs) = some (!xs.isEmpty) := eqp rfl
theorem asI_int {i : Int} : asI (.int i) = some i := eqp rfl
theorem asS_str {s : Str} : asS (.str s) = some s := eqp rfl
theorem items_lst {xs : List D} : itemsD (.lst xs) = some xs := eqp rfl
theorem items_tup {xs : List D} : itemsD (.tup xs) = some xs := eqp rfl
theorem items_str {s : Str} : itemsD (.str s) = some (signs s) := eqp rfl
theorem valS_v {d : D} : valS (some (.v d)) = some d := eqp rfl
theorem valB_v {d : D} : valB (some (.v d)) = some d := eqp rfl
theorem valB_own {c : Cell} : valB (some (.own c)) = some c.toD := eqp rfl
theorem seqD_lst {xs : List D} : seqD (.lst xs) μ = some xs := eqp rfl
theorem seqD_tup {xs : List D} : seqD (.tup xs) μ = some xs := eqp rfl
theorem seqD_cell0 {xs : List D} : seqD (.cell 0) (.lst xs :: μ) = some xs := eqp rfl
theorem lstD_lst {xs : List D} : lstD (.lst xs) μ = some xs := eqp rfl
theorem lstD_cell0 {xs : List D} : lstD (.cell 0) (.lst xs :: μ) = some xs := eqp rfl
theorem cellL_0 {xs : List D} : cellL (.cell 0) (.lst xs :: μ) = some (0, xs) := eqp rfl
theorem own_lst {xs : List D} : ownO (some (.own (.lst xs))) = some xs := eqp rfl
theorem nonB_non : nonB .non = some true := eqp rfl
theorem nonB_bl {b : Bool} : nonB (.bl b) = some false := eqp rfl
theorem nonB_int {b : Int} : nonB (.int b) = some false := eqp rfl
theorem nonB_str {b : Str} : nonB (.str b) = some false := eqp rfl
theorem nonB_lst {b : List D} : nonB (.lst b) = some false := eqp rfl
theorem nonB_tup {b : List D} : nonB (.tup b) = some false := eqp rfl
theorem nonB_cell {b : Nat} : nonB (.cell b) = some false := eqp rfl
theorem nonB_obj {b : Nat} {fs : List (Str × D)} : nonB (.obj b fs) = some false := eqp rfl
theorem bools_nil : boolsD [] = some [] := eqp rfl
theorem bools_cons {b : Bool} {r : List D} : boolsD (.bl b :: r) = (boolsD r).map (b :: ·) := eqp rfl
theorem ints_nil : intsD [] = some [] := eqp rfl
theorem ints_cons {b : Int} {r : List D} : intsD (.int b :: r) = (intsD r).map (b :: ·) := eqp rfl
theorem eqD_ii {i j : Int} : eqD (.int i) (.int j) = some (decide (i = j)) := eqp rfl
theorem eqD_bb {i j : Bool} : eqD (.bl i) (.bl j) = some (decide (i = j)) := eqp rfl
theorem eqD_ss {i j : Str} : eqD (.str i) (.str j) = some (decide (i = j)) := eqp rfl
theorem eqD_nn : eqD .non .non = some true := eqp rfl
theorem eqD_ni {j : Int} : eqD .non (.int j) = some false := eqp rfl
theorem eqD_in {j : Int} : eqD (.int j) .non = some false := eqp rfl
theorem eqD_nb {j : Bool} : eqD .non (.bl j) = some false := eqp rfl
theorem eqD_bn {j : Bool} : eqD (.bl j) .non = some false := eqp rfl
theorem eqD_ns {j : Str} : eqD .non (.str j) = some false := eqp rfl
theorem eqD_sn {j : Str} : eqD (.str j) .non = some false := eqp rfl
theorem eqD_is {i : Int} {j : Str} : eqD (.int i) (.str j) = some false := eqp rfl
theorem eqD_si {i : Str} {j : Int} : eqD (.str i) (.int j) = some false := eqp rfl
theorem eqD_bs {i : Bool} {j : Str} : eqD (.bl i) (.str j) = some false := eqp rfl
theorem eqD_sb {i : Str} {j : Bool} : eqD (.str i) (.bl j) = some false := eqp rfl
theorem tag_non : tagD .non μ = some (.ty "NoneType") := eqp rfl
theorem tag_bl {b : Bool} : tagD (.bl b) μ = some (.ty "bool") := eqp rfl
theorem tag_int {b : Int} : tagD (.int b) μ = some (.ty "int") := eqp rfl
theorem tag_str {b : Str} : tagD (.str b) μ = some (.ty "str") := eqp rfl
theorem tag_lst {b : List D} : tagD (.lst b) μ = some (.ty "list") := eqp rfl
theorem tag_tup {b : List D} : tagD (.tup b) μ = some (.ty "tuple") := eqp rfl
theorem tag_obj {c : Nat} {fs : List (Str × D)} : tagD (.obj c fs) μ = some (.cls c) := eqp rfl
theorem bindP_nm {i : Nat} {d : D} {env : Env} : bindP (.nm i) d env = some (env.set i (.v d)) := by unfold bindP; rfl
theorem bindP_tp {ps : Pats} {ds : List D} {env : Env} : bindP (.tp ps) (.tup ds) env = bindPs ps ds env := by unfold bindP; rfl
theorem bindPs_nil {env : Env} : bindPs .nil [] env = some env := by unfold bindPs; rfl
theorem bindPs_cons {p : Pat} {r : Pats} {d : D} {ds : List D} {env : Env} : bindPs (.cons p r) (d :: ds) env = (bindP p d env).bind fun e => bindPs r ds e := by
  rw [bindPs]; cases bindP p d env <;> rfl
theorem okMul_r {i j : Int} (h : -(2 ^ 64) < j) (h2 : j < 2 ^ 64) : okMul i j = true := by unfold okMul; simp only [Bool.or_eq_true, decide_eq_true_eq]; omega
theorem okMul_l {i j : Int} (h : -(2 ^ 64) < i) (h2 : i < 2 ^ 64) : okMul i j = true := by unfold okMul; simp only [Bool.or_eq_true, decide_eq_true_eq]; omega
end
end EG
namespace EG
open PySem L2
section
variable {α β : Type} {μ : Mu} {E : PX} {env : Env} {K : SO → Mu → Prop} {Q : D → Mu → Prop}
/-! rules of instances -/
def memF (flds : List (Nat × Str)) (c : Nat) (f : Str) : Bool := flds.any fun p => p.1 == c && decide (p.2 = f)
theorem memF_iff {flds : List (Nat × Str)} {c : Nat} {f : Str} : memF flds c f = true ↔ (c, f) ∈ flds := by
  unfold memF
  rw [List.any_eq_true]
  constructor
  · rintro ⟨⟨a, b⟩, h1, h2⟩
    simp only [Bool.and_eq_true, beq_iff_eq, decide_eq_true_eq] at h2
    obtain ⟨rfl, rfl⟩ := h2
    exact h1
  · exact fun h => ⟨(c, f), h, by simp⟩
theorem no_op {p : α → Prop} : False = Op (none : Option α) p := propext ⟨fun h => False.elim h, fun ⟨_, h, _⟩ => (nomatch h)⟩
theorem wp_get {flds : List (Nat × Str)} {f : Str} {g : Env → EM D} : Wp (fGet flds f g env) μ Q E = Wp (g env) μ (fun d μ1 => Op (objD d μ1) fun p => memF flds p.1 f = true ∧ Op (p.2.lookup f) fun v => Q v μ1) E := by
  unfold fGet; rw [wp_bind]; refine wp_ext fun d μ1 => ?_
  unfold Wp getD
  cases objD d μ1 with
  | none => exact no_op
  | some p =>
    obtain ⟨c, fs⟩ := p
    rw [op_some]
    simp only
    by_cases h : (c, f) ∈ flds
    · simp only [h, if_true, memF_iff.mpr h, true_and]
      cases fs.lookup f with
      | none => exact no_op
      | some v => rw [op_some]
    · have : memF flds c f = false := by
        cases q : memF flds c f with
        | false => rfl
        | true => exact absurd (memF_iff.mp q) h
      simp [h, this]
theorem wp_meth {c n : Nat} {m : Str} {F : Fn} {dds : List D} {go : Env → EM D} {ga : Env → EM (List D)} : Wp (fMeth c m n F dds go ga env) μ Q E = Wp (go env) μ (fun d μ1 => isObj c m d μ1 = true ∧ Wp (ga env) μ1 (fun ds μ2 => ds.length + dds.length + 1 = n ∧ Wf F (d :: (ds ++ dds)) μ2 Q E) E) E := by
  unfold fMeth; rw [wp_bind]; refine wp_ext fun d μ1 => ?_
  have e : Wp (ga env) μ1 (fun ds μ2 => ds.length + dds.length + 1 = n ∧ Wf F (d :: (ds ++ dds)) μ2 Q E) E = Wp (bindE (ga env) fun ds => guardE (decide (ds.length + dds.length + 1 = n)) (F (d :: (ds ++ dds)))) μ1 Q E := by
    rw [wp_bind]
    refine wp_ext fun ds μ2 => ?_
    rw [wp_guard, decide_eq_true_eq]; rfl
  rw [e]
  unfold Wp
  dsimp only
  cases h : isObj c m d μ1 with
  | false => simp only [h, false_and, Bool.false_eq_true]
  | true => simp only [h, true_and]
theorem wp_noX' {m : EM D} : Wp (fProp.noX' m) μ Q E = Wp m μ Q fun _ _ _ => False := by
  unfold Wp fProp.noX'
  cases m μ with
  | none => rfl
  | some r => obtain ⟨o, μ'⟩ := r; cases o <;> rfl
theorem wp_prop {c n : Nat} {F : Fn} {dds : List D} {go : Env → EM D} : Wp (fProp c n F dds go env) μ Q E = Wp (go env) μ (fun d μ1 => Op (objD d μ1) fun p => (p.1 = c ∧ dds.length + 1 = n) ∧ Wf F (d :: dds) μ1 Q (fun _ _ _ => False)) E := by
  unfold fProp; rw [wp_bind]; refine wp_ext fun d μ1 => ?_
  have e : Wf F (d :: dds) μ1 Q (fun _ _ _ => False) = Wp (fProp.noX' (F (d :: dds))) μ1 Q E := wp_noX'.symm
  rw [e]
  unfold Wp
  dsimp only
  cases h : objD d μ1 with
  | none => exact no_op
  | some p =>
    obtain ⟨c', fs⟩ := p
    rw [op_some]
    dsimp only
    by_cases h1 : c' = c
    · by_cases h2 : dds.length + 1 = n
      · simp only [h1, h2, beq_self_eq_true, decide_true, Bool.and_self, true_and]
      · simp only [h1, h2, beq_self_eq_true, decide_false, Bool.and_false, and_false, false_and]
    · have : (c' == c) = false := beq_eq_false_iff_ne.mpr h1
      simp only [h1, this, Bool.false_and, false_and]
theorem ws_setF {flds : List (Nat × Str)} {f : Str} {o e : Env → EM D} : Wr (fSetF flds f o e) env μ K = Wp (e env) μ (fun d μ1 => Wp (o env) μ1 (fun x μ2 => Op (cellO x μ2) fun p => (memF flds p.2.1 f = true ∧ p.2.2.length < 1000) ∧ K (.nx env) (μ2.set p.1 (.obj p.2.1 (putD f d p.2.2)))) (exS env K)) (exS env K) := by
  unfold fSetF; rw [ws_lift]; refine wp_ext fun d μ1 => ?_; rw [ws_lift]; refine wp_ext fun x μ2 => ?_
  unfold Wr
  cases h : cellO x μ2 with
  | none => simp only [h]; exact no_op
  | some p =>
    obtain ⟨n, c, fs⟩ := p
    rw [op_some]
    simp only [h]
    by_cases h1 : (c, f) ∈ flds ∧ fs.length < 1000
    · simp only [h1, and_self, if_true, memF_iff.mpr h1.1, true_and]
    · have : ¬ (memF flds c f = true ∧ fs.length < 1000) := fun z => h1 ⟨memF_iff.mp z.1, z.2⟩
      simp only [h1, if_false, this, false_and]
end
end EG
namespace EG
open PySem L2
section
variable {α β : Type} {μ : Mu} {E : PX} {env : Env} {K : SO → Mu → Prop} {Q : D → Mu → Prop}
def endMk (fz : Bool) (μ μ' : Mu) (Q : D → Mu → Prop) (_u : Tk Q := ⟨⟩) : Prop := match fz with
  | false => Q (.cell μ.length) μ'
  | true => ∃ c fs, μ' = μ ++ [.obj c fs] ∧ belF μ.length fs = true ∧ Q (.obj c fs) μ
theorem mkF_wish {fz : Bool} {r : Option (Out D × Mu)} : Wp (fun _ => mkF fz r μ) μ Q E = Wp (fun _ => r) μ (fun v μ' => v = .non ∧ endMk fz μ μ' Q) E := by
  unfold Wp
  dsimp only
  cases r with
  | none => rfl
  | some r =>
    obtain ⟨o, μ'⟩ := r
    cases o with
    | exc c fs => rfl
    | ok v =>
      cases v <;> first
        | (show False = _; exact propext ⟨fun h => False.elim h, fun h => nomatch h.1⟩)
        | skip
      cases fz with
      | false => exact propext ⟨fun h => ⟨rfl, h⟩, fun h => h.2⟩
      | true =>
        unfold mkF endMk
        dsimp only
        cases q : μ'.getLast? with
        | none =>
          simp only [q]
          refine propext ⟨fun h => False.elim h, fun ⟨_, c, fs, h, _⟩ => ?_⟩
          rw [h] at q
          simp at q
        | some x =>
          cases x with
          | obj c fs =>
            simp only [q]
            by_cases h : μ' = μ ++ [.obj c fs] ∧ belF μ.length fs = true
            · rw [if_pos h]
              exact propext ⟨fun z => ⟨trivial, c, fs, h.1, h.2, z⟩, fun ⟨_, c', fs', h1, h2, z⟩ => by
                have := h.1.symm.trans h1
                simp at this
                obtain ⟨rfl, rfl⟩ := this
                exact z⟩
            · rw [if_neg h]
              refine propext ⟨fun z => False.elim z, fun ⟨_, c', fs', h1, h2, z⟩ => ?_⟩
              rw [h1] at q
              simp at q
              obtain ⟨rfl, rfl⟩ := q
              exact h ⟨h1, h2⟩
          | lst xs => exact propext ⟨fun h => by simp only [q] at h, fun ⟨_, c, fs, h1, _⟩ => by rw [h1] at q; simp at q⟩
          | dK xs => exact propext ⟨fun h => by simp only [q] at h, fun ⟨_, c, fs, h1, _⟩ => by rw [h1] at q; simp at q⟩
          | dT xs => exact propext ⟨fun h => by simp only [q] at h, fun ⟨_, c, fs, h1, _⟩ => by rw [h1] at q; simp at q⟩
/-- C(..): args by the new one -/
def Wmk (fz : Bool) (c : Nat) (F : Fn) (args : D → List D) (N : Nat) (μ : Mu) (Q : D → Mu → Prop) (E : PX) (_u : Tk (F, Q, E) := ⟨⟩) : Prop :=
  (args (.cell μ.length)).length = N ∧ Wf F (args (.cell μ.length)) (μ ++ [.obj c []]) (fun v μ' => v = .non ∧ endMk fz μ μ' Q) E
theorem wp_mk {fz : Bool} {c n m N : Nat} {F : Fn} {arr : List D → List D → List D} {ga gk : Env → EM (List D)} : Wp (fMk fz c n m N F arr ga gk env) μ Q E = Wp (ga env) μ (fun ds μ1 => Wp (gk env) μ1 (fun es μ2 => (ds.length = n ∧ es.length = m) ∧ Wmk fz c F (fun y => arr (y :: ds) es) N μ2 Q E) E) E := by
  unfold fMk; rw [wp_bind]; refine wp_ext fun ds μ1 => ?_; rw [wp_bind]; refine wp_ext fun es μ2 => ?_
  have e : Wf F (arr (.cell μ2.length :: ds) es) (μ2 ++ [.obj c []]) (fun v μ' => v = .non ∧ endMk fz μ2 μ' Q) E = Wp (fun _ => mkF fz (F (arr (.cell μ2.length :: ds) es) (μ2 ++ [.obj c []])) μ2) μ2 Q E := by rw [mkF_wish]; rfl
  unfold Wmk
  rw [e]
  unfold Wp mkE'
  dsimp only
  by_cases h : ds.length = n ∧ es.length = m
  · by_cases h2 : (arr (.cell μ2.length :: ds) es).length = N
    · simp only [h, h2, and_self, decide_true, true_and]
    · simp only [h, h2, and_false, decide_false, false_and]
  · have : ¬ (ds.length = n ∧ es.length = m ∧ (arr (.cell μ2.length :: ds) es).length = N) := fun z => h ⟨z.1, z.2.1⟩
    simp only [this, h, decide_false, false_and]
/-- a frozen instance -/
theorem wmk_fz {c N : Nat} {F : Fn} {args : D → List D} (hN : ∀ y, (args y).length = N) (h : Wf F (args (.cell μ.length)) (μ ++ [.obj c []]) (fun v μ' => v = .non ∧ ∃ fs, μ' = μ ++ [.obj c fs] ∧ belF μ.length fs = true ∧ Q (.obj c fs) μ) E) : Wmk true c F args N μ Q E := by
  refine ⟨hN _, Wp.imp h fun v μ' z => ⟨z.1, c, z.2⟩⟩
end
end EG
namespace EG
open PySem L2
section
variable {α β : Type} {μ : Mu} {E : PX} {env : Env} {K : SO → Mu → Prop} {Q : D → Mu → Prop}
theorem wp_own {c : Nat} {F : Fn} {T : Isi} {fa fb : Env → EM D} : Wp (fOwn c F T fa fb env) μ Q E = Wp (fa env) μ (fun d μ1 => Wp (fb env) μ1 (fun e μ2 => Op (objD d μ2) fun p => Op (tagD e μ2) fun t => (p.1 = c ∧ rightB T c t = true) ∧ Wf F [d, e] μ2 (fun v μ' => Op (asB v) fun b => Q (.bl b) μ') (fun _ _ _ => False)) E) E := by
  unfold fOwn; rw [wp_bind]; refine wp_ext fun d μ1 => ?_; rw [wp_bind]; refine wp_ext fun e μ2 => ?_
  have key : Wf F [d, e] μ2 (fun v μ' => Op (asB v) fun b => Q (.bl b) μ') (fun _ _ _ => False) = Wp (fun μ => match F [d, e] μ with
      | some (.ok (.bl b), μ') => some (.ok (.bl b), μ')
      | _ => (none : Option (Out D × Mu))) μ2 Q E := by
    unfold Wf Wp
    dsimp only
    cases F [d, e] μ2 with
    | none => rfl
    | some r =>
      obtain ⟨o, μ'⟩ := r
      cases o with
      | exc c fs => rfl
      | ok v => cases v <;> first | exact no_op.symm | (show Op (some _) _ = _; rw [op_some])
  rw [key]
  unfold Wp
  dsimp only
  cases h1 : objD d μ2 with
  | none => exact no_op
  | some p =>
    obtain ⟨c', fs⟩ := p
    rw [op_some]
    cases tagD e μ2 with
    | none => exact no_op
    | some t =>
      rw [op_some]
      dsimp only
      by_cases h3 : c' = c
      · cases h4 : rightB T c t with
        | true =>
          simp only [h3, beq_self_eq_true, Bool.and_self, true_and]
          all_goals cases F [d, e] μ2 with
          | none => rfl
          | some r =>
            obtain ⟨o, μ'⟩ := r
            cases o with
            | exc c fs => rfl
            | ok v => cases v <;> rfl
        | false => simp only [h3, beq_self_eq_true, Bool.true_and, Bool.false_eq_true, and_false, false_and]
      · have : (c' == c) = false := beq_eq_false_iff_ne.mpr h3
        simp only [this, h3, Bool.false_and, false_and]
end
end EG
namespace EG
open PySem L2
section
variable {α β : Type} {μ : Mu} {E : PX} {env : Env} {K : SO → Mu → Prop} {Q : D → Mu → Prop} {QS : Str → Mu → Prop}
theorem wp_kd {n nk N : Nat} {F : Fn} {arr : List D → List D → List D} {fs : List D} {ga gk : Env → EM (List D)} : Wp (fKD n nk N F arr fs ga gk env) μ Q E = Wp (ga env) μ (fun ds μ1 => Wp (gk env) μ1 (fun es μ2 => (ds.length = n ∧ es.length = nk ∧ (arr (fs ++ ds) es).length = N) ∧ Wf F (arr (fs ++ ds) es) μ2 Q E) E) E := by
  unfold fKD; rw [wp_bind]; refine wp_ext fun ds μ1 => ?_; rw [wp_bind]; refine wp_ext fun es μ2 => ?_; rw [wp_guard, decide_eq_true_eq]; rfl
theorem wp_methK {c : Nat} {m : Str} {n nk N : Nat} {F : Fn} {arr : List D → List D → List D} {go : Env → EM D} {ga gk : Env → EM (List D)} : Wp (fMethK c m n nk N F arr go ga gk env) μ Q E = Wp (go env) μ (fun d μ0 => isObj c m d μ0 = true ∧ Wp (ga env) μ0 (fun ds μ1 => Wp (gk env) μ1 (fun es μ2 => (ds.length = n ∧ es.length = nk ∧ (arr (d :: ds) es).length = N) ∧ Wf F (arr (d :: ds) es) μ2 Q E) E) E) E := by
  unfold fMethK; rw [wp_bind]; refine wp_ext fun d μ1 => ?_
  have e := wp_kd (n := n) (nk := nk) (N := N) (F := F) (arr := arr) (fs := [d]) (ga := ga) (gk := gk) (env := env) (μ := μ1) (Q := Q) (E := E)
  simp only [List.cons_append, List.nil_append] at e
  rw [← e]
  unfold Wp
  dsimp only
  cases h : isObj c m d μ1 with
  | false => simp only [h, false_and, Bool.false_eq_true]
  | true => simp only [h, true_and]
theorem wp_ownNe {c : Nat} {F : Fn} {T : Isi} {fa fb : Env → EM D} : Wp (fOwnNe c F T fa fb env) μ Q E = Wp (fa env) μ (fun d μ1 => Wp (fb env) μ1 (fun e μ2 => Op (objD d μ2) fun p => Op (tagD e μ2) fun t => (p.1 = c ∧ rightB T c t = true) ∧ Wf F [d, e] μ2 (fun v μ' => Op (asB v) fun b => Q (.bl (!b)) μ') (fun _ _ _ => False)) E) E := by
  unfold fOwnNe; rw [wp_bind]; refine wp_ext fun d μ1 => ?_; rw [wp_bind]; refine wp_ext fun e μ2 => ?_
  have key : Wf F [d, e] μ2 (fun v μ' => Op (asB v) fun b => Q (.bl (!b)) μ') (fun _ _ _ => False) = Wp (fun μ => match F [d, e] μ with
      | some (.ok (.bl b), μ') => some (.ok (.bl (!b)), μ')
      | _ => (none : Option (Out D × Mu))) μ2 Q E := by
    unfold Wf Wp
    dsimp only
    cases F [d, e] μ2 with
    | none => rfl
    | some r =>
      obtain ⟨o, μ'⟩ := r
      cases o with
      | exc c fs => rfl
      | ok v => cases v <;> first | exact no_op.symm | (show Op (some _) _ = _; rw [op_some])
  rw [key]
  unfold Wp
  dsimp only
  cases h1 : objD d μ2 with
  | none => exact no_op
  | some p =>
    obtain ⟨c', fs⟩ := p
    rw [op_some]
    cases tagD e μ2 with
    | none => exact no_op
    | some t =>
      rw [op_some]
      dsimp only
      by_cases h3 : c' = c
      · cases h4 : rightB T c t with
        | true =>
          simp only [h3, beq_self_eq_true, Bool.and_self, true_and]
          all_goals cases F [d, e] μ2 with
          | none => rfl
          | some r =>
            obtain ⟨o, μ'⟩ := r
            cases o with
            | exc c fs => rfl
            | ok v => cases v <;> rfl
        | false => simp only [h3, beq_self_eq_true, Bool.true_and, Bool.false_eq_true, and_false, false_and]
      · have : (c' == c) = false := beq_eq_false_iff_ne.mpr h3
        simp only [this, h3, Bool.false_and, false_and]
theorem wp_own1 {c : Nat} {o : Own1} {F : Fn} {d : D} : Wp (own1D c o F [d]) μ Q E = Op (objD d μ) fun p => p.1 = c ∧ Wf F [d] μ (fun v μ' => o.okD v = true ∧ Q v μ') (fun _ _ _ => False) := by
  unfold Wp own1D
  dsimp only
  cases h1 : objD d μ with
  | none => exact no_op
  | some p =>
    obtain ⟨c', fs⟩ := p
    rw [op_some]
    dsimp only
    by_cases h3 : c' = c
    · simp only [h3, beq_self_eq_true, true_and]
      unfold Wf Wp
      cases F [d] μ with
      | none => rfl
      | some r =>
        obtain ⟨oo, μ'⟩ := r
        cases oo with
        | exc c fs => rfl
        | ok v =>
          dsimp only
          cases h : o.okD v with
          | false => simp only [h, Bool.false_eq_true, false_and]
          | true => simp only [h, true_and]
    · have : (c' == c) = false := beq_eq_false_iff_ne.mpr h3
      simp only [this, h3, false_and]
theorem wp_ownT {c : Nat} {F : Fn} {fa : Env → EM D} {Q : Bool → Mu → Prop} : Wp (fOwnT c F fa env) μ Q E = Wp (fa env) μ (fun d μ1 => Wp (own1D c .bool F [d]) μ1 (fun v μ2 => Op (asB v) fun b => Q b μ2) E) E := by
  unfold fOwnT; rw [wp_t, wp_bind]
theorem wp_fstr {g : Env → Str → EM Str} : Wp (fFstr g env) μ Q E = Wp (g env Str.empty) μ (fun out μ1 => out.length ≤ big ∧ Q (.str out) μ1) E := by
  unfold fFstr; rw [wp_bind]; refine wp_ext fun out μ1 => ?_; rw [wp_guard, decide_eq_true_eq]; rfl
theorem wp_fFn {acc : Str} : Wp (fFn env acc) μ QS E = QS acc μ := eqp rfl
theorem wp_fFc {f : Env → EM D} {g : Env → Str → EM Str} {acc : Str} : Wp (fFc f g env acc) μ QS E = Wp (f env) μ (fun d μ1 => Wp (fmtD d) μ1 (fun y μ2 => (acc ++ y).length ≤ big ∧ Wp (g env (acc ++ y)) μ2 QS E) E) E := by
  unfold fFc; rw [wp_bind]; refine wp_ext fun d μ1 => ?_; rw [wp_bind]; refine wp_ext fun y μ2 => ?_; rw [wp_guard, decide_eq_true_eq]
theorem wp_fmtS {s : Str} : Wp (fmtD (.str s)) μ QS E = QS s μ := eqp rfl
theorem wp_fmtI {i : Int} : Wp (fmtD (.int i)) μ QS E = (i.natAbs.log2 < 1920 ∧ QS (toString i : String) μ) := by
  unfold fmtD; rw [wp_guard, decide_eq_true_eq]; rfl
theorem kok_len {i : Int} : Own1.okD .len (.int i) = decide (0 ≤ i ∧ i < 2 ^ 62) := eqp rfl
theorem kok_repr {i : Str} : Own1.okD .repr (.str i) = true := eqp rfl
theorem kok_bool {i : Bool} : Own1.okD .bool (.bl i) = true := eqp rfl
/-! == of plain data -/
theorem kly_non : layD .non = some .none := eqp rfl
theorem kly_bl {b : Bool} : layD (.bl b) = some (.bool b) := eqp rfl
theorem kly_int {i : Int} : layD (.int i) = some (.int i) := eqp rfl
theorem kly_lst {xs : List D} : layD (.lst xs) = (layAll xs).map .list := by unfold layD; cases layAll xs <;> rfl
theorem kly_tup {xs : List D} : layD (.tup xs) = (layAll xs).map .tuple := by rw [layD]; cases layAll xs <;> rfl
theorem kly_nil : layAll [] = some [] := by unfold layAll; rfl
theorem kly_cons {d : D} {r : List D} : layAll (d :: r) = (layD d).bind fun p => (layAll r).map fun ps => p :: ps := by
  rw [layAll]; cases layD d <;> cases layAll r <;> rfl
end
end EG
namespace EG
open PySem L2
mutual
/-- == of plain data -/
def eqB : D → D → Bool
  | .non, e => (match e with | .non => true | _ => false)
  | .bl a, e => (match e with | .bl b => a == b | .int j => (if a then 1 else 0) == j | _ => false)
  | .int i, e => (match e with | .int j => decide (i = j) | .bl b => i == (if b then 1 else 0) | _ => false)
  | .str x, e => (match e with | .str y => decide (x = y) | _ => false)
  | .lst xs, e => (match e with | .lst ys => eqBs xs ys | _ => false)
  | .tup xs, e => (match e with | .tup ys => eqBs xs ys | _ => false)
  | _, _ => false
def eqBs : List D → List D → Bool
  | [], e => (match e with | [] => true | _ :: _ => false)
  | x :: xs, e => (match e with | [] => false | y :: ys => eqB x y && eqBs xs ys)
end
/-- plain data, at most n deep -/
def plainB : Nat → D → Bool
  | _, .non => true
  | _, .bl _ => true
  | _, .int _ => true
  | _, .str s => PyData.strOk s
  | n + 1, .lst xs => xs.all (plainB n)
  | n + 1, .tup xs => xs.all (plainB n)
  | _, _ => false
theorem layAll_of {n : Nat} (ih : ∀ d, plainB n d = true → ∃ p, layD d = some p ∧ p.depth ≤ n) : ∀ xs : List D, xs.all (plainB n) = true → ∃ ps, layAll xs = some ps ∧ PyData.depthAll ps ≤ n
  | [], _ => ⟨[], kly_nil, by unfold PyData.depthAll; exact Nat.zero_le _⟩
  | x :: xs, h => by
    rw [List.all_cons, Bool.and_eq_true] at h
    obtain ⟨p, h1, h2⟩ := ih x h.1
    obtain ⟨ps, h3, h4⟩ := layAll_of ih xs h.2
    refine ⟨p :: ps, by rw [kly_cons, h1, h3]; rfl, ?_⟩
    unfold PyData.depthAll
    exact Nat.max_le.mpr ⟨h2, h4⟩
theorem lay_of : ∀ (n : Nat) (d : D), plainB n d = true → ∃ p, layD d = some p ∧ p.depth ≤ n
  | n, .non, _ => ⟨_, kly_non, by unfold PyData.depth; exact Nat.zero_le _⟩
  | n, .bl b, _ => ⟨_, kly_bl, by unfold PyData.depth; exact Nat.zero_le _⟩
  | n, .int b, _ => ⟨_, kly_int, by unfold PyData.depth; exact Nat.zero_le _⟩
  | n, .str s, h => by
    have h : PyData.strOk s = true := by cases n <;> exact h
    exact ⟨.str s, by unfold layD; rw [if_pos h], by unfold PyData.depth; exact Nat.zero_le _⟩
  | 0, .lst xs, h => nomatch h
  | 0, .tup xs, h => nomatch h
  | n + 1, .lst xs, h => by
    obtain ⟨ps, h1, h2⟩ := layAll_of (lay_of n) xs h
    exact ⟨.list ps, by rw [kly_lst, h1]; rfl, by unfold PyData.depth; omega⟩
  | n + 1, .tup xs, h => by
    obtain ⟨ps, h1, h2⟩ := layAll_of (lay_of n) xs h
    exact ⟨.tuple ps, by rw [kly_tup, h1]; rfl, by unfold PyData.depth; omega⟩
  | 0, .obj _ _, h => nomatch h
  | n + 1, .obj _ _, h => nomatch h
  | 0, .cell _, h => nomatch h
  | n + 1, .cell _, h => nomatch h
  | 0, .scr _, h => nomatch h
  | n + 1, .scr _, h => nomatch h
  | 0, .dK _, h => nomatch h
  | n + 1, .dK _, h => nomatch h
  | 0, .dT _, h => nomatch h
  | n + 1, .dT _, h => nomatch h
  | 0, .err _ _, h => nomatch h
  | n + 1, .err _ _, h => nomatch h
  | 0, .clo _ _, h => nomatch h
  | n + 1, .clo _ _, h => nomatch h
  | 0, .cls _, h => nomatch h
  | n + 1, .cls _, h => nomatch h
theorem lay_inv {d : D} {p : PyData} (h : layD d = some p) : (d = .non ∧ p = .none) ∨ (∃ b, d = .bl b ∧ p = .bool b) ∨ (∃ i, d = .int i ∧ p = .int i) ∨ (∃ s, d = .str s ∧ p = .str s) ∨ (∃ xs ps, d = .lst xs ∧ p = .list ps ∧ layAll xs = some ps) ∨ (∃ xs ps, d = .tup xs ∧ p = .tuple ps ∧ layAll xs = some ps) := by
  cases d with
  | non => unfold layD at h; cases h; exact .inl ⟨rfl, rfl⟩
  | bl b => unfold layD at h; cases h; exact .inr (.inl ⟨_, rfl, rfl⟩)
  | int b => unfold layD at h; cases h; exact .inr (.inr (.inl ⟨_, rfl, rfl⟩))
  | str s => unfold layD at h; split at h <;> cases h; exact .inr (.inr (.inr (.inl ⟨_, rfl, rfl⟩)))
  | lst xs =>
    rw [kly_lst] at h
    obtain ⟨ps, h1, rfl⟩ := map_some h
    exact .inr (.inr (.inr (.inr (.inl ⟨_, _, rfl, rfl, h1⟩))))
  | tup xs =>
    rw [kly_tup] at h
    obtain ⟨ps, h1, rfl⟩ := map_some h
    exact .inr (.inr (.inr (.inr (.inr ⟨_, _, rfl, rfl, h1⟩))))
  | _ => unfold layD at h; cases h
theorem lays_inv {d : D} {r : List D} {ps : List PyData} (h : layAll (d :: r) = some ps) : ∃ p qs, ps = p :: qs ∧ layD d = some p ∧ layAll r = some qs := by
  rw [kly_cons] at h
  obtain ⟨p, h1, h2⟩ := Option.bind_eq_some_iff.mp h
  obtain ⟨qs, h3, rfl⟩ := map_some h2
  exact ⟨p, qs, rfl, h1, h3⟩
theorem beq_dec {α : Type} [DecidableEq α] (a b : α) : (a == b) = decide (a = b) := by
  by_cases h : a = b
  · subst h; simp
  · simp [h]
theorem str_beq (x y : Str) : (x == y) = decide (x = y) := by
  by_cases h : x = y
  · subst h; simp
  · simp [h]
mutual
theorem eqv_eq : ∀ (p : PyData) (d e : D) (q : PyData), layD d = some p → layD e = some q → PyData.eqv p q = eqB d e
  | .none, d, e, q, h1, h2 => by
    rcases lay_inv h1 with ⟨rfl, h⟩ | ⟨_, rfl, h⟩ | ⟨_, rfl, h⟩ | ⟨_, rfl, h⟩ | ⟨_, _, rfl, h, _⟩ | ⟨_, _, rfl, h, _⟩ <;> first | (cases h; done) | skip
    rcases lay_inv h2 with ⟨rfl, rfl⟩ | ⟨_, rfl, rfl⟩ | ⟨_, rfl, rfl⟩ | ⟨_, rfl, rfl⟩ | ⟨_, _, rfl, rfl, _⟩ | ⟨_, _, rfl, rfl, _⟩ <;> simp [PyData.eqv, eqB]
  | .bool b, d, e, q, h1, h2 => by
    rcases lay_inv h1 with ⟨rfl, h⟩ | ⟨_, rfl, h⟩ | ⟨_, rfl, h⟩ | ⟨_, rfl, h⟩ | ⟨_, _, rfl, h, _⟩ | ⟨_, _, rfl, h, _⟩ <;> cases h
    rcases lay_inv h2 with ⟨rfl, rfl⟩ | ⟨_, rfl, rfl⟩ | ⟨_, rfl, rfl⟩ | ⟨_, rfl, rfl⟩ | ⟨_, _, rfl, rfl, _⟩ | ⟨_, _, rfl, rfl, _⟩ <;> simp [PyData.eqv, eqB]
  | .int b, d, e, q, h1, h2 => by
    rcases lay_inv h1 with ⟨rfl, h⟩ | ⟨_, rfl, h⟩ | ⟨_, rfl, h⟩ | ⟨_, rfl, h⟩ | ⟨_, _, rfl, h, _⟩ | ⟨_, _, rfl, h, _⟩ <;> cases h
    rcases lay_inv h2 with ⟨rfl, rfl⟩ | ⟨_, rfl, rfl⟩ | ⟨_, rfl, rfl⟩ | ⟨_, rfl, rfl⟩ | ⟨_, _, rfl, rfl, _⟩ | ⟨_, _, rfl, rfl, _⟩ <;> simp [PyData.eqv, eqB, beq_dec]
  | .str b, d, e, q, h1, h2 => by
    rcases lay_inv h1 with ⟨rfl, h⟩ | ⟨_, rfl, h⟩ | ⟨_, rfl, h⟩ | ⟨_, rfl, h⟩ | ⟨_, _, rfl, h, _⟩ | ⟨_, _, rfl, h, _⟩ <;> cases h
    rcases lay_inv h2 with ⟨rfl, rfl⟩ | ⟨_, rfl, rfl⟩ | ⟨_, rfl, rfl⟩ | ⟨_, rfl, rfl⟩ | ⟨_, _, rfl, rfl, _⟩ | ⟨_, _, rfl, rfl, _⟩ <;> simp [PyData.eqv, eqB, str_beq]
  | .list ps, d, e, q, h1, h2 => by
    rcases lay_inv h1 with ⟨rfl, h⟩ | ⟨_, rfl, h⟩ | ⟨_, rfl, h⟩ | ⟨_, rfl, h⟩ | ⟨xs, ps', rfl, h, z⟩ | ⟨_, _, rfl, h, _⟩ <;> cases h
    rcases lay_inv h2 with ⟨rfl, rfl⟩ | ⟨_, rfl, rfl⟩ | ⟨_, rfl, rfl⟩ | ⟨_, rfl, rfl⟩ | ⟨ys, qs, rfl, rfl, z2⟩ | ⟨_, _, rfl, rfl, _⟩ <;> first | (simp [PyData.eqv, eqB]; done) | skip
    unfold PyData.eqv eqB
    exact eqvs_eq ps xs ys qs z z2
  | .tuple ps, d, e, q, h1, h2 => by
    rcases lay_inv h1 with ⟨rfl, h⟩ | ⟨_, rfl, h⟩ | ⟨_, rfl, h⟩ | ⟨_, rfl, h⟩ | ⟨_, _, rfl, h, _⟩ | ⟨xs, ps', rfl, h, z⟩ <;> cases h
    rcases lay_inv h2 with ⟨rfl, rfl⟩ | ⟨_, rfl, rfl⟩ | ⟨_, rfl, rfl⟩ | ⟨_, rfl, rfl⟩ | ⟨_, _, rfl, rfl, _⟩ | ⟨ys, qs, rfl, rfl, z2⟩ <;> first | (simp [PyData.eqv, eqB]; done) | skip
    unfold PyData.eqv eqB
    exact eqvs_eq ps xs ys qs z z2
  | .dict kvs, d, e, q, h1, h2 => by
    rcases lay_inv h1 with ⟨rfl, h⟩ | ⟨_, rfl, h⟩ | ⟨_, rfl, h⟩ | ⟨_, rfl, h⟩ | ⟨_, _, rfl, h, _⟩ | ⟨_, _, rfl, h, _⟩ <;> cases h
theorem eqvs_eq : ∀ (p : List PyData) (d e : List D) (q : List PyData), layAll d = some p → layAll e = some q → PyData.eqvAll p q = eqBs d e
  | [], d, e, q, h1, h2 => by
    cases d with
    | cons x xs => obtain ⟨_, _, h, _⟩ := lays_inv h1; cases h
    | nil =>
      cases e with
      | nil => rw [kly_nil] at h2; cases h2; simp [PyData.eqvAll, eqBs]
      | cons y ys => obtain ⟨_, _, rfl, _⟩ := lays_inv h2; simp [PyData.eqvAll, eqBs]
  | p :: ps, d, e, q, h1, h2 => by
    cases d with
    | nil => rw [kly_nil] at h1; cases h1
    | cons x xs =>
      obtain ⟨_, _, h, a1, a2⟩ := lays_inv h1
      cases h
      cases e with
      | nil => rw [kly_nil] at h2; cases h2; simp [PyData.eqvAll, eqBs]
      | cons y ys =>
        obtain ⟨_, _, rfl, b1, b2⟩ := lays_inv h2
        unfold PyData.eqvAll eqBs
        rw [eqv_eq p x y _ a1 b1, eqvs_eq ps xs ys _ a2 b2]
end
theorem scal_eq {d e : D} {b : Bool} (h : scalD d e = some b) : b = eqB d e := by
  unfold scalD at h
  split at h <;> first
    | (cases h; done)
    | (cases h; simp [eqB, beq_dec])
theorem eqD_plain {d e : D} (h1 : plainB 64 d = true) (h2 : plainB 64 e = true) : eqD d e = some (eqB d e) := by
  unfold eqD
  cases h : scalD d e with
  | some b => rw [scal_eq h]
  | none =>
    obtain ⟨p, l1, d1⟩ := lay_of 64 d h1
    obtain ⟨q, l2, d2⟩ := lay_of 64 e h2
    simp only [l1, l2, d1, d2, and_self, if_true]
    rw [eqv_eq p d e q l1 l2]
theorem eqD_tt {xs ys : List D} (h1 : plainB 64 (.tup xs) = true) (h2 : plainB 64 (.tup ys) = true) : eqD (.tup xs) (.tup ys) = some (eqBs xs ys) := by rw [eqD_plain h1 h2]; simp [eqB]
theorem eqD_ll {xs ys : List D} (h1 : plainB 64 (.lst xs) = true) (h2 : plainB 64 (.lst ys) = true) : eqD (.lst xs) (.lst ys) = some (eqBs xs ys) := by rw [eqD_plain h1 h2]; simp [eqB]
theorem plB_non {n : Nat} : plainB n .non = true := by cases n <;> rfl
theorem plB_bl {n : Nat} {b : Bool} : plainB n (.bl b) = true := by cases n <;> rfl
theorem plB_int {n : Nat} {b : Int} : plainB n (.int b) = true := by cases n <;> rfl
theorem plB_str {n : Nat} {b : Str} : plainB n (.str b) = PyData.strOk b := by cases n <;> rfl
theorem plB_lst {n : Nat} {xs : List D} : plainB (n + 1) (.lst xs) = xs.all (plainB n) := rfl
theorem plB_tup {n : Nat} {xs : List D} : plainB (n + 1) (.tup xs) = xs.all (plainB n) := rfl
theorem eqBs_nn : eqBs [] [] = true := by unfold eqBs; rfl
theorem eqBs_cc {x y : D} {xs ys : List D} : eqBs (x :: xs) (y :: ys) = (eqB x y && eqBs xs ys) := by rw [eqBs]
theorem eqBs_nc {y : D} {ys : List D} : eqBs [] (y :: ys) = false := by unfold eqBs; rfl
theorem eqBs_cn {y : D} {ys : List D} : eqBs (y :: ys) [] = false := by unfold eqBs; rfl
theorem eqB_ii {i j : Int} : eqB (.int i) (.int j) = decide (i = j) := by simp [eqB]
theorem eqB_bb {i j : Bool} : eqB (.bl i) (.bl j) = (i == j) := by simp [eqB]
theorem eqB_ss {i j : Str} : eqB (.str i) (.str j) = decide (i = j) := by simp [eqB]
theorem eqB_nn : eqB .non .non = true := by simp [eqB]
theorem eqB_ll {xs ys : List D} : eqB (.lst xs) (.lst ys) = eqBs xs ys := by simp [eqB]
theorem eqB_tt {xs ys : List D} : eqB (.tup xs) (.tup ys) = eqBs xs ys := by simp [eqB]
theorem eqB_ni {j : Int} : eqB .non (.int j) = false := by simp [eqB]
theorem eqB_in {j : Int} : eqB (.int j) .non = false := by simp [eqB]
theorem eqB_nt {j : List D} : eqB .non (.tup j) = false := by simp [eqB]
theorem eqB_tn {j : List D} : eqB (.tup j) .non = false := by simp [eqB]
theorem eqB_it {i : Int} {j : List D} : eqB (.int i) (.tup j) = false := by simp [eqB]
theorem eqB_ti {i : Int} {j : List D} : eqB (.tup j) (.int i) = false := by simp [eqB]
mutual
theorem eqB_refl : ∀ (n : Nat) (d : D), plainB n d = true → eqB d d = true
  | n, .non, _ => by simp [eqB]
  | n, .bl b, _ => by simp [eqB]
  | n, .int b, _ => by simp [eqB]
  | n, .str b, _ => by simp [eqB]
  | n + 1, .lst xs, h => by rw [eqB_ll]; exact eqBs_refl n xs h
  | n + 1, .tup xs, h => by rw [eqB_tt]; exact eqBs_refl n xs h
  | 0, .lst xs, h => nomatch h
  | 0, .tup xs, h => nomatch h
  | 0, .obj _ _, h => nomatch h
  | n + 1, .obj _ _, h => nomatch h
  | 0, .cell _, h => nomatch h
  | n + 1, .cell _, h => nomatch h
  | 0, .scr _, h => nomatch h
  | n + 1, .scr _, h => nomatch h
  | 0, .dK _, h => nomatch h
  | n + 1, .dK _, h => nomatch h
  | 0, .dT _, h => nomatch h
  | n + 1, .dT _, h => nomatch h
  | 0, .err _ _, h => nomatch h
  | n + 1, .err _ _, h => nomatch h
  | 0, .clo _ _, h => nomatch h
  | n + 1, .clo _ _, h => nomatch h
  | 0, .cls _, h => nomatch h
  | n + 1, .cls _, h => nomatch h
theorem eqBs_refl : ∀ (n : Nat) (xs : List D), xs.all (plainB n) = true → eqBs xs xs = true
  | n, [], _ => eqBs_nn
  | n, x :: xs, h => by
    rw [List.all_cons, Bool.and_eq_true] at h
    rw [eqBs_cc, eqB_refl n x h.1, eqBs_refl n xs h.2]; rfl
end
section
variable {μ : Mu} {E : PX} {Q : D → Mu → Prop}
theorem wp_addT {xs ys : List D} : Wp (addD (.tup xs) (.tup ys)) μ Q E = (xs.length + ys.length ≤ big ∧ Q (.tup (xs ++ ys)) μ) := by
  unfold addD; rw [wp_guard, decide_eq_true_eq]; rfl
theorem wp_addL {xs ys : List D} : Wp (addD (.lst xs) (.lst ys)) μ Q E = (xs.length + ys.length ≤ big ∧ Q (.lst (xs ++ ys)) μ) := by
  unfold addD; rw [wp_guard, decide_eq_true_eq]; rfl
theorem wp_mulL {xs : List D} {k : Int} : Wp (mulD (.lst xs) (.int k)) μ Q E = ((-(2 ^ 63) ≤ k ∧ k < 2 ^ 63 ∧ xs.length * k.toNat ≤ big) ∧ Q (.lst (repL k.toNat xs)) μ) := by
  unfold mulD; rw [wp_guard, decide_eq_true_eq]; rfl
end
end EG
namespace EG
open PySem L2
section
variable {α β : Type} {μ : Mu} {E : PX} {env : Env} {K : SO → Mu → Prop} {Q : D → Mu → Prop} {QL : List D → Mu → Prop}
theorem objD_obj {c : Nat} {fs : List (Str × D)} : objD (.obj c fs) μ = some (c, fs) := eqp rfl
theorem objD_last {c : Nat} {fs : List (Str × D)} : objD (.cell μ.length) (μ ++ [.obj c fs]) = some (c, fs) := by
  have h : (μ ++ [Cell.obj c fs])[μ.length]? = some (.obj c fs) := by simp
  unfold objD
  simp only [h]
theorem cellO_last {c : Nat} {fs : List (Str × D)} : cellO (.cell μ.length) (μ ++ [.obj c fs]) = some (μ.length, c, fs) := by
  have h : (μ ++ [Cell.obj c fs])[μ.length]? = some (.obj c fs) := by simp
  unfold cellO
  simp only [h]
theorem set_last {x y : Cell} : (μ ++ [x]).set μ.length y = μ ++ [y] := by simp
theorem isO_obj {c c' : Nat} {m : Str} {fs : List (Str × D)} : isObj c m (.obj c' fs) μ = (c' == c && (fs.lookup m).isNone) := eqp rfl
theorem isO_last {c c' : Nat} {m : Str} {fs : List (Str × D)} : isObj c m (.cell μ.length) (μ ++ [.obj c' fs]) = (c' == c && (fs.lookup m).isNone) := by unfold isObj; rw [objD_last]
theorem putD_nil {f : Str} {d : D} : putD f d [] = [(f, d)] := eqp rfl
theorem putD_cons {f g : Str} {d x : D} {r : List (Str × D)} : putD f d ((g, x) :: r) = if g = f then (g, d) :: r else (g, x) :: putD f d r := by rw [putD]
theorem lkp_nil {f : Str} : ([] : List (Str × D)).lookup f = none := eqp rfl
theorem lkp_cons {f g : Str} {d : D} {r : List (Str × D)} : ((g, d) :: r).lookup f = if f = g then some d else r.lookup f := by
  rw [List.lookup_cons]
  by_cases h : f = g
  · subst h; simp
  · have : (f == g) = false := by simp [h]
    simp [h, this]
mutual
theorem bel_plain (n : Nat) : ∀ (m : Nat) (d : D), plainB m d = true → bel n d = true
  | _, .non, _ => rfl
  | _, .bl _, _ => rfl
  | _, .int _, _ => rfl
  | _, .str _, _ => rfl
  | m + 1, .lst xs, h => by unfold bel; exact bels_plain n m xs h
  | m + 1, .tup xs, h => by unfold bel; exact bels_plain n m xs h
  | 0, .lst xs, h => nomatch h
  | 0, .tup xs, h => nomatch h
  | 0, .obj _ _, h => nomatch h
  | n + 1, .obj _ _, h => nomatch h
  | 0, .cell _, h => nomatch h
  | n + 1, .cell _, h => nomatch h
  | 0, .scr _, h => nomatch h
  | n + 1, .scr _, h => nomatch h
  | 0, .dK _, h => nomatch h
  | n + 1, .dK _, h => nomatch h
  | 0, .dT _, h => nomatch h
  | n + 1, .dT _, h => nomatch h
  | 0, .err _ _, h => nomatch h
  | n + 1, .err _ _, h => nomatch h
  | 0, .clo _ _, h => nomatch h
  | n + 1, .clo _ _, h => nomatch h
  | 0, .cls _, h => nomatch h
  | n + 1, .cls _, h => nomatch h
theorem bels_plain (n : Nat) : ∀ (m : Nat) (xs : List D), xs.all (plainB m) = true → bels n xs = true
  | _, [], _ => rfl
  | m, x :: xs, h => by
    rw [List.all_cons, Bool.and_eq_true] at h
    unfold bels
    rw [bel_plain n m x h.1, bels_plain n m xs h.2]; rfl
end
theorem belF_nil {n : Nat} : belF n [] = true := eqp rfl
theorem belF_cons {n : Nat} {f : Str} {d : D} {r : List (Str × D)} : belF n ((f, d) :: r) = (bel n d && belF n r) := eqp rfl
/-! comprehensions, element by element -/
def E00 : PX := fun _ _ _ => False
theorem wp_compN {p : Pat} {cond : Env → EM Bool} {elt : Env → EM D} : Wp (compL p cond elt env []) μ QL E = QL [] μ := eqp rfl
theorem wp_compC {p : Pat} {cond : Env → EM Bool} {elt : Env → EM D} {d : D} {r : List D} : Wp (compL p cond elt env (d :: r)) μ QL E = Op (bindP p d env) fun e => Wp (cond e) μ (fun b μ1 => Br b (Wp (elt e) μ1 (fun x μ2 => Wp (compL p cond elt env r) μ2 (fun xs μ3 => QL (x :: xs) μ3) E) E00) (Wp (compL p cond elt env r) μ1 QL E)) E00 := by
  rw [compL]
  cases bindP p d env with
  | none => exact no_op
  | some e =>
    rw [op_some]
    dsimp only
    rw [wp_bind, wp_noX]
    refine wp_ext fun b μ1 => ?_
    cases b with
    | true => rw [br_true, wp_bind, wp_noX]; refine wp_ext fun x μ2 => ?_; rw [wp_bind]; rfl
    | false => rw [br_false]
/-- element by element, the store stays; what holds of the elements -/
theorem comp_all {p : Pat} {cond : Env → EM Bool} {elt : Env → EM D} (c : D → Bool) (g : D → D) (ds : List D) (h : ∀ d ∈ ds, ∃ env1, bindP p d env = some env1 ∧ Wp (cond env1) μ (fun b μ' => b = c d ∧ μ' = μ) (fun _ _ _ => False) ∧ (c d = true → Wp (elt env1) μ (fun x μ' => x = g d ∧ μ' = μ) (fun _ _ _ => False)))
    (hq : QL ((ds.filter c).map g) μ) : Wp (compL p cond elt env ds) μ QL E := wp_of_eq (compL_pure c g ds h) hq
theorem rng_0 {i : Int} : rangeL i 0 = [] := eqp rfl
theorem rng_1 {i : Int} : rangeL i 1 = [.int i] := by simp [rangeL]
theorem rng_2 {i : Int} : rangeL i 2 = [.int i, .int (i + 1)] := by simp [rangeL, List.range_succ]
theorem rng_3 {i : Int} : rangeL i 3 = [.int i, .int (i + 1), .int (i + 2)] := by simp [rangeL, List.range_succ]
theorem enL_nil {n : Nat} : enumL n [] = [] := eqp rfl
theorem enL_cons {n : Nat} {d : D} {r : List D} : enumL n (d :: r) = .tup [.int (n : Int), d] :: enumL (n + 1) r := by rw [enumL]
theorem zpL_nil {ys : List D} : zipL [] ys = [] := by cases ys <;> rfl
theorem zpL_nilR {xs : List D} : zipL xs [] = [] := by cases xs <;> rfl
theorem zpL_cons {x y : D} {xs ys : List D} : zipL (x :: xs) (y :: ys) = .tup [x, y] :: zipL xs ys := by rw [zipL]
theorem wp_maxL {d : D} : Wp (maxD [d]) μ Q E = Op (lstD d μ) fun xs => Op (intsD xs) fun ns => ns ≠ [] ∧ Q (.int (maxL ns)) μ := by
  unfold maxD
  rw [wp_bind, wp_lstE]; refine op_ext fun xs => ?_
  rw [wp_opt]
  cases intsD xs with
  | none => exact propext ⟨fun ⟨_, h, _⟩ => (nomatch h), fun ⟨_, h, _⟩ => (nomatch h)⟩
  | some ns =>
    cases ns with
    | nil => simp only [op_some]; exact propext ⟨fun ⟨_, h, _⟩ => (nomatch h), fun h => (h.1 rfl).elim⟩
    | cons n ns => simp only [op_some]; exact propext ⟨fun h => ⟨List.cons_ne_nil _ _, h⟩, fun h => h.2⟩
theorem wp_minL {d : D} : Wp (minD [d]) μ Q E = Op (lstD d μ) fun xs => Op (intsD xs) fun ns => ns ≠ [] ∧ Q (.int (minL ns)) μ := by
  unfold minD
  rw [wp_bind, wp_lstE]; refine op_ext fun xs => ?_
  rw [wp_opt]
  cases intsD xs with
  | none => exact propext ⟨fun ⟨_, h, _⟩ => (nomatch h), fun ⟨_, h, _⟩ => (nomatch h)⟩
  | some ns =>
    cases ns with
    | nil => simp only [op_some]; exact propext ⟨fun ⟨_, h, _⟩ => (nomatch h), fun h => (h.1 rfl).elim⟩
    | cons n ns => simp only [op_some]; exact propext ⟨fun h => ⟨List.cons_ne_nil _ _, h⟩, fun h => h.2⟩
theorem maxL_2 {i j : Int} {r : List Int} : maxL (i :: j :: r) = max i (maxL (j :: r)) := eqp rfl
theorem maxL_1 {i : Int} : maxL [i] = i := eqp rfl
theorem minL_2 {i j : Int} {r : List Int} : minL (i :: j :: r) = min i (minL (j :: r)) := eqp rfl
theorem minL_1 {i : Int} : minL [i] = i := eqp rfl
theorem bel_non {n : Nat} : bel n .non = true := eqp rfl
theorem bel_bl {n : Nat} {b : Bool} : bel n (.bl b) = true := eqp rfl
theorem bel_int {n : Nat} {i : Int} : bel n (.int i) = true := eqp rfl
theorem bel_str {n : Nat} {s : Str} : bel n (.str s) = true := eqp rfl
theorem bel_lst {n : Nat} {xs : List D} : bel n (.lst xs) = bels n xs := eqp rfl
theorem bel_tup {n : Nat} {xs : List D} : bel n (.tup xs) = bels n xs := eqp rfl
theorem bel_obj {n c : Nat} {fs : List (Str × D)} : bel n (.obj c fs) = belF n fs := eqp rfl
theorem bels_nil {n : Nat} : bels n [] = true := eqp rfl
theorem bels_cons {n : Nat} {d : D} {r : List D} : bels n (d :: r) = (bel n d && bels n r) := eqp rfl
theorem kst_app0 {s : Str} : Str.empty ++ s = s := by
  obtain ⟨⟨l⟩⟩ := s
  show (⟨#[] ++ ⟨l⟩⟩ : Str) = _
  simp
theorem str_lapp (x y : Str) : (x ++ y).length = x.length + y.length := by
  show (x.cps ++ y.cps).size = _
  rw [Array.size_append]; rfl
theorem ctl_hi {xs : List D} {i : Int} : cutL xs none (some i) = if 0 ≤ i then xs.take i.toNat else xs.take (i + (xs.length : Int)).toNat := by
  unfold cutL
  rw [HT.sIx_none, List.drop_zero, Nat.sub_zero]
  by_cases h : 0 ≤ i
  · rw [if_pos h]
    show xs.take (if i < 0 then _ else min i.toNat xs.length) = _
    rw [if_neg (by omega)]
    rw [List.take_eq_take_iff]
    omega
  · rw [if_neg h]
    show xs.take (if i < 0 then _ else _) = _
    rw [if_pos (by omega)]
theorem ctl_lo {xs : List D} {i : Int} : cutL xs (some i) none = if 0 ≤ i then xs.drop i.toNat else xs.drop (i + (xs.length : Int)).toNat := by
  unfold cutL
  rw [HT.sIx_none]
  have e : ∀ k, ((xs.drop k).take (xs.length - k)) = xs.drop k := fun k => List.take_of_length_le (by rw [List.length_drop]; exact Nat.le_refl _)
  rw [e]
  by_cases h : 0 ≤ i
  · rw [if_pos h]
    show xs.drop (if i < 0 then _ else min i.toNat xs.length) = _
    rw [if_neg (by omega)]
    by_cases q : i.toNat ≤ xs.length
    · rw [Nat.min_eq_left q]
    · rw [Nat.min_eq_right (by omega), List.drop_length, List.drop_eq_nil_of_le (by omega)]
  · rw [if_neg h]
    show xs.drop (if i < 0 then _ else _) = _
    rw [if_pos (by omega)]
theorem ctl_no {xs : List D} : cutL xs none none = xs := by
  unfold cutL
  rw [HT.sIx_none, HT.sIx_none, List.drop_zero, Nat.sub_zero, List.take_length]
theorem kst_inj {a b : String} : (Str.ofString a = Str.ofString b) = (a = b) := by
  refine propext ⟨fun h => ?_, fun h => by rw [h]⟩
  rw [PySem.Str.ofString_eq_toList, PySem.Str.ofString_eq_toList] at h
  injection h with h
  have h := (Array.toList_inj).mpr h
  have h : a.toList.map Char.toNat = b.toList.map Char.toNat := h
  have h := List.map_inj_right (f := Char.toNat) (fun x y h => Char.toNat_inj.mp h) |>.mp h
  exact String.toList_inj.mp h
theorem wp_rgI1 {d : D} {QL : List D → Mu → Prop} : Wp (rgI1 d) μ QL E = Op (asI d) fun j => (-(2 ^ 62) ≤ j ∧ j < 2 ^ 62 ∧ j.toNat ≤ big) ∧ QL (rangeL 0 j.toNat) μ := by
  cases d with
  | int j =>
    rw [show asI (.int j) = some j from rfl, op_some]
    show Wp (guardE _ _) _ _ _ = _
    rw [wp_guard, decide_eq_true_eq]; rfl
  | _ => exact no_op
theorem wp_rgI2 {d e : D} {QL : List D → Mu → Prop} : Wp (rgI2 d e) μ QL E = Op (asI d) fun i => Op (asI e) fun j => (-(2 ^ 62) ≤ i ∧ i < 2 ^ 62 ∧ -(2 ^ 62) ≤ j ∧ j < 2 ^ 62 ∧ (j - i).toNat ≤ big) ∧ QL (rangeL i (j - i).toNat) μ := by
  cases d with
  | int i =>
    rw [show asI (.int i) = some i from rfl, op_some]
    cases e with
    | int j =>
      rw [show asI (.int j) = some j from rfl, op_some]
      show Wp (guardE _ _) _ _ _ = _
      rw [wp_guard, decide_eq_true_eq]; rfl
    | _ => exact no_op
  | _ => exact no_op
theorem wp_rg1 {f : Env → EM D} {QL : List D → Mu → Prop} : Wp (fRg1 f env) μ QL E = Wp (f env) μ (fun d μ1 => Op (asI d) fun j => (-(2 ^ 62) ≤ j ∧ j < 2 ^ 62 ∧ j.toNat ≤ big) ∧ QL (rangeL 0 j.toNat) μ1) E := by
  unfold fRg1; rw [wp_bind]; exact wp_ext fun d μ1 => wp_rgI1
theorem wp_rg2 {f g : Env → EM D} {QL : List D → Mu → Prop} : Wp (fRg2 f g env) μ QL E = Wp (f env) μ (fun d μ1 => Wp (g env) μ1 (fun e μ2 => Op (asI d) fun i => Op (asI e) fun j => (-(2 ^ 62) ≤ i ∧ i < 2 ^ 62 ∧ -(2 ^ 62) ≤ j ∧ j < 2 ^ 62 ∧ (j - i).toNat ≤ big) ∧ QL (rangeL i (j - i).toNat) μ2) E) E := by
  unfold fRg2; rw [wp_bind]; refine wp_ext fun d μ1 => ?_; rw [wp_bind]; exact wp_ext fun e μ2 => wp_rgI2
theorem wp_callO {c n : Nat} {F : Fn} {dds : List D} {go : Env → EM D} {ga : Env → EM (List D)} : Wp (fCallO c n F dds go ga env) μ Q E = Wp (go env) μ (fun d μ0 => isObj c "__call__" d μ0 = true ∧ Wp (ga env) μ0 (fun ds μ1 => isObj c "__call__" d μ1 = true ∧ ds.length + dds.length + 1 = n ∧ Wf F (d :: (ds ++ dds)) μ1 Q E) E) E := by
  unfold fCallO; rw [wp_bind]; refine wp_ext fun d μ1 => ?_
  have e : ∀ (μ : Mu), Wp (fun μ' : Mu => match isObj c "__call__" d μ' with
    | true => (bindE (ga env) (fun ds μ' => match isObj c "__call__" d μ' with
      | true => guardE (decide (ds.length + dds.length + 1 = n)) (F (d :: (ds ++ dds))) μ'
      | false => none)) μ'
    | false => none) μ Q E = (isObj c "__call__" d μ = true ∧ Wp (bindE (ga env) (fun ds μ' => match isObj c "__call__" d μ' with
      | true => guardE (decide (ds.length + dds.length + 1 = n)) (F (d :: (ds ++ dds))) μ'
      | false => none)) μ Q E) := fun μ => by
    unfold Wp
    dsimp only
    cases h : isObj c "__call__" d μ with
    | false => simp only [Bool.false_eq_true, false_and]
    | true => simp only [true_and]
  refine (e μ1).trans ?_
  rw [wp_bind]
  refine congrArg _ (wp_ext fun ds μ2 => ?_)
  have e2 : Wp (fun μ' : Mu => match isObj c "__call__" d μ' with
      | true => guardE (decide (ds.length + dds.length + 1 = n)) (F (d :: (ds ++ dds))) μ'
      | false => none) μ2 Q E = (isObj c "__call__" d μ2 = true ∧ Wp (guardE (decide (ds.length + dds.length + 1 = n)) (F (d :: (ds ++ dds)))) μ2 Q E) := by
    unfold Wp
    dsimp only
    cases h : isObj c "__call__" d μ2 with
    | false => simp only [Bool.false_eq_true, false_and]
    | true => simp only [true_and]
  refine e2.trans ?_
  rw [wp_guard, decide_eq_true_eq]
  rfl
theorem kst_beq {a b : String} : (Str.ofString a == Str.ofString b) = decide (a = b) := by
  by_cases h : a = b
  · rw [h, decide_eq_true rfl]; exact beq_self_eq_true _
  · rw [decide_eq_false h]
    exact beq_eq_false_iff_ne.mpr fun z => h (by rw [kst_inj] at z; exact z)
end
end EG
namespace EG
open PySem L2

/-! what all laws draw from: the bag -/
def B_pull : Cs := .cons (.iff (.ban (.cons (.cmp .eq (.ix (.v 0) (.int 2)) (.int 0)) (.cons (.cmp .lt (.ix (.v 0) (.int 1)) (.blt .len (.cons (.ix (.v 0) (.int 0)) .nil))) .nil))) (.cons (.set 2 (.ix (.ix (.v 0) (.int 0)) (.ix (.v 0) (.int 1)))) (.cons (.setC (.v 0) (.int 1) (.bin .add (.ix (.v 0) (.int 1)) (.int 1))) (.cons (.iff (.cmp .ge (.v 2) (.bin .pow (.int 10) (.int 18))) (.cons (.setC (.v 0) (.int 2) (.v 2)) .nil) (.cons (.setC (.v 0) (.int 3) (.bin .mod (.blt .int (.cons (.bin .add (.bin .add (.bin .mul (.ix (.v 0) (.int 3)) (.int 45179)) (.bin .mul (.bin .mod (.blt .int (.cons (.v 2) .nil)) (.int 2147483477)) (.int 39521))) (.int 43)) .nil)) (.int 2147483563))) .nil)) .nil))) .nil) (.cons (.iff (.cmp .gt (.ix (.v 0) (.int 2)) (.int 0)) (.cons (.set 3 (.bin .mod (.blt .int (.cons (.ix (.v 0) (.int 2)) .nil)) (.v 1))) (.cons (.setC (.v 0) (.int 2) (.bin .div (.ix (.v 0) (.int 2)) (.v 1))) (.cons (.ret (.v 3)) .nil))) .nil) (.cons (.setC (.v 0) (.int 4) (.bin .add (.ix (.v 0) (.int 4)) (.int 1))) (.cons (.set 4 (.ix (.v 0) (.int 3))) (.cons (.setC (.v 0) (.int 3) (.bin .mod (.blt .int (.cons (.bin .add (.bin .add (.bin .add (.bin .mul (.v 4) (.v 4)) (.bin .mul (.v 4) (.int 37363))) (.bin .mul (.ix (.v 0) (.int 4)) (.int 1500011))) (.int 77783)) .nil)) (.int 2147483563))) (.cons (.ret (.bin .mod (.blt .int (.cons (.bin .add (.bin .div (.ix (.v 0) (.int 3)) (.int 73)) (.bin .mul (.bin .mod (.blt .int (.cons (.ix (.v 0) (.int 3)) .nil)) (.int 8017)) (.int 59))) .nil)) (.v 1))) .nil)))))
def B_of : Cs := .cons (.ret (.ix (.v 1) (.call 0 (.cons (.v 0) (.cons (.blt .len (.cons (.v 1) .nil)) .nil))))) .nil
def B_bag : Cs := .cons (.set 1 (.int 10016)) (.cons (.forr (.nm 2) (.seq (.lsl (.v 0) .none (.some (.int 63)))) (.cons (.set 1 (.bin .mod (.blt .int (.cons (.bin .add (.bin .add (.bin .mul (.v 1) (.int 47533)) (.bin .mod (.blt .int (.cons (.v 2) .nil)) (.int 2147483497))) (.int 31)) .nil)) (.int 2147483563))) .nil)) (.cons (.retC (.lst (.cons (.lblt .list (.cons (.lsl (.v 0) .none (.some (.int 63))) .nil)) (.cons (.int 0) (.cons (.int 0) (.cons (.v 1) (.cons (.int 0) .nil))))))) .nil))
def B_same : Cs := .cons (.iff (.isiT [.ty "list", .ty "tuple"] (.v 1)) (.cons (.iff (.bor (.cons (.cmp .ne (.isi (.ty "list") (.v 0)) (.isi (.ty "list") (.v 1))) (.cons (.cmp .ne (.isi (.ty "tuple") (.v 0)) (.isi (.ty "tuple") (.v 1))) .nil))) (.cons (.ret (.bl false)) .nil) .nil) (.cons (.ret (.ban (.cons (.cmp .eq (.blt .len (.cons (.v 0) .nil)) (.blt .len (.cons (.v 1) .nil))) (.cons (.blt .all (.cons (.comp [("_law_a", 2), ("_law_b", 3)] (.tp (.cons (.nm 2) (.cons (.nm 3) .nil))) (.zip (.v 0) (.v 1)) .none (.call 0 (.cons (.v 2) (.cons (.v 3) .nil)))) .nil)) .nil)))) .nil)) .nil) (.cons (.iff (.bor (.cons (.cmp .isN (.v 1) .non) (.cons (.cmp .isN (.v 0) .non) .nil))) (.cons (.ret (.ban (.cons (.cmp .isN (.v 1) .non) (.cons (.cmp .isN (.v 0) .non) .nil)))) .nil) .nil) (.cons (.iff (.bor (.cons (.cmp .ne (.isi (.ty "bool") (.v 1)) (.isi (.ty "bool") (.v 0))) (.cons (.cmp .ne (.isi (.ty "int") (.v 1)) (.isi (.ty "int") (.v 0))) .nil))) (.cons (.ret (.bl false)) .nil) .nil) (.cons (.ret (.ban (.cons (.cmp .eq (.isi (.ty "str") (.v 1)) (.isi (.ty "str") (.v 0))) (.cons (.cmp .eq (.v 0) (.v 1)) .nil)))) .nil)))
/-- a bag that may be drawn from -/
def BagOk (b : Cell) : Prop := ∃ (ns : List Int) (i g z k : Int), b = .lst [.lst (ns.map D.int), .int i, .int g, .int z, .int k] ∧ 0 ≤ i ∧ 0 ≤ g ∧ 0 ≤ z ∧ z < 2147483563 ∧ 0 ≤ k
section
variable {Γ : Gam} {μ : Mu} {Q : D → Mu → Prop} {E : PX} {b : Cell}
theorem pull_spec {s : Int} (hb : BagOk b) (hs : 0 < s) (hs2 : s < 2 ^ 64) (hq : ∀ r b', 0 ≤ r → r < s → BagOk b' → Q (.int r) (b' :: μ)) : Wf (runF 5 (runs Γ B_pull)) [.cell 0, .int s] (b :: μ) Q E := by
  obtain ⟨ns, i, g, z, k, rfl, h1, h2, h3, h4, h5⟩ := hb
  have fin1 : ∀ {i g z : Int}, 0 ≤ i → 0 < g → 0 ≤ z → z < 2147483563 → Q (.int (g % s)) (.lst [.lst (ns.map D.int), .int i, .int (g / s), .int z, .int k] :: μ) := fun a1 a2 a3 a4 =>
    hq _ _ (Int.emod_nonneg _ (by omega)) (Int.emod_lt_of_pos _ hs) ⟨ns, _, _, _, k, rfl, a1, Int.ediv_nonneg (by omega) (by omega), a3, a4, h5⟩
  have fin2 : ∀ {i g x y : Int}, 0 ≤ i → 0 ≤ g → Q (.int (x % s)) (.lst [.lst (ns.map D.int), .int i, .int g, .int (y % 2147483563), .int (k + 1)] :: μ) := fun a1 a2 =>
    hq _ _ (Int.emod_nonneg _ (by omega)) (Int.emod_lt_of_pos _ hs) ⟨ns, _, _, _, _, rfl, a1, a2, Int.emod_nonneg _ (by omega), Int.emod_lt_of_pos _ (by omega), by omega⟩
  unfold B_pull
  simp only [↓br_true, ↓br_false, ↓op_some, ↓wp_bind, ↓wp_pure, ↓wp_fail, ↓wp_opt, ↓wp_guard, ↓wp_v, ↓wp_vB, ↓wp_c, ↓wp_op2, ↓wp_op2L, ↓wp_t, ↓wp_tru, ↓wp_chain, ↓wp_andT, ↓wp_orT, ↓wp_notT, ↓wp_andV, ↓wp_orV, ↓wp_notV, ↓wp_if, ↓wp_nil, ↓wp_cons, ↓wp_tup, ↓wp_lst, ↓wp_D, ↓wp_cb, ↓wp_call, ↓wp_isi, ↓wp_neg, ↓wp_sl, ↓wp_noP, ↓wp_P, ↓wp_yes, ↓wp_items, ↓wp_signs, ↓wp_comp, ↓ws_seq, ↓thn_nx, ↓thn_rt, ↓thn_br, ↓thn_ct, ↓thn_exc, ↓ws_skip, ↓ws_break, ↓ws_cont, ↓ws_retN, ↓ws_set, ↓ws_own, ↓ws_ret, ↓ws_drop, ↓ws_if, ↓ws_asg, ↓ws_par, ↓ws_setC, ↓wp_newc, ↓ws_app, ↓ws_ext, ↓ws_setI, ↓ws_frz, ↓ws_for, ↓wl_nil, ↓wl_cons, ↓wf_run, ↓retS_nx, ↓retS_rt, ↓lpS_nx, ↓lpS_ct, ↓lpS_br, ↓lpS_rt, ↓turn_nx, ↓turn_ct, ↓turn_br, ↓turn_rt, ↓wp_addI, ↓wp_addS, ↓wp_subI, ↓wp_mulI, ↓wp_divI, ↓wp_modI, ↓wp_powI, ↓wp_cmpI, ↓wp_eq, ↓wp_ne, ↓wp_negI, ↓wp_seqE, ↓wp_lstE, ↓wp_ixL, ↓wp_ixT, ↓wp_ixC, ↓wp_ixS, ↓wp_lenS, ↓wp_lenL, ↓wp_lenT, ↓wp_lenC, ↓wp_absI, ↓wp_intI, ↓wp_intB, ↓wp_intS, ↓wp_strI, ↓wp_boolI, ↓wp_boolB, ↓wp_all, ↓wp_any, ↓wp_sum, ↓wp_max2, ↓wp_min2, ↓wp_list, ↓wp_tuple, ↓wp_sorted, ↓wp_slS, ↓wp_slT, ↓wp_slLD, ↓wp_slC, ↓wp_slL, ↓wp_range1, ↓wp_range2, ↓wp_enum, ↓wp_enumT, ↓wp_zip, ↓wp_zipTT, ↓wp_zipTL, ↓wp_zipLT, ↓wp_cat, ↓wp_rep, ↓wp_inSg, ↓wp_notInSg, ↓wp_inL, ↓wp_inT, ↓wp_notIn, ↓wp_isN, ↓wp_notN, tt1, tt2, tt3, tt4, tt5, tt6, tu1, tu2, tu3, tu4, tu5, tu6, tu7, tu8, tu9, tu10, tu11, tu12, tu13, tu14, tu15, tu16, tu17, tu18, tu19, tu20, tu21, tu22, tu23, tu24, asB_bl, truD_non, truD_bl, truD_int, truD_str, truD_lst, truD_tup, asI_int, asS_str, items_lst, items_tup, items_str, valS_v, valB_v, valB_own, seqD_lst, seqD_tup, seqD_cell0, lstD_lst, lstD_cell0, cellL_0, own_lst, nonB_non, nonB_bl, nonB_int, nonB_str, nonB_lst, nonB_tup, nonB_cell, nonB_obj, bools_nil, bools_cons, ints_nil, ints_cons, eqD_ii, eqD_bb, eqD_ss, eqD_nn, eqD_ni, eqD_in, eqD_nb, eqD_bn, eqD_ns, eqD_sn, eqD_is, eqD_si, eqD_bs, eqD_sb, tag_non, tag_bl, tag_int, tag_str, tag_lst, tag_tup, tag_obj, bindP_nm, bindP_tp, bindPs_nil, bindPs_cons, ↓wp_get, ↓wp_meth, ↓wp_prop, ↓ws_setF, ↓wp_mk, ↓wp_own, ↓wp_kd, ↓wp_methK, ↓wp_ownNe, ↓wp_own1, ↓wp_ownT, ↓wp_fstr, ↓wp_fFn, ↓wp_fFc, ↓wp_fmtS, ↓wp_fmtI, kok_len, kok_repr, kok_bool, eqD_tt, eqD_ll, plB_non, plB_bl, plB_int, plB_str, plB_lst, plB_tup, eqBs_nn, eqBs_cc, eqBs_nc, eqBs_cn, eqB_ii, eqB_bb, eqB_ss, eqB_nn, eqB_ll, eqB_tt, eqB_ni, eqB_in, eqB_nt, eqB_tn, eqB_it, eqB_ti, ↓wp_addT, ↓wp_addL, ↓wp_mulL, objD_obj, objD_last, cellO_last, set_last, isO_obj, isO_last, putD_nil, putD_cons, lkp_nil, lkp_cons, belF_nil, belF_cons, ↓wp_compN, ↓wp_compC, rng_0, rng_1, rng_2, rng_3, enL_nil, enL_cons, zpL_nil, zpL_nilR, zpL_cons, ↓wp_maxL, ↓wp_minL, maxL_2, maxL_1, minL_2, minL_1, EG.runs, EG.run, ev, evs, evo, evr, evf, mkE, mkL, failL, bopF, copF, bltF, lbltF, env0, wipeE, isiAny, isi1, frzS, Cell.toD, atI_nn, setAt_nn, wp_inSg, Gam.put, clsTab, arrQ, arrP, Pick.of, kwM, rightB, E00, List.map_cons, List.map_nil, List.length_cons, List.length_nil, List.append_nil, List.nil_append, List.cons_append, List.getElem?_cons_zero, List.getElem?_cons_succ, List.getElem?_nil, List.set_cons_zero, List.set_cons_succ, List.filter_cons, List.filter_nil, List.contains_nil, List.elem_nil, Int.reduceNeg, Int.reducePow, nA10, nA2, le_big, Nat.reducePow, Nat.zero_add, Option.map_some, Option.bind_some, Int.reduceLE, Int.reduceToNat, Int.reduceLT, Nat.reduceLT, Nat.reduceAdd, Nat.reduceSub, true_and, and_true, decide_true, decide_false, List.length_append, List.length_map, Nat.reduceLeDiff, Nat.reduceEqDiff, Bool.not_true, Bool.not_false, decide_eq_true_eq, reduceCtorEq, Option.some.injEq, id_eq, List.all_cons, List.all_nil, List.any_cons, List.any_nil, Bool.and_true, Bool.true_and, Bool.and_false, Bool.false_and, Bool.or_true, Bool.or_false, Bool.true_or, Bool.false_or, Int.reduceAdd, Int.reduceSub, beq_self_eq_true, Option.isNone_none, Option.isNone_some, if_true, if_false, ite_true, ite_false, Nat.succ_eq_add_one, Int.natCast_add, Int.natCast_one, Int.cast_ofNat_Int, List.replicate, Int.natCast_zero, Int.zero_add]
  refine br_cases (fun e => ?_) (fun e => ?_)
  · simp only [↓br_true, ↓br_false, ↓op_some, ↓wp_bind, ↓wp_pure, ↓wp_fail, ↓wp_opt, ↓wp_guard, ↓wp_v, ↓wp_vB, ↓wp_c, ↓wp_op2, ↓wp_op2L, ↓wp_t, ↓wp_tru, ↓wp_chain, ↓wp_andT, ↓wp_orT, ↓wp_notT, ↓wp_andV, ↓wp_orV, ↓wp_notV, ↓wp_if, ↓wp_nil, ↓wp_cons, ↓wp_tup, ↓wp_lst, ↓wp_D, ↓wp_cb, ↓wp_call, ↓wp_isi, ↓wp_neg, ↓wp_sl, ↓wp_noP, ↓wp_P, ↓wp_yes, ↓wp_items, ↓wp_signs, ↓wp_comp, ↓ws_seq, ↓thn_nx, ↓thn_rt, ↓thn_br, ↓thn_ct, ↓thn_exc, ↓ws_skip, ↓ws_break, ↓ws_cont, ↓ws_retN, ↓ws_set, ↓ws_own, ↓ws_ret, ↓ws_drop, ↓ws_if, ↓ws_asg, ↓ws_par, ↓ws_setC, ↓wp_newc, ↓ws_app, ↓ws_ext, ↓ws_setI, ↓ws_frz, ↓ws_for, ↓wl_nil, ↓wl_cons, ↓wf_run, ↓retS_nx, ↓retS_rt, ↓lpS_nx, ↓lpS_ct, ↓lpS_br, ↓lpS_rt, ↓turn_nx, ↓turn_ct, ↓turn_br, ↓turn_rt, ↓wp_addI, ↓wp_addS, ↓wp_subI, ↓wp_mulI, ↓wp_divI, ↓wp_modI, ↓wp_powI, ↓wp_cmpI, ↓wp_eq, ↓wp_ne, ↓wp_negI, ↓wp_seqE, ↓wp_lstE, ↓wp_ixL, ↓wp_ixT, ↓wp_ixC, ↓wp_ixS, ↓wp_lenS, ↓wp_lenL, ↓wp_lenT, ↓wp_lenC, ↓wp_absI, ↓wp_intI, ↓wp_intB, ↓wp_intS, ↓wp_strI, ↓wp_boolI, ↓wp_boolB, ↓wp_all, ↓wp_any, ↓wp_sum, ↓wp_max2, ↓wp_min2, ↓wp_list, ↓wp_tuple, ↓wp_sorted, ↓wp_slS, ↓wp_slT, ↓wp_slLD, ↓wp_slC, ↓wp_slL, ↓wp_range1, ↓wp_range2, ↓wp_enum, ↓wp_enumT, ↓wp_zip, ↓wp_zipTT, ↓wp_zipTL, ↓wp_zipLT, ↓wp_cat, ↓wp_rep, ↓wp_inSg, ↓wp_notInSg, ↓wp_inL, ↓wp_inT, ↓wp_notIn, ↓wp_isN, ↓wp_notN, tt1, tt2, tt3, tt4, tt5, tt6, tu1, tu2, tu3, tu4, tu5, tu6, tu7, tu8, tu9, tu10, tu11, tu12, tu13, tu14, tu15, tu16, tu17, tu18, tu19, tu20, tu21, tu22, tu23, tu24, asB_bl, truD_non, truD_bl, truD_int, truD_str, truD_lst, truD_tup, asI_int, asS_str, items_lst, items_tup, items_str, valS_v, valB_v, valB_own, seqD_lst, seqD_tup, seqD_cell0, lstD_lst, lstD_cell0, cellL_0, own_lst, nonB_non, nonB_bl, nonB_int, nonB_str, nonB_lst, nonB_tup, nonB_cell, nonB_obj, bools_nil, bools_cons, ints_nil, ints_cons, eqD_ii, eqD_bb, eqD_ss, eqD_nn, eqD_ni, eqD_in, eqD_nb, eqD_bn, eqD_ns, eqD_sn, eqD_is, eqD_si, eqD_bs, eqD_sb, tag_non, tag_bl, tag_int, tag_str, tag_lst, tag_tup, tag_obj, bindP_nm, bindP_tp, bindPs_nil, bindPs_cons, ↓wp_get, ↓wp_meth, ↓wp_prop, ↓ws_setF, ↓wp_mk, ↓wp_own, ↓wp_kd, ↓wp_methK, ↓wp_ownNe, ↓wp_own1, ↓wp_ownT, ↓wp_fstr, ↓wp_fFn, ↓wp_fFc, ↓wp_fmtS, ↓wp_fmtI, kok_len, kok_repr, kok_bool, eqD_tt, eqD_ll, plB_non, plB_bl, plB_int, plB_str, plB_lst, plB_tup, eqBs_nn, eqBs_cc, eqBs_nc, eqBs_cn, eqB_ii, eqB_bb, eqB_ss, eqB_nn, eqB_ll, eqB_tt, eqB_ni, eqB_in, eqB_nt, eqB_tn, eqB_it, eqB_ti, ↓wp_addT, ↓wp_addL, ↓wp_mulL, objD_obj, objD_last, cellO_last, set_last, isO_obj, isO_last, putD_nil, putD_cons, lkp_nil, lkp_cons, belF_nil, belF_cons, ↓wp_compN, ↓wp_compC, rng_0, rng_1, rng_2, rng_3, enL_nil, enL_cons, zpL_nil, zpL_nilR, zpL_cons, ↓wp_maxL, ↓wp_minL, maxL_2, maxL_1, minL_2, minL_1, EG.runs, EG.run, ev, evs, evo, evr, evf, mkE, mkL, failL, bopF, copF, bltF, lbltF, env0, wipeE, isiAny, isi1, frzS, Cell.toD, atI_nn, setAt_nn, wp_inSg, Gam.put, clsTab, arrQ, arrP, Pick.of, kwM, rightB, E00, List.map_cons, List.map_nil, List.length_cons, List.length_nil, List.append_nil, List.nil_append, List.cons_append, List.getElem?_cons_zero, List.getElem?_cons_succ, List.getElem?_nil, List.set_cons_zero, List.set_cons_succ, List.filter_cons, List.filter_nil, List.contains_nil, List.elem_nil, Int.reduceNeg, Int.reducePow, nA10, nA2, le_big, Nat.reducePow, Nat.zero_add, Option.map_some, Option.bind_some, Int.reduceLE, Int.reduceToNat, Int.reduceLT, Nat.reduceLT, Nat.reduceAdd, Nat.reduceSub, true_and, and_true, decide_true, decide_false, List.length_append, List.length_map, Nat.reduceLeDiff, Nat.reduceEqDiff, Bool.not_true, Bool.not_false, decide_eq_true_eq, reduceCtorEq, Option.some.injEq, id_eq, List.all_cons, List.all_nil, List.any_cons, List.any_nil, Bool.and_true, Bool.true_and, Bool.and_false, Bool.false_and, Bool.or_true, Bool.or_false, Bool.true_or, Bool.false_or, Int.reduceAdd, Int.reduceSub, beq_self_eq_true, Option.isNone_none, Option.isNone_some, if_true, if_false, ite_true, ite_false, Nat.succ_eq_add_one, Int.natCast_add, Int.natCast_one, Int.cast_ofNat_Int, List.replicate, Int.natCast_zero, Int.zero_add]
    refine br_cases (fun e2 => ?_) (fun e2 => ?_)
    · have e2 := of_decide_eq_true e2
      have hlt : i.toNat < ns.length := by omega
      simp only [↓br_true, ↓br_false, ↓op_some, ↓wp_bind, ↓wp_pure, ↓wp_fail, ↓wp_opt, ↓wp_guard, ↓wp_v, ↓wp_vB, ↓wp_c, ↓wp_op2, ↓wp_op2L, ↓wp_t, ↓wp_tru, ↓wp_chain, ↓wp_andT, ↓wp_orT, ↓wp_notT, ↓wp_andV, ↓wp_orV, ↓wp_notV, ↓wp_if, ↓wp_nil, ↓wp_cons, ↓wp_tup, ↓wp_lst, ↓wp_D, ↓wp_cb, ↓wp_call, ↓wp_isi, ↓wp_neg, ↓wp_sl, ↓wp_noP, ↓wp_P, ↓wp_yes, ↓wp_items, ↓wp_signs, ↓wp_comp, ↓ws_seq, ↓thn_nx, ↓thn_rt, ↓thn_br, ↓thn_ct, ↓thn_exc, ↓ws_skip, ↓ws_break, ↓ws_cont, ↓ws_retN, ↓ws_set, ↓ws_own, ↓ws_ret, ↓ws_drop, ↓ws_if, ↓ws_asg, ↓ws_par, ↓ws_setC, ↓wp_newc, ↓ws_app, ↓ws_ext, ↓ws_setI, ↓ws_frz, ↓ws_for, ↓wl_nil, ↓wl_cons, ↓wf_run, ↓retS_nx, ↓retS_rt, ↓lpS_nx, ↓lpS_ct, ↓lpS_br, ↓lpS_rt, ↓turn_nx, ↓turn_ct, ↓turn_br, ↓turn_rt, ↓wp_addI, ↓wp_addS, ↓wp_subI, ↓wp_mulI, ↓wp_divI, ↓wp_modI, ↓wp_powI, ↓wp_cmpI, ↓wp_eq, ↓wp_ne, ↓wp_negI, ↓wp_seqE, ↓wp_lstE, ↓wp_ixL, ↓wp_ixT, ↓wp_ixC, ↓wp_ixS, ↓wp_lenS, ↓wp_lenL, ↓wp_lenT, ↓wp_lenC, ↓wp_absI, ↓wp_intI, ↓wp_intB, ↓wp_intS, ↓wp_strI, ↓wp_boolI, ↓wp_boolB, ↓wp_all, ↓wp_any, ↓wp_sum, ↓wp_max2, ↓wp_min2, ↓wp_list, ↓wp_tuple, ↓wp_sorted, ↓wp_slS, ↓wp_slT, ↓wp_slLD, ↓wp_slC, ↓wp_slL, ↓wp_range1, ↓wp_range2, ↓wp_enum, ↓wp_enumT, ↓wp_zip, ↓wp_zipTT, ↓wp_zipTL, ↓wp_zipLT, ↓wp_cat, ↓wp_rep, ↓wp_inSg, ↓wp_notInSg, ↓wp_inL, ↓wp_inT, ↓wp_notIn, ↓wp_isN, ↓wp_notN, tt1, tt2, tt3, tt4, tt5, tt6, tu1, tu2, tu3, tu4, tu5, tu6, tu7, tu8, tu9, tu10, tu11, tu12, tu13, tu14, tu15, tu16, tu17, tu18, tu19, tu20, tu21, tu22, tu23, tu24, asB_bl, truD_non, truD_bl, truD_int, truD_str, truD_lst, truD_tup, asI_int, asS_str, items_lst, items_tup, items_str, valS_v, valB_v, valB_own, seqD_lst, seqD_tup, seqD_cell0, lstD_lst, lstD_cell0, cellL_0, own_lst, nonB_non, nonB_bl, nonB_int, nonB_str, nonB_lst, nonB_tup, nonB_cell, nonB_obj, bools_nil, bools_cons, ints_nil, ints_cons, eqD_ii, eqD_bb, eqD_ss, eqD_nn, eqD_ni, eqD_in, eqD_nb, eqD_bn, eqD_ns, eqD_sn, eqD_is, eqD_si, eqD_bs, eqD_sb, tag_non, tag_bl, tag_int, tag_str, tag_lst, tag_tup, tag_obj, bindP_nm, bindP_tp, bindPs_nil, bindPs_cons, ↓wp_get, ↓wp_meth, ↓wp_prop, ↓ws_setF, ↓wp_mk, ↓wp_own, ↓wp_kd, ↓wp_methK, ↓wp_ownNe, ↓wp_own1, ↓wp_ownT, ↓wp_fstr, ↓wp_fFn, ↓wp_fFc, ↓wp_fmtS, ↓wp_fmtI, kok_len, kok_repr, kok_bool, eqD_tt, eqD_ll, plB_non, plB_bl, plB_int, plB_str, plB_lst, plB_tup, eqBs_nn, eqBs_cc, eqBs_nc, eqBs_cn, eqB_ii, eqB_bb, eqB_ss, eqB_nn, eqB_ll, eqB_tt, eqB_ni, eqB_in, eqB_nt, eqB_tn, eqB_it, eqB_ti, ↓wp_addT, ↓wp_addL, ↓wp_mulL, objD_obj, objD_last, cellO_last, set_last, isO_obj, isO_last, putD_nil, putD_cons, lkp_nil, lkp_cons, belF_nil, belF_cons, ↓wp_compN, ↓wp_compC, rng_0, rng_1, rng_2, rng_3, enL_nil, enL_cons, zpL_nil, zpL_nilR, zpL_cons, ↓wp_maxL, ↓wp_minL, maxL_2, maxL_1, minL_2, minL_1, EG.runs, EG.run, ev, evs, evo, evr, evf, mkE, mkL, failL, bopF, copF, bltF, lbltF, env0, wipeE, isiAny, isi1, frzS, Cell.toD, atI_nn, setAt_nn, wp_inSg, Gam.put, clsTab, arrQ, arrP, Pick.of, kwM, rightB, E00, List.map_cons, List.map_nil, List.length_cons, List.length_nil, List.append_nil, List.nil_append, List.cons_append, List.getElem?_cons_zero, List.getElem?_cons_succ, List.getElem?_nil, List.set_cons_zero, List.set_cons_succ, List.filter_cons, List.filter_nil, List.contains_nil, List.elem_nil, Int.reduceNeg, Int.reducePow, nA10, nA2, le_big, Nat.reducePow, Nat.zero_add, Option.map_some, Option.bind_some, Int.reduceLE, Int.reduceToNat, Int.reduceLT, Nat.reduceLT, Nat.reduceAdd, Nat.reduceSub, true_and, and_true, decide_true, decide_false, List.length_append, List.length_map, Nat.reduceLeDiff, Nat.reduceEqDiff, Bool.not_true, Bool.not_false, decide_eq_true_eq, reduceCtorEq, Option.some.injEq, id_eq, List.all_cons, List.all_nil, List.any_cons, List.any_nil, Bool.and_true, Bool.true_and, Bool.and_false, Bool.false_and, Bool.or_true, Bool.or_false, Bool.true_or, Bool.false_or, Int.reduceAdd, Int.reduceSub, beq_self_eq_true, Option.isNone_none, Option.isNone_some, if_true, if_false, ite_true, ite_false, Nat.succ_eq_add_one, Int.natCast_add, Int.natCast_one, Int.cast_ofNat_Int, List.replicate, Int.natCast_zero, Int.zero_add, atI_nn h1, List.getElem?_map, List.getElem?_eq_getElem hlt]
      refine br_cases (fun e3 => ?_) (fun e3 => ?_)
      · have e3 := of_decide_eq_true e3
        have hp : 0 < ns[i.toNat] := by omega
        simp only [↓br_true, ↓br_false, ↓op_some, ↓wp_bind, ↓wp_pure, ↓wp_fail, ↓wp_opt, ↓wp_guard, ↓wp_v, ↓wp_vB, ↓wp_c, ↓wp_op2, ↓wp_op2L, ↓wp_t, ↓wp_tru, ↓wp_chain, ↓wp_andT, ↓wp_orT, ↓wp_notT, ↓wp_andV, ↓wp_orV, ↓wp_notV, ↓wp_if, ↓wp_nil, ↓wp_cons, ↓wp_tup, ↓wp_lst, ↓wp_D, ↓wp_cb, ↓wp_call, ↓wp_isi, ↓wp_neg, ↓wp_sl, ↓wp_noP, ↓wp_P, ↓wp_yes, ↓wp_items, ↓wp_signs, ↓wp_comp, ↓ws_seq, ↓thn_nx, ↓thn_rt, ↓thn_br, ↓thn_ct, ↓thn_exc, ↓ws_skip, ↓ws_break, ↓ws_cont, ↓ws_retN, ↓ws_set, ↓ws_own, ↓ws_ret, ↓ws_drop, ↓ws_if, ↓ws_asg, ↓ws_par, ↓ws_setC, ↓wp_newc, ↓ws_app, ↓ws_ext, ↓ws_setI, ↓ws_frz, ↓ws_for, ↓wl_nil, ↓wl_cons, ↓wf_run, ↓retS_nx, ↓retS_rt, ↓lpS_nx, ↓lpS_ct, ↓lpS_br, ↓lpS_rt, ↓turn_nx, ↓turn_ct, ↓turn_br, ↓turn_rt, ↓wp_addI, ↓wp_addS, ↓wp_subI, ↓wp_mulI, ↓wp_divI, ↓wp_modI, ↓wp_powI, ↓wp_cmpI, ↓wp_eq, ↓wp_ne, ↓wp_negI, ↓wp_seqE, ↓wp_lstE, ↓wp_ixL, ↓wp_ixT, ↓wp_ixC, ↓wp_ixS, ↓wp_lenS, ↓wp_lenL, ↓wp_lenT, ↓wp_lenC, ↓wp_absI, ↓wp_intI, ↓wp_intB, ↓wp_intS, ↓wp_strI, ↓wp_boolI, ↓wp_boolB, ↓wp_all, ↓wp_any, ↓wp_sum, ↓wp_max2, ↓wp_min2, ↓wp_list, ↓wp_tuple, ↓wp_sorted, ↓wp_slS, ↓wp_slT, ↓wp_slLD, ↓wp_slC, ↓wp_slL, ↓wp_range1, ↓wp_range2, ↓wp_enum, ↓wp_enumT, ↓wp_zip, ↓wp_zipTT, ↓wp_zipTL, ↓wp_zipLT, ↓wp_cat, ↓wp_rep, ↓wp_inSg, ↓wp_notInSg, ↓wp_inL, ↓wp_inT, ↓wp_notIn, ↓wp_isN, ↓wp_notN, tt1, tt2, tt3, tt4, tt5, tt6, tu1, tu2, tu3, tu4, tu5, tu6, tu7, tu8, tu9, tu10, tu11, tu12, tu13, tu14, tu15, tu16, tu17, tu18, tu19, tu20, tu21, tu22, tu23, tu24, asB_bl, truD_non, truD_bl, truD_int, truD_str, truD_lst, truD_tup, asI_int, asS_str, items_lst, items_tup, items_str, valS_v, valB_v, valB_own, seqD_lst, seqD_tup, seqD_cell0, lstD_lst, lstD_cell0, cellL_0, own_lst, nonB_non, nonB_bl, nonB_int, nonB_str, nonB_lst, nonB_tup, nonB_cell, nonB_obj, bools_nil, bools_cons, ints_nil, ints_cons, eqD_ii, eqD_bb, eqD_ss, eqD_nn, eqD_ni, eqD_in, eqD_nb, eqD_bn, eqD_ns, eqD_sn, eqD_is, eqD_si, eqD_bs, eqD_sb, tag_non, tag_bl, tag_int, tag_str, tag_lst, tag_tup, tag_obj, bindP_nm, bindP_tp, bindPs_nil, bindPs_cons, ↓wp_get, ↓wp_meth, ↓wp_prop, ↓ws_setF, ↓wp_mk, ↓wp_own, ↓wp_kd, ↓wp_methK, ↓wp_ownNe, ↓wp_own1, ↓wp_ownT, ↓wp_fstr, ↓wp_fFn, ↓wp_fFc, ↓wp_fmtS, ↓wp_fmtI, kok_len, kok_repr, kok_bool, eqD_tt, eqD_ll, plB_non, plB_bl, plB_int, plB_str, plB_lst, plB_tup, eqBs_nn, eqBs_cc, eqBs_nc, eqBs_cn, eqB_ii, eqB_bb, eqB_ss, eqB_nn, eqB_ll, eqB_tt, eqB_ni, eqB_in, eqB_nt, eqB_tn, eqB_it, eqB_ti, ↓wp_addT, ↓wp_addL, ↓wp_mulL, objD_obj, objD_last, cellO_last, set_last, isO_obj, isO_last, putD_nil, putD_cons, lkp_nil, lkp_cons, belF_nil, belF_cons, ↓wp_compN, ↓wp_compC, rng_0, rng_1, rng_2, rng_3, enL_nil, enL_cons, zpL_nil, zpL_nilR, zpL_cons, ↓wp_maxL, ↓wp_minL, maxL_2, maxL_1, minL_2, minL_1, EG.runs, EG.run, ev, evs, evo, evr, evf, mkE, mkL, failL, bopF, copF, bltF, lbltF, env0, wipeE, isiAny, isi1, frzS, Cell.toD, atI_nn, setAt_nn, wp_inSg, Gam.put, clsTab, arrQ, arrP, Pick.of, kwM, rightB, E00, List.map_cons, List.map_nil, List.length_cons, List.length_nil, List.append_nil, List.nil_append, List.cons_append, List.getElem?_cons_zero, List.getElem?_cons_succ, List.getElem?_nil, List.set_cons_zero, List.set_cons_succ, List.filter_cons, List.filter_nil, List.contains_nil, List.elem_nil, Int.reduceNeg, Int.reducePow, nA10, nA2, le_big, Nat.reducePow, Nat.zero_add, Option.map_some, Option.bind_some, Int.reduceLE, Int.reduceToNat, Int.reduceLT, Nat.reduceLT, Nat.reduceAdd, Nat.reduceSub, true_and, and_true, decide_true, decide_false, List.length_append, List.length_map, Nat.reduceLeDiff, Nat.reduceEqDiff, Bool.not_true, Bool.not_false, decide_eq_true_eq, reduceCtorEq, Option.some.injEq, id_eq, List.all_cons, List.all_nil, List.any_cons, List.any_nil, Bool.and_true, Bool.true_and, Bool.and_false, Bool.false_and, Bool.or_true, Bool.or_false, Bool.true_or, Bool.false_or, Int.reduceAdd, Int.reduceSub, beq_self_eq_true, Option.isNone_none, Option.isNone_some, if_true, if_false, ite_true, ite_false, Nat.succ_eq_add_one, Int.natCast_add, Int.natCast_one, Int.cast_ofNat_Int, List.replicate, Int.natCast_zero, Int.zero_add]
        refine br_cases (fun e4 => ?_) (fun e4 => absurd hp (by simpa using e4))
        simp only [↓br_true, ↓br_false, ↓op_some, ↓wp_bind, ↓wp_pure, ↓wp_fail, ↓wp_opt, ↓wp_guard, ↓wp_v, ↓wp_vB, ↓wp_c, ↓wp_op2, ↓wp_op2L, ↓wp_t, ↓wp_tru, ↓wp_chain, ↓wp_andT, ↓wp_orT, ↓wp_notT, ↓wp_andV, ↓wp_orV, ↓wp_notV, ↓wp_if, ↓wp_nil, ↓wp_cons, ↓wp_tup, ↓wp_lst, ↓wp_D, ↓wp_cb, ↓wp_call, ↓wp_isi, ↓wp_neg, ↓wp_sl, ↓wp_noP, ↓wp_P, ↓wp_yes, ↓wp_items, ↓wp_signs, ↓wp_comp, ↓ws_seq, ↓thn_nx, ↓thn_rt, ↓thn_br, ↓thn_ct, ↓thn_exc, ↓ws_skip, ↓ws_break, ↓ws_cont, ↓ws_retN, ↓ws_set, ↓ws_own, ↓ws_ret, ↓ws_drop, ↓ws_if, ↓ws_asg, ↓ws_par, ↓ws_setC, ↓wp_newc, ↓ws_app, ↓ws_ext, ↓ws_setI, ↓ws_frz, ↓ws_for, ↓wl_nil, ↓wl_cons, ↓wf_run, ↓retS_nx, ↓retS_rt, ↓lpS_nx, ↓lpS_ct, ↓lpS_br, ↓lpS_rt, ↓turn_nx, ↓turn_ct, ↓turn_br, ↓turn_rt, ↓wp_addI, ↓wp_addS, ↓wp_subI, ↓wp_mulI, ↓wp_divI, ↓wp_modI, ↓wp_powI, ↓wp_cmpI, ↓wp_eq, ↓wp_ne, ↓wp_negI, ↓wp_seqE, ↓wp_lstE, ↓wp_ixL, ↓wp_ixT, ↓wp_ixC, ↓wp_ixS, ↓wp_lenS, ↓wp_lenL, ↓wp_lenT, ↓wp_lenC, ↓wp_absI, ↓wp_intI, ↓wp_intB, ↓wp_intS, ↓wp_strI, ↓wp_boolI, ↓wp_boolB, ↓wp_all, ↓wp_any, ↓wp_sum, ↓wp_max2, ↓wp_min2, ↓wp_list, ↓wp_tuple, ↓wp_sorted, ↓wp_slS, ↓wp_slT, ↓wp_slLD, ↓wp_slC, ↓wp_slL, ↓wp_range1, ↓wp_range2, ↓wp_enum, ↓wp_enumT, ↓wp_zip, ↓wp_zipTT, ↓wp_zipTL, ↓wp_zipLT, ↓wp_cat, ↓wp_rep, ↓wp_inSg, ↓wp_notInSg, ↓wp_inL, ↓wp_inT, ↓wp_notIn, ↓wp_isN, ↓wp_notN, tt1, tt2, tt3, tt4, tt5, tt6, tu1, tu2, tu3, tu4, tu5, tu6, tu7, tu8, tu9, tu10, tu11, tu12, tu13, tu14, tu15, tu16, tu17, tu18, tu19, tu20, tu21, tu22, tu23, tu24, asB_bl, truD_non, truD_bl, truD_int, truD_str, truD_lst, truD_tup, asI_int, asS_str, items_lst, items_tup, items_str, valS_v, valB_v, valB_own, seqD_lst, seqD_tup, seqD_cell0, lstD_lst, lstD_cell0, cellL_0, own_lst, nonB_non, nonB_bl, nonB_int, nonB_str, nonB_lst, nonB_tup, nonB_cell, nonB_obj, bools_nil, bools_cons, ints_nil, ints_cons, eqD_ii, eqD_bb, eqD_ss, eqD_nn, eqD_ni, eqD_in, eqD_nb, eqD_bn, eqD_ns, eqD_sn, eqD_is, eqD_si, eqD_bs, eqD_sb, tag_non, tag_bl, tag_int, tag_str, tag_lst, tag_tup, tag_obj, bindP_nm, bindP_tp, bindPs_nil, bindPs_cons, ↓wp_get, ↓wp_meth, ↓wp_prop, ↓ws_setF, ↓wp_mk, ↓wp_own, ↓wp_kd, ↓wp_methK, ↓wp_ownNe, ↓wp_own1, ↓wp_ownT, ↓wp_fstr, ↓wp_fFn, ↓wp_fFc, ↓wp_fmtS, ↓wp_fmtI, kok_len, kok_repr, kok_bool, eqD_tt, eqD_ll, plB_non, plB_bl, plB_int, plB_str, plB_lst, plB_tup, eqBs_nn, eqBs_cc, eqBs_nc, eqBs_cn, eqB_ii, eqB_bb, eqB_ss, eqB_nn, eqB_ll, eqB_tt, eqB_ni, eqB_in, eqB_nt, eqB_tn, eqB_it, eqB_ti, ↓wp_addT, ↓wp_addL, ↓wp_mulL, objD_obj, objD_last, cellO_last, set_last, isO_obj, isO_last, putD_nil, putD_cons, lkp_nil, lkp_cons, belF_nil, belF_cons, ↓wp_compN, ↓wp_compC, rng_0, rng_1, rng_2, rng_3, enL_nil, enL_cons, zpL_nil, zpL_nilR, zpL_cons, ↓wp_maxL, ↓wp_minL, maxL_2, maxL_1, minL_2, minL_1, EG.runs, EG.run, ev, evs, evo, evr, evf, mkE, mkL, failL, bopF, copF, bltF, lbltF, env0, wipeE, isiAny, isi1, frzS, Cell.toD, atI_nn, setAt_nn, wp_inSg, Gam.put, clsTab, arrQ, arrP, Pick.of, kwM, rightB, E00, List.map_cons, List.map_nil, List.length_cons, List.length_nil, List.append_nil, List.nil_append, List.cons_append, List.getElem?_cons_zero, List.getElem?_cons_succ, List.getElem?_nil, List.set_cons_zero, List.set_cons_succ, List.filter_cons, List.filter_nil, List.contains_nil, List.elem_nil, Int.reduceNeg, Int.reducePow, nA10, nA2, le_big, Nat.reducePow, Nat.zero_add, Option.map_some, Option.bind_some, Int.reduceLE, Int.reduceToNat, Int.reduceLT, Nat.reduceLT, Nat.reduceAdd, Nat.reduceSub, true_and, and_true, decide_true, decide_false, List.length_append, List.length_map, Nat.reduceLeDiff, Nat.reduceEqDiff, Bool.not_true, Bool.not_false, decide_eq_true_eq, reduceCtorEq, Option.some.injEq, id_eq, List.all_cons, List.all_nil, List.any_cons, List.any_nil, Bool.and_true, Bool.true_and, Bool.and_false, Bool.false_and, Bool.or_true, Bool.or_false, Bool.true_or, Bool.false_or, Int.reduceAdd, Int.reduceSub, beq_self_eq_true, Option.isNone_none, Option.isNone_some, if_true, if_false, ite_true, ite_false, Nat.succ_eq_add_one, Int.natCast_add, Int.natCast_one, Int.cast_ofNat_Int, List.replicate, Int.natCast_zero, Int.zero_add]
        exact ⟨hs, ⟨hs, hs2⟩, fin1 (by omega) hp h3 h4⟩
      · simp only [↓br_true, ↓br_false, ↓op_some, ↓wp_bind, ↓wp_pure, ↓wp_fail, ↓wp_opt, ↓wp_guard, ↓wp_v, ↓wp_vB, ↓wp_c, ↓wp_op2, ↓wp_op2L, ↓wp_t, ↓wp_tru, ↓wp_chain, ↓wp_andT, ↓wp_orT, ↓wp_notT, ↓wp_andV, ↓wp_orV, ↓wp_notV, ↓wp_if, ↓wp_nil, ↓wp_cons, ↓wp_tup, ↓wp_lst, ↓wp_D, ↓wp_cb, ↓wp_call, ↓wp_isi, ↓wp_neg, ↓wp_sl, ↓wp_noP, ↓wp_P, ↓wp_yes, ↓wp_items, ↓wp_signs, ↓wp_comp, ↓ws_seq, ↓thn_nx, ↓thn_rt, ↓thn_br, ↓thn_ct, ↓thn_exc, ↓ws_skip, ↓ws_break, ↓ws_cont, ↓ws_retN, ↓ws_set, ↓ws_own, ↓ws_ret, ↓ws_drop, ↓ws_if, ↓ws_asg, ↓ws_par, ↓ws_setC, ↓wp_newc, ↓ws_app, ↓ws_ext, ↓ws_setI, ↓ws_frz, ↓ws_for, ↓wl_nil, ↓wl_cons, ↓wf_run, ↓retS_nx, ↓retS_rt, ↓lpS_nx, ↓lpS_ct, ↓lpS_br, ↓lpS_rt, ↓turn_nx, ↓turn_ct, ↓turn_br, ↓turn_rt, ↓wp_addI, ↓wp_addS, ↓wp_subI, ↓wp_mulI, ↓wp_divI, ↓wp_modI, ↓wp_powI, ↓wp_cmpI, ↓wp_eq, ↓wp_ne, ↓wp_negI, ↓wp_seqE, ↓wp_lstE, ↓wp_ixL, ↓wp_ixT, ↓wp_ixC, ↓wp_ixS, ↓wp_lenS, ↓wp_lenL, ↓wp_lenT, ↓wp_lenC, ↓wp_absI, ↓wp_intI, ↓wp_intB, ↓wp_intS, ↓wp_strI, ↓wp_boolI, ↓wp_boolB, ↓wp_all, ↓wp_any, ↓wp_sum, ↓wp_max2, ↓wp_min2, ↓wp_list, ↓wp_tuple, ↓wp_sorted, ↓wp_slS, ↓wp_slT, ↓wp_slLD, ↓wp_slC, ↓wp_slL, ↓wp_range1, ↓wp_range2, ↓wp_enum, ↓wp_enumT, ↓wp_zip, ↓wp_zipTT, ↓wp_zipTL, ↓wp_zipLT, ↓wp_cat, ↓wp_rep, ↓wp_inSg, ↓wp_notInSg, ↓wp_inL, ↓wp_inT, ↓wp_notIn, ↓wp_isN, ↓wp_notN, tt1, tt2, tt3, tt4, tt5, tt6, tu1, tu2, tu3, tu4, tu5, tu6, tu7, tu8, tu9, tu10, tu11, tu12, tu13, tu14, tu15, tu16, tu17, tu18, tu19, tu20, tu21, tu22, tu23, tu24, asB_bl, truD_non, truD_bl, truD_int, truD_str, truD_lst, truD_tup, asI_int, asS_str, items_lst, items_tup, items_str, valS_v, valB_v, valB_own, seqD_lst, seqD_tup, seqD_cell0, lstD_lst, lstD_cell0, cellL_0, own_lst, nonB_non, nonB_bl, nonB_int, nonB_str, nonB_lst, nonB_tup, nonB_cell, nonB_obj, bools_nil, bools_cons, ints_nil, ints_cons, eqD_ii, eqD_bb, eqD_ss, eqD_nn, eqD_ni, eqD_in, eqD_nb, eqD_bn, eqD_ns, eqD_sn, eqD_is, eqD_si, eqD_bs, eqD_sb, tag_non, tag_bl, tag_int, tag_str, tag_lst, tag_tup, tag_obj, bindP_nm, bindP_tp, bindPs_nil, bindPs_cons, ↓wp_get, ↓wp_meth, ↓wp_prop, ↓ws_setF, ↓wp_mk, ↓wp_own, ↓wp_kd, ↓wp_methK, ↓wp_ownNe, ↓wp_own1, ↓wp_ownT, ↓wp_fstr, ↓wp_fFn, ↓wp_fFc, ↓wp_fmtS, ↓wp_fmtI, kok_len, kok_repr, kok_bool, eqD_tt, eqD_ll, plB_non, plB_bl, plB_int, plB_str, plB_lst, plB_tup, eqBs_nn, eqBs_cc, eqBs_nc, eqBs_cn, eqB_ii, eqB_bb, eqB_ss, eqB_nn, eqB_ll, eqB_tt, eqB_ni, eqB_in, eqB_nt, eqB_tn, eqB_it, eqB_ti, ↓wp_addT, ↓wp_addL, ↓wp_mulL, objD_obj, objD_last, cellO_last, set_last, isO_obj, isO_last, putD_nil, putD_cons, lkp_nil, lkp_cons, belF_nil, belF_cons, ↓wp_compN, ↓wp_compC, rng_0, rng_1, rng_2, rng_3, enL_nil, enL_cons, zpL_nil, zpL_nilR, zpL_cons, ↓wp_maxL, ↓wp_minL, maxL_2, maxL_1, minL_2, minL_1, EG.runs, EG.run, ev, evs, evo, evr, evf, mkE, mkL, failL, bopF, copF, bltF, lbltF, env0, wipeE, isiAny, isi1, frzS, Cell.toD, atI_nn, setAt_nn, wp_inSg, Gam.put, clsTab, arrQ, arrP, Pick.of, kwM, rightB, E00, List.map_cons, List.map_nil, List.length_cons, List.length_nil, List.append_nil, List.nil_append, List.cons_append, List.getElem?_cons_zero, List.getElem?_cons_succ, List.getElem?_nil, List.set_cons_zero, List.set_cons_succ, List.filter_cons, List.filter_nil, List.contains_nil, List.elem_nil, Int.reduceNeg, Int.reducePow, nA10, nA2, le_big, Nat.reducePow, Nat.zero_add, Option.map_some, Option.bind_some, Int.reduceLE, Int.reduceToNat, Int.reduceLT, Nat.reduceLT, Nat.reduceAdd, Nat.reduceSub, true_and, and_true, decide_true, decide_false, List.length_append, List.length_map, Nat.reduceLeDiff, Nat.reduceEqDiff, Bool.not_true, Bool.not_false, decide_eq_true_eq, reduceCtorEq, Option.some.injEq, id_eq, List.all_cons, List.all_nil, List.any_cons, List.any_nil, Bool.and_true, Bool.true_and, Bool.and_false, Bool.false_and, Bool.or_true, Bool.or_false, Bool.true_or, Bool.false_or, Int.reduceAdd, Int.reduceSub, beq_self_eq_true, Option.isNone_none, Option.isNone_some, if_true, if_false, ite_true, ite_false, Nat.succ_eq_add_one, Int.natCast_add, Int.natCast_one, Int.cast_ofNat_Int, List.replicate, Int.natCast_zero, Int.zero_add]
        refine ⟨okMul_r (by omega) (by omega), okMul_r (by omega) (by omega), br_cases (fun e4 => ?_) (fun e4 => ?_)⟩
        · have e := of_decide_eq_true e
          have e4 := of_decide_eq_true e4
          omega
        · simp only [↓br_true, ↓br_false, ↓op_some, ↓wp_bind, ↓wp_pure, ↓wp_fail, ↓wp_opt, ↓wp_guard, ↓wp_v, ↓wp_vB, ↓wp_c, ↓wp_op2, ↓wp_op2L, ↓wp_t, ↓wp_tru, ↓wp_chain, ↓wp_andT, ↓wp_orT, ↓wp_notT, ↓wp_andV, ↓wp_orV, ↓wp_notV, ↓wp_if, ↓wp_nil, ↓wp_cons, ↓wp_tup, ↓wp_lst, ↓wp_D, ↓wp_cb, ↓wp_call, ↓wp_isi, ↓wp_neg, ↓wp_sl, ↓wp_noP, ↓wp_P, ↓wp_yes, ↓wp_items, ↓wp_signs, ↓wp_comp, ↓ws_seq, ↓thn_nx, ↓thn_rt, ↓thn_br, ↓thn_ct, ↓thn_exc, ↓ws_skip, ↓ws_break, ↓ws_cont, ↓ws_retN, ↓ws_set, ↓ws_own, ↓ws_ret, ↓ws_drop, ↓ws_if, ↓ws_asg, ↓ws_par, ↓ws_setC, ↓wp_newc, ↓ws_app, ↓ws_ext, ↓ws_setI, ↓ws_frz, ↓ws_for, ↓wl_nil, ↓wl_cons, ↓wf_run, ↓retS_nx, ↓retS_rt, ↓lpS_nx, ↓lpS_ct, ↓lpS_br, ↓lpS_rt, ↓turn_nx, ↓turn_ct, ↓turn_br, ↓turn_rt, ↓wp_addI, ↓wp_addS, ↓wp_subI, ↓wp_mulI, ↓wp_divI, ↓wp_modI, ↓wp_powI, ↓wp_cmpI, ↓wp_eq, ↓wp_ne, ↓wp_negI, ↓wp_seqE, ↓wp_lstE, ↓wp_ixL, ↓wp_ixT, ↓wp_ixC, ↓wp_ixS, ↓wp_lenS, ↓wp_lenL, ↓wp_lenT, ↓wp_lenC, ↓wp_absI, ↓wp_intI, ↓wp_intB, ↓wp_intS, ↓wp_strI, ↓wp_boolI, ↓wp_boolB, ↓wp_all, ↓wp_any, ↓wp_sum, ↓wp_max2, ↓wp_min2, ↓wp_list, ↓wp_tuple, ↓wp_sorted, ↓wp_slS, ↓wp_slT, ↓wp_slLD, ↓wp_slC, ↓wp_slL, ↓wp_range1, ↓wp_range2, ↓wp_enum, ↓wp_enumT, ↓wp_zip, ↓wp_zipTT, ↓wp_zipTL, ↓wp_zipLT, ↓wp_cat, ↓wp_rep, ↓wp_inSg, ↓wp_notInSg, ↓wp_inL, ↓wp_inT, ↓wp_notIn, ↓wp_isN, ↓wp_notN, tt1, tt2, tt3, tt4, tt5, tt6, tu1, tu2, tu3, tu4, tu5, tu6, tu7, tu8, tu9, tu10, tu11, tu12, tu13, tu14, tu15, tu16, tu17, tu18, tu19, tu20, tu21, tu22, tu23, tu24, asB_bl, truD_non, truD_bl, truD_int, truD_str, truD_lst, truD_tup, asI_int, asS_str, items_lst, items_tup, items_str, valS_v, valB_v, valB_own, seqD_lst, seqD_tup, seqD_cell0, lstD_lst, lstD_cell0, cellL_0, own_lst, nonB_non, nonB_bl, nonB_int, nonB_str, nonB_lst, nonB_tup, nonB_cell, nonB_obj, bools_nil, bools_cons, ints_nil, ints_cons, eqD_ii, eqD_bb, eqD_ss, eqD_nn, eqD_ni, eqD_in, eqD_nb, eqD_bn, eqD_ns, eqD_sn, eqD_is, eqD_si, eqD_bs, eqD_sb, tag_non, tag_bl, tag_int, tag_str, tag_lst, tag_tup, tag_obj, bindP_nm, bindP_tp, bindPs_nil, bindPs_cons, ↓wp_get, ↓wp_meth, ↓wp_prop, ↓ws_setF, ↓wp_mk, ↓wp_own, ↓wp_kd, ↓wp_methK, ↓wp_ownNe, ↓wp_own1, ↓wp_ownT, ↓wp_fstr, ↓wp_fFn, ↓wp_fFc, ↓wp_fmtS, ↓wp_fmtI, kok_len, kok_repr, kok_bool, eqD_tt, eqD_ll, plB_non, plB_bl, plB_int, plB_str, plB_lst, plB_tup, eqBs_nn, eqBs_cc, eqBs_nc, eqBs_cn, eqB_ii, eqB_bb, eqB_ss, eqB_nn, eqB_ll, eqB_tt, eqB_ni, eqB_in, eqB_nt, eqB_tn, eqB_it, eqB_ti, ↓wp_addT, ↓wp_addL, ↓wp_mulL, objD_obj, objD_last, cellO_last, set_last, isO_obj, isO_last, putD_nil, putD_cons, lkp_nil, lkp_cons, belF_nil, belF_cons, ↓wp_compN, ↓wp_compC, rng_0, rng_1, rng_2, rng_3, enL_nil, enL_cons, zpL_nil, zpL_nilR, zpL_cons, ↓wp_maxL, ↓wp_minL, maxL_2, maxL_1, minL_2, minL_1, EG.runs, EG.run, ev, evs, evo, evr, evf, mkE, mkL, failL, bopF, copF, bltF, lbltF, env0, wipeE, isiAny, isi1, frzS, Cell.toD, atI_nn, setAt_nn, wp_inSg, Gam.put, clsTab, arrQ, arrP, Pick.of, kwM, rightB, E00, List.map_cons, List.map_nil, List.length_cons, List.length_nil, List.append_nil, List.nil_append, List.cons_append, List.getElem?_cons_zero, List.getElem?_cons_succ, List.getElem?_nil, List.set_cons_zero, List.set_cons_succ, List.filter_cons, List.filter_nil, List.contains_nil, List.elem_nil, Int.reduceNeg, Int.reducePow, nA10, nA2, le_big, Nat.reducePow, Nat.zero_add, Option.map_some, Option.bind_some, Int.reduceLE, Int.reduceToNat, Int.reduceLT, Nat.reduceLT, Nat.reduceAdd, Nat.reduceSub, true_and, and_true, decide_true, decide_false, List.length_append, List.length_map, Nat.reduceLeDiff, Nat.reduceEqDiff, Bool.not_true, Bool.not_false, decide_eq_true_eq, reduceCtorEq, Option.some.injEq, id_eq, List.all_cons, List.all_nil, List.any_cons, List.any_nil, Bool.and_true, Bool.true_and, Bool.and_false, Bool.false_and, Bool.or_true, Bool.or_false, Bool.true_or, Bool.false_or, Int.reduceAdd, Int.reduceSub, beq_self_eq_true, Option.isNone_none, Option.isNone_some, if_true, if_false, ite_true, ite_false, Nat.succ_eq_add_one, Int.natCast_add, Int.natCast_one, Int.cast_ofNat_Int, List.replicate, Int.natCast_zero, Int.zero_add]
          exact ⟨okMul_r (by omega) (by omega), okMul_r (by omega) (by omega), okMul_r (by omega) (by omega), okMul_r (by omega) (by omega), hs, fin2 (by omega) (by omega)⟩
    · simp only [↓br_true, ↓br_false, ↓op_some, ↓wp_bind, ↓wp_pure, ↓wp_fail, ↓wp_opt, ↓wp_guard, ↓wp_v, ↓wp_vB, ↓wp_c, ↓wp_op2, ↓wp_op2L, ↓wp_t, ↓wp_tru, ↓wp_chain, ↓wp_andT, ↓wp_orT, ↓wp_notT, ↓wp_andV, ↓wp_orV, ↓wp_notV, ↓wp_if, ↓wp_nil, ↓wp_cons, ↓wp_tup, ↓wp_lst, ↓wp_D, ↓wp_cb, ↓wp_call, ↓wp_isi, ↓wp_neg, ↓wp_sl, ↓wp_noP, ↓wp_P, ↓wp_yes, ↓wp_items, ↓wp_signs, ↓wp_comp, ↓ws_seq, ↓thn_nx, ↓thn_rt, ↓thn_br, ↓thn_ct, ↓thn_exc, ↓ws_skip, ↓ws_break, ↓ws_cont, ↓ws_retN, ↓ws_set, ↓ws_own, ↓ws_ret, ↓ws_drop, ↓ws_if, ↓ws_asg, ↓ws_par, ↓ws_setC, ↓wp_newc, ↓ws_app, ↓ws_ext, ↓ws_setI, ↓ws_frz, ↓ws_for, ↓wl_nil, ↓wl_cons, ↓wf_run, ↓retS_nx, ↓retS_rt, ↓lpS_nx, ↓lpS_ct, ↓lpS_br, ↓lpS_rt, ↓turn_nx, ↓turn_ct, ↓turn_br, ↓turn_rt, ↓wp_addI, ↓wp_addS, ↓wp_subI, ↓wp_mulI, ↓wp_divI, ↓wp_modI, ↓wp_powI, ↓wp_cmpI, ↓wp_eq, ↓wp_ne, ↓wp_negI, ↓wp_seqE, ↓wp_lstE, ↓wp_ixL, ↓wp_ixT, ↓wp_ixC, ↓wp_ixS, ↓wp_lenS, ↓wp_lenL, ↓wp_lenT, ↓wp_lenC, ↓wp_absI, ↓wp_intI, ↓wp_intB, ↓wp_intS, ↓wp_strI, ↓wp_boolI, ↓wp_boolB, ↓wp_all, ↓wp_any, ↓wp_sum, ↓wp_max2, ↓wp_min2, ↓wp_list, ↓wp_tuple, ↓wp_sorted, ↓wp_slS, ↓wp_slT, ↓wp_slLD, ↓wp_slC, ↓wp_slL, ↓wp_range1, ↓wp_range2, ↓wp_enum, ↓wp_enumT, ↓wp_zip, ↓wp_zipTT, ↓wp_zipTL, ↓wp_zipLT, ↓wp_cat, ↓wp_rep, ↓wp_inSg, ↓wp_notInSg, ↓wp_inL, ↓wp_inT, ↓wp_notIn, ↓wp_isN, ↓wp_notN, tt1, tt2, tt3, tt4, tt5, tt6, tu1, tu2, tu3, tu4, tu5, tu6, tu7, tu8, tu9, tu10, tu11, tu12, tu13, tu14, tu15, tu16, tu17, tu18, tu19, tu20, tu21, tu22, tu23, tu24, asB_bl, truD_non, truD_bl, truD_int, truD_str, truD_lst, truD_tup, asI_int, asS_str, items_lst, items_tup, items_str, valS_v, valB_v, valB_own, seqD_lst, seqD_tup, seqD_cell0, lstD_lst, lstD_cell0, cellL_0, own_lst, nonB_non, nonB_bl, nonB_int, nonB_str, nonB_lst, nonB_tup, nonB_cell, nonB_obj, bools_nil, bools_cons, ints_nil, ints_cons, eqD_ii, eqD_bb, eqD_ss, eqD_nn, eqD_ni, eqD_in, eqD_nb, eqD_bn, eqD_ns, eqD_sn, eqD_is, eqD_si, eqD_bs, eqD_sb, tag_non, tag_bl, tag_int, tag_str, tag_lst, tag_tup, tag_obj, bindP_nm, bindP_tp, bindPs_nil, bindPs_cons, ↓wp_get, ↓wp_meth, ↓wp_prop, ↓ws_setF, ↓wp_mk, ↓wp_own, ↓wp_kd, ↓wp_methK, ↓wp_ownNe, ↓wp_own1, ↓wp_ownT, ↓wp_fstr, ↓wp_fFn, ↓wp_fFc, ↓wp_fmtS, ↓wp_fmtI, kok_len, kok_repr, kok_bool, eqD_tt, eqD_ll, plB_non, plB_bl, plB_int, plB_str, plB_lst, plB_tup, eqBs_nn, eqBs_cc, eqBs_nc, eqBs_cn, eqB_ii, eqB_bb, eqB_ss, eqB_nn, eqB_ll, eqB_tt, eqB_ni, eqB_in, eqB_nt, eqB_tn, eqB_it, eqB_ti, ↓wp_addT, ↓wp_addL, ↓wp_mulL, objD_obj, objD_last, cellO_last, set_last, isO_obj, isO_last, putD_nil, putD_cons, lkp_nil, lkp_cons, belF_nil, belF_cons, ↓wp_compN, ↓wp_compC, rng_0, rng_1, rng_2, rng_3, enL_nil, enL_cons, zpL_nil, zpL_nilR, zpL_cons, ↓wp_maxL, ↓wp_minL, maxL_2, maxL_1, minL_2, minL_1, EG.runs, EG.run, ev, evs, evo, evr, evf, mkE, mkL, failL, bopF, copF, bltF, lbltF, env0, wipeE, isiAny, isi1, frzS, Cell.toD, atI_nn, setAt_nn, wp_inSg, Gam.put, clsTab, arrQ, arrP, Pick.of, kwM, rightB, E00, List.map_cons, List.map_nil, List.length_cons, List.length_nil, List.append_nil, List.nil_append, List.cons_append, List.getElem?_cons_zero, List.getElem?_cons_succ, List.getElem?_nil, List.set_cons_zero, List.set_cons_succ, List.filter_cons, List.filter_nil, List.contains_nil, List.elem_nil, Int.reduceNeg, Int.reducePow, nA10, nA2, le_big, Nat.reducePow, Nat.zero_add, Option.map_some, Option.bind_some, Int.reduceLE, Int.reduceToNat, Int.reduceLT, Nat.reduceLT, Nat.reduceAdd, Nat.reduceSub, true_and, and_true, decide_true, decide_false, List.length_append, List.length_map, Nat.reduceLeDiff, Nat.reduceEqDiff, Bool.not_true, Bool.not_false, decide_eq_true_eq, reduceCtorEq, Option.some.injEq, id_eq, List.all_cons, List.all_nil, List.any_cons, List.any_nil, Bool.and_true, Bool.true_and, Bool.and_false, Bool.false_and, Bool.or_true, Bool.or_false, Bool.true_or, Bool.false_or, Int.reduceAdd, Int.reduceSub, beq_self_eq_true, Option.isNone_none, Option.isNone_some, if_true, if_false, ite_true, ite_false, Nat.succ_eq_add_one, Int.natCast_add, Int.natCast_one, Int.cast_ofNat_Int, List.replicate, Int.natCast_zero, Int.zero_add]
      refine br_cases (fun e4 => ?_) (fun e4 => ?_)
      · have e := of_decide_eq_true e
        have e4 := of_decide_eq_true e4
        omega
      · simp only [↓br_true, ↓br_false, ↓op_some, ↓wp_bind, ↓wp_pure, ↓wp_fail, ↓wp_opt, ↓wp_guard, ↓wp_v, ↓wp_vB, ↓wp_c, ↓wp_op2, ↓wp_op2L, ↓wp_t, ↓wp_tru, ↓wp_chain, ↓wp_andT, ↓wp_orT, ↓wp_notT, ↓wp_andV, ↓wp_orV, ↓wp_notV, ↓wp_if, ↓wp_nil, ↓wp_cons, ↓wp_tup, ↓wp_lst, ↓wp_D, ↓wp_cb, ↓wp_call, ↓wp_isi, ↓wp_neg, ↓wp_sl, ↓wp_noP, ↓wp_P, ↓wp_yes, ↓wp_items, ↓wp_signs, ↓wp_comp, ↓ws_seq, ↓thn_nx, ↓thn_rt, ↓thn_br, ↓thn_ct, ↓thn_exc, ↓ws_skip, ↓ws_break, ↓ws_cont, ↓ws_retN, ↓ws_set, ↓ws_own, ↓ws_ret, ↓ws_drop, ↓ws_if, ↓ws_asg, ↓ws_par, ↓ws_setC, ↓wp_newc, ↓ws_app, ↓ws_ext, ↓ws_setI, ↓ws_frz, ↓ws_for, ↓wl_nil, ↓wl_cons, ↓wf_run, ↓retS_nx, ↓retS_rt, ↓lpS_nx, ↓lpS_ct, ↓lpS_br, ↓lpS_rt, ↓turn_nx, ↓turn_ct, ↓turn_br, ↓turn_rt, ↓wp_addI, ↓wp_addS, ↓wp_subI, ↓wp_mulI, ↓wp_divI, ↓wp_modI, ↓wp_powI, ↓wp_cmpI, ↓wp_eq, ↓wp_ne, ↓wp_negI, ↓wp_seqE, ↓wp_lstE, ↓wp_ixL, ↓wp_ixT, ↓wp_ixC, ↓wp_ixS, ↓wp_lenS, ↓wp_lenL, ↓wp_lenT, ↓wp_lenC, ↓wp_absI, ↓wp_intI, ↓wp_intB, ↓wp_intS, ↓wp_strI, ↓wp_boolI, ↓wp_boolB, ↓wp_all, ↓wp_any, ↓wp_sum, ↓wp_max2, ↓wp_min2, ↓wp_list, ↓wp_tuple, ↓wp_sorted, ↓wp_slS, ↓wp_slT, ↓wp_slLD, ↓wp_slC, ↓wp_slL, ↓wp_range1, ↓wp_range2, ↓wp_enum, ↓wp_enumT, ↓wp_zip, ↓wp_zipTT, ↓wp_zipTL, ↓wp_zipLT, ↓wp_cat, ↓wp_rep, ↓wp_inSg, ↓wp_notInSg, ↓wp_inL, ↓wp_inT, ↓wp_notIn, ↓wp_isN, ↓wp_notN, tt1, tt2, tt3, tt4, tt5, tt6, tu1, tu2, tu3, tu4, tu5, tu6, tu7, tu8, tu9, tu10, tu11, tu12, tu13, tu14, tu15, tu16, tu17, tu18, tu19, tu20, tu21, tu22, tu23, tu24, asB_bl, truD_non, truD_bl, truD_int, truD_str, truD_lst, truD_tup, asI_int, asS_str, items_lst, items_tup, items_str, valS_v, valB_v, valB_own, seqD_lst, seqD_tup, seqD_cell0, lstD_lst, lstD_cell0, cellL_0, own_lst, nonB_non, nonB_bl, nonB_int, nonB_str, nonB_lst, nonB_tup, nonB_cell, nonB_obj, bools_nil, bools_cons, ints_nil, ints_cons, eqD_ii, eqD_bb, eqD_ss, eqD_nn, eqD_ni, eqD_in, eqD_nb, eqD_bn, eqD_ns, eqD_sn, eqD_is, eqD_si, eqD_bs, eqD_sb, tag_non, tag_bl, tag_int, tag_str, tag_lst, tag_tup, tag_obj, bindP_nm, bindP_tp, bindPs_nil, bindPs_cons, ↓wp_get, ↓wp_meth, ↓wp_prop, ↓ws_setF, ↓wp_mk, ↓wp_own, ↓wp_kd, ↓wp_methK, ↓wp_ownNe, ↓wp_own1, ↓wp_ownT, ↓wp_fstr, ↓wp_fFn, ↓wp_fFc, ↓wp_fmtS, ↓wp_fmtI, kok_len, kok_repr, kok_bool, eqD_tt, eqD_ll, plB_non, plB_bl, plB_int, plB_str, plB_lst, plB_tup, eqBs_nn, eqBs_cc, eqBs_nc, eqBs_cn, eqB_ii, eqB_bb, eqB_ss, eqB_nn, eqB_ll, eqB_tt, eqB_ni, eqB_in, eqB_nt, eqB_tn, eqB_it, eqB_ti, ↓wp_addT, ↓wp_addL, ↓wp_mulL, objD_obj, objD_last, cellO_last, set_last, isO_obj, isO_last, putD_nil, putD_cons, lkp_nil, lkp_cons, belF_nil, belF_cons, ↓wp_compN, ↓wp_compC, rng_0, rng_1, rng_2, rng_3, enL_nil, enL_cons, zpL_nil, zpL_nilR, zpL_cons, ↓wp_maxL, ↓wp_minL, maxL_2, maxL_1, minL_2, minL_1, EG.runs, EG.run, ev, evs, evo, evr, evf, mkE, mkL, failL, bopF, copF, bltF, lbltF, env0, wipeE, isiAny, isi1, frzS, Cell.toD, atI_nn, setAt_nn, wp_inSg, Gam.put, clsTab, arrQ, arrP, Pick.of, kwM, rightB, E00, List.map_cons, List.map_nil, List.length_cons, List.length_nil, List.append_nil, List.nil_append, List.cons_append, List.getElem?_cons_zero, List.getElem?_cons_succ, List.getElem?_nil, List.set_cons_zero, List.set_cons_succ, List.filter_cons, List.filter_nil, List.contains_nil, List.elem_nil, Int.reduceNeg, Int.reducePow, nA10, nA2, le_big, Nat.reducePow, Nat.zero_add, Option.map_some, Option.bind_some, Int.reduceLE, Int.reduceToNat, Int.reduceLT, Nat.reduceLT, Nat.reduceAdd, Nat.reduceSub, true_and, and_true, decide_true, decide_false, List.length_append, List.length_map, Nat.reduceLeDiff, Nat.reduceEqDiff, Bool.not_true, Bool.not_false, decide_eq_true_eq, reduceCtorEq, Option.some.injEq, id_eq, List.all_cons, List.all_nil, List.any_cons, List.any_nil, Bool.and_true, Bool.true_and, Bool.and_false, Bool.false_and, Bool.or_true, Bool.or_false, Bool.true_or, Bool.false_or, Int.reduceAdd, Int.reduceSub, beq_self_eq_true, Option.isNone_none, Option.isNone_some, if_true, if_false, ite_true, ite_false, Nat.succ_eq_add_one, Int.natCast_add, Int.natCast_one, Int.cast_ofNat_Int, List.replicate, Int.natCast_zero, Int.zero_add]
        exact ⟨okMul_r (by omega) (by omega), okMul_r (by omega) (by omega), okMul_r (by omega) (by omega), okMul_r (by omega) (by omega), hs, fin2 (by omega) (by omega)⟩
  · have e := of_decide_eq_false e
    simp only [↓br_true, ↓br_false, ↓op_some, ↓wp_bind, ↓wp_pure, ↓wp_fail, ↓wp_opt, ↓wp_guard, ↓wp_v, ↓wp_vB, ↓wp_c, ↓wp_op2, ↓wp_op2L, ↓wp_t, ↓wp_tru, ↓wp_chain, ↓wp_andT, ↓wp_orT, ↓wp_notT, ↓wp_andV, ↓wp_orV, ↓wp_notV, ↓wp_if, ↓wp_nil, ↓wp_cons, ↓wp_tup, ↓wp_lst, ↓wp_D, ↓wp_cb, ↓wp_call, ↓wp_isi, ↓wp_neg, ↓wp_sl, ↓wp_noP, ↓wp_P, ↓wp_yes, ↓wp_items, ↓wp_signs, ↓wp_comp, ↓ws_seq, ↓thn_nx, ↓thn_rt, ↓thn_br, ↓thn_ct, ↓thn_exc, ↓ws_skip, ↓ws_break, ↓ws_cont, ↓ws_retN, ↓ws_set, ↓ws_own, ↓ws_ret, ↓ws_drop, ↓ws_if, ↓ws_asg, ↓ws_par, ↓ws_setC, ↓wp_newc, ↓ws_app, ↓ws_ext, ↓ws_setI, ↓ws_frz, ↓ws_for, ↓wl_nil, ↓wl_cons, ↓wf_run, ↓retS_nx, ↓retS_rt, ↓lpS_nx, ↓lpS_ct, ↓lpS_br, ↓lpS_rt, ↓turn_nx, ↓turn_ct, ↓turn_br, ↓turn_rt, ↓wp_addI, ↓wp_addS, ↓wp_subI, ↓wp_mulI, ↓wp_divI, ↓wp_modI, ↓wp_powI, ↓wp_cmpI, ↓wp_eq, ↓wp_ne, ↓wp_negI, ↓wp_seqE, ↓wp_lstE, ↓wp_ixL, ↓wp_ixT, ↓wp_ixC, ↓wp_ixS, ↓wp_lenS, ↓wp_lenL, ↓wp_lenT, ↓wp_lenC, ↓wp_absI, ↓wp_intI, ↓wp_intB, ↓wp_intS, ↓wp_strI, ↓wp_boolI, ↓wp_boolB, ↓wp_all, ↓wp_any, ↓wp_sum, ↓wp_max2, ↓wp_min2, ↓wp_list, ↓wp_tuple, ↓wp_sorted, ↓wp_slS, ↓wp_slT, ↓wp_slLD, ↓wp_slC, ↓wp_slL, ↓wp_range1, ↓wp_range2, ↓wp_enum, ↓wp_enumT, ↓wp_zip, ↓wp_zipTT, ↓wp_zipTL, ↓wp_zipLT, ↓wp_cat, ↓wp_rep, ↓wp_inSg, ↓wp_notInSg, ↓wp_inL, ↓wp_inT, ↓wp_notIn, ↓wp_isN, ↓wp_notN, tt1, tt2, tt3, tt4, tt5, tt6, tu1, tu2, tu3, tu4, tu5, tu6, tu7, tu8, tu9, tu10, tu11, tu12, tu13, tu14, tu15, tu16, tu17, tu18, tu19, tu20, tu21, tu22, tu23, tu24, asB_bl, truD_non, truD_bl, truD_int, truD_str, truD_lst, truD_tup, asI_int, asS_str, items_lst, items_tup, items_str, valS_v, valB_v, valB_own, seqD_lst, seqD_tup, seqD_cell0, lstD_lst, lstD_cell0, cellL_0, own_lst, nonB_non, nonB_bl, nonB_int, nonB_str, nonB_lst, nonB_tup, nonB_cell, nonB_obj, bools_nil, bools_cons, ints_nil, ints_cons, eqD_ii, eqD_bb, eqD_ss, eqD_nn, eqD_ni, eqD_in, eqD_nb, eqD_bn, eqD_ns, eqD_sn, eqD_is, eqD_si, eqD_bs, eqD_sb, tag_non, tag_bl, tag_int, tag_str, tag_lst, tag_tup, tag_obj, bindP_nm, bindP_tp, bindPs_nil, bindPs_cons, ↓wp_get, ↓wp_meth, ↓wp_prop, ↓ws_setF, ↓wp_mk, ↓wp_own, ↓wp_kd, ↓wp_methK, ↓wp_ownNe, ↓wp_own1, ↓wp_ownT, ↓wp_fstr, ↓wp_fFn, ↓wp_fFc, ↓wp_fmtS, ↓wp_fmtI, kok_len, kok_repr, kok_bool, eqD_tt, eqD_ll, plB_non, plB_bl, plB_int, plB_str, plB_lst, plB_tup, eqBs_nn, eqBs_cc, eqBs_nc, eqBs_cn, eqB_ii, eqB_bb, eqB_ss, eqB_nn, eqB_ll, eqB_tt, eqB_ni, eqB_in, eqB_nt, eqB_tn, eqB_it, eqB_ti, ↓wp_addT, ↓wp_addL, ↓wp_mulL, objD_obj, objD_last, cellO_last, set_last, isO_obj, isO_last, putD_nil, putD_cons, lkp_nil, lkp_cons, belF_nil, belF_cons, ↓wp_compN, ↓wp_compC, rng_0, rng_1, rng_2, rng_3, enL_nil, enL_cons, zpL_nil, zpL_nilR, zpL_cons, ↓wp_maxL, ↓wp_minL, maxL_2, maxL_1, minL_2, minL_1, EG.runs, EG.run, ev, evs, evo, evr, evf, mkE, mkL, failL, bopF, copF, bltF, lbltF, env0, wipeE, isiAny, isi1, frzS, Cell.toD, atI_nn, setAt_nn, wp_inSg, Gam.put, clsTab, arrQ, arrP, Pick.of, kwM, rightB, E00, List.map_cons, List.map_nil, List.length_cons, List.length_nil, List.append_nil, List.nil_append, List.cons_append, List.getElem?_cons_zero, List.getElem?_cons_succ, List.getElem?_nil, List.set_cons_zero, List.set_cons_succ, List.filter_cons, List.filter_nil, List.contains_nil, List.elem_nil, Int.reduceNeg, Int.reducePow, nA10, nA2, le_big, Nat.reducePow, Nat.zero_add, Option.map_some, Option.bind_some, Int.reduceLE, Int.reduceToNat, Int.reduceLT, Nat.reduceLT, Nat.reduceAdd, Nat.reduceSub, true_and, and_true, decide_true, decide_false, List.length_append, List.length_map, Nat.reduceLeDiff, Nat.reduceEqDiff, Bool.not_true, Bool.not_false, decide_eq_true_eq, reduceCtorEq, Option.some.injEq, id_eq, List.all_cons, List.all_nil, List.any_cons, List.any_nil, Bool.and_true, Bool.true_and, Bool.and_false, Bool.false_and, Bool.or_true, Bool.or_false, Bool.true_or, Bool.false_or, Int.reduceAdd, Int.reduceSub, beq_self_eq_true, Option.isNone_none, Option.isNone_some, if_true, if_false, ite_true, ite_false, Nat.succ_eq_add_one, Int.natCast_add, Int.natCast_one, Int.cast_ofNat_Int, List.replicate, Int.natCast_zero, Int.zero_add]
    refine br_cases (fun e4 => ?_) (fun e4 => ?_)
    · have e4 := of_decide_eq_true e4
      simp only [↓br_true, ↓br_false, ↓op_some, ↓wp_bind, ↓wp_pure, ↓wp_fail, ↓wp_opt, ↓wp_guard, ↓wp_v, ↓wp_vB, ↓wp_c, ↓wp_op2, ↓wp_op2L, ↓wp_t, ↓wp_tru, ↓wp_chain, ↓wp_andT, ↓wp_orT, ↓wp_notT, ↓wp_andV, ↓wp_orV, ↓wp_notV, ↓wp_if, ↓wp_nil, ↓wp_cons, ↓wp_tup, ↓wp_lst, ↓wp_D, ↓wp_cb, ↓wp_call, ↓wp_isi, ↓wp_neg, ↓wp_sl, ↓wp_noP, ↓wp_P, ↓wp_yes, ↓wp_items, ↓wp_signs, ↓wp_comp, ↓ws_seq, ↓thn_nx, ↓thn_rt, ↓thn_br, ↓thn_ct, ↓thn_exc, ↓ws_skip, ↓ws_break, ↓ws_cont, ↓ws_retN, ↓ws_set, ↓ws_own, ↓ws_ret, ↓ws_drop, ↓ws_if, ↓ws_asg, ↓ws_par, ↓ws_setC, ↓wp_newc, ↓ws_app, ↓ws_ext, ↓ws_setI, ↓ws_frz, ↓ws_for, ↓wl_nil, ↓wl_cons, ↓wf_run, ↓retS_nx, ↓retS_rt, ↓lpS_nx, ↓lpS_ct, ↓lpS_br, ↓lpS_rt, ↓turn_nx, ↓turn_ct, ↓turn_br, ↓turn_rt, ↓wp_addI, ↓wp_addS, ↓wp_subI, ↓wp_mulI, ↓wp_divI, ↓wp_modI, ↓wp_powI, ↓wp_cmpI, ↓wp_eq, ↓wp_ne, ↓wp_negI, ↓wp_seqE, ↓wp_lstE, ↓wp_ixL, ↓wp_ixT, ↓wp_ixC, ↓wp_ixS, ↓wp_lenS, ↓wp_lenL, ↓wp_lenT, ↓wp_lenC, ↓wp_absI, ↓wp_intI, ↓wp_intB, ↓wp_intS, ↓wp_strI, ↓wp_boolI, ↓wp_boolB, ↓wp_all, ↓wp_any, ↓wp_sum, ↓wp_max2, ↓wp_min2, ↓wp_list, ↓wp_tuple, ↓wp_sorted, ↓wp_slS, ↓wp_slT, ↓wp_slLD, ↓wp_slC, ↓wp_slL, ↓wp_range1, ↓wp_range2, ↓wp_enum, ↓wp_enumT, ↓wp_zip, ↓wp_zipTT, ↓wp_zipTL, ↓wp_zipLT, ↓wp_cat, ↓wp_rep, ↓wp_inSg, ↓wp_notInSg, ↓wp_inL, ↓wp_inT, ↓wp_notIn, ↓wp_isN, ↓wp_notN, tt1, tt2, tt3, tt4, tt5, tt6, tu1, tu2, tu3, tu4, tu5, tu6, tu7, tu8, tu9, tu10, tu11, tu12, tu13, tu14, tu15, tu16, tu17, tu18, tu19, tu20, tu21, tu22, tu23, tu24, asB_bl, truD_non, truD_bl, truD_int, truD_str, truD_lst, truD_tup, asI_int, asS_str, items_lst, items_tup, items_str, valS_v, valB_v, valB_own, seqD_lst, seqD_tup, seqD_cell0, lstD_lst, lstD_cell0, cellL_0, own_lst, nonB_non, nonB_bl, nonB_int, nonB_str, nonB_lst, nonB_tup, nonB_cell, nonB_obj, bools_nil, bools_cons, ints_nil, ints_cons, eqD_ii, eqD_bb, eqD_ss, eqD_nn, eqD_ni, eqD_in, eqD_nb, eqD_bn, eqD_ns, eqD_sn, eqD_is, eqD_si, eqD_bs, eqD_sb, tag_non, tag_bl, tag_int, tag_str, tag_lst, tag_tup, tag_obj, bindP_nm, bindP_tp, bindPs_nil, bindPs_cons, ↓wp_get, ↓wp_meth, ↓wp_prop, ↓ws_setF, ↓wp_mk, ↓wp_own, ↓wp_kd, ↓wp_methK, ↓wp_ownNe, ↓wp_own1, ↓wp_ownT, ↓wp_fstr, ↓wp_fFn, ↓wp_fFc, ↓wp_fmtS, ↓wp_fmtI, kok_len, kok_repr, kok_bool, eqD_tt, eqD_ll, plB_non, plB_bl, plB_int, plB_str, plB_lst, plB_tup, eqBs_nn, eqBs_cc, eqBs_nc, eqBs_cn, eqB_ii, eqB_bb, eqB_ss, eqB_nn, eqB_ll, eqB_tt, eqB_ni, eqB_in, eqB_nt, eqB_tn, eqB_it, eqB_ti, ↓wp_addT, ↓wp_addL, ↓wp_mulL, objD_obj, objD_last, cellO_last, set_last, isO_obj, isO_last, putD_nil, putD_cons, lkp_nil, lkp_cons, belF_nil, belF_cons, ↓wp_compN, ↓wp_compC, rng_0, rng_1, rng_2, rng_3, enL_nil, enL_cons, zpL_nil, zpL_nilR, zpL_cons, ↓wp_maxL, ↓wp_minL, maxL_2, maxL_1, minL_2, minL_1, EG.runs, EG.run, ev, evs, evo, evr, evf, mkE, mkL, failL, bopF, copF, bltF, lbltF, env0, wipeE, isiAny, isi1, frzS, Cell.toD, atI_nn, setAt_nn, wp_inSg, Gam.put, clsTab, arrQ, arrP, Pick.of, kwM, rightB, E00, List.map_cons, List.map_nil, List.length_cons, List.length_nil, List.append_nil, List.nil_append, List.cons_append, List.getElem?_cons_zero, List.getElem?_cons_succ, List.getElem?_nil, List.set_cons_zero, List.set_cons_succ, List.filter_cons, List.filter_nil, List.contains_nil, List.elem_nil, Int.reduceNeg, Int.reducePow, nA10, nA2, le_big, Nat.reducePow, Nat.zero_add, Option.map_some, Option.bind_some, Int.reduceLE, Int.reduceToNat, Int.reduceLT, Nat.reduceLT, Nat.reduceAdd, Nat.reduceSub, true_and, and_true, decide_true, decide_false, List.length_append, List.length_map, Nat.reduceLeDiff, Nat.reduceEqDiff, Bool.not_true, Bool.not_false, decide_eq_true_eq, reduceCtorEq, Option.some.injEq, id_eq, List.all_cons, List.all_nil, List.any_cons, List.any_nil, Bool.and_true, Bool.true_and, Bool.and_false, Bool.false_and, Bool.or_true, Bool.or_false, Bool.true_or, Bool.false_or, Int.reduceAdd, Int.reduceSub, beq_self_eq_true, Option.isNone_none, Option.isNone_some, if_true, if_false, ite_true, ite_false, Nat.succ_eq_add_one, Int.natCast_add, Int.natCast_one, Int.cast_ofNat_Int, List.replicate, Int.natCast_zero, Int.zero_add]
      exact ⟨hs, ⟨hs, hs2⟩, fin1 (by omega) e4 h3 h4⟩
    · have e4 := of_decide_eq_false e4
      omega
/-- a thing out of a list -/
theorem of_spec {xs : List D} {lv : Nat} {F : Fn} (hF : F = runF 5 (runs Γ B_pull)) {Γ' : Gam} (hΓ : Γ'.fns[0]? = some ⟨"_law_pull", 2, F, lv, []⟩) (hb : BagOk b) (h0 : xs ≠ []) (hl : xs.length ≤ 100000) (hq : ∀ d b', d ∈ xs → BagOk b' → Q d (b' :: μ)) : Wf (runF 2 (runs Γ' B_of)) [.cell 0, .lst xs] (b :: μ) Q E := by
  have hp : 0 < xs.length := List.length_pos_iff.mpr h0
  unfold B_of
  simp only [↓br_true, ↓br_false, ↓op_some, ↓wp_bind, ↓wp_pure, ↓wp_fail, ↓wp_opt, ↓wp_guard, ↓wp_v, ↓wp_vB, ↓wp_c, ↓wp_op2, ↓wp_op2L, ↓wp_t, ↓wp_tru, ↓wp_chain, ↓wp_andT, ↓wp_orT, ↓wp_notT, ↓wp_andV, ↓wp_orV, ↓wp_notV, ↓wp_if, ↓wp_nil, ↓wp_cons, ↓wp_tup, ↓wp_lst, ↓wp_D, ↓wp_cb, ↓wp_call, ↓wp_isi, ↓wp_neg, ↓wp_sl, ↓wp_noP, ↓wp_P, ↓wp_yes, ↓wp_items, ↓wp_signs, ↓wp_comp, ↓ws_seq, ↓thn_nx, ↓thn_rt, ↓thn_br, ↓thn_ct, ↓thn_exc, ↓ws_skip, ↓ws_break, ↓ws_cont, ↓ws_retN, ↓ws_set, ↓ws_own, ↓ws_ret, ↓ws_drop, ↓ws_if, ↓ws_asg, ↓ws_par, ↓ws_setC, ↓wp_newc, ↓ws_app, ↓ws_ext, ↓ws_setI, ↓ws_frz, ↓ws_for, ↓wl_nil, ↓wl_cons, ↓wf_run, ↓retS_nx, ↓retS_rt, ↓lpS_nx, ↓lpS_ct, ↓lpS_br, ↓lpS_rt, ↓turn_nx, ↓turn_ct, ↓turn_br, ↓turn_rt, ↓wp_addI, ↓wp_addS, ↓wp_subI, ↓wp_mulI, ↓wp_divI, ↓wp_modI, ↓wp_powI, ↓wp_cmpI, ↓wp_eq, ↓wp_ne, ↓wp_negI, ↓wp_seqE, ↓wp_lstE, ↓wp_ixL, ↓wp_ixT, ↓wp_ixC, ↓wp_ixS, ↓wp_lenS, ↓wp_lenL, ↓wp_lenT, ↓wp_lenC, ↓wp_absI, ↓wp_intI, ↓wp_intB, ↓wp_intS, ↓wp_strI, ↓wp_boolI, ↓wp_boolB, ↓wp_all, ↓wp_any, ↓wp_sum, ↓wp_max2, ↓wp_min2, ↓wp_list, ↓wp_tuple, ↓wp_sorted, ↓wp_slS, ↓wp_slT, ↓wp_slLD, ↓wp_slC, ↓wp_slL, ↓wp_range1, ↓wp_range2, ↓wp_enum, ↓wp_enumT, ↓wp_zip, ↓wp_zipTT, ↓wp_zipTL, ↓wp_zipLT, ↓wp_cat, ↓wp_rep, ↓wp_inSg, ↓wp_notInSg, ↓wp_inL, ↓wp_inT, ↓wp_notIn, ↓wp_isN, ↓wp_notN, tt1, tt2, tt3, tt4, tt5, tt6, tu1, tu2, tu3, tu4, tu5, tu6, tu7, tu8, tu9, tu10, tu11, tu12, tu13, tu14, tu15, tu16, tu17, tu18, tu19, tu20, tu21, tu22, tu23, tu24, asB_bl, truD_non, truD_bl, truD_int, truD_str, truD_lst, truD_tup, asI_int, asS_str, items_lst, items_tup, items_str, valS_v, valB_v, valB_own, seqD_lst, seqD_tup, seqD_cell0, lstD_lst, lstD_cell0, cellL_0, own_lst, nonB_non, nonB_bl, nonB_int, nonB_str, nonB_lst, nonB_tup, nonB_cell, nonB_obj, bools_nil, bools_cons, ints_nil, ints_cons, eqD_ii, eqD_bb, eqD_ss, eqD_nn, eqD_ni, eqD_in, eqD_nb, eqD_bn, eqD_ns, eqD_sn, eqD_is, eqD_si, eqD_bs, eqD_sb, tag_non, tag_bl, tag_int, tag_str, tag_lst, tag_tup, tag_obj, bindP_nm, bindP_tp, bindPs_nil, bindPs_cons, ↓wp_get, ↓wp_meth, ↓wp_prop, ↓ws_setF, ↓wp_mk, ↓wp_own, ↓wp_kd, ↓wp_methK, ↓wp_ownNe, ↓wp_own1, ↓wp_ownT, ↓wp_fstr, ↓wp_fFn, ↓wp_fFc, ↓wp_fmtS, ↓wp_fmtI, kok_len, kok_repr, kok_bool, eqD_tt, eqD_ll, plB_non, plB_bl, plB_int, plB_str, plB_lst, plB_tup, eqBs_nn, eqBs_cc, eqBs_nc, eqBs_cn, eqB_ii, eqB_bb, eqB_ss, eqB_nn, eqB_ll, eqB_tt, eqB_ni, eqB_in, eqB_nt, eqB_tn, eqB_it, eqB_ti, ↓wp_addT, ↓wp_addL, ↓wp_mulL, objD_obj, objD_last, cellO_last, set_last, isO_obj, isO_last, putD_nil, putD_cons, lkp_nil, lkp_cons, belF_nil, belF_cons, ↓wp_compN, ↓wp_compC, rng_0, rng_1, rng_2, rng_3, enL_nil, enL_cons, zpL_nil, zpL_nilR, zpL_cons, ↓wp_maxL, ↓wp_minL, maxL_2, maxL_1, minL_2, minL_1, EG.runs, EG.run, ev, evs, evo, evr, evf, mkE, mkL, failL, bopF, copF, bltF, lbltF, env0, wipeE, isiAny, isi1, frzS, Cell.toD, atI_nn, setAt_nn, wp_inSg, Gam.put, clsTab, arrQ, arrP, Pick.of, kwM, rightB, E00, List.map_cons, List.map_nil, List.length_cons, List.length_nil, List.append_nil, List.nil_append, List.cons_append, List.getElem?_cons_zero, List.getElem?_cons_succ, List.getElem?_nil, List.set_cons_zero, List.set_cons_succ, List.filter_cons, List.filter_nil, List.contains_nil, List.elem_nil, Int.reduceNeg, Int.reducePow, nA10, nA2, le_big, Nat.reducePow, Nat.zero_add, Option.map_some, Option.bind_some, Int.reduceLE, Int.reduceToNat, Int.reduceLT, Nat.reduceLT, Nat.reduceAdd, Nat.reduceSub, true_and, and_true, decide_true, decide_false, List.length_append, List.length_map, Nat.reduceLeDiff, Nat.reduceEqDiff, Bool.not_true, Bool.not_false, decide_eq_true_eq, reduceCtorEq, Option.some.injEq, id_eq, List.all_cons, List.all_nil, List.any_cons, List.any_nil, Bool.and_true, Bool.true_and, Bool.and_false, Bool.false_and, Bool.or_true, Bool.or_false, Bool.true_or, Bool.false_or, Int.reduceAdd, Int.reduceSub, beq_self_eq_true, Option.isNone_none, Option.isNone_some, if_true, if_false, ite_true, ite_false, Nat.succ_eq_add_one, Int.natCast_add, Int.natCast_one, Int.cast_ofNat_Int, List.replicate, Int.natCast_zero, Int.zero_add, hΓ]
  subst hF
  refine pull_spec (s := xs.length) hb (by omega) (by omega) fun r b' r1 r2 hb' => ?_
  have hlt : r.toNat < xs.length := by omega
  simp only [↓br_true, ↓br_false, ↓op_some, ↓wp_bind, ↓wp_pure, ↓wp_fail, ↓wp_opt, ↓wp_guard, ↓wp_v, ↓wp_vB, ↓wp_c, ↓wp_op2, ↓wp_op2L, ↓wp_t, ↓wp_tru, ↓wp_chain, ↓wp_andT, ↓wp_orT, ↓wp_notT, ↓wp_andV, ↓wp_orV, ↓wp_notV, ↓wp_if, ↓wp_nil, ↓wp_cons, ↓wp_tup, ↓wp_lst, ↓wp_D, ↓wp_cb, ↓wp_call, ↓wp_isi, ↓wp_neg, ↓wp_sl, ↓wp_noP, ↓wp_P, ↓wp_yes, ↓wp_items, ↓wp_signs, ↓wp_comp, ↓ws_seq, ↓thn_nx, ↓thn_rt, ↓thn_br, ↓thn_ct, ↓thn_exc, ↓ws_skip, ↓ws_break, ↓ws_cont, ↓ws_retN, ↓ws_set, ↓ws_own, ↓ws_ret, ↓ws_drop, ↓ws_if, ↓ws_asg, ↓ws_par, ↓ws_setC, ↓wp_newc, ↓ws_app, ↓ws_ext, ↓ws_setI, ↓ws_frz, ↓ws_for, ↓wl_nil, ↓wl_cons, ↓wf_run, ↓retS_nx, ↓retS_rt, ↓lpS_nx, ↓lpS_ct, ↓lpS_br, ↓lpS_rt, ↓turn_nx, ↓turn_ct, ↓turn_br, ↓turn_rt, ↓wp_addI, ↓wp_addS, ↓wp_subI, ↓wp_mulI, ↓wp_divI, ↓wp_modI, ↓wp_powI, ↓wp_cmpI, ↓wp_eq, ↓wp_ne, ↓wp_negI, ↓wp_seqE, ↓wp_lstE, ↓wp_ixL, ↓wp_ixT, ↓wp_ixC, ↓wp_ixS, ↓wp_lenS, ↓wp_lenL, ↓wp_lenT, ↓wp_lenC, ↓wp_absI, ↓wp_intI, ↓wp_intB, ↓wp_intS, ↓wp_strI, ↓wp_boolI, ↓wp_boolB, ↓wp_all, ↓wp_any, ↓wp_sum, ↓wp_max2, ↓wp_min2, ↓wp_list, ↓wp_tuple, ↓wp_sorted, ↓wp_slS, ↓wp_slT, ↓wp_slLD, ↓wp_slC, ↓wp_slL, ↓wp_range1, ↓wp_range2, ↓wp_enum, ↓wp_enumT, ↓wp_zip, ↓wp_zipTT, ↓wp_zipTL, ↓wp_zipLT, ↓wp_cat, ↓wp_rep, ↓wp_inSg, ↓wp_notInSg, ↓wp_inL, ↓wp_inT, ↓wp_notIn, ↓wp_isN, ↓wp_notN, tt1, tt2, tt3, tt4, tt5, tt6, tu1, tu2, tu3, tu4, tu5, tu6, tu7, tu8, tu9, tu10, tu11, tu12, tu13, tu14, tu15, tu16, tu17, tu18, tu19, tu20, tu21, tu22, tu23, tu24, asB_bl, truD_non, truD_bl, truD_int, truD_str, truD_lst, truD_tup, asI_int, asS_str, items_lst, items_tup, items_str, valS_v, valB_v, valB_own, seqD_lst, seqD_tup, seqD_cell0, lstD_lst, lstD_cell0, cellL_0, own_lst, nonB_non, nonB_bl, nonB_int, nonB_str, nonB_lst, nonB_tup, nonB_cell, nonB_obj, bools_nil, bools_cons, ints_nil, ints_cons, eqD_ii, eqD_bb, eqD_ss, eqD_nn, eqD_ni, eqD_in, eqD_nb, eqD_bn, eqD_ns, eqD_sn, eqD_is, eqD_si, eqD_bs, eqD_sb, tag_non, tag_bl, tag_int, tag_str, tag_lst, tag_tup, tag_obj, bindP_nm, bindP_tp, bindPs_nil, bindPs_cons, ↓wp_get, ↓wp_meth, ↓wp_prop, ↓ws_setF, ↓wp_mk, ↓wp_own, ↓wp_kd, ↓wp_methK, ↓wp_ownNe, ↓wp_own1, ↓wp_ownT, ↓wp_fstr, ↓wp_fFn, ↓wp_fFc, ↓wp_fmtS, ↓wp_fmtI, kok_len, kok_repr, kok_bool, eqD_tt, eqD_ll, plB_non, plB_bl, plB_int, plB_str, plB_lst, plB_tup, eqBs_nn, eqBs_cc, eqBs_nc, eqBs_cn, eqB_ii, eqB_bb, eqB_ss, eqB_nn, eqB_ll, eqB_tt, eqB_ni, eqB_in, eqB_nt, eqB_tn, eqB_it, eqB_ti, ↓wp_addT, ↓wp_addL, ↓wp_mulL, objD_obj, objD_last, cellO_last, set_last, isO_obj, isO_last, putD_nil, putD_cons, lkp_nil, lkp_cons, belF_nil, belF_cons, ↓wp_compN, ↓wp_compC, rng_0, rng_1, rng_2, rng_3, enL_nil, enL_cons, zpL_nil, zpL_nilR, zpL_cons, ↓wp_maxL, ↓wp_minL, maxL_2, maxL_1, minL_2, minL_1, EG.runs, EG.run, ev, evs, evo, evr, evf, mkE, mkL, failL, bopF, copF, bltF, lbltF, env0, wipeE, isiAny, isi1, frzS, Cell.toD, atI_nn, setAt_nn, wp_inSg, Gam.put, clsTab, arrQ, arrP, Pick.of, kwM, rightB, E00, List.map_cons, List.map_nil, List.length_cons, List.length_nil, List.append_nil, List.nil_append, List.cons_append, List.getElem?_cons_zero, List.getElem?_cons_succ, List.getElem?_nil, List.set_cons_zero, List.set_cons_succ, List.filter_cons, List.filter_nil, List.contains_nil, List.elem_nil, Int.reduceNeg, Int.reducePow, nA10, nA2, le_big, Nat.reducePow, Nat.zero_add, Option.map_some, Option.bind_some, Int.reduceLE, Int.reduceToNat, Int.reduceLT, Nat.reduceLT, Nat.reduceAdd, Nat.reduceSub, true_and, and_true, decide_true, decide_false, List.length_append, List.length_map, Nat.reduceLeDiff, Nat.reduceEqDiff, Bool.not_true, Bool.not_false, decide_eq_true_eq, reduceCtorEq, Option.some.injEq, id_eq, List.all_cons, List.all_nil, List.any_cons, List.any_nil, Bool.and_true, Bool.true_and, Bool.and_false, Bool.false_and, Bool.or_true, Bool.or_false, Bool.true_or, Bool.false_or, Int.reduceAdd, Int.reduceSub, beq_self_eq_true, Option.isNone_none, Option.isNone_some, if_true, if_false, ite_true, ite_false, Nat.succ_eq_add_one, Int.natCast_add, Int.natCast_one, Int.cast_ofNat_Int, List.replicate, Int.natCast_zero, Int.zero_add, atI_nn r1, List.getElem?_eq_getElem hlt]
  exact hq _ _ (List.getElem_mem hlt) hb'
/-- the same as of a tuple -/
theorem of_specT {xs : List D} {lv : Nat} {F : Fn} (hF : F = runF 5 (runs Γ B_pull)) {Γ' : Gam} (hΓ : Γ'.fns[0]? = some ⟨"_law_pull", 2, F, lv, []⟩) (hb : BagOk b) (h0 : xs ≠ []) (hl : xs.length ≤ 100000) (hq : ∀ d b', d ∈ xs → BagOk b' → Q d (b' :: μ)) : Wf (runF 2 (runs Γ' B_of)) [.cell 0, .tup xs] (b :: μ) Q E := by
  have hp : 0 < xs.length := List.length_pos_iff.mpr h0
  unfold B_of
  simp only [↓br_true, ↓br_false, ↓op_some, ↓wp_bind, ↓wp_pure, ↓wp_fail, ↓wp_opt, ↓wp_guard, ↓wp_v, ↓wp_vB, ↓wp_c, ↓wp_op2, ↓wp_op2L, ↓wp_t, ↓wp_tru, ↓wp_chain, ↓wp_andT, ↓wp_orT, ↓wp_notT, ↓wp_andV, ↓wp_orV, ↓wp_notV, ↓wp_if, ↓wp_nil, ↓wp_cons, ↓wp_tup, ↓wp_lst, ↓wp_D, ↓wp_cb, ↓wp_call, ↓wp_isi, ↓wp_neg, ↓wp_sl, ↓wp_noP, ↓wp_P, ↓wp_yes, ↓wp_items, ↓wp_signs, ↓wp_comp, ↓ws_seq, ↓thn_nx, ↓thn_rt, ↓thn_br, ↓thn_ct, ↓thn_exc, ↓ws_skip, ↓ws_break, ↓ws_cont, ↓ws_retN, ↓ws_set, ↓ws_own, ↓ws_ret, ↓ws_drop, ↓ws_if, ↓ws_asg, ↓ws_par, ↓ws_setC, ↓wp_newc, ↓ws_app, ↓ws_ext, ↓ws_setI, ↓ws_frz, ↓ws_for, ↓wl_nil, ↓wl_cons, ↓wf_run, ↓retS_nx, ↓retS_rt, ↓lpS_nx, ↓lpS_ct, ↓lpS_br, ↓lpS_rt, ↓turn_nx, ↓turn_ct, ↓turn_br, ↓turn_rt, ↓wp_addI, ↓wp_addS, ↓wp_subI, ↓wp_mulI, ↓wp_divI, ↓wp_modI, ↓wp_powI, ↓wp_cmpI, ↓wp_eq, ↓wp_ne, ↓wp_negI, ↓wp_seqE, ↓wp_lstE, ↓wp_ixL, ↓wp_ixT, ↓wp_ixC, ↓wp_ixS, ↓wp_lenS, ↓wp_lenL, ↓wp_lenT, ↓wp_lenC, ↓wp_absI, ↓wp_intI, ↓wp_intB, ↓wp_intS, ↓wp_strI, ↓wp_boolI, ↓wp_boolB, ↓wp_all, ↓wp_any, ↓wp_sum, ↓wp_max2, ↓wp_min2, ↓wp_list, ↓wp_tuple, ↓wp_sorted, ↓wp_slS, ↓wp_slT, ↓wp_slLD, ↓wp_slC, ↓wp_slL, ↓wp_range1, ↓wp_range2, ↓wp_enum, ↓wp_enumT, ↓wp_zip, ↓wp_zipTT, ↓wp_zipTL, ↓wp_zipLT, ↓wp_cat, ↓wp_rep, ↓wp_inSg, ↓wp_notInSg, ↓wp_inL, ↓wp_inT, ↓wp_notIn, ↓wp_isN, ↓wp_notN, tt1, tt2, tt3, tt4, tt5, tt6, tu1, tu2, tu3, tu4, tu5, tu6, tu7, tu8, tu9, tu10, tu11, tu12, tu13, tu14, tu15, tu16, tu17, tu18, tu19, tu20, tu21, tu22, tu23, tu24, asB_bl, truD_non, truD_bl, truD_int, truD_str, truD_lst, truD_tup, asI_int, asS_str, items_lst, items_tup, items_str, valS_v, valB_v, valB_own, seqD_lst, seqD_tup, seqD_cell0, lstD_lst, lstD_cell0, cellL_0, own_lst, nonB_non, nonB_bl, nonB_int, nonB_str, nonB_lst, nonB_tup, nonB_cell, nonB_obj, bools_nil, bools_cons, ints_nil, ints_cons, eqD_ii, eqD_bb, eqD_ss, eqD_nn, eqD_ni, eqD_in, eqD_nb, eqD_bn, eqD_ns, eqD_sn, eqD_is, eqD_si, eqD_bs, eqD_sb, tag_non, tag_bl, tag_int, tag_str, tag_lst, tag_tup, tag_obj, bindP_nm, bindP_tp, bindPs_nil, bindPs_cons, ↓wp_get, ↓wp_meth, ↓wp_prop, ↓ws_setF, ↓wp_mk, ↓wp_own, ↓wp_kd, ↓wp_methK, ↓wp_ownNe, ↓wp_own1, ↓wp_ownT, ↓wp_fstr, ↓wp_fFn, ↓wp_fFc, ↓wp_fmtS, ↓wp_fmtI, kok_len, kok_repr, kok_bool, eqD_tt, eqD_ll, plB_non, plB_bl, plB_int, plB_str, plB_lst, plB_tup, eqBs_nn, eqBs_cc, eqBs_nc, eqBs_cn, eqB_ii, eqB_bb, eqB_ss, eqB_nn, eqB_ll, eqB_tt, eqB_ni, eqB_in, eqB_nt, eqB_tn, eqB_it, eqB_ti, ↓wp_addT, ↓wp_addL, ↓wp_mulL, objD_obj, objD_last, cellO_last, set_last, isO_obj, isO_last, putD_nil, putD_cons, lkp_nil, lkp_cons, belF_nil, belF_cons, ↓wp_compN, ↓wp_compC, rng_0, rng_1, rng_2, rng_3, enL_nil, enL_cons, zpL_nil, zpL_nilR, zpL_cons, ↓wp_maxL, ↓wp_minL, maxL_2, maxL_1, minL_2, minL_1, EG.runs, EG.run, ev, evs, evo, evr, evf, mkE, mkL, failL, bopF, copF, bltF, lbltF, env0, wipeE, isiAny, isi1, frzS, Cell.toD, atI_nn, setAt_nn, wp_inSg, Gam.put, clsTab, arrQ, arrP, Pick.of, kwM, rightB, E00, List.map_cons, List.map_nil, List.length_cons, List.length_nil, List.append_nil, List.nil_append, List.cons_append, List.getElem?_cons_zero, List.getElem?_cons_succ, List.getElem?_nil, List.set_cons_zero, List.set_cons_succ, List.filter_cons, List.filter_nil, List.contains_nil, List.elem_nil, Int.reduceNeg, Int.reducePow, nA10, nA2, le_big, Nat.reducePow, Nat.zero_add, Option.map_some, Option.bind_some, Int.reduceLE, Int.reduceToNat, Int.reduceLT, Nat.reduceLT, Nat.reduceAdd, Nat.reduceSub, true_and, and_true, decide_true, decide_false, List.length_append, List.length_map, Nat.reduceLeDiff, Nat.reduceEqDiff, Bool.not_true, Bool.not_false, decide_eq_true_eq, reduceCtorEq, Option.some.injEq, id_eq, List.all_cons, List.all_nil, List.any_cons, List.any_nil, Bool.and_true, Bool.true_and, Bool.and_false, Bool.false_and, Bool.or_true, Bool.or_false, Bool.true_or, Bool.false_or, Int.reduceAdd, Int.reduceSub, beq_self_eq_true, Option.isNone_none, Option.isNone_some, if_true, if_false, ite_true, ite_false, Nat.succ_eq_add_one, Int.natCast_add, Int.natCast_one, Int.cast_ofNat_Int, List.replicate, Int.natCast_zero, Int.zero_add, hΓ]
  subst hF
  refine pull_spec (s := xs.length) hb (by omega) (by omega) fun r b' r1 r2 hb' => ?_
  have hlt : r.toNat < xs.length := by omega
  simp only [↓br_true, ↓br_false, ↓op_some, ↓wp_bind, ↓wp_pure, ↓wp_fail, ↓wp_opt, ↓wp_guard, ↓wp_v, ↓wp_vB, ↓wp_c, ↓wp_op2, ↓wp_op2L, ↓wp_t, ↓wp_tru, ↓wp_chain, ↓wp_andT, ↓wp_orT, ↓wp_notT, ↓wp_andV, ↓wp_orV, ↓wp_notV, ↓wp_if, ↓wp_nil, ↓wp_cons, ↓wp_tup, ↓wp_lst, ↓wp_D, ↓wp_cb, ↓wp_call, ↓wp_isi, ↓wp_neg, ↓wp_sl, ↓wp_noP, ↓wp_P, ↓wp_yes, ↓wp_items, ↓wp_signs, ↓wp_comp, ↓ws_seq, ↓thn_nx, ↓thn_rt, ↓thn_br, ↓thn_ct, ↓thn_exc, ↓ws_skip, ↓ws_break, ↓ws_cont, ↓ws_retN, ↓ws_set, ↓ws_own, ↓ws_ret, ↓ws_drop, ↓ws_if, ↓ws_asg, ↓ws_par, ↓ws_setC, ↓wp_newc, ↓ws_app, ↓ws_ext, ↓ws_setI, ↓ws_frz, ↓ws_for, ↓wl_nil, ↓wl_cons, ↓wf_run, ↓retS_nx, ↓retS_rt, ↓lpS_nx, ↓lpS_ct, ↓lpS_br, ↓lpS_rt, ↓turn_nx, ↓turn_ct, ↓turn_br, ↓turn_rt, ↓wp_addI, ↓wp_addS, ↓wp_subI, ↓wp_mulI, ↓wp_divI, ↓wp_modI, ↓wp_powI, ↓wp_cmpI, ↓wp_eq, ↓wp_ne, ↓wp_negI, ↓wp_seqE, ↓wp_lstE, ↓wp_ixL, ↓wp_ixT, ↓wp_ixC, ↓wp_ixS, ↓wp_lenS, ↓wp_lenL, ↓wp_lenT, ↓wp_lenC, ↓wp_absI, ↓wp_intI, ↓wp_intB, ↓wp_intS, ↓wp_strI, ↓wp_boolI, ↓wp_boolB, ↓wp_all, ↓wp_any, ↓wp_sum, ↓wp_max2, ↓wp_min2, ↓wp_list, ↓wp_tuple, ↓wp_sorted, ↓wp_slS, ↓wp_slT, ↓wp_slLD, ↓wp_slC, ↓wp_slL, ↓wp_range1, ↓wp_range2, ↓wp_enum, ↓wp_enumT, ↓wp_zip, ↓wp_zipTT, ↓wp_zipTL, ↓wp_zipLT, ↓wp_cat, ↓wp_rep, ↓wp_inSg, ↓wp_notInSg, ↓wp_inL, ↓wp_inT, ↓wp_notIn, ↓wp_isN, ↓wp_notN, tt1, tt2, tt3, tt4, tt5, tt6, tu1, tu2, tu3, tu4, tu5, tu6, tu7, tu8, tu9, tu10, tu11, tu12, tu13, tu14, tu15, tu16, tu17, tu18, tu19, tu20, tu21, tu22, tu23, tu24, asB_bl, truD_non, truD_bl, truD_int, truD_str, truD_lst, truD_tup, asI_int, asS_str, items_lst, items_tup, items_str, valS_v, valB_v, valB_own, seqD_lst, seqD_tup, seqD_cell0, lstD_lst, lstD_cell0, cellL_0, own_lst, nonB_non, nonB_bl, nonB_int, nonB_str, nonB_lst, nonB_tup, nonB_cell, nonB_obj, bools_nil, bools_cons, ints_nil, ints_cons, eqD_ii, eqD_bb, eqD_ss, eqD_nn, eqD_ni, eqD_in, eqD_nb, eqD_bn, eqD_ns, eqD_sn, eqD_is, eqD_si, eqD_bs, eqD_sb, tag_non, tag_bl, tag_int, tag_str, tag_lst, tag_tup, tag_obj, bindP_nm, bindP_tp, bindPs_nil, bindPs_cons, ↓wp_get, ↓wp_meth, ↓wp_prop, ↓ws_setF, ↓wp_mk, ↓wp_own, ↓wp_kd, ↓wp_methK, ↓wp_ownNe, ↓wp_own1, ↓wp_ownT, ↓wp_fstr, ↓wp_fFn, ↓wp_fFc, ↓wp_fmtS, ↓wp_fmtI, kok_len, kok_repr, kok_bool, eqD_tt, eqD_ll, plB_non, plB_bl, plB_int, plB_str, plB_lst, plB_tup, eqBs_nn, eqBs_cc, eqBs_nc, eqBs_cn, eqB_ii, eqB_bb, eqB_ss, eqB_nn, eqB_ll, eqB_tt, eqB_ni, eqB_in, eqB_nt, eqB_tn, eqB_it, eqB_ti, ↓wp_addT, ↓wp_addL, ↓wp_mulL, objD_obj, objD_last, cellO_last, set_last, isO_obj, isO_last, putD_nil, putD_cons, lkp_nil, lkp_cons, belF_nil, belF_cons, ↓wp_compN, ↓wp_compC, rng_0, rng_1, rng_2, rng_3, enL_nil, enL_cons, zpL_nil, zpL_nilR, zpL_cons, ↓wp_maxL, ↓wp_minL, maxL_2, maxL_1, minL_2, minL_1, EG.runs, EG.run, ev, evs, evo, evr, evf, mkE, mkL, failL, bopF, copF, bltF, lbltF, env0, wipeE, isiAny, isi1, frzS, Cell.toD, atI_nn, setAt_nn, wp_inSg, Gam.put, clsTab, arrQ, arrP, Pick.of, kwM, rightB, E00, List.map_cons, List.map_nil, List.length_cons, List.length_nil, List.append_nil, List.nil_append, List.cons_append, List.getElem?_cons_zero, List.getElem?_cons_succ, List.getElem?_nil, List.set_cons_zero, List.set_cons_succ, List.filter_cons, List.filter_nil, List.contains_nil, List.elem_nil, Int.reduceNeg, Int.reducePow, nA10, nA2, le_big, Nat.reducePow, Nat.zero_add, Option.map_some, Option.bind_some, Int.reduceLE, Int.reduceToNat, Int.reduceLT, Nat.reduceLT, Nat.reduceAdd, Nat.reduceSub, true_and, and_true, decide_true, decide_false, List.length_append, List.length_map, Nat.reduceLeDiff, Nat.reduceEqDiff, Bool.not_true, Bool.not_false, decide_eq_true_eq, reduceCtorEq, Option.some.injEq, id_eq, List.all_cons, List.all_nil, List.any_cons, List.any_nil, Bool.and_true, Bool.true_and, Bool.and_false, Bool.false_and, Bool.or_true, Bool.or_false, Bool.true_or, Bool.false_or, Int.reduceAdd, Int.reduceSub, beq_self_eq_true, Option.isNone_none, Option.isNone_some, if_true, if_false, ite_true, ite_false, Nat.succ_eq_add_one, Int.natCast_add, Int.natCast_one, Int.cast_ofNat_Int, List.replicate, Int.natCast_zero, Int.zero_add, atI_nn r1, List.getElem?_eq_getElem hlt]
  exact hq _ _ (List.getElem_mem hlt) hb'
/-- a text's sign -/
theorem of_specS {x : Str} {lv : Nat} {F : Fn} (hF : F = runF 5 (runs Γ B_pull)) {Γ' : Gam} (hΓ : Γ'.fns[0]? = some ⟨"_law_pull", 2, F, lv, []⟩) (hb : BagOk b) (h0 : 0 < x.length) (hl : x.length ≤ 100000) (hq : ∀ c b', c ∈ x.cps.toList → BagOk b' → Q (.str ⟨#[c]⟩) (b' :: μ)) : Wf (runF 2 (runs Γ' B_of)) [.cell 0, .str x] (b :: μ) Q E := by
  have hx : x.length = x.cps.toList.length := rfl
  unfold B_of
  simp only [↓br_true, ↓br_false, ↓op_some, ↓wp_bind, ↓wp_pure, ↓wp_fail, ↓wp_opt, ↓wp_guard, ↓wp_v, ↓wp_vB, ↓wp_c, ↓wp_op2, ↓wp_op2L, ↓wp_t, ↓wp_tru, ↓wp_chain, ↓wp_andT, ↓wp_orT, ↓wp_notT, ↓wp_andV, ↓wp_orV, ↓wp_notV, ↓wp_if, ↓wp_nil, ↓wp_cons, ↓wp_tup, ↓wp_lst, ↓wp_D, ↓wp_cb, ↓wp_call, ↓wp_isi, ↓wp_neg, ↓wp_sl, ↓wp_noP, ↓wp_P, ↓wp_yes, ↓wp_items, ↓wp_signs, ↓wp_comp, ↓ws_seq, ↓thn_nx, ↓thn_rt, ↓thn_br, ↓thn_ct, ↓thn_exc, ↓ws_skip, ↓ws_break, ↓ws_cont, ↓ws_retN, ↓ws_set, ↓ws_own, ↓ws_ret, ↓ws_drop, ↓ws_if, ↓ws_asg, ↓ws_par, ↓ws_setC, ↓wp_newc, ↓ws_app, ↓ws_ext, ↓ws_setI, ↓ws_frz, ↓ws_for, ↓wl_nil, ↓wl_cons, ↓wf_run, ↓retS_nx, ↓retS_rt, ↓lpS_nx, ↓lpS_ct, ↓lpS_br, ↓lpS_rt, ↓turn_nx, ↓turn_ct, ↓turn_br, ↓turn_rt, ↓wp_addI, ↓wp_addS, ↓wp_subI, ↓wp_mulI, ↓wp_divI, ↓wp_modI, ↓wp_powI, ↓wp_cmpI, ↓wp_eq, ↓wp_ne, ↓wp_negI, ↓wp_seqE, ↓wp_lstE, ↓wp_ixL, ↓wp_ixT, ↓wp_ixC, ↓wp_ixS, ↓wp_lenS, ↓wp_lenL, ↓wp_lenT, ↓wp_lenC, ↓wp_absI, ↓wp_intI, ↓wp_intB, ↓wp_intS, ↓wp_strI, ↓wp_boolI, ↓wp_boolB, ↓wp_all, ↓wp_any, ↓wp_sum, ↓wp_max2, ↓wp_min2, ↓wp_list, ↓wp_tuple, ↓wp_sorted, ↓wp_slS, ↓wp_slT, ↓wp_slLD, ↓wp_slC, ↓wp_slL, ↓wp_range1, ↓wp_range2, ↓wp_enum, ↓wp_enumT, ↓wp_zip, ↓wp_zipTT, ↓wp_zipTL, ↓wp_zipLT, ↓wp_cat, ↓wp_rep, ↓wp_inSg, ↓wp_notInSg, ↓wp_inL, ↓wp_inT, ↓wp_notIn, ↓wp_isN, ↓wp_notN, tt1, tt2, tt3, tt4, tt5, tt6, tu1, tu2, tu3, tu4, tu5, tu6, tu7, tu8, tu9, tu10, tu11, tu12, tu13, tu14, tu15, tu16, tu17, tu18, tu19, tu20, tu21, tu22, tu23, tu24, asB_bl, truD_non, truD_bl, truD_int, truD_str, truD_lst, truD_tup, asI_int, asS_str, items_lst, items_tup, items_str, valS_v, valB_v, valB_own, seqD_lst, seqD_tup, seqD_cell0, lstD_lst, lstD_cell0, cellL_0, own_lst, nonB_non, nonB_bl, nonB_int, nonB_str, nonB_lst, nonB_tup, nonB_cell, nonB_obj, bools_nil, bools_cons, ints_nil, ints_cons, eqD_ii, eqD_bb, eqD_ss, eqD_nn, eqD_ni, eqD_in, eqD_nb, eqD_bn, eqD_ns, eqD_sn, eqD_is, eqD_si, eqD_bs, eqD_sb, tag_non, tag_bl, tag_int, tag_str, tag_lst, tag_tup, tag_obj, bindP_nm, bindP_tp, bindPs_nil, bindPs_cons, ↓wp_get, ↓wp_meth, ↓wp_prop, ↓ws_setF, ↓wp_mk, ↓wp_own, ↓wp_kd, ↓wp_methK, ↓wp_ownNe, ↓wp_own1, ↓wp_ownT, ↓wp_fstr, ↓wp_fFn, ↓wp_fFc, ↓wp_fmtS, ↓wp_fmtI, kok_len, kok_repr, kok_bool, eqD_tt, eqD_ll, plB_non, plB_bl, plB_int, plB_str, plB_lst, plB_tup, eqBs_nn, eqBs_cc, eqBs_nc, eqBs_cn, eqB_ii, eqB_bb, eqB_ss, eqB_nn, eqB_ll, eqB_tt, eqB_ni, eqB_in, eqB_nt, eqB_tn, eqB_it, eqB_ti, ↓wp_addT, ↓wp_addL, ↓wp_mulL, objD_obj, objD_last, cellO_last, set_last, isO_obj, isO_last, putD_nil, putD_cons, lkp_nil, lkp_cons, belF_nil, belF_cons, ↓wp_compN, ↓wp_compC, rng_0, rng_1, rng_2, rng_3, enL_nil, enL_cons, zpL_nil, zpL_nilR, zpL_cons, ↓wp_maxL, ↓wp_minL, maxL_2, maxL_1, minL_2, minL_1, EG.runs, EG.run, ev, evs, evo, evr, evf, mkE, mkL, failL, bopF, copF, bltF, lbltF, env0, wipeE, isiAny, isi1, frzS, Cell.toD, atI_nn, setAt_nn, wp_inSg, Gam.put, clsTab, arrQ, arrP, Pick.of, kwM, rightB, E00, List.map_cons, List.map_nil, List.length_cons, List.length_nil, List.append_nil, List.nil_append, List.cons_append, List.getElem?_cons_zero, List.getElem?_cons_succ, List.getElem?_nil, List.set_cons_zero, List.set_cons_succ, List.filter_cons, List.filter_nil, List.contains_nil, List.elem_nil, Int.reduceNeg, Int.reducePow, nA10, nA2, le_big, Nat.reducePow, Nat.zero_add, Option.map_some, Option.bind_some, Int.reduceLE, Int.reduceToNat, Int.reduceLT, Nat.reduceLT, Nat.reduceAdd, Nat.reduceSub, true_and, and_true, decide_true, decide_false, List.length_append, List.length_map, Nat.reduceLeDiff, Nat.reduceEqDiff, Bool.not_true, Bool.not_false, decide_eq_true_eq, reduceCtorEq, Option.some.injEq, id_eq, List.all_cons, List.all_nil, List.any_cons, List.any_nil, Bool.and_true, Bool.true_and, Bool.and_false, Bool.false_and, Bool.or_true, Bool.or_false, Bool.true_or, Bool.false_or, Int.reduceAdd, Int.reduceSub, beq_self_eq_true, Option.isNone_none, Option.isNone_some, if_true, if_false, ite_true, ite_false, Nat.succ_eq_add_one, Int.natCast_add, Int.natCast_one, Int.cast_ofNat_Int, List.replicate, Int.natCast_zero, Int.zero_add, hΓ]
  subst hF
  refine pull_spec (s := x.length) hb (by omega) (by omega) fun r b' r1 r2 hb' => ?_
  have hlt : r.toNat < x.cps.toList.length := by omega
  simp only [↓br_true, ↓br_false, ↓op_some, ↓wp_bind, ↓wp_pure, ↓wp_fail, ↓wp_opt, ↓wp_guard, ↓wp_v, ↓wp_vB, ↓wp_c, ↓wp_op2, ↓wp_op2L, ↓wp_t, ↓wp_tru, ↓wp_chain, ↓wp_andT, ↓wp_orT, ↓wp_notT, ↓wp_andV, ↓wp_orV, ↓wp_notV, ↓wp_if, ↓wp_nil, ↓wp_cons, ↓wp_tup, ↓wp_lst, ↓wp_D, ↓wp_cb, ↓wp_call, ↓wp_isi, ↓wp_neg, ↓wp_sl, ↓wp_noP, ↓wp_P, ↓wp_yes, ↓wp_items, ↓wp_signs, ↓wp_comp, ↓ws_seq, ↓thn_nx, ↓thn_rt, ↓thn_br, ↓thn_ct, ↓thn_exc, ↓ws_skip, ↓ws_break, ↓ws_cont, ↓ws_retN, ↓ws_set, ↓ws_own, ↓ws_ret, ↓ws_drop, ↓ws_if, ↓ws_asg, ↓ws_par, ↓ws_setC, ↓wp_newc, ↓ws_app, ↓ws_ext, ↓ws_setI, ↓ws_frz, ↓ws_for, ↓wl_nil, ↓wl_cons, ↓wf_run, ↓retS_nx, ↓retS_rt, ↓lpS_nx, ↓lpS_ct, ↓lpS_br, ↓lpS_rt, ↓turn_nx, ↓turn_ct, ↓turn_br, ↓turn_rt, ↓wp_addI, ↓wp_addS, ↓wp_subI, ↓wp_mulI, ↓wp_divI, ↓wp_modI, ↓wp_powI, ↓wp_cmpI, ↓wp_eq, ↓wp_ne, ↓wp_negI, ↓wp_seqE, ↓wp_lstE, ↓wp_ixL, ↓wp_ixT, ↓wp_ixC, ↓wp_ixS, ↓wp_lenS, ↓wp_lenL, ↓wp_lenT, ↓wp_lenC, ↓wp_absI, ↓wp_intI, ↓wp_intB, ↓wp_intS, ↓wp_strI, ↓wp_boolI, ↓wp_boolB, ↓wp_all, ↓wp_any, ↓wp_sum, ↓wp_max2, ↓wp_min2, ↓wp_list, ↓wp_tuple, ↓wp_sorted, ↓wp_slS, ↓wp_slT, ↓wp_slLD, ↓wp_slC, ↓wp_slL, ↓wp_range1, ↓wp_range2, ↓wp_enum, ↓wp_enumT, ↓wp_zip, ↓wp_zipTT, ↓wp_zipTL, ↓wp_zipLT, ↓wp_cat, ↓wp_rep, ↓wp_inSg, ↓wp_notInSg, ↓wp_inL, ↓wp_inT, ↓wp_notIn, ↓wp_isN, ↓wp_notN, tt1, tt2, tt3, tt4, tt5, tt6, tu1, tu2, tu3, tu4, tu5, tu6, tu7, tu8, tu9, tu10, tu11, tu12, tu13, tu14, tu15, tu16, tu17, tu18, tu19, tu20, tu21, tu22, tu23, tu24, asB_bl, truD_non, truD_bl, truD_int, truD_str, truD_lst, truD_tup, asI_int, asS_str, items_lst, items_tup, items_str, valS_v, valB_v, valB_own, seqD_lst, seqD_tup, seqD_cell0, lstD_lst, lstD_cell0, cellL_0, own_lst, nonB_non, nonB_bl, nonB_int, nonB_str, nonB_lst, nonB_tup, nonB_cell, nonB_obj, bools_nil, bools_cons, ints_nil, ints_cons, eqD_ii, eqD_bb, eqD_ss, eqD_nn, eqD_ni, eqD_in, eqD_nb, eqD_bn, eqD_ns, eqD_sn, eqD_is, eqD_si, eqD_bs, eqD_sb, tag_non, tag_bl, tag_int, tag_str, tag_lst, tag_tup, tag_obj, bindP_nm, bindP_tp, bindPs_nil, bindPs_cons, ↓wp_get, ↓wp_meth, ↓wp_prop, ↓ws_setF, ↓wp_mk, ↓wp_own, ↓wp_kd, ↓wp_methK, ↓wp_ownNe, ↓wp_own1, ↓wp_ownT, ↓wp_fstr, ↓wp_fFn, ↓wp_fFc, ↓wp_fmtS, ↓wp_fmtI, kok_len, kok_repr, kok_bool, eqD_tt, eqD_ll, plB_non, plB_bl, plB_int, plB_str, plB_lst, plB_tup, eqBs_nn, eqBs_cc, eqBs_nc, eqBs_cn, eqB_ii, eqB_bb, eqB_ss, eqB_nn, eqB_ll, eqB_tt, eqB_ni, eqB_in, eqB_nt, eqB_tn, eqB_it, eqB_ti, ↓wp_addT, ↓wp_addL, ↓wp_mulL, objD_obj, objD_last, cellO_last, set_last, isO_obj, isO_last, putD_nil, putD_cons, lkp_nil, lkp_cons, belF_nil, belF_cons, ↓wp_compN, ↓wp_compC, rng_0, rng_1, rng_2, rng_3, enL_nil, enL_cons, zpL_nil, zpL_nilR, zpL_cons, ↓wp_maxL, ↓wp_minL, maxL_2, maxL_1, minL_2, minL_1, EG.runs, EG.run, ev, evs, evo, evr, evf, mkE, mkL, failL, bopF, copF, bltF, lbltF, env0, wipeE, isiAny, isi1, frzS, Cell.toD, atI_nn, setAt_nn, wp_inSg, Gam.put, clsTab, arrQ, arrP, Pick.of, kwM, rightB, E00, List.map_cons, List.map_nil, List.length_cons, List.length_nil, List.append_nil, List.nil_append, List.cons_append, List.getElem?_cons_zero, List.getElem?_cons_succ, List.getElem?_nil, List.set_cons_zero, List.set_cons_succ, List.filter_cons, List.filter_nil, List.contains_nil, List.elem_nil, Int.reduceNeg, Int.reducePow, nA10, nA2, le_big, Nat.reducePow, Nat.zero_add, Option.map_some, Option.bind_some, Int.reduceLE, Int.reduceToNat, Int.reduceLT, Nat.reduceLT, Nat.reduceAdd, Nat.reduceSub, true_and, and_true, decide_true, decide_false, List.length_append, List.length_map, Nat.reduceLeDiff, Nat.reduceEqDiff, Bool.not_true, Bool.not_false, decide_eq_true_eq, reduceCtorEq, Option.some.injEq, id_eq, List.all_cons, List.all_nil, List.any_cons, List.any_nil, Bool.and_true, Bool.true_and, Bool.and_false, Bool.false_and, Bool.or_true, Bool.or_false, Bool.true_or, Bool.false_or, Int.reduceAdd, Int.reduceSub, beq_self_eq_true, Option.isNone_none, Option.isNone_some, if_true, if_false, ite_true, ite_false, Nat.succ_eq_add_one, Int.natCast_add, Int.natCast_one, Int.cast_ofNat_Int, List.replicate, Int.natCast_zero, Int.zero_add, atI_nn r1, List.getElem?_eq_getElem hlt]
  exact hq _ _ (List.getElem_mem hlt) hb'
theorem mem_cutL {α : Type} {xs : List α} {lo hi : Option Int} {x : α} (h : x ∈ cutL xs lo hi) : x ∈ xs := List.mem_of_mem_drop (List.mem_of_mem_take h)
theorem cut_ints (ns : List Int) (hi : Option Int) : ∃ ms : List Int, cutL (ns.map D.int) none hi = ms.map D.int := ⟨ns.take (HT.sIx ns.length ns.length hi), by
  unfold cutL
  simp [HT.sIx_none, List.map_take]⟩
/-- the bag out of the script -/
theorem bag_spec {ns : List Int} (hq : ∀ b', BagOk b' → Q (.cell 0) [b']) : Wf (runF 3 (runs Γ B_bag)) [.scr ns] [] Q E := by
  obtain ⟨ms, hm⟩ := cut_ints ns (some 63)
  unfold B_bag
  simp only [↓br_true, ↓br_false, ↓op_some, ↓wp_bind, ↓wp_pure, ↓wp_fail, ↓wp_opt, ↓wp_guard, ↓wp_v, ↓wp_vB, ↓wp_c, ↓wp_op2, ↓wp_op2L, ↓wp_t, ↓wp_tru, ↓wp_chain, ↓wp_andT, ↓wp_orT, ↓wp_notT, ↓wp_andV, ↓wp_orV, ↓wp_notV, ↓wp_if, ↓wp_nil, ↓wp_cons, ↓wp_tup, ↓wp_lst, ↓wp_D, ↓wp_cb, ↓wp_call, ↓wp_isi, ↓wp_neg, ↓wp_sl, ↓wp_noP, ↓wp_P, ↓wp_yes, ↓wp_items, ↓wp_signs, ↓wp_comp, ↓ws_seq, ↓thn_nx, ↓thn_rt, ↓thn_br, ↓thn_ct, ↓thn_exc, ↓ws_skip, ↓ws_break, ↓ws_cont, ↓ws_retN, ↓ws_set, ↓ws_own, ↓ws_ret, ↓ws_drop, ↓ws_if, ↓ws_asg, ↓ws_par, ↓ws_setC, ↓wp_newc, ↓ws_app, ↓ws_ext, ↓ws_setI, ↓ws_frz, ↓ws_for, ↓wl_nil, ↓wl_cons, ↓wf_run, ↓retS_nx, ↓retS_rt, ↓lpS_nx, ↓lpS_ct, ↓lpS_br, ↓lpS_rt, ↓turn_nx, ↓turn_ct, ↓turn_br, ↓turn_rt, ↓wp_addI, ↓wp_addS, ↓wp_subI, ↓wp_mulI, ↓wp_divI, ↓wp_modI, ↓wp_powI, ↓wp_cmpI, ↓wp_eq, ↓wp_ne, ↓wp_negI, ↓wp_seqE, ↓wp_lstE, ↓wp_ixL, ↓wp_ixT, ↓wp_ixC, ↓wp_ixS, ↓wp_lenS, ↓wp_lenL, ↓wp_lenT, ↓wp_lenC, ↓wp_absI, ↓wp_intI, ↓wp_intB, ↓wp_intS, ↓wp_strI, ↓wp_boolI, ↓wp_boolB, ↓wp_all, ↓wp_any, ↓wp_sum, ↓wp_max2, ↓wp_min2, ↓wp_list, ↓wp_tuple, ↓wp_sorted, ↓wp_slS, ↓wp_slT, ↓wp_slLD, ↓wp_slC, ↓wp_slL, ↓wp_range1, ↓wp_range2, ↓wp_enum, ↓wp_enumT, ↓wp_zip, ↓wp_zipTT, ↓wp_zipTL, ↓wp_zipLT, ↓wp_cat, ↓wp_rep, ↓wp_inSg, ↓wp_notInSg, ↓wp_inL, ↓wp_inT, ↓wp_notIn, ↓wp_isN, ↓wp_notN, tt1, tt2, tt3, tt4, tt5, tt6, tu1, tu2, tu3, tu4, tu5, tu6, tu7, tu8, tu9, tu10, tu11, tu12, tu13, tu14, tu15, tu16, tu17, tu18, tu19, tu20, tu21, tu22, tu23, tu24, asB_bl, truD_non, truD_bl, truD_int, truD_str, truD_lst, truD_tup, asI_int, asS_str, items_lst, items_tup, items_str, valS_v, valB_v, valB_own, seqD_lst, seqD_tup, seqD_cell0, lstD_lst, lstD_cell0, cellL_0, own_lst, nonB_non, nonB_bl, nonB_int, nonB_str, nonB_lst, nonB_tup, nonB_cell, nonB_obj, bools_nil, bools_cons, ints_nil, ints_cons, eqD_ii, eqD_bb, eqD_ss, eqD_nn, eqD_ni, eqD_in, eqD_nb, eqD_bn, eqD_ns, eqD_sn, eqD_is, eqD_si, eqD_bs, eqD_sb, tag_non, tag_bl, tag_int, tag_str, tag_lst, tag_tup, tag_obj, bindP_nm, bindP_tp, bindPs_nil, bindPs_cons, ↓wp_get, ↓wp_meth, ↓wp_prop, ↓ws_setF, ↓wp_mk, ↓wp_own, ↓wp_kd, ↓wp_methK, ↓wp_ownNe, ↓wp_own1, ↓wp_ownT, ↓wp_fstr, ↓wp_fFn, ↓wp_fFc, ↓wp_fmtS, ↓wp_fmtI, kok_len, kok_repr, kok_bool, eqD_tt, eqD_ll, plB_non, plB_bl, plB_int, plB_str, plB_lst, plB_tup, eqBs_nn, eqBs_cc, eqBs_nc, eqBs_cn, eqB_ii, eqB_bb, eqB_ss, eqB_nn, eqB_ll, eqB_tt, eqB_ni, eqB_in, eqB_nt, eqB_tn, eqB_it, eqB_ti, ↓wp_addT, ↓wp_addL, ↓wp_mulL, objD_obj, objD_last, cellO_last, set_last, isO_obj, isO_last, putD_nil, putD_cons, lkp_nil, lkp_cons, belF_nil, belF_cons, ↓wp_compN, ↓wp_compC, rng_0, rng_1, rng_2, rng_3, enL_nil, enL_cons, zpL_nil, zpL_nilR, zpL_cons, ↓wp_maxL, ↓wp_minL, maxL_2, maxL_1, minL_2, minL_1, EG.runs, EG.run, ev, evs, evo, evr, evf, mkE, mkL, failL, bopF, copF, bltF, lbltF, env0, wipeE, isiAny, isi1, frzS, Cell.toD, atI_nn, setAt_nn, wp_inSg, Gam.put, clsTab, arrQ, arrP, Pick.of, kwM, rightB, E00, List.map_cons, List.map_nil, List.length_cons, List.length_nil, List.append_nil, List.nil_append, List.cons_append, List.getElem?_cons_zero, List.getElem?_cons_succ, List.getElem?_nil, List.set_cons_zero, List.set_cons_succ, List.filter_cons, List.filter_nil, List.contains_nil, List.elem_nil, Int.reduceNeg, Int.reducePow, nA10, nA2, le_big, Nat.reducePow, Nat.zero_add, Option.map_some, Option.bind_some, Int.reduceLE, Int.reduceToNat, Int.reduceLT, Nat.reduceLT, Nat.reduceAdd, Nat.reduceSub, true_and, and_true, decide_true, decide_false, List.length_append, List.length_map, Nat.reduceLeDiff, Nat.reduceEqDiff, Bool.not_true, Bool.not_false, decide_eq_true_eq, reduceCtorEq, Option.some.injEq, id_eq, List.all_cons, List.all_nil, List.any_cons, List.any_nil, Bool.and_true, Bool.true_and, Bool.and_false, Bool.false_and, Bool.or_true, Bool.or_false, Bool.true_or, Bool.false_or, Int.reduceAdd, Int.reduceSub, beq_self_eq_true, Option.isNone_none, Option.isNone_some, if_true, if_false, ite_true, ite_false, Nat.succ_eq_add_one, Int.natCast_add, Int.natCast_one, Int.cast_ofNat_Int, List.replicate, Int.natCast_zero, Int.zero_add, hm]
  refine wl_inv (fun r env μ => (∃ ks : List Int, r = ks.map D.int) ∧ μ = [] ∧ ∃ (z : Int) (s : Slot), 0 ≤ z ∧ z < 2147483563 ∧ env = [.v (.scr ns), .v (.int z), s]) ?_ ?_ _ _ _ ⟨⟨ms, rfl⟩, rfl, 10016, _, by decide, by decide, rfl⟩
  · rintro d r env μ ⟨⟨ks, hk⟩, rfl, z, s, h1, h2, rfl⟩
    cases ks with
    | nil => cases hk
    | cons k ks =>
      cases hk
      refine ⟨_, bindP_nm, ?_⟩
      simp only [↓br_true, ↓br_false, ↓op_some, ↓wp_bind, ↓wp_pure, ↓wp_fail, ↓wp_opt, ↓wp_guard, ↓wp_v, ↓wp_vB, ↓wp_c, ↓wp_op2, ↓wp_op2L, ↓wp_t, ↓wp_tru, ↓wp_chain, ↓wp_andT, ↓wp_orT, ↓wp_notT, ↓wp_andV, ↓wp_orV, ↓wp_notV, ↓wp_if, ↓wp_nil, ↓wp_cons, ↓wp_tup, ↓wp_lst, ↓wp_D, ↓wp_cb, ↓wp_call, ↓wp_isi, ↓wp_neg, ↓wp_sl, ↓wp_noP, ↓wp_P, ↓wp_yes, ↓wp_items, ↓wp_signs, ↓wp_comp, ↓ws_seq, ↓thn_nx, ↓thn_rt, ↓thn_br, ↓thn_ct, ↓thn_exc, ↓ws_skip, ↓ws_break, ↓ws_cont, ↓ws_retN, ↓ws_set, ↓ws_own, ↓ws_ret, ↓ws_drop, ↓ws_if, ↓ws_asg, ↓ws_par, ↓ws_setC, ↓wp_newc, ↓ws_app, ↓ws_ext, ↓ws_setI, ↓ws_frz, ↓ws_for, ↓wl_nil, ↓wl_cons, ↓wf_run, ↓retS_nx, ↓retS_rt, ↓lpS_nx, ↓lpS_ct, ↓lpS_br, ↓lpS_rt, ↓turn_nx, ↓turn_ct, ↓turn_br, ↓turn_rt, ↓wp_addI, ↓wp_addS, ↓wp_subI, ↓wp_mulI, ↓wp_divI, ↓wp_modI, ↓wp_powI, ↓wp_cmpI, ↓wp_eq, ↓wp_ne, ↓wp_negI, ↓wp_seqE, ↓wp_lstE, ↓wp_ixL, ↓wp_ixT, ↓wp_ixC, ↓wp_ixS, ↓wp_lenS, ↓wp_lenL, ↓wp_lenT, ↓wp_lenC, ↓wp_absI, ↓wp_intI, ↓wp_intB, ↓wp_intS, ↓wp_strI, ↓wp_boolI, ↓wp_boolB, ↓wp_all, ↓wp_any, ↓wp_sum, ↓wp_max2, ↓wp_min2, ↓wp_list, ↓wp_tuple, ↓wp_sorted, ↓wp_slS, ↓wp_slT, ↓wp_slLD, ↓wp_slC, ↓wp_slL, ↓wp_range1, ↓wp_range2, ↓wp_enum, ↓wp_enumT, ↓wp_zip, ↓wp_zipTT, ↓wp_zipTL, ↓wp_zipLT, ↓wp_cat, ↓wp_rep, ↓wp_inSg, ↓wp_notInSg, ↓wp_inL, ↓wp_inT, ↓wp_notIn, ↓wp_isN, ↓wp_notN, tt1, tt2, tt3, tt4, tt5, tt6, tu1, tu2, tu3, tu4, tu5, tu6, tu7, tu8, tu9, tu10, tu11, tu12, tu13, tu14, tu15, tu16, tu17, tu18, tu19, tu20, tu21, tu22, tu23, tu24, asB_bl, truD_non, truD_bl, truD_int, truD_str, truD_lst, truD_tup, asI_int, asS_str, items_lst, items_tup, items_str, valS_v, valB_v, valB_own, seqD_lst, seqD_tup, seqD_cell0, lstD_lst, lstD_cell0, cellL_0, own_lst, nonB_non, nonB_bl, nonB_int, nonB_str, nonB_lst, nonB_tup, nonB_cell, nonB_obj, bools_nil, bools_cons, ints_nil, ints_cons, eqD_ii, eqD_bb, eqD_ss, eqD_nn, eqD_ni, eqD_in, eqD_nb, eqD_bn, eqD_ns, eqD_sn, eqD_is, eqD_si, eqD_bs, eqD_sb, tag_non, tag_bl, tag_int, tag_str, tag_lst, tag_tup, tag_obj, bindP_nm, bindP_tp, bindPs_nil, bindPs_cons, ↓wp_get, ↓wp_meth, ↓wp_prop, ↓ws_setF, ↓wp_mk, ↓wp_own, ↓wp_kd, ↓wp_methK, ↓wp_ownNe, ↓wp_own1, ↓wp_ownT, ↓wp_fstr, ↓wp_fFn, ↓wp_fFc, ↓wp_fmtS, ↓wp_fmtI, kok_len, kok_repr, kok_bool, eqD_tt, eqD_ll, plB_non, plB_bl, plB_int, plB_str, plB_lst, plB_tup, eqBs_nn, eqBs_cc, eqBs_nc, eqBs_cn, eqB_ii, eqB_bb, eqB_ss, eqB_nn, eqB_ll, eqB_tt, eqB_ni, eqB_in, eqB_nt, eqB_tn, eqB_it, eqB_ti, ↓wp_addT, ↓wp_addL, ↓wp_mulL, objD_obj, objD_last, cellO_last, set_last, isO_obj, isO_last, putD_nil, putD_cons, lkp_nil, lkp_cons, belF_nil, belF_cons, ↓wp_compN, ↓wp_compC, rng_0, rng_1, rng_2, rng_3, enL_nil, enL_cons, zpL_nil, zpL_nilR, zpL_cons, ↓wp_maxL, ↓wp_minL, maxL_2, maxL_1, minL_2, minL_1, EG.runs, EG.run, ev, evs, evo, evr, evf, mkE, mkL, failL, bopF, copF, bltF, lbltF, env0, wipeE, isiAny, isi1, frzS, Cell.toD, atI_nn, setAt_nn, wp_inSg, Gam.put, clsTab, arrQ, arrP, Pick.of, kwM, rightB, E00, List.map_cons, List.map_nil, List.length_cons, List.length_nil, List.append_nil, List.nil_append, List.cons_append, List.getElem?_cons_zero, List.getElem?_cons_succ, List.getElem?_nil, List.set_cons_zero, List.set_cons_succ, List.filter_cons, List.filter_nil, List.contains_nil, List.elem_nil, Int.reduceNeg, Int.reducePow, nA10, nA2, le_big, Nat.reducePow, Nat.zero_add, Option.map_some, Option.bind_some, Int.reduceLE, Int.reduceToNat, Int.reduceLT, Nat.reduceLT, Nat.reduceAdd, Nat.reduceSub, true_and, and_true, decide_true, decide_false, List.length_append, List.length_map, Nat.reduceLeDiff, Nat.reduceEqDiff, Bool.not_true, Bool.not_false, decide_eq_true_eq, reduceCtorEq, Option.some.injEq, id_eq, List.all_cons, List.all_nil, List.any_cons, List.any_nil, Bool.and_true, Bool.true_and, Bool.and_false, Bool.false_and, Bool.or_true, Bool.or_false, Bool.true_or, Bool.false_or, Int.reduceAdd, Int.reduceSub, beq_self_eq_true, Option.isNone_none, Option.isNone_some, if_true, if_false, ite_true, ite_false, Nat.succ_eq_add_one, Int.natCast_add, Int.natCast_one, Int.cast_ofNat_Int, List.replicate, Int.natCast_zero, Int.zero_add]
      exact ⟨okMul_r (by omega) (by omega), ⟨ks, rfl⟩, _, _, Int.emod_nonneg _ (by omega), Int.emod_lt_of_pos _ (by omega), rfl⟩
  · rintro env μ ⟨_, rfl, z, s, h1, h2, rfl⟩
    simp only [↓br_true, ↓br_false, ↓op_some, ↓wp_bind, ↓wp_pure, ↓wp_fail, ↓wp_opt, ↓wp_guard, ↓wp_v, ↓wp_vB, ↓wp_c, ↓wp_op2, ↓wp_op2L, ↓wp_t, ↓wp_tru, ↓wp_chain, ↓wp_andT, ↓wp_orT, ↓wp_notT, ↓wp_andV, ↓wp_orV, ↓wp_notV, ↓wp_if, ↓wp_nil, ↓wp_cons, ↓wp_tup, ↓wp_lst, ↓wp_D, ↓wp_cb, ↓wp_call, ↓wp_isi, ↓wp_neg, ↓wp_sl, ↓wp_noP, ↓wp_P, ↓wp_yes, ↓wp_items, ↓wp_signs, ↓wp_comp, ↓ws_seq, ↓thn_nx, ↓thn_rt, ↓thn_br, ↓thn_ct, ↓thn_exc, ↓ws_skip, ↓ws_break, ↓ws_cont, ↓ws_retN, ↓ws_set, ↓ws_own, ↓ws_ret, ↓ws_drop, ↓ws_if, ↓ws_asg, ↓ws_par, ↓ws_setC, ↓wp_newc, ↓ws_app, ↓ws_ext, ↓ws_setI, ↓ws_frz, ↓ws_for, ↓wl_nil, ↓wl_cons, ↓wf_run, ↓retS_nx, ↓retS_rt, ↓lpS_nx, ↓lpS_ct, ↓lpS_br, ↓lpS_rt, ↓turn_nx, ↓turn_ct, ↓turn_br, ↓turn_rt, ↓wp_addI, ↓wp_addS, ↓wp_subI, ↓wp_mulI, ↓wp_divI, ↓wp_modI, ↓wp_powI, ↓wp_cmpI, ↓wp_eq, ↓wp_ne, ↓wp_negI, ↓wp_seqE, ↓wp_lstE, ↓wp_ixL, ↓wp_ixT, ↓wp_ixC, ↓wp_ixS, ↓wp_lenS, ↓wp_lenL, ↓wp_lenT, ↓wp_lenC, ↓wp_absI, ↓wp_intI, ↓wp_intB, ↓wp_intS, ↓wp_strI, ↓wp_boolI, ↓wp_boolB, ↓wp_all, ↓wp_any, ↓wp_sum, ↓wp_max2, ↓wp_min2, ↓wp_list, ↓wp_tuple, ↓wp_sorted, ↓wp_slS, ↓wp_slT, ↓wp_slLD, ↓wp_slC, ↓wp_slL, ↓wp_range1, ↓wp_range2, ↓wp_enum, ↓wp_enumT, ↓wp_zip, ↓wp_zipTT, ↓wp_zipTL, ↓wp_zipLT, ↓wp_cat, ↓wp_rep, ↓wp_inSg, ↓wp_notInSg, ↓wp_inL, ↓wp_inT, ↓wp_notIn, ↓wp_isN, ↓wp_notN, tt1, tt2, tt3, tt4, tt5, tt6, tu1, tu2, tu3, tu4, tu5, tu6, tu7, tu8, tu9, tu10, tu11, tu12, tu13, tu14, tu15, tu16, tu17, tu18, tu19, tu20, tu21, tu22, tu23, tu24, asB_bl, truD_non, truD_bl, truD_int, truD_str, truD_lst, truD_tup, asI_int, asS_str, items_lst, items_tup, items_str, valS_v, valB_v, valB_own, seqD_lst, seqD_tup, seqD_cell0, lstD_lst, lstD_cell0, cellL_0, own_lst, nonB_non, nonB_bl, nonB_int, nonB_str, nonB_lst, nonB_tup, nonB_cell, nonB_obj, bools_nil, bools_cons, ints_nil, ints_cons, eqD_ii, eqD_bb, eqD_ss, eqD_nn, eqD_ni, eqD_in, eqD_nb, eqD_bn, eqD_ns, eqD_sn, eqD_is, eqD_si, eqD_bs, eqD_sb, tag_non, tag_bl, tag_int, tag_str, tag_lst, tag_tup, tag_obj, bindP_nm, bindP_tp, bindPs_nil, bindPs_cons, ↓wp_get, ↓wp_meth, ↓wp_prop, ↓ws_setF, ↓wp_mk, ↓wp_own, ↓wp_kd, ↓wp_methK, ↓wp_ownNe, ↓wp_own1, ↓wp_ownT, ↓wp_fstr, ↓wp_fFn, ↓wp_fFc, ↓wp_fmtS, ↓wp_fmtI, kok_len, kok_repr, kok_bool, eqD_tt, eqD_ll, plB_non, plB_bl, plB_int, plB_str, plB_lst, plB_tup, eqBs_nn, eqBs_cc, eqBs_nc, eqBs_cn, eqB_ii, eqB_bb, eqB_ss, eqB_nn, eqB_ll, eqB_tt, eqB_ni, eqB_in, eqB_nt, eqB_tn, eqB_it, eqB_ti, ↓wp_addT, ↓wp_addL, ↓wp_mulL, objD_obj, objD_last, cellO_last, set_last, isO_obj, isO_last, putD_nil, putD_cons, lkp_nil, lkp_cons, belF_nil, belF_cons, ↓wp_compN, ↓wp_compC, rng_0, rng_1, rng_2, rng_3, enL_nil, enL_cons, zpL_nil, zpL_nilR, zpL_cons, ↓wp_maxL, ↓wp_minL, maxL_2, maxL_1, minL_2, minL_1, EG.runs, EG.run, ev, evs, evo, evr, evf, mkE, mkL, failL, bopF, copF, bltF, lbltF, env0, wipeE, isiAny, isi1, frzS, Cell.toD, atI_nn, setAt_nn, wp_inSg, Gam.put, clsTab, arrQ, arrP, Pick.of, kwM, rightB, E00, List.map_cons, List.map_nil, List.length_cons, List.length_nil, List.append_nil, List.nil_append, List.cons_append, List.getElem?_cons_zero, List.getElem?_cons_succ, List.getElem?_nil, List.set_cons_zero, List.set_cons_succ, List.filter_cons, List.filter_nil, List.contains_nil, List.elem_nil, Int.reduceNeg, Int.reducePow, nA10, nA2, le_big, Nat.reducePow, Nat.zero_add, Option.map_some, Option.bind_some, Int.reduceLE, Int.reduceToNat, Int.reduceLT, Nat.reduceLT, Nat.reduceAdd, Nat.reduceSub, true_and, and_true, decide_true, decide_false, List.length_append, List.length_map, Nat.reduceLeDiff, Nat.reduceEqDiff, Bool.not_true, Bool.not_false, decide_eq_true_eq, reduceCtorEq, Option.some.injEq, id_eq, List.all_cons, List.all_nil, List.any_cons, List.any_nil, Bool.and_true, Bool.true_and, Bool.and_false, Bool.false_and, Bool.or_true, Bool.or_false, Bool.true_or, Bool.false_or, Int.reduceAdd, Int.reduceSub, beq_self_eq_true, Option.isNone_none, Option.isNone_some, if_true, if_false, ite_true, ite_false, Nat.succ_eq_add_one, Int.natCast_add, Int.natCast_one, Int.cast_ofNat_Int, List.replicate, Int.natCast_zero, Int.zero_add, hm]
    exact hq _ ⟨ms, _, _, _, _, rfl, by decide, by decide, h1, h2, by decide⟩
/-! _law_same of a thing with itself -/
def sameB : Nat → D → Bool
  | 0, _ => false
  | n + 1, .lst xs => xs.all (sameB n)
  | n + 1, .tup xs => xs.all (sameB n)
  | _ + 1, .non => true
  | _ + 1, .bl _ => true
  | _ + 1, .int _ => true
  | _ + 1, .str _ => true
  | _, _ => false
theorem mem_zipL : ∀ {xs : List D} {d : D}, d ∈ zipL xs xs → ∃ a ∈ xs, d = .tup [a, a]
  | [], d, h => nomatch h
  | x :: r, d, h => by
    rcases List.mem_cons.mp h with rfl | h
    · exact ⟨x, List.mem_cons_self .., rfl⟩
    · obtain ⟨a, h1, h2⟩ := mem_zipL (xs := r) h
      exact ⟨a, List.mem_cons_of_mem _ h1, h2⟩
theorem bools_true : ∀ (xs : List D), ∃ bs, boolsD (xs.map fun _ => D.bl true) = some bs ∧ bs.all id = true
  | [] => ⟨[], rfl, rfl⟩
  | x :: r => by
    obtain ⟨bs, h1, h2⟩ := bools_true r
    exact ⟨true :: bs, by rw [List.map_cons, bools_cons, h1]; rfl, by rw [List.all_cons, h2]; rfl⟩
theorem same_spec {F : Nat → Fn} {G : Nat → Gam} {lv : Nat → Nat} (hF : ∀ n, F (n + 1) = runF 4 (runs (G n) B_same)) (hG : ∀ n, (G n).fns[0]? = some ⟨"_law_same", 2, F n, lv n, []⟩) :
    ∀ (n : Nat) (d : D) (Q : D → Mu → Prop) (E : PX) (μ : Mu), sameB n d = true → Q (.bl true) μ → Wf (F n) [d, d] μ Q E
  | 0, d, Q, E, μ, h, _ => nomatch h
  | n + 1, d, Q, E, μ, h, hq => by
    rw [hF]
    unfold B_same
    cases d with
    | lst xs =>
      have h : xs.all (sameB n) = true := h
      simp only [↓br_true, ↓br_false, ↓op_some, ↓wp_bind, ↓wp_pure, ↓wp_fail, ↓wp_opt, ↓wp_guard, ↓wp_v, ↓wp_vB, ↓wp_c, ↓wp_op2, ↓wp_op2L, ↓wp_t, ↓wp_tru, ↓wp_chain, ↓wp_andT, ↓wp_orT, ↓wp_notT, ↓wp_andV, ↓wp_orV, ↓wp_notV, ↓wp_if, ↓wp_nil, ↓wp_cons, ↓wp_tup, ↓wp_lst, ↓wp_D, ↓wp_cb, ↓wp_call, ↓wp_isi, ↓wp_neg, ↓wp_sl, ↓wp_noP, ↓wp_P, ↓wp_yes, ↓wp_items, ↓wp_signs, ↓wp_comp, ↓ws_seq, ↓thn_nx, ↓thn_rt, ↓thn_br, ↓thn_ct, ↓thn_exc, ↓ws_skip, ↓ws_break, ↓ws_cont, ↓ws_retN, ↓ws_set, ↓ws_own, ↓ws_ret, ↓ws_drop, ↓ws_if, ↓ws_asg, ↓ws_par, ↓ws_setC, ↓wp_newc, ↓ws_app, ↓ws_ext, ↓ws_setI, ↓ws_frz, ↓ws_for, ↓wl_nil, ↓wl_cons, ↓wf_run, ↓retS_nx, ↓retS_rt, ↓lpS_nx, ↓lpS_ct, ↓lpS_br, ↓lpS_rt, ↓turn_nx, ↓turn_ct, ↓turn_br, ↓turn_rt, ↓wp_addI, ↓wp_addS, ↓wp_subI, ↓wp_mulI, ↓wp_divI, ↓wp_modI, ↓wp_powI, ↓wp_cmpI, ↓wp_eq, ↓wp_ne, ↓wp_negI, ↓wp_seqE, ↓wp_lstE, ↓wp_ixL, ↓wp_ixT, ↓wp_ixC, ↓wp_ixS, ↓wp_lenS, ↓wp_lenL, ↓wp_lenT, ↓wp_lenC, ↓wp_absI, ↓wp_intI, ↓wp_intB, ↓wp_intS, ↓wp_strI, ↓wp_boolI, ↓wp_boolB, ↓wp_all, ↓wp_any, ↓wp_sum, ↓wp_max2, ↓wp_min2, ↓wp_list, ↓wp_tuple, ↓wp_sorted, ↓wp_slS, ↓wp_slT, ↓wp_slLD, ↓wp_slC, ↓wp_slL, ↓wp_range1, ↓wp_range2, ↓wp_enum, ↓wp_enumT, ↓wp_zip, ↓wp_zipTT, ↓wp_zipTL, ↓wp_zipLT, ↓wp_cat, ↓wp_rep, ↓wp_inSg, ↓wp_notInSg, ↓wp_inL, ↓wp_inT, ↓wp_notIn, ↓wp_isN, ↓wp_notN, tt1, tt2, tt3, tt4, tt5, tt6, tu1, tu2, tu3, tu4, tu5, tu6, tu7, tu8, tu9, tu10, tu11, tu12, tu13, tu14, tu15, tu16, tu17, tu18, tu19, tu20, tu21, tu22, tu23, tu24, asB_bl, truD_non, truD_bl, truD_int, truD_str, truD_lst, truD_tup, asI_int, asS_str, items_lst, items_tup, items_str, valS_v, valB_v, valB_own, seqD_lst, seqD_tup, seqD_cell0, lstD_lst, lstD_cell0, cellL_0, own_lst, nonB_non, nonB_bl, nonB_int, nonB_str, nonB_lst, nonB_tup, nonB_cell, nonB_obj, bools_nil, bools_cons, ints_nil, ints_cons, eqD_ii, eqD_bb, eqD_ss, eqD_nn, eqD_ni, eqD_in, eqD_nb, eqD_bn, eqD_ns, eqD_sn, eqD_is, eqD_si, eqD_bs, eqD_sb, tag_non, tag_bl, tag_int, tag_str, tag_lst, tag_tup, tag_obj, bindP_nm, bindP_tp, bindPs_nil, bindPs_cons, ↓wp_get, ↓wp_meth, ↓wp_prop, ↓ws_setF, ↓wp_mk, ↓wp_own, ↓wp_kd, ↓wp_methK, ↓wp_ownNe, ↓wp_own1, ↓wp_ownT, ↓wp_fstr, ↓wp_fFn, ↓wp_fFc, ↓wp_fmtS, ↓wp_fmtI, kok_len, kok_repr, kok_bool, eqD_tt, eqD_ll, plB_non, plB_bl, plB_int, plB_str, plB_lst, plB_tup, eqBs_nn, eqBs_cc, eqBs_nc, eqBs_cn, eqB_ii, eqB_bb, eqB_ss, eqB_nn, eqB_ll, eqB_tt, eqB_ni, eqB_in, eqB_nt, eqB_tn, eqB_it, eqB_ti, ↓wp_addT, ↓wp_addL, ↓wp_mulL, objD_obj, objD_last, cellO_last, set_last, isO_obj, isO_last, putD_nil, putD_cons, lkp_nil, lkp_cons, belF_nil, belF_cons, ↓wp_compN, ↓wp_compC, rng_0, rng_1, rng_2, rng_3, enL_nil, enL_cons, zpL_nil, zpL_nilR, zpL_cons, ↓wp_maxL, ↓wp_minL, maxL_2, maxL_1, minL_2, minL_1, EG.runs, EG.run, ev, evs, evo, evr, evf, mkE, mkL, failL, bopF, copF, bltF, lbltF, env0, wipeE, isiAny, isi1, frzS, Cell.toD, atI_nn, setAt_nn, wp_inSg, Gam.put, clsTab, arrQ, arrP, Pick.of, kwM, rightB, E00, List.map_cons, List.map_nil, List.length_cons, List.length_nil, List.append_nil, List.nil_append, List.cons_append, List.getElem?_cons_zero, List.getElem?_cons_succ, List.getElem?_nil, List.set_cons_zero, List.set_cons_succ, List.filter_cons, List.filter_nil, List.contains_nil, List.elem_nil, Int.reduceNeg, Int.reducePow, nA10, nA2, le_big, Nat.reducePow, Nat.zero_add, Option.map_some, Option.bind_some, Int.reduceLE, Int.reduceToNat, Int.reduceLT, Nat.reduceLT, Nat.reduceAdd, Nat.reduceSub, true_and, and_true, decide_true, decide_false, List.length_append, List.length_map, Nat.reduceLeDiff, Nat.reduceEqDiff, Bool.not_true, Bool.not_false, decide_eq_true_eq, reduceCtorEq, Option.some.injEq, id_eq, List.all_cons, List.all_nil, List.any_cons, List.any_nil, Bool.and_true, Bool.true_and, Bool.and_false, Bool.false_and, Bool.or_true, Bool.or_false, Bool.true_or, Bool.false_or, Int.reduceAdd, Int.reduceSub, beq_self_eq_true, Option.isNone_none, Option.isNone_some, if_true, if_false, ite_true, ite_false, Nat.succ_eq_add_one, Int.natCast_add, Int.natCast_one, Int.cast_ofNat_Int, List.replicate, Int.natCast_zero, Int.zero_add, hG]
      obtain ⟨bs, b1, b2⟩ := bools_true ((zipL xs xs).filter fun _ => true)
      refine wp_of_eq (compL_pure (fun _ => true) (fun _ => .bl true) (zipL xs xs) fun d hd => ?_) ?_
      · obtain ⟨a, ha, rfl⟩ := mem_zipL hd
        refine ⟨[.v (.lst xs), .v (.lst xs), .v a, .v a], by simp only [↓br_true, ↓br_false, ↓op_some, ↓wp_bind, ↓wp_pure, ↓wp_fail, ↓wp_opt, ↓wp_guard, ↓wp_v, ↓wp_vB, ↓wp_c, ↓wp_op2, ↓wp_op2L, ↓wp_t, ↓wp_tru, ↓wp_chain, ↓wp_andT, ↓wp_orT, ↓wp_notT, ↓wp_andV, ↓wp_orV, ↓wp_notV, ↓wp_if, ↓wp_nil, ↓wp_cons, ↓wp_tup, ↓wp_lst, ↓wp_D, ↓wp_cb, ↓wp_call, ↓wp_isi, ↓wp_neg, ↓wp_sl, ↓wp_noP, ↓wp_P, ↓wp_yes, ↓wp_items, ↓wp_signs, ↓wp_comp, ↓ws_seq, ↓thn_nx, ↓thn_rt, ↓thn_br, ↓thn_ct, ↓thn_exc, ↓ws_skip, ↓ws_break, ↓ws_cont, ↓ws_retN, ↓ws_set, ↓ws_own, ↓ws_ret, ↓ws_drop, ↓ws_if, ↓ws_asg, ↓ws_par, ↓ws_setC, ↓wp_newc, ↓ws_app, ↓ws_ext, ↓ws_setI, ↓ws_frz, ↓ws_for, ↓wl_nil, ↓wl_cons, ↓wf_run, ↓retS_nx, ↓retS_rt, ↓lpS_nx, ↓lpS_ct, ↓lpS_br, ↓lpS_rt, ↓turn_nx, ↓turn_ct, ↓turn_br, ↓turn_rt, ↓wp_addI, ↓wp_addS, ↓wp_subI, ↓wp_mulI, ↓wp_divI, ↓wp_modI, ↓wp_powI, ↓wp_cmpI, ↓wp_eq, ↓wp_ne, ↓wp_negI, ↓wp_seqE, ↓wp_lstE, ↓wp_ixL, ↓wp_ixT, ↓wp_ixC, ↓wp_ixS, ↓wp_lenS, ↓wp_lenL, ↓wp_lenT, ↓wp_lenC, ↓wp_absI, ↓wp_intI, ↓wp_intB, ↓wp_intS, ↓wp_strI, ↓wp_boolI, ↓wp_boolB, ↓wp_all, ↓wp_any, ↓wp_sum, ↓wp_max2, ↓wp_min2, ↓wp_list, ↓wp_tuple, ↓wp_sorted, ↓wp_slS, ↓wp_slT, ↓wp_slLD, ↓wp_slC, ↓wp_slL, ↓wp_range1, ↓wp_range2, ↓wp_enum, ↓wp_enumT, ↓wp_zip, ↓wp_zipTT, ↓wp_zipTL, ↓wp_zipLT, ↓wp_cat, ↓wp_rep, ↓wp_inSg, ↓wp_notInSg, ↓wp_inL, ↓wp_inT, ↓wp_notIn, ↓wp_isN, ↓wp_notN, tt1, tt2, tt3, tt4, tt5, tt6, tu1, tu2, tu3, tu4, tu5, tu6, tu7, tu8, tu9, tu10, tu11, tu12, tu13, tu14, tu15, tu16, tu17, tu18, tu19, tu20, tu21, tu22, tu23, tu24, asB_bl, truD_non, truD_bl, truD_int, truD_str, truD_lst, truD_tup, asI_int, asS_str, items_lst, items_tup, items_str, valS_v, valB_v, valB_own, seqD_lst, seqD_tup, seqD_cell0, lstD_lst, lstD_cell0, cellL_0, own_lst, nonB_non, nonB_bl, nonB_int, nonB_str, nonB_lst, nonB_tup, nonB_cell, nonB_obj, bools_nil, bools_cons, ints_nil, ints_cons, eqD_ii, eqD_bb, eqD_ss, eqD_nn, eqD_ni, eqD_in, eqD_nb, eqD_bn, eqD_ns, eqD_sn, eqD_is, eqD_si, eqD_bs, eqD_sb, tag_non, tag_bl, tag_int, tag_str, tag_lst, tag_tup, tag_obj, bindP_nm, bindP_tp, bindPs_nil, bindPs_cons, ↓wp_get, ↓wp_meth, ↓wp_prop, ↓ws_setF, ↓wp_mk, ↓wp_own, ↓wp_kd, ↓wp_methK, ↓wp_ownNe, ↓wp_own1, ↓wp_ownT, ↓wp_fstr, ↓wp_fFn, ↓wp_fFc, ↓wp_fmtS, ↓wp_fmtI, kok_len, kok_repr, kok_bool, eqD_tt, eqD_ll, plB_non, plB_bl, plB_int, plB_str, plB_lst, plB_tup, eqBs_nn, eqBs_cc, eqBs_nc, eqBs_cn, eqB_ii, eqB_bb, eqB_ss, eqB_nn, eqB_ll, eqB_tt, eqB_ni, eqB_in, eqB_nt, eqB_tn, eqB_it, eqB_ti, ↓wp_addT, ↓wp_addL, ↓wp_mulL, objD_obj, objD_last, cellO_last, set_last, isO_obj, isO_last, putD_nil, putD_cons, lkp_nil, lkp_cons, belF_nil, belF_cons, ↓wp_compN, ↓wp_compC, rng_0, rng_1, rng_2, rng_3, enL_nil, enL_cons, zpL_nil, zpL_nilR, zpL_cons, ↓wp_maxL, ↓wp_minL, maxL_2, maxL_1, minL_2, minL_1, EG.runs, EG.run, ev, evs, evo, evr, evf, mkE, mkL, failL, bopF, copF, bltF, lbltF, env0, wipeE, isiAny, isi1, frzS, Cell.toD, atI_nn, setAt_nn, wp_inSg, Gam.put, clsTab, arrQ, arrP, Pick.of, kwM, rightB, E00, List.map_cons, List.map_nil, List.length_cons, List.length_nil, List.append_nil, List.nil_append, List.cons_append, List.getElem?_cons_zero, List.getElem?_cons_succ, List.getElem?_nil, List.set_cons_zero, List.set_cons_succ, List.filter_cons, List.filter_nil, List.contains_nil, List.elem_nil, Int.reduceNeg, Int.reducePow, nA10, nA2, le_big, Nat.reducePow, Nat.zero_add, Option.map_some, Option.bind_some, Int.reduceLE, Int.reduceToNat, Int.reduceLT, Nat.reduceLT, Nat.reduceAdd, Nat.reduceSub, true_and, and_true, decide_true, decide_false, List.length_append, List.length_map, Nat.reduceLeDiff, Nat.reduceEqDiff, Bool.not_true, Bool.not_false, decide_eq_true_eq, reduceCtorEq, Option.some.injEq, id_eq, List.all_cons, List.all_nil, List.any_cons, List.any_nil, Bool.and_true, Bool.true_and, Bool.and_false, Bool.false_and, Bool.or_true, Bool.or_false, Bool.true_or, Bool.false_or, Int.reduceAdd, Int.reduceSub, beq_self_eq_true, Option.isNone_none, Option.isNone_some, if_true, if_false, ite_true, ite_false, Nat.succ_eq_add_one, Int.natCast_add, Int.natCast_one, Int.cast_ofNat_Int, List.replicate, Int.natCast_zero, Int.zero_add], ?_, fun _ => ?_⟩
        · simp only [↓br_true, ↓br_false, ↓op_some, ↓wp_bind, ↓wp_pure, ↓wp_fail, ↓wp_opt, ↓wp_guard, ↓wp_v, ↓wp_vB, ↓wp_c, ↓wp_op2, ↓wp_op2L, ↓wp_t, ↓wp_tru, ↓wp_chain, ↓wp_andT, ↓wp_orT, ↓wp_notT, ↓wp_andV, ↓wp_orV, ↓wp_notV, ↓wp_if, ↓wp_nil, ↓wp_cons, ↓wp_tup, ↓wp_lst, ↓wp_D, ↓wp_cb, ↓wp_call, ↓wp_isi, ↓wp_neg, ↓wp_sl, ↓wp_noP, ↓wp_P, ↓wp_yes, ↓wp_items, ↓wp_signs, ↓wp_comp, ↓ws_seq, ↓thn_nx, ↓thn_rt, ↓thn_br, ↓thn_ct, ↓thn_exc, ↓ws_skip, ↓ws_break, ↓ws_cont, ↓ws_retN, ↓ws_set, ↓ws_own, ↓ws_ret, ↓ws_drop, ↓ws_if, ↓ws_asg, ↓ws_par, ↓ws_setC, ↓wp_newc, ↓ws_app, ↓ws_ext, ↓ws_setI, ↓ws_frz, ↓ws_for, ↓wl_nil, ↓wl_cons, ↓wf_run, ↓retS_nx, ↓retS_rt, ↓lpS_nx, ↓lpS_ct, ↓lpS_br, ↓lpS_rt, ↓turn_nx, ↓turn_ct, ↓turn_br, ↓turn_rt, ↓wp_addI, ↓wp_addS, ↓wp_subI, ↓wp_mulI, ↓wp_divI, ↓wp_modI, ↓wp_powI, ↓wp_cmpI, ↓wp_eq, ↓wp_ne, ↓wp_negI, ↓wp_seqE, ↓wp_lstE, ↓wp_ixL, ↓wp_ixT, ↓wp_ixC, ↓wp_ixS, ↓wp_lenS, ↓wp_lenL, ↓wp_lenT, ↓wp_lenC, ↓wp_absI, ↓wp_intI, ↓wp_intB, ↓wp_intS, ↓wp_strI, ↓wp_boolI, ↓wp_boolB, ↓wp_all, ↓wp_any, ↓wp_sum, ↓wp_max2, ↓wp_min2, ↓wp_list, ↓wp_tuple, ↓wp_sorted, ↓wp_slS, ↓wp_slT, ↓wp_slLD, ↓wp_slC, ↓wp_slL, ↓wp_range1, ↓wp_range2, ↓wp_enum, ↓wp_enumT, ↓wp_zip, ↓wp_zipTT, ↓wp_zipTL, ↓wp_zipLT, ↓wp_cat, ↓wp_rep, ↓wp_inSg, ↓wp_notInSg, ↓wp_inL, ↓wp_inT, ↓wp_notIn, ↓wp_isN, ↓wp_notN, tt1, tt2, tt3, tt4, tt5, tt6, tu1, tu2, tu3, tu4, tu5, tu6, tu7, tu8, tu9, tu10, tu11, tu12, tu13, tu14, tu15, tu16, tu17, tu18, tu19, tu20, tu21, tu22, tu23, tu24, asB_bl, truD_non, truD_bl, truD_int, truD_str, truD_lst, truD_tup, asI_int, asS_str, items_lst, items_tup, items_str, valS_v, valB_v, valB_own, seqD_lst, seqD_tup, seqD_cell0, lstD_lst, lstD_cell0, cellL_0, own_lst, nonB_non, nonB_bl, nonB_int, nonB_str, nonB_lst, nonB_tup, nonB_cell, nonB_obj, bools_nil, bools_cons, ints_nil, ints_cons, eqD_ii, eqD_bb, eqD_ss, eqD_nn, eqD_ni, eqD_in, eqD_nb, eqD_bn, eqD_ns, eqD_sn, eqD_is, eqD_si, eqD_bs, eqD_sb, tag_non, tag_bl, tag_int, tag_str, tag_lst, tag_tup, tag_obj, bindP_nm, bindP_tp, bindPs_nil, bindPs_cons, ↓wp_get, ↓wp_meth, ↓wp_prop, ↓ws_setF, ↓wp_mk, ↓wp_own, ↓wp_kd, ↓wp_methK, ↓wp_ownNe, ↓wp_own1, ↓wp_ownT, ↓wp_fstr, ↓wp_fFn, ↓wp_fFc, ↓wp_fmtS, ↓wp_fmtI, kok_len, kok_repr, kok_bool, eqD_tt, eqD_ll, plB_non, plB_bl, plB_int, plB_str, plB_lst, plB_tup, eqBs_nn, eqBs_cc, eqBs_nc, eqBs_cn, eqB_ii, eqB_bb, eqB_ss, eqB_nn, eqB_ll, eqB_tt, eqB_ni, eqB_in, eqB_nt, eqB_tn, eqB_it, eqB_ti, ↓wp_addT, ↓wp_addL, ↓wp_mulL, objD_obj, objD_last, cellO_last, set_last, isO_obj, isO_last, putD_nil, putD_cons, lkp_nil, lkp_cons, belF_nil, belF_cons, ↓wp_compN, ↓wp_compC, rng_0, rng_1, rng_2, rng_3, enL_nil, enL_cons, zpL_nil, zpL_nilR, zpL_cons, ↓wp_maxL, ↓wp_minL, maxL_2, maxL_1, minL_2, minL_1, EG.runs, EG.run, ev, evs, evo, evr, evf, mkE, mkL, failL, bopF, copF, bltF, lbltF, env0, wipeE, isiAny, isi1, frzS, Cell.toD, atI_nn, setAt_nn, wp_inSg, Gam.put, clsTab, arrQ, arrP, Pick.of, kwM, rightB, E00, List.map_cons, List.map_nil, List.length_cons, List.length_nil, List.append_nil, List.nil_append, List.cons_append, List.getElem?_cons_zero, List.getElem?_cons_succ, List.getElem?_nil, List.set_cons_zero, List.set_cons_succ, List.filter_cons, List.filter_nil, List.contains_nil, List.elem_nil, Int.reduceNeg, Int.reducePow, nA10, nA2, le_big, Nat.reducePow, Nat.zero_add, Option.map_some, Option.bind_some, Int.reduceLE, Int.reduceToNat, Int.reduceLT, Nat.reduceLT, Nat.reduceAdd, Nat.reduceSub, true_and, and_true, decide_true, decide_false, List.length_append, List.length_map, Nat.reduceLeDiff, Nat.reduceEqDiff, Bool.not_true, Bool.not_false, decide_eq_true_eq, reduceCtorEq, Option.some.injEq, id_eq, List.all_cons, List.all_nil, List.any_cons, List.any_nil, Bool.and_true, Bool.true_and, Bool.and_false, Bool.false_and, Bool.or_true, Bool.or_false, Bool.true_or, Bool.false_or, Int.reduceAdd, Int.reduceSub, beq_self_eq_true, Option.isNone_none, Option.isNone_some, if_true, if_false, ite_true, ite_false, Nat.succ_eq_add_one, Int.natCast_add, Int.natCast_one, Int.cast_ofNat_Int, List.replicate, Int.natCast_zero, Int.zero_add]
        · simp only [↓br_true, ↓br_false, ↓op_some, ↓wp_bind, ↓wp_pure, ↓wp_fail, ↓wp_opt, ↓wp_guard, ↓wp_v, ↓wp_vB, ↓wp_c, ↓wp_op2, ↓wp_op2L, ↓wp_t, ↓wp_tru, ↓wp_chain, ↓wp_andT, ↓wp_orT, ↓wp_notT, ↓wp_andV, ↓wp_orV, ↓wp_notV, ↓wp_if, ↓wp_nil, ↓wp_cons, ↓wp_tup, ↓wp_lst, ↓wp_D, ↓wp_cb, ↓wp_call, ↓wp_isi, ↓wp_neg, ↓wp_sl, ↓wp_noP, ↓wp_P, ↓wp_yes, ↓wp_items, ↓wp_signs, ↓wp_comp, ↓ws_seq, ↓thn_nx, ↓thn_rt, ↓thn_br, ↓thn_ct, ↓thn_exc, ↓ws_skip, ↓ws_break, ↓ws_cont, ↓ws_retN, ↓ws_set, ↓ws_own, ↓ws_ret, ↓ws_drop, ↓ws_if, ↓ws_asg, ↓ws_par, ↓ws_setC, ↓wp_newc, ↓ws_app, ↓ws_ext, ↓ws_setI, ↓ws_frz, ↓ws_for, ↓wl_nil, ↓wl_cons, ↓wf_run, ↓retS_nx, ↓retS_rt, ↓lpS_nx, ↓lpS_ct, ↓lpS_br, ↓lpS_rt, ↓turn_nx, ↓turn_ct, ↓turn_br, ↓turn_rt, ↓wp_addI, ↓wp_addS, ↓wp_subI, ↓wp_mulI, ↓wp_divI, ↓wp_modI, ↓wp_powI, ↓wp_cmpI, ↓wp_eq, ↓wp_ne, ↓wp_negI, ↓wp_seqE, ↓wp_lstE, ↓wp_ixL, ↓wp_ixT, ↓wp_ixC, ↓wp_ixS, ↓wp_lenS, ↓wp_lenL, ↓wp_lenT, ↓wp_lenC, ↓wp_absI, ↓wp_intI, ↓wp_intB, ↓wp_intS, ↓wp_strI, ↓wp_boolI, ↓wp_boolB, ↓wp_all, ↓wp_any, ↓wp_sum, ↓wp_max2, ↓wp_min2, ↓wp_list, ↓wp_tuple, ↓wp_sorted, ↓wp_slS, ↓wp_slT, ↓wp_slLD, ↓wp_slC, ↓wp_slL, ↓wp_range1, ↓wp_range2, ↓wp_enum, ↓wp_enumT, ↓wp_zip, ↓wp_zipTT, ↓wp_zipTL, ↓wp_zipLT, ↓wp_cat, ↓wp_rep, ↓wp_inSg, ↓wp_notInSg, ↓wp_inL, ↓wp_inT, ↓wp_notIn, ↓wp_isN, ↓wp_notN, tt1, tt2, tt3, tt4, tt5, tt6, tu1, tu2, tu3, tu4, tu5, tu6, tu7, tu8, tu9, tu10, tu11, tu12, tu13, tu14, tu15, tu16, tu17, tu18, tu19, tu20, tu21, tu22, tu23, tu24, asB_bl, truD_non, truD_bl, truD_int, truD_str, truD_lst, truD_tup, asI_int, asS_str, items_lst, items_tup, items_str, valS_v, valB_v, valB_own, seqD_lst, seqD_tup, seqD_cell0, lstD_lst, lstD_cell0, cellL_0, own_lst, nonB_non, nonB_bl, nonB_int, nonB_str, nonB_lst, nonB_tup, nonB_cell, nonB_obj, bools_nil, bools_cons, ints_nil, ints_cons, eqD_ii, eqD_bb, eqD_ss, eqD_nn, eqD_ni, eqD_in, eqD_nb, eqD_bn, eqD_ns, eqD_sn, eqD_is, eqD_si, eqD_bs, eqD_sb, tag_non, tag_bl, tag_int, tag_str, tag_lst, tag_tup, tag_obj, bindP_nm, bindP_tp, bindPs_nil, bindPs_cons, ↓wp_get, ↓wp_meth, ↓wp_prop, ↓ws_setF, ↓wp_mk, ↓wp_own, ↓wp_kd, ↓wp_methK, ↓wp_ownNe, ↓wp_own1, ↓wp_ownT, ↓wp_fstr, ↓wp_fFn, ↓wp_fFc, ↓wp_fmtS, ↓wp_fmtI, kok_len, kok_repr, kok_bool, eqD_tt, eqD_ll, plB_non, plB_bl, plB_int, plB_str, plB_lst, plB_tup, eqBs_nn, eqBs_cc, eqBs_nc, eqBs_cn, eqB_ii, eqB_bb, eqB_ss, eqB_nn, eqB_ll, eqB_tt, eqB_ni, eqB_in, eqB_nt, eqB_tn, eqB_it, eqB_ti, ↓wp_addT, ↓wp_addL, ↓wp_mulL, objD_obj, objD_last, cellO_last, set_last, isO_obj, isO_last, putD_nil, putD_cons, lkp_nil, lkp_cons, belF_nil, belF_cons, ↓wp_compN, ↓wp_compC, rng_0, rng_1, rng_2, rng_3, enL_nil, enL_cons, zpL_nil, zpL_nilR, zpL_cons, ↓wp_maxL, ↓wp_minL, maxL_2, maxL_1, minL_2, minL_1, EG.runs, EG.run, ev, evs, evo, evr, evf, mkE, mkL, failL, bopF, copF, bltF, lbltF, env0, wipeE, isiAny, isi1, frzS, Cell.toD, atI_nn, setAt_nn, wp_inSg, Gam.put, clsTab, arrQ, arrP, Pick.of, kwM, rightB, E00, List.map_cons, List.map_nil, List.length_cons, List.length_nil, List.append_nil, List.nil_append, List.cons_append, List.getElem?_cons_zero, List.getElem?_cons_succ, List.getElem?_nil, List.set_cons_zero, List.set_cons_succ, List.filter_cons, List.filter_nil, List.contains_nil, List.elem_nil, Int.reduceNeg, Int.reducePow, nA10, nA2, le_big, Nat.reducePow, Nat.zero_add, Option.map_some, Option.bind_some, Int.reduceLE, Int.reduceToNat, Int.reduceLT, Nat.reduceLT, Nat.reduceAdd, Nat.reduceSub, true_and, and_true, decide_true, decide_false, List.length_append, List.length_map, Nat.reduceLeDiff, Nat.reduceEqDiff, Bool.not_true, Bool.not_false, decide_eq_true_eq, reduceCtorEq, Option.some.injEq, id_eq, List.all_cons, List.all_nil, List.any_cons, List.any_nil, Bool.and_true, Bool.true_and, Bool.and_false, Bool.false_and, Bool.or_true, Bool.or_false, Bool.true_or, Bool.false_or, Int.reduceAdd, Int.reduceSub, beq_self_eq_true, Option.isNone_none, Option.isNone_some, if_true, if_false, ite_true, ite_false, Nat.succ_eq_add_one, Int.natCast_add, Int.natCast_one, Int.cast_ofNat_Int, List.replicate, Int.natCast_zero, Int.zero_add, hG]
          exact same_spec hF hG n a _ _ μ (List.all_eq_true.mp h a ha) ⟨rfl, rfl⟩
      · simp only [↓br_true, ↓br_false, ↓op_some, ↓wp_bind, ↓wp_pure, ↓wp_fail, ↓wp_opt, ↓wp_guard, ↓wp_v, ↓wp_vB, ↓wp_c, ↓wp_op2, ↓wp_op2L, ↓wp_t, ↓wp_tru, ↓wp_chain, ↓wp_andT, ↓wp_orT, ↓wp_notT, ↓wp_andV, ↓wp_orV, ↓wp_notV, ↓wp_if, ↓wp_nil, ↓wp_cons, ↓wp_tup, ↓wp_lst, ↓wp_D, ↓wp_cb, ↓wp_call, ↓wp_isi, ↓wp_neg, ↓wp_sl, ↓wp_noP, ↓wp_P, ↓wp_yes, ↓wp_items, ↓wp_signs, ↓wp_comp, ↓ws_seq, ↓thn_nx, ↓thn_rt, ↓thn_br, ↓thn_ct, ↓thn_exc, ↓ws_skip, ↓ws_break, ↓ws_cont, ↓ws_retN, ↓ws_set, ↓ws_own, ↓ws_ret, ↓ws_drop, ↓ws_if, ↓ws_asg, ↓ws_par, ↓ws_setC, ↓wp_newc, ↓ws_app, ↓ws_ext, ↓ws_setI, ↓ws_frz, ↓ws_for, ↓wl_nil, ↓wl_cons, ↓wf_run, ↓retS_nx, ↓retS_rt, ↓lpS_nx, ↓lpS_ct, ↓lpS_br, ↓lpS_rt, ↓turn_nx, ↓turn_ct, ↓turn_br, ↓turn_rt, ↓wp_addI, ↓wp_addS, ↓wp_subI, ↓wp_mulI, ↓wp_divI, ↓wp_modI, ↓wp_powI, ↓wp_cmpI, ↓wp_eq, ↓wp_ne, ↓wp_negI, ↓wp_seqE, ↓wp_lstE, ↓wp_ixL, ↓wp_ixT, ↓wp_ixC, ↓wp_ixS, ↓wp_lenS, ↓wp_lenL, ↓wp_lenT, ↓wp_lenC, ↓wp_absI, ↓wp_intI, ↓wp_intB, ↓wp_intS, ↓wp_strI, ↓wp_boolI, ↓wp_boolB, ↓wp_all, ↓wp_any, ↓wp_sum, ↓wp_max2, ↓wp_min2, ↓wp_list, ↓wp_tuple, ↓wp_sorted, ↓wp_slS, ↓wp_slT, ↓wp_slLD, ↓wp_slC, ↓wp_slL, ↓wp_range1, ↓wp_range2, ↓wp_enum, ↓wp_enumT, ↓wp_zip, ↓wp_zipTT, ↓wp_zipTL, ↓wp_zipLT, ↓wp_cat, ↓wp_rep, ↓wp_inSg, ↓wp_notInSg, ↓wp_inL, ↓wp_inT, ↓wp_notIn, ↓wp_isN, ↓wp_notN, tt1, tt2, tt3, tt4, tt5, tt6, tu1, tu2, tu3, tu4, tu5, tu6, tu7, tu8, tu9, tu10, tu11, tu12, tu13, tu14, tu15, tu16, tu17, tu18, tu19, tu20, tu21, tu22, tu23, tu24, asB_bl, truD_non, truD_bl, truD_int, truD_str, truD_lst, truD_tup, asI_int, asS_str, items_lst, items_tup, items_str, valS_v, valB_v, valB_own, seqD_lst, seqD_tup, seqD_cell0, lstD_lst, lstD_cell0, cellL_0, own_lst, nonB_non, nonB_bl, nonB_int, nonB_str, nonB_lst, nonB_tup, nonB_cell, nonB_obj, bools_nil, bools_cons, ints_nil, ints_cons, eqD_ii, eqD_bb, eqD_ss, eqD_nn, eqD_ni, eqD_in, eqD_nb, eqD_bn, eqD_ns, eqD_sn, eqD_is, eqD_si, eqD_bs, eqD_sb, tag_non, tag_bl, tag_int, tag_str, tag_lst, tag_tup, tag_obj, bindP_nm, bindP_tp, bindPs_nil, bindPs_cons, ↓wp_get, ↓wp_meth, ↓wp_prop, ↓ws_setF, ↓wp_mk, ↓wp_own, ↓wp_kd, ↓wp_methK, ↓wp_ownNe, ↓wp_own1, ↓wp_ownT, ↓wp_fstr, ↓wp_fFn, ↓wp_fFc, ↓wp_fmtS, ↓wp_fmtI, kok_len, kok_repr, kok_bool, eqD_tt, eqD_ll, plB_non, plB_bl, plB_int, plB_str, plB_lst, plB_tup, eqBs_nn, eqBs_cc, eqBs_nc, eqBs_cn, eqB_ii, eqB_bb, eqB_ss, eqB_nn, eqB_ll, eqB_tt, eqB_ni, eqB_in, eqB_nt, eqB_tn, eqB_it, eqB_ti, ↓wp_addT, ↓wp_addL, ↓wp_mulL, objD_obj, objD_last, cellO_last, set_last, isO_obj, isO_last, putD_nil, putD_cons, lkp_nil, lkp_cons, belF_nil, belF_cons, ↓wp_compN, ↓wp_compC, rng_0, rng_1, rng_2, rng_3, enL_nil, enL_cons, zpL_nil, zpL_nilR, zpL_cons, ↓wp_maxL, ↓wp_minL, maxL_2, maxL_1, minL_2, minL_1, EG.runs, EG.run, ev, evs, evo, evr, evf, mkE, mkL, failL, bopF, copF, bltF, lbltF, env0, wipeE, isiAny, isi1, frzS, Cell.toD, atI_nn, setAt_nn, wp_inSg, Gam.put, clsTab, arrQ, arrP, Pick.of, kwM, rightB, E00, List.map_cons, List.map_nil, List.length_cons, List.length_nil, List.append_nil, List.nil_append, List.cons_append, List.getElem?_cons_zero, List.getElem?_cons_succ, List.getElem?_nil, List.set_cons_zero, List.set_cons_succ, List.filter_cons, List.filter_nil, List.contains_nil, List.elem_nil, Int.reduceNeg, Int.reducePow, nA10, nA2, le_big, Nat.reducePow, Nat.zero_add, Option.map_some, Option.bind_some, Int.reduceLE, Int.reduceToNat, Int.reduceLT, Nat.reduceLT, Nat.reduceAdd, Nat.reduceSub, true_and, and_true, decide_true, decide_false, List.length_append, List.length_map, Nat.reduceLeDiff, Nat.reduceEqDiff, Bool.not_true, Bool.not_false, decide_eq_true_eq, reduceCtorEq, Option.some.injEq, id_eq, List.all_cons, List.all_nil, List.any_cons, List.any_nil, Bool.and_true, Bool.true_and, Bool.and_false, Bool.false_and, Bool.or_true, Bool.or_false, Bool.true_or, Bool.false_or, Int.reduceAdd, Int.reduceSub, beq_self_eq_true, Option.isNone_none, Option.isNone_some, if_true, if_false, ite_true, ite_false, Nat.succ_eq_add_one, Int.natCast_add, Int.natCast_one, Int.cast_ofNat_Int, List.replicate, Int.natCast_zero, Int.zero_add, b1, b2]
        exact hq
    | tup xs =>
      have h : xs.all (sameB n) = true := h
      simp only [↓br_true, ↓br_false, ↓op_some, ↓wp_bind, ↓wp_pure, ↓wp_fail, ↓wp_opt, ↓wp_guard, ↓wp_v, ↓wp_vB, ↓wp_c, ↓wp_op2, ↓wp_op2L, ↓wp_t, ↓wp_tru, ↓wp_chain, ↓wp_andT, ↓wp_orT, ↓wp_notT, ↓wp_andV, ↓wp_orV, ↓wp_notV, ↓wp_if, ↓wp_nil, ↓wp_cons, ↓wp_tup, ↓wp_lst, ↓wp_D, ↓wp_cb, ↓wp_call, ↓wp_isi, ↓wp_neg, ↓wp_sl, ↓wp_noP, ↓wp_P, ↓wp_yes, ↓wp_items, ↓wp_signs, ↓wp_comp, ↓ws_seq, ↓thn_nx, ↓thn_rt, ↓thn_br, ↓thn_ct, ↓thn_exc, ↓ws_skip, ↓ws_break, ↓ws_cont, ↓ws_retN, ↓ws_set, ↓ws_own, ↓ws_ret, ↓ws_drop, ↓ws_if, ↓ws_asg, ↓ws_par, ↓ws_setC, ↓wp_newc, ↓ws_app, ↓ws_ext, ↓ws_setI, ↓ws_frz, ↓ws_for, ↓wl_nil, ↓wl_cons, ↓wf_run, ↓retS_nx, ↓retS_rt, ↓lpS_nx, ↓lpS_ct, ↓lpS_br, ↓lpS_rt, ↓turn_nx, ↓turn_ct, ↓turn_br, ↓turn_rt, ↓wp_addI, ↓wp_addS, ↓wp_subI, ↓wp_mulI, ↓wp_divI, ↓wp_modI, ↓wp_powI, ↓wp_cmpI, ↓wp_eq, ↓wp_ne, ↓wp_negI, ↓wp_seqE, ↓wp_lstE, ↓wp_ixL, ↓wp_ixT, ↓wp_ixC, ↓wp_ixS, ↓wp_lenS, ↓wp_lenL, ↓wp_lenT, ↓wp_lenC, ↓wp_absI, ↓wp_intI, ↓wp_intB, ↓wp_intS, ↓wp_strI, ↓wp_boolI, ↓wp_boolB, ↓wp_all, ↓wp_any, ↓wp_sum, ↓wp_max2, ↓wp_min2, ↓wp_list, ↓wp_tuple, ↓wp_sorted, ↓wp_slS, ↓wp_slT, ↓wp_slLD, ↓wp_slC, ↓wp_slL, ↓wp_range1, ↓wp_range2, ↓wp_enum, ↓wp_enumT, ↓wp_zip, ↓wp_zipTT, ↓wp_zipTL, ↓wp_zipLT, ↓wp_cat, ↓wp_rep, ↓wp_inSg, ↓wp_notInSg, ↓wp_inL, ↓wp_inT, ↓wp_notIn, ↓wp_isN, ↓wp_notN, tt1, tt2, tt3, tt4, tt5, tt6, tu1, tu2, tu3, tu4, tu5, tu6, tu7, tu8, tu9, tu10, tu11, tu12, tu13, tu14, tu15, tu16, tu17, tu18, tu19, tu20, tu21, tu22, tu23, tu24, asB_bl, truD_non, truD_bl, truD_int, truD_str, truD_lst, truD_tup, asI_int, asS_str, items_lst, items_tup, items_str, valS_v, valB_v, valB_own, seqD_lst, seqD_tup, seqD_cell0, lstD_lst, lstD_cell0, cellL_0, own_lst, nonB_non, nonB_bl, nonB_int, nonB_str, nonB_lst, nonB_tup, nonB_cell, nonB_obj, bools_nil, bools_cons, ints_nil, ints_cons, eqD_ii, eqD_bb, eqD_ss, eqD_nn, eqD_ni, eqD_in, eqD_nb, eqD_bn, eqD_ns, eqD_sn, eqD_is, eqD_si, eqD_bs, eqD_sb, tag_non, tag_bl, tag_int, tag_str, tag_lst, tag_tup, tag_obj, bindP_nm, bindP_tp, bindPs_nil, bindPs_cons, ↓wp_get, ↓wp_meth, ↓wp_prop, ↓ws_setF, ↓wp_mk, ↓wp_own, ↓wp_kd, ↓wp_methK, ↓wp_ownNe, ↓wp_own1, ↓wp_ownT, ↓wp_fstr, ↓wp_fFn, ↓wp_fFc, ↓wp_fmtS, ↓wp_fmtI, kok_len, kok_repr, kok_bool, eqD_tt, eqD_ll, plB_non, plB_bl, plB_int, plB_str, plB_lst, plB_tup, eqBs_nn, eqBs_cc, eqBs_nc, eqBs_cn, eqB_ii, eqB_bb, eqB_ss, eqB_nn, eqB_ll, eqB_tt, eqB_ni, eqB_in, eqB_nt, eqB_tn, eqB_it, eqB_ti, ↓wp_addT, ↓wp_addL, ↓wp_mulL, objD_obj, objD_last, cellO_last, set_last, isO_obj, isO_last, putD_nil, putD_cons, lkp_nil, lkp_cons, belF_nil, belF_cons, ↓wp_compN, ↓wp_compC, rng_0, rng_1, rng_2, rng_3, enL_nil, enL_cons, zpL_nil, zpL_nilR, zpL_cons, ↓wp_maxL, ↓wp_minL, maxL_2, maxL_1, minL_2, minL_1, EG.runs, EG.run, ev, evs, evo, evr, evf, mkE, mkL, failL, bopF, copF, bltF, lbltF, env0, wipeE, isiAny, isi1, frzS, Cell.toD, atI_nn, setAt_nn, wp_inSg, Gam.put, clsTab, arrQ, arrP, Pick.of, kwM, rightB, E00, List.map_cons, List.map_nil, List.length_cons, List.length_nil, List.append_nil, List.nil_append, List.cons_append, List.getElem?_cons_zero, List.getElem?_cons_succ, List.getElem?_nil, List.set_cons_zero, List.set_cons_succ, List.filter_cons, List.filter_nil, List.contains_nil, List.elem_nil, Int.reduceNeg, Int.reducePow, nA10, nA2, le_big, Nat.reducePow, Nat.zero_add, Option.map_some, Option.bind_some, Int.reduceLE, Int.reduceToNat, Int.reduceLT, Nat.reduceLT, Nat.reduceAdd, Nat.reduceSub, true_and, and_true, decide_true, decide_false, List.length_append, List.length_map, Nat.reduceLeDiff, Nat.reduceEqDiff, Bool.not_true, Bool.not_false, decide_eq_true_eq, reduceCtorEq, Option.some.injEq, id_eq, List.all_cons, List.all_nil, List.any_cons, List.any_nil, Bool.and_true, Bool.true_and, Bool.and_false, Bool.false_and, Bool.or_true, Bool.or_false, Bool.true_or, Bool.false_or, Int.reduceAdd, Int.reduceSub, beq_self_eq_true, Option.isNone_none, Option.isNone_some, if_true, if_false, ite_true, ite_false, Nat.succ_eq_add_one, Int.natCast_add, Int.natCast_one, Int.cast_ofNat_Int, List.replicate, Int.natCast_zero, Int.zero_add, hG]
      obtain ⟨bs, b1, b2⟩ := bools_true ((zipL xs xs).filter fun _ => true)
      refine wp_of_eq (compL_pure (fun _ => true) (fun _ => .bl true) (zipL xs xs) fun d hd => ?_) ?_
      · obtain ⟨a, ha, rfl⟩ := mem_zipL hd
        refine ⟨[.v (.tup xs), .v (.tup xs), .v a, .v a], by simp only [↓br_true, ↓br_false, ↓op_some, ↓wp_bind, ↓wp_pure, ↓wp_fail, ↓wp_opt, ↓wp_guard, ↓wp_v, ↓wp_vB, ↓wp_c, ↓wp_op2, ↓wp_op2L, ↓wp_t, ↓wp_tru, ↓wp_chain, ↓wp_andT, ↓wp_orT, ↓wp_notT, ↓wp_andV, ↓wp_orV, ↓wp_notV, ↓wp_if, ↓wp_nil, ↓wp_cons, ↓wp_tup, ↓wp_lst, ↓wp_D, ↓wp_cb, ↓wp_call, ↓wp_isi, ↓wp_neg, ↓wp_sl, ↓wp_noP, ↓wp_P, ↓wp_yes, ↓wp_items, ↓wp_signs, ↓wp_comp, ↓ws_seq, ↓thn_nx, ↓thn_rt, ↓thn_br, ↓thn_ct, ↓thn_exc, ↓ws_skip, ↓ws_break, ↓ws_cont, ↓ws_retN, ↓ws_set, ↓ws_own, ↓ws_ret, ↓ws_drop, ↓ws_if, ↓ws_asg, ↓ws_par, ↓ws_setC, ↓wp_newc, ↓ws_app, ↓ws_ext, ↓ws_setI, ↓ws_frz, ↓ws_for, ↓wl_nil, ↓wl_cons, ↓wf_run, ↓retS_nx, ↓retS_rt, ↓lpS_nx, ↓lpS_ct, ↓lpS_br, ↓lpS_rt, ↓turn_nx, ↓turn_ct, ↓turn_br, ↓turn_rt, ↓wp_addI, ↓wp_addS, ↓wp_subI, ↓wp_mulI, ↓wp_divI, ↓wp_modI, ↓wp_powI, ↓wp_cmpI, ↓wp_eq, ↓wp_ne, ↓wp_negI, ↓wp_seqE, ↓wp_lstE, ↓wp_ixL, ↓wp_ixT, ↓wp_ixC, ↓wp_ixS, ↓wp_lenS, ↓wp_lenL, ↓wp_lenT, ↓wp_lenC, ↓wp_absI, ↓wp_intI, ↓wp_intB, ↓wp_intS, ↓wp_strI, ↓wp_boolI, ↓wp_boolB, ↓wp_all, ↓wp_any, ↓wp_sum, ↓wp_max2, ↓wp_min2, ↓wp_list, ↓wp_tuple, ↓wp_sorted, ↓wp_slS, ↓wp_slT, ↓wp_slLD, ↓wp_slC, ↓wp_slL, ↓wp_range1, ↓wp_range2, ↓wp_enum, ↓wp_enumT, ↓wp_zip, ↓wp_zipTT, ↓wp_zipTL, ↓wp_zipLT, ↓wp_cat, ↓wp_rep, ↓wp_inSg, ↓wp_notInSg, ↓wp_inL, ↓wp_inT, ↓wp_notIn, ↓wp_isN, ↓wp_notN, tt1, tt2, tt3, tt4, tt5, tt6, tu1, tu2, tu3, tu4, tu5, tu6, tu7, tu8, tu9, tu10, tu11, tu12, tu13, tu14, tu15, tu16, tu17, tu18, tu19, tu20, tu21, tu22, tu23, tu24, asB_bl, truD_non, truD_bl, truD_int, truD_str, truD_lst, truD_tup, asI_int, asS_str, items_lst, items_tup, items_str, valS_v, valB_v, valB_own, seqD_lst, seqD_tup, seqD_cell0, lstD_lst, lstD_cell0, cellL_0, own_lst, nonB_non, nonB_bl, nonB_int, nonB_str, nonB_lst, nonB_tup, nonB_cell, nonB_obj, bools_nil, bools_cons, ints_nil, ints_cons, eqD_ii, eqD_bb, eqD_ss, eqD_nn, eqD_ni, eqD_in, eqD_nb, eqD_bn, eqD_ns, eqD_sn, eqD_is, eqD_si, eqD_bs, eqD_sb, tag_non, tag_bl, tag_int, tag_str, tag_lst, tag_tup, tag_obj, bindP_nm, bindP_tp, bindPs_nil, bindPs_cons, ↓wp_get, ↓wp_meth, ↓wp_prop, ↓ws_setF, ↓wp_mk, ↓wp_own, ↓wp_kd, ↓wp_methK, ↓wp_ownNe, ↓wp_own1, ↓wp_ownT, ↓wp_fstr, ↓wp_fFn, ↓wp_fFc, ↓wp_fmtS, ↓wp_fmtI, kok_len, kok_repr, kok_bool, eqD_tt, eqD_ll, plB_non, plB_bl, plB_int, plB_str, plB_lst, plB_tup, eqBs_nn, eqBs_cc, eqBs_nc, eqBs_cn, eqB_ii, eqB_bb, eqB_ss, eqB_nn, eqB_ll, eqB_tt, eqB_ni, eqB_in, eqB_nt, eqB_tn, eqB_it, eqB_ti, ↓wp_addT, ↓wp_addL, ↓wp_mulL, objD_obj, objD_last, cellO_last, set_last, isO_obj, isO_last, putD_nil, putD_cons, lkp_nil, lkp_cons, belF_nil, belF_cons, ↓wp_compN, ↓wp_compC, rng_0, rng_1, rng_2, rng_3, enL_nil, enL_cons, zpL_nil, zpL_nilR, zpL_cons, ↓wp_maxL, ↓wp_minL, maxL_2, maxL_1, minL_2, minL_1, EG.runs, EG.run, ev, evs, evo, evr, evf, mkE, mkL, failL, bopF, copF, bltF, lbltF, env0, wipeE, isiAny, isi1, frzS, Cell.toD, atI_nn, setAt_nn, wp_inSg, Gam.put, clsTab, arrQ, arrP, Pick.of, kwM, rightB, E00, List.map_cons, List.map_nil, List.length_cons, List.length_nil, List.append_nil, List.nil_append, List.cons_append, List.getElem?_cons_zero, List.getElem?_cons_succ, List.getElem?_nil, List.set_cons_zero, List.set_cons_succ, List.filter_cons, List.filter_nil, List.contains_nil, List.elem_nil, Int.reduceNeg, Int.reducePow, nA10, nA2, le_big, Nat.reducePow, Nat.zero_add, Option.map_some, Option.bind_some, Int.reduceLE, Int.reduceToNat, Int.reduceLT, Nat.reduceLT, Nat.reduceAdd, Nat.reduceSub, true_and, and_true, decide_true, decide_false, List.length_append, List.length_map, Nat.reduceLeDiff, Nat.reduceEqDiff, Bool.not_true, Bool.not_false, decide_eq_true_eq, reduceCtorEq, Option.some.injEq, id_eq, List.all_cons, List.all_nil, List.any_cons, List.any_nil, Bool.and_true, Bool.true_and, Bool.and_false, Bool.false_and, Bool.or_true, Bool.or_false, Bool.true_or, Bool.false_or, Int.reduceAdd, Int.reduceSub, beq_self_eq_true, Option.isNone_none, Option.isNone_some, if_true, if_false, ite_true, ite_false, Nat.succ_eq_add_one, Int.natCast_add, Int.natCast_one, Int.cast_ofNat_Int, List.replicate, Int.natCast_zero, Int.zero_add], ?_, fun _ => ?_⟩
        · simp only [↓br_true, ↓br_false, ↓op_some, ↓wp_bind, ↓wp_pure, ↓wp_fail, ↓wp_opt, ↓wp_guard, ↓wp_v, ↓wp_vB, ↓wp_c, ↓wp_op2, ↓wp_op2L, ↓wp_t, ↓wp_tru, ↓wp_chain, ↓wp_andT, ↓wp_orT, ↓wp_notT, ↓wp_andV, ↓wp_orV, ↓wp_notV, ↓wp_if, ↓wp_nil, ↓wp_cons, ↓wp_tup, ↓wp_lst, ↓wp_D, ↓wp_cb, ↓wp_call, ↓wp_isi, ↓wp_neg, ↓wp_sl, ↓wp_noP, ↓wp_P, ↓wp_yes, ↓wp_items, ↓wp_signs, ↓wp_comp, ↓ws_seq, ↓thn_nx, ↓thn_rt, ↓thn_br, ↓thn_ct, ↓thn_exc, ↓ws_skip, ↓ws_break, ↓ws_cont, ↓ws_retN, ↓ws_set, ↓ws_own, ↓ws_ret, ↓ws_drop, ↓ws_if, ↓ws_asg, ↓ws_par, ↓ws_setC, ↓wp_newc, ↓ws_app, ↓ws_ext, ↓ws_setI, ↓ws_frz, ↓ws_for, ↓wl_nil, ↓wl_cons, ↓wf_run, ↓retS_nx, ↓retS_rt, ↓lpS_nx, ↓lpS_ct, ↓lpS_br, ↓lpS_rt, ↓turn_nx, ↓turn_ct, ↓turn_br, ↓turn_rt, ↓wp_addI, ↓wp_addS, ↓wp_subI, ↓wp_mulI, ↓wp_divI, ↓wp_modI, ↓wp_powI, ↓wp_cmpI, ↓wp_eq, ↓wp_ne, ↓wp_negI, ↓wp_seqE, ↓wp_lstE, ↓wp_ixL, ↓wp_ixT, ↓wp_ixC, ↓wp_ixS, ↓wp_lenS, ↓wp_lenL, ↓wp_lenT, ↓wp_lenC, ↓wp_absI, ↓wp_intI, ↓wp_intB, ↓wp_intS, ↓wp_strI, ↓wp_boolI, ↓wp_boolB, ↓wp_all, ↓wp_any, ↓wp_sum, ↓wp_max2, ↓wp_min2, ↓wp_list, ↓wp_tuple, ↓wp_sorted, ↓wp_slS, ↓wp_slT, ↓wp_slLD, ↓wp_slC, ↓wp_slL, ↓wp_range1, ↓wp_range2, ↓wp_enum, ↓wp_enumT, ↓wp_zip, ↓wp_zipTT, ↓wp_zipTL, ↓wp_zipLT, ↓wp_cat, ↓wp_rep, ↓wp_inSg, ↓wp_notInSg, ↓wp_inL, ↓wp_inT, ↓wp_notIn, ↓wp_isN, ↓wp_notN, tt1, tt2, tt3, tt4, tt5, tt6, tu1, tu2, tu3, tu4, tu5, tu6, tu7, tu8, tu9, tu10, tu11, tu12, tu13, tu14, tu15, tu16, tu17, tu18, tu19, tu20, tu21, tu22, tu23, tu24, asB_bl, truD_non, truD_bl, truD_int, truD_str, truD_lst, truD_tup, asI_int, asS_str, items_lst, items_tup, items_str, valS_v, valB_v, valB_own, seqD_lst, seqD_tup, seqD_cell0, lstD_lst, lstD_cell0, cellL_0, own_lst, nonB_non, nonB_bl, nonB_int, nonB_str, nonB_lst, nonB_tup, nonB_cell, nonB_obj, bools_nil, bools_cons, ints_nil, ints_cons, eqD_ii, eqD_bb, eqD_ss, eqD_nn, eqD_ni, eqD_in, eqD_nb, eqD_bn, eqD_ns, eqD_sn, eqD_is, eqD_si, eqD_bs, eqD_sb, tag_non, tag_bl, tag_int, tag_str, tag_lst, tag_tup, tag_obj, bindP_nm, bindP_tp, bindPs_nil, bindPs_cons, ↓wp_get, ↓wp_meth, ↓wp_prop, ↓ws_setF, ↓wp_mk, ↓wp_own, ↓wp_kd, ↓wp_methK, ↓wp_ownNe, ↓wp_own1, ↓wp_ownT, ↓wp_fstr, ↓wp_fFn, ↓wp_fFc, ↓wp_fmtS, ↓wp_fmtI, kok_len, kok_repr, kok_bool, eqD_tt, eqD_ll, plB_non, plB_bl, plB_int, plB_str, plB_lst, plB_tup, eqBs_nn, eqBs_cc, eqBs_nc, eqBs_cn, eqB_ii, eqB_bb, eqB_ss, eqB_nn, eqB_ll, eqB_tt, eqB_ni, eqB_in, eqB_nt, eqB_tn, eqB_it, eqB_ti, ↓wp_addT, ↓wp_addL, ↓wp_mulL, objD_obj, objD_last, cellO_last, set_last, isO_obj, isO_last, putD_nil, putD_cons, lkp_nil, lkp_cons, belF_nil, belF_cons, ↓wp_compN, ↓wp_compC, rng_0, rng_1, rng_2, rng_3, enL_nil, enL_cons, zpL_nil, zpL_nilR, zpL_cons, ↓wp_maxL, ↓wp_minL, maxL_2, maxL_1, minL_2, minL_1, EG.runs, EG.run, ev, evs, evo, evr, evf, mkE, mkL, failL, bopF, copF, bltF, lbltF, env0, wipeE, isiAny, isi1, frzS, Cell.toD, atI_nn, setAt_nn, wp_inSg, Gam.put, clsTab, arrQ, arrP, Pick.of, kwM, rightB, E00, List.map_cons, List.map_nil, List.length_cons, List.length_nil, List.append_nil, List.nil_append, List.cons_append, List.getElem?_cons_zero, List.getElem?_cons_succ, List.getElem?_nil, List.set_cons_zero, List.set_cons_succ, List.filter_cons, List.filter_nil, List.contains_nil, List.elem_nil, Int.reduceNeg, Int.reducePow, nA10, nA2, le_big, Nat.reducePow, Nat.zero_add, Option.map_some, Option.bind_some, Int.reduceLE, Int.reduceToNat, Int.reduceLT, Nat.reduceLT, Nat.reduceAdd, Nat.reduceSub, true_and, and_true, decide_true, decide_false, List.length_append, List.length_map, Nat.reduceLeDiff, Nat.reduceEqDiff, Bool.not_true, Bool.not_false, decide_eq_true_eq, reduceCtorEq, Option.some.injEq, id_eq, List.all_cons, List.all_nil, List.any_cons, List.any_nil, Bool.and_true, Bool.true_and, Bool.and_false, Bool.false_and, Bool.or_true, Bool.or_false, Bool.true_or, Bool.false_or, Int.reduceAdd, Int.reduceSub, beq_self_eq_true, Option.isNone_none, Option.isNone_some, if_true, if_false, ite_true, ite_false, Nat.succ_eq_add_one, Int.natCast_add, Int.natCast_one, Int.cast_ofNat_Int, List.replicate, Int.natCast_zero, Int.zero_add]
        · simp only [↓br_true, ↓br_false, ↓op_some, ↓wp_bind, ↓wp_pure, ↓wp_fail, ↓wp_opt, ↓wp_guard, ↓wp_v, ↓wp_vB, ↓wp_c, ↓wp_op2, ↓wp_op2L, ↓wp_t, ↓wp_tru, ↓wp_chain, ↓wp_andT, ↓wp_orT, ↓wp_notT, ↓wp_andV, ↓wp_orV, ↓wp_notV, ↓wp_if, ↓wp_nil, ↓wp_cons, ↓wp_tup, ↓wp_lst, ↓wp_D, ↓wp_cb, ↓wp_call, ↓wp_isi, ↓wp_neg, ↓wp_sl, ↓wp_noP, ↓wp_P, ↓wp_yes, ↓wp_items, ↓wp_signs, ↓wp_comp, ↓ws_seq, ↓thn_nx, ↓thn_rt, ↓thn_br, ↓thn_ct, ↓thn_exc, ↓ws_skip, ↓ws_break, ↓ws_cont, ↓ws_retN, ↓ws_set, ↓ws_own, ↓ws_ret, ↓ws_drop, ↓ws_if, ↓ws_asg, ↓ws_par, ↓ws_setC, ↓wp_newc, ↓ws_app, ↓ws_ext, ↓ws_setI, ↓ws_frz, ↓ws_for, ↓wl_nil, ↓wl_cons, ↓wf_run, ↓retS_nx, ↓retS_rt, ↓lpS_nx, ↓lpS_ct, ↓lpS_br, ↓lpS_rt, ↓turn_nx, ↓turn_ct, ↓turn_br, ↓turn_rt, ↓wp_addI, ↓wp_addS, ↓wp_subI, ↓wp_mulI, ↓wp_divI, ↓wp_modI, ↓wp_powI, ↓wp_cmpI, ↓wp_eq, ↓wp_ne, ↓wp_negI, ↓wp_seqE, ↓wp_lstE, ↓wp_ixL, ↓wp_ixT, ↓wp_ixC, ↓wp_ixS, ↓wp_lenS, ↓wp_lenL, ↓wp_lenT, ↓wp_lenC, ↓wp_absI, ↓wp_intI, ↓wp_intB, ↓wp_intS, ↓wp_strI, ↓wp_boolI, ↓wp_boolB, ↓wp_all, ↓wp_any, ↓wp_sum, ↓wp_max2, ↓wp_min2, ↓wp_list, ↓wp_tuple, ↓wp_sorted, ↓wp_slS, ↓wp_slT, ↓wp_slLD, ↓wp_slC, ↓wp_slL, ↓wp_range1, ↓wp_range2, ↓wp_enum, ↓wp_enumT, ↓wp_zip, ↓wp_zipTT, ↓wp_zipTL, ↓wp_zipLT, ↓wp_cat, ↓wp_rep, ↓wp_inSg, ↓wp_notInSg, ↓wp_inL, ↓wp_inT, ↓wp_notIn, ↓wp_isN, ↓wp_notN, tt1, tt2, tt3, tt4, tt5, tt6, tu1, tu2, tu3, tu4, tu5, tu6, tu7, tu8, tu9, tu10, tu11, tu12, tu13, tu14, tu15, tu16, tu17, tu18, tu19, tu20, tu21, tu22, tu23, tu24, asB_bl, truD_non, truD_bl, truD_int, truD_str, truD_lst, truD_tup, asI_int, asS_str, items_lst, items_tup, items_str, valS_v, valB_v, valB_own, seqD_lst, seqD_tup, seqD_cell0, lstD_lst, lstD_cell0, cellL_0, own_lst, nonB_non, nonB_bl, nonB_int, nonB_str, nonB_lst, nonB_tup, nonB_cell, nonB_obj, bools_nil, bools_cons, ints_nil, ints_cons, eqD_ii, eqD_bb, eqD_ss, eqD_nn, eqD_ni, eqD_in, eqD_nb, eqD_bn, eqD_ns, eqD_sn, eqD_is, eqD_si, eqD_bs, eqD_sb, tag_non, tag_bl, tag_int, tag_str, tag_lst, tag_tup, tag_obj, bindP_nm, bindP_tp, bindPs_nil, bindPs_cons, ↓wp_get, ↓wp_meth, ↓wp_prop, ↓ws_setF, ↓wp_mk, ↓wp_own, ↓wp_kd, ↓wp_methK, ↓wp_ownNe, ↓wp_own1, ↓wp_ownT, ↓wp_fstr, ↓wp_fFn, ↓wp_fFc, ↓wp_fmtS, ↓wp_fmtI, kok_len, kok_repr, kok_bool, eqD_tt, eqD_ll, plB_non, plB_bl, plB_int, plB_str, plB_lst, plB_tup, eqBs_nn, eqBs_cc, eqBs_nc, eqBs_cn, eqB_ii, eqB_bb, eqB_ss, eqB_nn, eqB_ll, eqB_tt, eqB_ni, eqB_in, eqB_nt, eqB_tn, eqB_it, eqB_ti, ↓wp_addT, ↓wp_addL, ↓wp_mulL, objD_obj, objD_last, cellO_last, set_last, isO_obj, isO_last, putD_nil, putD_cons, lkp_nil, lkp_cons, belF_nil, belF_cons, ↓wp_compN, ↓wp_compC, rng_0, rng_1, rng_2, rng_3, enL_nil, enL_cons, zpL_nil, zpL_nilR, zpL_cons, ↓wp_maxL, ↓wp_minL, maxL_2, maxL_1, minL_2, minL_1, EG.runs, EG.run, ev, evs, evo, evr, evf, mkE, mkL, failL, bopF, copF, bltF, lbltF, env0, wipeE, isiAny, isi1, frzS, Cell.toD, atI_nn, setAt_nn, wp_inSg, Gam.put, clsTab, arrQ, arrP, Pick.of, kwM, rightB, E00, List.map_cons, List.map_nil, List.length_cons, List.length_nil, List.append_nil, List.nil_append, List.cons_append, List.getElem?_cons_zero, List.getElem?_cons_succ, List.getElem?_nil, List.set_cons_zero, List.set_cons_succ, List.filter_cons, List.filter_nil, List.contains_nil, List.elem_nil, Int.reduceNeg, Int.reducePow, nA10, nA2, le_big, Nat.reducePow, Nat.zero_add, Option.map_some, Option.bind_some, Int.reduceLE, Int.reduceToNat, Int.reduceLT, Nat.reduceLT, Nat.reduceAdd, Nat.reduceSub, true_and, and_true, decide_true, decide_false, List.length_append, List.length_map, Nat.reduceLeDiff, Nat.reduceEqDiff, Bool.not_true, Bool.not_false, decide_eq_true_eq, reduceCtorEq, Option.some.injEq, id_eq, List.all_cons, List.all_nil, List.any_cons, List.any_nil, Bool.and_true, Bool.true_and, Bool.and_false, Bool.false_and, Bool.or_true, Bool.or_false, Bool.true_or, Bool.false_or, Int.reduceAdd, Int.reduceSub, beq_self_eq_true, Option.isNone_none, Option.isNone_some, if_true, if_false, ite_true, ite_false, Nat.succ_eq_add_one, Int.natCast_add, Int.natCast_one, Int.cast_ofNat_Int, List.replicate, Int.natCast_zero, Int.zero_add, hG]
          exact same_spec hF hG n a _ _ μ (List.all_eq_true.mp h a ha) ⟨rfl, rfl⟩
      · simp only [↓br_true, ↓br_false, ↓op_some, ↓wp_bind, ↓wp_pure, ↓wp_fail, ↓wp_opt, ↓wp_guard, ↓wp_v, ↓wp_vB, ↓wp_c, ↓wp_op2, ↓wp_op2L, ↓wp_t, ↓wp_tru, ↓wp_chain, ↓wp_andT, ↓wp_orT, ↓wp_notT, ↓wp_andV, ↓wp_orV, ↓wp_notV, ↓wp_if, ↓wp_nil, ↓wp_cons, ↓wp_tup, ↓wp_lst, ↓wp_D, ↓wp_cb, ↓wp_call, ↓wp_isi, ↓wp_neg, ↓wp_sl, ↓wp_noP, ↓wp_P, ↓wp_yes, ↓wp_items, ↓wp_signs, ↓wp_comp, ↓ws_seq, ↓thn_nx, ↓thn_rt, ↓thn_br, ↓thn_ct, ↓thn_exc, ↓ws_skip, ↓ws_break, ↓ws_cont, ↓ws_retN, ↓ws_set, ↓ws_own, ↓ws_ret, ↓ws_drop, ↓ws_if, ↓ws_asg, ↓ws_par, ↓ws_setC, ↓wp_newc, ↓ws_app, ↓ws_ext, ↓ws_setI, ↓ws_frz, ↓ws_for, ↓wl_nil, ↓wl_cons, ↓wf_run, ↓retS_nx, ↓retS_rt, ↓lpS_nx, ↓lpS_ct, ↓lpS_br, ↓lpS_rt, ↓turn_nx, ↓turn_ct, ↓turn_br, ↓turn_rt, ↓wp_addI, ↓wp_addS, ↓wp_subI, ↓wp_mulI, ↓wp_divI, ↓wp_modI, ↓wp_powI, ↓wp_cmpI, ↓wp_eq, ↓wp_ne, ↓wp_negI, ↓wp_seqE, ↓wp_lstE, ↓wp_ixL, ↓wp_ixT, ↓wp_ixC, ↓wp_ixS, ↓wp_lenS, ↓wp_lenL, ↓wp_lenT, ↓wp_lenC, ↓wp_absI, ↓wp_intI, ↓wp_intB, ↓wp_intS, ↓wp_strI, ↓wp_boolI, ↓wp_boolB, ↓wp_all, ↓wp_any, ↓wp_sum, ↓wp_max2, ↓wp_min2, ↓wp_list, ↓wp_tuple, ↓wp_sorted, ↓wp_slS, ↓wp_slT, ↓wp_slLD, ↓wp_slC, ↓wp_slL, ↓wp_range1, ↓wp_range2, ↓wp_enum, ↓wp_enumT, ↓wp_zip, ↓wp_zipTT, ↓wp_zipTL, ↓wp_zipLT, ↓wp_cat, ↓wp_rep, ↓wp_inSg, ↓wp_notInSg, ↓wp_inL, ↓wp_inT, ↓wp_notIn, ↓wp_isN, ↓wp_notN, tt1, tt2, tt3, tt4, tt5, tt6, tu1, tu2, tu3, tu4, tu5, tu6, tu7, tu8, tu9, tu10, tu11, tu12, tu13, tu14, tu15, tu16, tu17, tu18, tu19, tu20, tu21, tu22, tu23, tu24, asB_bl, truD_non, truD_bl, truD_int, truD_str, truD_lst, truD_tup, asI_int, asS_str, items_lst, items_tup, items_str, valS_v, valB_v, valB_own, seqD_lst, seqD_tup, seqD_cell0, lstD_lst, lstD_cell0, cellL_0, own_lst, nonB_non, nonB_bl, nonB_int, nonB_str, nonB_lst, nonB_tup, nonB_cell, nonB_obj, bools_nil, bools_cons, ints_nil, ints_cons, eqD_ii, eqD_bb, eqD_ss, eqD_nn, eqD_ni, eqD_in, eqD_nb, eqD_bn, eqD_ns, eqD_sn, eqD_is, eqD_si, eqD_bs, eqD_sb, tag_non, tag_bl, tag_int, tag_str, tag_lst, tag_tup, tag_obj, bindP_nm, bindP_tp, bindPs_nil, bindPs_cons, ↓wp_get, ↓wp_meth, ↓wp_prop, ↓ws_setF, ↓wp_mk, ↓wp_own, ↓wp_kd, ↓wp_methK, ↓wp_ownNe, ↓wp_own1, ↓wp_ownT, ↓wp_fstr, ↓wp_fFn, ↓wp_fFc, ↓wp_fmtS, ↓wp_fmtI, kok_len, kok_repr, kok_bool, eqD_tt, eqD_ll, plB_non, plB_bl, plB_int, plB_str, plB_lst, plB_tup, eqBs_nn, eqBs_cc, eqBs_nc, eqBs_cn, eqB_ii, eqB_bb, eqB_ss, eqB_nn, eqB_ll, eqB_tt, eqB_ni, eqB_in, eqB_nt, eqB_tn, eqB_it, eqB_ti, ↓wp_addT, ↓wp_addL, ↓wp_mulL, objD_obj, objD_last, cellO_last, set_last, isO_obj, isO_last, putD_nil, putD_cons, lkp_nil, lkp_cons, belF_nil, belF_cons, ↓wp_compN, ↓wp_compC, rng_0, rng_1, rng_2, rng_3, enL_nil, enL_cons, zpL_nil, zpL_nilR, zpL_cons, ↓wp_maxL, ↓wp_minL, maxL_2, maxL_1, minL_2, minL_1, EG.runs, EG.run, ev, evs, evo, evr, evf, mkE, mkL, failL, bopF, copF, bltF, lbltF, env0, wipeE, isiAny, isi1, frzS, Cell.toD, atI_nn, setAt_nn, wp_inSg, Gam.put, clsTab, arrQ, arrP, Pick.of, kwM, rightB, E00, List.map_cons, List.map_nil, List.length_cons, List.length_nil, List.append_nil, List.nil_append, List.cons_append, List.getElem?_cons_zero, List.getElem?_cons_succ, List.getElem?_nil, List.set_cons_zero, List.set_cons_succ, List.filter_cons, List.filter_nil, List.contains_nil, List.elem_nil, Int.reduceNeg, Int.reducePow, nA10, nA2, le_big, Nat.reducePow, Nat.zero_add, Option.map_some, Option.bind_some, Int.reduceLE, Int.reduceToNat, Int.reduceLT, Nat.reduceLT, Nat.reduceAdd, Nat.reduceSub, true_and, and_true, decide_true, decide_false, List.length_append, List.length_map, Nat.reduceLeDiff, Nat.reduceEqDiff, Bool.not_true, Bool.not_false, decide_eq_true_eq, reduceCtorEq, Option.some.injEq, id_eq, List.all_cons, List.all_nil, List.any_cons, List.any_nil, Bool.and_true, Bool.true_and, Bool.and_false, Bool.false_and, Bool.or_true, Bool.or_false, Bool.true_or, Bool.false_or, Int.reduceAdd, Int.reduceSub, beq_self_eq_true, Option.isNone_none, Option.isNone_some, if_true, if_false, ite_true, ite_false, Nat.succ_eq_add_one, Int.natCast_add, Int.natCast_one, Int.cast_ofNat_Int, List.replicate, Int.natCast_zero, Int.zero_add, b1, b2]
        exact hq
    | non => simp only [↓br_true, ↓br_false, ↓op_some, ↓wp_bind, ↓wp_pure, ↓wp_fail, ↓wp_opt, ↓wp_guard, ↓wp_v, ↓wp_vB, ↓wp_c, ↓wp_op2, ↓wp_op2L, ↓wp_t, ↓wp_tru, ↓wp_chain, ↓wp_andT, ↓wp_orT, ↓wp_notT, ↓wp_andV, ↓wp_orV, ↓wp_notV, ↓wp_if, ↓wp_nil, ↓wp_cons, ↓wp_tup, ↓wp_lst, ↓wp_D, ↓wp_cb, ↓wp_call, ↓wp_isi, ↓wp_neg, ↓wp_sl, ↓wp_noP, ↓wp_P, ↓wp_yes, ↓wp_items, ↓wp_signs, ↓wp_comp, ↓ws_seq, ↓thn_nx, ↓thn_rt, ↓thn_br, ↓thn_ct, ↓thn_exc, ↓ws_skip, ↓ws_break, ↓ws_cont, ↓ws_retN, ↓ws_set, ↓ws_own, ↓ws_ret, ↓ws_drop, ↓ws_if, ↓ws_asg, ↓ws_par, ↓ws_setC, ↓wp_newc, ↓ws_app, ↓ws_ext, ↓ws_setI, ↓ws_frz, ↓ws_for, ↓wl_nil, ↓wl_cons, ↓wf_run, ↓retS_nx, ↓retS_rt, ↓lpS_nx, ↓lpS_ct, ↓lpS_br, ↓lpS_rt, ↓turn_nx, ↓turn_ct, ↓turn_br, ↓turn_rt, ↓wp_addI, ↓wp_addS, ↓wp_subI, ↓wp_mulI, ↓wp_divI, ↓wp_modI, ↓wp_powI, ↓wp_cmpI, ↓wp_eq, ↓wp_ne, ↓wp_negI, ↓wp_seqE, ↓wp_lstE, ↓wp_ixL, ↓wp_ixT, ↓wp_ixC, ↓wp_ixS, ↓wp_lenS, ↓wp_lenL, ↓wp_lenT, ↓wp_lenC, ↓wp_absI, ↓wp_intI, ↓wp_intB, ↓wp_intS, ↓wp_strI, ↓wp_boolI, ↓wp_boolB, ↓wp_all, ↓wp_any, ↓wp_sum, ↓wp_max2, ↓wp_min2, ↓wp_list, ↓wp_tuple, ↓wp_sorted, ↓wp_slS, ↓wp_slT, ↓wp_slLD, ↓wp_slC, ↓wp_slL, ↓wp_range1, ↓wp_range2, ↓wp_enum, ↓wp_enumT, ↓wp_zip, ↓wp_zipTT, ↓wp_zipTL, ↓wp_zipLT, ↓wp_cat, ↓wp_rep, ↓wp_inSg, ↓wp_notInSg, ↓wp_inL, ↓wp_inT, ↓wp_notIn, ↓wp_isN, ↓wp_notN, tt1, tt2, tt3, tt4, tt5, tt6, tu1, tu2, tu3, tu4, tu5, tu6, tu7, tu8, tu9, tu10, tu11, tu12, tu13, tu14, tu15, tu16, tu17, tu18, tu19, tu20, tu21, tu22, tu23, tu24, asB_bl, truD_non, truD_bl, truD_int, truD_str, truD_lst, truD_tup, asI_int, asS_str, items_lst, items_tup, items_str, valS_v, valB_v, valB_own, seqD_lst, seqD_tup, seqD_cell0, lstD_lst, lstD_cell0, cellL_0, own_lst, nonB_non, nonB_bl, nonB_int, nonB_str, nonB_lst, nonB_tup, nonB_cell, nonB_obj, bools_nil, bools_cons, ints_nil, ints_cons, eqD_ii, eqD_bb, eqD_ss, eqD_nn, eqD_ni, eqD_in, eqD_nb, eqD_bn, eqD_ns, eqD_sn, eqD_is, eqD_si, eqD_bs, eqD_sb, tag_non, tag_bl, tag_int, tag_str, tag_lst, tag_tup, tag_obj, bindP_nm, bindP_tp, bindPs_nil, bindPs_cons, ↓wp_get, ↓wp_meth, ↓wp_prop, ↓ws_setF, ↓wp_mk, ↓wp_own, ↓wp_kd, ↓wp_methK, ↓wp_ownNe, ↓wp_own1, ↓wp_ownT, ↓wp_fstr, ↓wp_fFn, ↓wp_fFc, ↓wp_fmtS, ↓wp_fmtI, kok_len, kok_repr, kok_bool, eqD_tt, eqD_ll, plB_non, plB_bl, plB_int, plB_str, plB_lst, plB_tup, eqBs_nn, eqBs_cc, eqBs_nc, eqBs_cn, eqB_ii, eqB_bb, eqB_ss, eqB_nn, eqB_ll, eqB_tt, eqB_ni, eqB_in, eqB_nt, eqB_tn, eqB_it, eqB_ti, ↓wp_addT, ↓wp_addL, ↓wp_mulL, objD_obj, objD_last, cellO_last, set_last, isO_obj, isO_last, putD_nil, putD_cons, lkp_nil, lkp_cons, belF_nil, belF_cons, ↓wp_compN, ↓wp_compC, rng_0, rng_1, rng_2, rng_3, enL_nil, enL_cons, zpL_nil, zpL_nilR, zpL_cons, ↓wp_maxL, ↓wp_minL, maxL_2, maxL_1, minL_2, minL_1, EG.runs, EG.run, ev, evs, evo, evr, evf, mkE, mkL, failL, bopF, copF, bltF, lbltF, env0, wipeE, isiAny, isi1, frzS, Cell.toD, atI_nn, setAt_nn, wp_inSg, Gam.put, clsTab, arrQ, arrP, Pick.of, kwM, rightB, E00, List.map_cons, List.map_nil, List.length_cons, List.length_nil, List.append_nil, List.nil_append, List.cons_append, List.getElem?_cons_zero, List.getElem?_cons_succ, List.getElem?_nil, List.set_cons_zero, List.set_cons_succ, List.filter_cons, List.filter_nil, List.contains_nil, List.elem_nil, Int.reduceNeg, Int.reducePow, nA10, nA2, le_big, Nat.reducePow, Nat.zero_add, Option.map_some, Option.bind_some, Int.reduceLE, Int.reduceToNat, Int.reduceLT, Nat.reduceLT, Nat.reduceAdd, Nat.reduceSub, true_and, and_true, decide_true, decide_false, List.length_append, List.length_map, Nat.reduceLeDiff, Nat.reduceEqDiff, Bool.not_true, Bool.not_false, decide_eq_true_eq, reduceCtorEq, Option.some.injEq, id_eq, List.all_cons, List.all_nil, List.any_cons, List.any_nil, Bool.and_true, Bool.true_and, Bool.and_false, Bool.false_and, Bool.or_true, Bool.or_false, Bool.true_or, Bool.false_or, Int.reduceAdd, Int.reduceSub, beq_self_eq_true, Option.isNone_none, Option.isNone_some, if_true, if_false, ite_true, ite_false, Nat.succ_eq_add_one, Int.natCast_add, Int.natCast_one, Int.cast_ofNat_Int, List.replicate, Int.natCast_zero, Int.zero_add, hG]; exact hq
    | bl b => simp only [↓br_true, ↓br_false, ↓op_some, ↓wp_bind, ↓wp_pure, ↓wp_fail, ↓wp_opt, ↓wp_guard, ↓wp_v, ↓wp_vB, ↓wp_c, ↓wp_op2, ↓wp_op2L, ↓wp_t, ↓wp_tru, ↓wp_chain, ↓wp_andT, ↓wp_orT, ↓wp_notT, ↓wp_andV, ↓wp_orV, ↓wp_notV, ↓wp_if, ↓wp_nil, ↓wp_cons, ↓wp_tup, ↓wp_lst, ↓wp_D, ↓wp_cb, ↓wp_call, ↓wp_isi, ↓wp_neg, ↓wp_sl, ↓wp_noP, ↓wp_P, ↓wp_yes, ↓wp_items, ↓wp_signs, ↓wp_comp, ↓ws_seq, ↓thn_nx, ↓thn_rt, ↓thn_br, ↓thn_ct, ↓thn_exc, ↓ws_skip, ↓ws_break, ↓ws_cont, ↓ws_retN, ↓ws_set, ↓ws_own, ↓ws_ret, ↓ws_drop, ↓ws_if, ↓ws_asg, ↓ws_par, ↓ws_setC, ↓wp_newc, ↓ws_app, ↓ws_ext, ↓ws_setI, ↓ws_frz, ↓ws_for, ↓wl_nil, ↓wl_cons, ↓wf_run, ↓retS_nx, ↓retS_rt, ↓lpS_nx, ↓lpS_ct, ↓lpS_br, ↓lpS_rt, ↓turn_nx, ↓turn_ct, ↓turn_br, ↓turn_rt, ↓wp_addI, ↓wp_addS, ↓wp_subI, ↓wp_mulI, ↓wp_divI, ↓wp_modI, ↓wp_powI, ↓wp_cmpI, ↓wp_eq, ↓wp_ne, ↓wp_negI, ↓wp_seqE, ↓wp_lstE, ↓wp_ixL, ↓wp_ixT, ↓wp_ixC, ↓wp_ixS, ↓wp_lenS, ↓wp_lenL, ↓wp_lenT, ↓wp_lenC, ↓wp_absI, ↓wp_intI, ↓wp_intB, ↓wp_intS, ↓wp_strI, ↓wp_boolI, ↓wp_boolB, ↓wp_all, ↓wp_any, ↓wp_sum, ↓wp_max2, ↓wp_min2, ↓wp_list, ↓wp_tuple, ↓wp_sorted, ↓wp_slS, ↓wp_slT, ↓wp_slLD, ↓wp_slC, ↓wp_slL, ↓wp_range1, ↓wp_range2, ↓wp_enum, ↓wp_enumT, ↓wp_zip, ↓wp_zipTT, ↓wp_zipTL, ↓wp_zipLT, ↓wp_cat, ↓wp_rep, ↓wp_inSg, ↓wp_notInSg, ↓wp_inL, ↓wp_inT, ↓wp_notIn, ↓wp_isN, ↓wp_notN, tt1, tt2, tt3, tt4, tt5, tt6, tu1, tu2, tu3, tu4, tu5, tu6, tu7, tu8, tu9, tu10, tu11, tu12, tu13, tu14, tu15, tu16, tu17, tu18, tu19, tu20, tu21, tu22, tu23, tu24, asB_bl, truD_non, truD_bl, truD_int, truD_str, truD_lst, truD_tup, asI_int, asS_str, items_lst, items_tup, items_str, valS_v, valB_v, valB_own, seqD_lst, seqD_tup, seqD_cell0, lstD_lst, lstD_cell0, cellL_0, own_lst, nonB_non, nonB_bl, nonB_int, nonB_str, nonB_lst, nonB_tup, nonB_cell, nonB_obj, bools_nil, bools_cons, ints_nil, ints_cons, eqD_ii, eqD_bb, eqD_ss, eqD_nn, eqD_ni, eqD_in, eqD_nb, eqD_bn, eqD_ns, eqD_sn, eqD_is, eqD_si, eqD_bs, eqD_sb, tag_non, tag_bl, tag_int, tag_str, tag_lst, tag_tup, tag_obj, bindP_nm, bindP_tp, bindPs_nil, bindPs_cons, ↓wp_get, ↓wp_meth, ↓wp_prop, ↓ws_setF, ↓wp_mk, ↓wp_own, ↓wp_kd, ↓wp_methK, ↓wp_ownNe, ↓wp_own1, ↓wp_ownT, ↓wp_fstr, ↓wp_fFn, ↓wp_fFc, ↓wp_fmtS, ↓wp_fmtI, kok_len, kok_repr, kok_bool, eqD_tt, eqD_ll, plB_non, plB_bl, plB_int, plB_str, plB_lst, plB_tup, eqBs_nn, eqBs_cc, eqBs_nc, eqBs_cn, eqB_ii, eqB_bb, eqB_ss, eqB_nn, eqB_ll, eqB_tt, eqB_ni, eqB_in, eqB_nt, eqB_tn, eqB_it, eqB_ti, ↓wp_addT, ↓wp_addL, ↓wp_mulL, objD_obj, objD_last, cellO_last, set_last, isO_obj, isO_last, putD_nil, putD_cons, lkp_nil, lkp_cons, belF_nil, belF_cons, ↓wp_compN, ↓wp_compC, rng_0, rng_1, rng_2, rng_3, enL_nil, enL_cons, zpL_nil, zpL_nilR, zpL_cons, ↓wp_maxL, ↓wp_minL, maxL_2, maxL_1, minL_2, minL_1, EG.runs, EG.run, ev, evs, evo, evr, evf, mkE, mkL, failL, bopF, copF, bltF, lbltF, env0, wipeE, isiAny, isi1, frzS, Cell.toD, atI_nn, setAt_nn, wp_inSg, Gam.put, clsTab, arrQ, arrP, Pick.of, kwM, rightB, E00, List.map_cons, List.map_nil, List.length_cons, List.length_nil, List.append_nil, List.nil_append, List.cons_append, List.getElem?_cons_zero, List.getElem?_cons_succ, List.getElem?_nil, List.set_cons_zero, List.set_cons_succ, List.filter_cons, List.filter_nil, List.contains_nil, List.elem_nil, Int.reduceNeg, Int.reducePow, nA10, nA2, le_big, Nat.reducePow, Nat.zero_add, Option.map_some, Option.bind_some, Int.reduceLE, Int.reduceToNat, Int.reduceLT, Nat.reduceLT, Nat.reduceAdd, Nat.reduceSub, true_and, and_true, decide_true, decide_false, List.length_append, List.length_map, Nat.reduceLeDiff, Nat.reduceEqDiff, Bool.not_true, Bool.not_false, decide_eq_true_eq, reduceCtorEq, Option.some.injEq, id_eq, List.all_cons, List.all_nil, List.any_cons, List.any_nil, Bool.and_true, Bool.true_and, Bool.and_false, Bool.false_and, Bool.or_true, Bool.or_false, Bool.true_or, Bool.false_or, Int.reduceAdd, Int.reduceSub, beq_self_eq_true, Option.isNone_none, Option.isNone_some, if_true, if_false, ite_true, ite_false, Nat.succ_eq_add_one, Int.natCast_add, Int.natCast_one, Int.cast_ofNat_Int, List.replicate, Int.natCast_zero, Int.zero_add, hG]; exact hq
    | int b => simp only [↓br_true, ↓br_false, ↓op_some, ↓wp_bind, ↓wp_pure, ↓wp_fail, ↓wp_opt, ↓wp_guard, ↓wp_v, ↓wp_vB, ↓wp_c, ↓wp_op2, ↓wp_op2L, ↓wp_t, ↓wp_tru, ↓wp_chain, ↓wp_andT, ↓wp_orT, ↓wp_notT, ↓wp_andV, ↓wp_orV, ↓wp_notV, ↓wp_if, ↓wp_nil, ↓wp_cons, ↓wp_tup, ↓wp_lst, ↓wp_D, ↓wp_cb, ↓wp_call, ↓wp_isi, ↓wp_neg, ↓wp_sl, ↓wp_noP, ↓wp_P, ↓wp_yes, ↓wp_items, ↓wp_signs, ↓wp_comp, ↓ws_seq, ↓thn_nx, ↓thn_rt, ↓thn_br, ↓thn_ct, ↓thn_exc, ↓ws_skip, ↓ws_break, ↓ws_cont, ↓ws_retN, ↓ws_set, ↓ws_own, ↓ws_ret, ↓ws_drop, ↓ws_if, ↓ws_asg, ↓ws_par, ↓ws_setC, ↓wp_newc, ↓ws_app, ↓ws_ext, ↓ws_setI, ↓ws_frz, ↓ws_for, ↓wl_nil, ↓wl_cons, ↓wf_run, ↓retS_nx, ↓retS_rt, ↓lpS_nx, ↓lpS_ct, ↓lpS_br, ↓lpS_rt, ↓turn_nx, ↓turn_ct, ↓turn_br, ↓turn_rt, ↓wp_addI, ↓wp_addS, ↓wp_subI, ↓wp_mulI, ↓wp_divI, ↓wp_modI, ↓wp_powI, ↓wp_cmpI, ↓wp_eq, ↓wp_ne, ↓wp_negI, ↓wp_seqE, ↓wp_lstE, ↓wp_ixL, ↓wp_ixT, ↓wp_ixC, ↓wp_ixS, ↓wp_lenS, ↓wp_lenL, ↓wp_lenT, ↓wp_lenC, ↓wp_absI, ↓wp_intI, ↓wp_intB, ↓wp_intS, ↓wp_strI, ↓wp_boolI, ↓wp_boolB, ↓wp_all, ↓wp_any, ↓wp_sum, ↓wp_max2, ↓wp_min2, ↓wp_list, ↓wp_tuple, ↓wp_sorted, ↓wp_slS, ↓wp_slT, ↓wp_slLD, ↓wp_slC, ↓wp_slL, ↓wp_range1, ↓wp_range2, ↓wp_enum, ↓wp_enumT, ↓wp_zip, ↓wp_zipTT, ↓wp_zipTL, ↓wp_zipLT, ↓wp_cat, ↓wp_rep, ↓wp_inSg, ↓wp_notInSg, ↓wp_inL, ↓wp_inT, ↓wp_notIn, ↓wp_isN, ↓wp_notN, tt1, tt2, tt3, tt4, tt5, tt6, tu1, tu2, tu3, tu4, tu5, tu6, tu7, tu8, tu9, tu10, tu11, tu12, tu13, tu14, tu15, tu16, tu17, tu18, tu19, tu20, tu21, tu22, tu23, tu24, asB_bl, truD_non, truD_bl, truD_int, truD_str, truD_lst, truD_tup, asI_int, asS_str, items_lst, items_tup, items_str, valS_v, valB_v, valB_own, seqD_lst, seqD_tup, seqD_cell0, lstD_lst, lstD_cell0, cellL_0, own_lst, nonB_non, nonB_bl, nonB_int, nonB_str, nonB_lst, nonB_tup, nonB_cell, nonB_obj, bools_nil, bools_cons, ints_nil, ints_cons, eqD_ii, eqD_bb, eqD_ss, eqD_nn, eqD_ni, eqD_in, eqD_nb, eqD_bn, eqD_ns, eqD_sn, eqD_is, eqD_si, eqD_bs, eqD_sb, tag_non, tag_bl, tag_int, tag_str, tag_lst, tag_tup, tag_obj, bindP_nm, bindP_tp, bindPs_nil, bindPs_cons, ↓wp_get, ↓wp_meth, ↓wp_prop, ↓ws_setF, ↓wp_mk, ↓wp_own, ↓wp_kd, ↓wp_methK, ↓wp_ownNe, ↓wp_own1, ↓wp_ownT, ↓wp_fstr, ↓wp_fFn, ↓wp_fFc, ↓wp_fmtS, ↓wp_fmtI, kok_len, kok_repr, kok_bool, eqD_tt, eqD_ll, plB_non, plB_bl, plB_int, plB_str, plB_lst, plB_tup, eqBs_nn, eqBs_cc, eqBs_nc, eqBs_cn, eqB_ii, eqB_bb, eqB_ss, eqB_nn, eqB_ll, eqB_tt, eqB_ni, eqB_in, eqB_nt, eqB_tn, eqB_it, eqB_ti, ↓wp_addT, ↓wp_addL, ↓wp_mulL, objD_obj, objD_last, cellO_last, set_last, isO_obj, isO_last, putD_nil, putD_cons, lkp_nil, lkp_cons, belF_nil, belF_cons, ↓wp_compN, ↓wp_compC, rng_0, rng_1, rng_2, rng_3, enL_nil, enL_cons, zpL_nil, zpL_nilR, zpL_cons, ↓wp_maxL, ↓wp_minL, maxL_2, maxL_1, minL_2, minL_1, EG.runs, EG.run, ev, evs, evo, evr, evf, mkE, mkL, failL, bopF, copF, bltF, lbltF, env0, wipeE, isiAny, isi1, frzS, Cell.toD, atI_nn, setAt_nn, wp_inSg, Gam.put, clsTab, arrQ, arrP, Pick.of, kwM, rightB, E00, List.map_cons, List.map_nil, List.length_cons, List.length_nil, List.append_nil, List.nil_append, List.cons_append, List.getElem?_cons_zero, List.getElem?_cons_succ, List.getElem?_nil, List.set_cons_zero, List.set_cons_succ, List.filter_cons, List.filter_nil, List.contains_nil, List.elem_nil, Int.reduceNeg, Int.reducePow, nA10, nA2, le_big, Nat.reducePow, Nat.zero_add, Option.map_some, Option.bind_some, Int.reduceLE, Int.reduceToNat, Int.reduceLT, Nat.reduceLT, Nat.reduceAdd, Nat.reduceSub, true_and, and_true, decide_true, decide_false, List.length_append, List.length_map, Nat.reduceLeDiff, Nat.reduceEqDiff, Bool.not_true, Bool.not_false, decide_eq_true_eq, reduceCtorEq, Option.some.injEq, id_eq, List.all_cons, List.all_nil, List.any_cons, List.any_nil, Bool.and_true, Bool.true_and, Bool.and_false, Bool.false_and, Bool.or_true, Bool.or_false, Bool.true_or, Bool.false_or, Int.reduceAdd, Int.reduceSub, beq_self_eq_true, Option.isNone_none, Option.isNone_some, if_true, if_false, ite_true, ite_false, Nat.succ_eq_add_one, Int.natCast_add, Int.natCast_one, Int.cast_ofNat_Int, List.replicate, Int.natCast_zero, Int.zero_add, hG]; exact hq
    | str b => simp only [↓br_true, ↓br_false, ↓op_some, ↓wp_bind, ↓wp_pure, ↓wp_fail, ↓wp_opt, ↓wp_guard, ↓wp_v, ↓wp_vB, ↓wp_c, ↓wp_op2, ↓wp_op2L, ↓wp_t, ↓wp_tru, ↓wp_chain, ↓wp_andT, ↓wp_orT, ↓wp_notT, ↓wp_andV, ↓wp_orV, ↓wp_notV, ↓wp_if, ↓wp_nil, ↓wp_cons, ↓wp_tup, ↓wp_lst, ↓wp_D, ↓wp_cb, ↓wp_call, ↓wp_isi, ↓wp_neg, ↓wp_sl, ↓wp_noP, ↓wp_P, ↓wp_yes, ↓wp_items, ↓wp_signs, ↓wp_comp, ↓ws_seq, ↓thn_nx, ↓thn_rt, ↓thn_br, ↓thn_ct, ↓thn_exc, ↓ws_skip, ↓ws_break, ↓ws_cont, ↓ws_retN, ↓ws_set, ↓ws_own, ↓ws_ret, ↓ws_drop, ↓ws_if, ↓ws_asg, ↓ws_par, ↓ws_setC, ↓wp_newc, ↓ws_app, ↓ws_ext, ↓ws_setI, ↓ws_frz, ↓ws_for, ↓wl_nil, ↓wl_cons, ↓wf_run, ↓retS_nx, ↓retS_rt, ↓lpS_nx, ↓lpS_ct, ↓lpS_br, ↓lpS_rt, ↓turn_nx, ↓turn_ct, ↓turn_br, ↓turn_rt, ↓wp_addI, ↓wp_addS, ↓wp_subI, ↓wp_mulI, ↓wp_divI, ↓wp_modI, ↓wp_powI, ↓wp_cmpI, ↓wp_eq, ↓wp_ne, ↓wp_negI, ↓wp_seqE, ↓wp_lstE, ↓wp_ixL, ↓wp_ixT, ↓wp_ixC, ↓wp_ixS, ↓wp_lenS, ↓wp_lenL, ↓wp_lenT, ↓wp_lenC, ↓wp_absI, ↓wp_intI, ↓wp_intB, ↓wp_intS, ↓wp_strI, ↓wp_boolI, ↓wp_boolB, ↓wp_all, ↓wp_any, ↓wp_sum, ↓wp_max2, ↓wp_min2, ↓wp_list, ↓wp_tuple, ↓wp_sorted, ↓wp_slS, ↓wp_slT, ↓wp_slLD, ↓wp_slC, ↓wp_slL, ↓wp_range1, ↓wp_range2, ↓wp_enum, ↓wp_enumT, ↓wp_zip, ↓wp_zipTT, ↓wp_zipTL, ↓wp_zipLT, ↓wp_cat, ↓wp_rep, ↓wp_inSg, ↓wp_notInSg, ↓wp_inL, ↓wp_inT, ↓wp_notIn, ↓wp_isN, ↓wp_notN, tt1, tt2, tt3, tt4, tt5, tt6, tu1, tu2, tu3, tu4, tu5, tu6, tu7, tu8, tu9, tu10, tu11, tu12, tu13, tu14, tu15, tu16, tu17, tu18, tu19, tu20, tu21, tu22, tu23, tu24, asB_bl, truD_non, truD_bl, truD_int, truD_str, truD_lst, truD_tup, asI_int, asS_str, items_lst, items_tup, items_str, valS_v, valB_v, valB_own, seqD_lst, seqD_tup, seqD_cell0, lstD_lst, lstD_cell0, cellL_0, own_lst, nonB_non, nonB_bl, nonB_int, nonB_str, nonB_lst, nonB_tup, nonB_cell, nonB_obj, bools_nil, bools_cons, ints_nil, ints_cons, eqD_ii, eqD_bb, eqD_ss, eqD_nn, eqD_ni, eqD_in, eqD_nb, eqD_bn, eqD_ns, eqD_sn, eqD_is, eqD_si, eqD_bs, eqD_sb, tag_non, tag_bl, tag_int, tag_str, tag_lst, tag_tup, tag_obj, bindP_nm, bindP_tp, bindPs_nil, bindPs_cons, ↓wp_get, ↓wp_meth, ↓wp_prop, ↓ws_setF, ↓wp_mk, ↓wp_own, ↓wp_kd, ↓wp_methK, ↓wp_ownNe, ↓wp_own1, ↓wp_ownT, ↓wp_fstr, ↓wp_fFn, ↓wp_fFc, ↓wp_fmtS, ↓wp_fmtI, kok_len, kok_repr, kok_bool, eqD_tt, eqD_ll, plB_non, plB_bl, plB_int, plB_str, plB_lst, plB_tup, eqBs_nn, eqBs_cc, eqBs_nc, eqBs_cn, eqB_ii, eqB_bb, eqB_ss, eqB_nn, eqB_ll, eqB_tt, eqB_ni, eqB_in, eqB_nt, eqB_tn, eqB_it, eqB_ti, ↓wp_addT, ↓wp_addL, ↓wp_mulL, objD_obj, objD_last, cellO_last, set_last, isO_obj, isO_last, putD_nil, putD_cons, lkp_nil, lkp_cons, belF_nil, belF_cons, ↓wp_compN, ↓wp_compC, rng_0, rng_1, rng_2, rng_3, enL_nil, enL_cons, zpL_nil, zpL_nilR, zpL_cons, ↓wp_maxL, ↓wp_minL, maxL_2, maxL_1, minL_2, minL_1, EG.runs, EG.run, ev, evs, evo, evr, evf, mkE, mkL, failL, bopF, copF, bltF, lbltF, env0, wipeE, isiAny, isi1, frzS, Cell.toD, atI_nn, setAt_nn, wp_inSg, Gam.put, clsTab, arrQ, arrP, Pick.of, kwM, rightB, E00, List.map_cons, List.map_nil, List.length_cons, List.length_nil, List.append_nil, List.nil_append, List.cons_append, List.getElem?_cons_zero, List.getElem?_cons_succ, List.getElem?_nil, List.set_cons_zero, List.set_cons_succ, List.filter_cons, List.filter_nil, List.contains_nil, List.elem_nil, Int.reduceNeg, Int.reducePow, nA10, nA2, le_big, Nat.reducePow, Nat.zero_add, Option.map_some, Option.bind_some, Int.reduceLE, Int.reduceToNat, Int.reduceLT, Nat.reduceLT, Nat.reduceAdd, Nat.reduceSub, true_and, and_true, decide_true, decide_false, List.length_append, List.length_map, Nat.reduceLeDiff, Nat.reduceEqDiff, Bool.not_true, Bool.not_false, decide_eq_true_eq, reduceCtorEq, Option.some.injEq, id_eq, List.all_cons, List.all_nil, List.any_cons, List.any_nil, Bool.and_true, Bool.true_and, Bool.and_false, Bool.false_and, Bool.or_true, Bool.or_false, Bool.true_or, Bool.false_or, Int.reduceAdd, Int.reduceSub, beq_self_eq_true, Option.isNone_none, Option.isNone_some, if_true, if_false, ite_true, ite_false, Nat.succ_eq_add_one, Int.natCast_add, Int.natCast_one, Int.cast_ofNat_Int, List.replicate, Int.natCast_zero, Int.zero_add, hG]; exact hq
    | _ => cases h
end
end EG
namespace EGL
open PySem L2 EG

/-! the k-th of a sorted list, by counting -/
theorem sortI_perm (l : List Int) : (sortI l).Perm l := List.mergeSort_perm _ _
theorem sortI_pair (l : List Int) : (sortI l).Pairwise (· ≤ ·) := by
  have h := List.pairwise_mergeSort (le := fun a b : Int => decide (a ≤ b)) (fun a b c h1 h2 => by simp only [decide_eq_true_eq] at *; omega) (fun a b => by simp only [Bool.or_eq_true, decide_eq_true_eq]; omega) l
  exact h.imp fun h => of_decide_eq_true h
def lows (xs : List Int) (v : Int) : Nat := xs.countP fun u => decide (u < v)
def upto (xs : List Int) (v : Int) : Nat := xs.countP fun u => decide (u ≤ v)
/-- v is the one at place k (from 0) -/
def isK (xs : List Int) (k : Nat) (v : Int) : Bool := decide (lows xs v ≤ k) && decide (k < upto xs v)
theorem kth_is {xs : List Int} {k : Nat} (h : k < (sortI xs).length) : isK xs k (sortI xs)[k] = true := by
  have hp := sortI_perm xs
  have hs := sortI_pair xs
  generalize sortI xs = ys at *
  have split : ∀ p : Int → Bool, xs.countP p = (ys.take k).countP p + (ys.drop k).countP p := fun p => by
    rw [← hp.countP_eq p, ← List.countP_append, List.take_append_drop]
  have split' : ∀ p : Int → Bool, xs.countP p = (ys.take (k + 1)).countP p + (ys.drop (k + 1)).countP p := fun p => by
    rw [← hp.countP_eq p, ← List.countP_append, List.take_append_drop]
  unfold isK
  rw [Bool.and_eq_true, decide_eq_true_eq, decide_eq_true_eq]
  constructor
  · unfold lows
    rw [split]
    have h1 : (ys.take k).countP (fun u => decide (u < ys[k])) ≤ k := Nat.le_trans (List.countP_le_length ..) (by rw [List.length_take]; omega)
    have h2 : (ys.drop k).countP (fun u => decide (u < ys[k])) = 0 := by
      rw [List.countP_eq_zero]
      intro z hz
      obtain ⟨i, hi, rfl⟩ := List.mem_iff_getElem.mp hz
      rw [List.getElem_drop]
      rw [List.length_drop] at hi
      have : ys[k] ≤ ys[k + i] := by
        cases i with
        | zero => exact Int.le_refl _
        | succ i => exact List.pairwise_iff_getElem.mp hs k (k + (i + 1)) h (by omega) (by omega)
      simp only [decide_eq_true_eq]
      omega
    omega
  · unfold upto
    rw [split']
    have h1 : (ys.take (k + 1)).countP (fun u => decide (u ≤ ys[k])) = k + 1 := by
      have hl : (ys.take (k + 1)).length = k + 1 := by rw [List.length_take]; omega
      refine Eq.trans (List.countP_eq_length.mpr ?_) hl
      intro z hz
      obtain ⟨i, hi, rfl⟩ := List.mem_iff_getElem.mp hz
      rw [hl] at hi
      rw [List.getElem_take]
      have : ys[i] ≤ ys[k] := by
        rcases Nat.lt_or_ge i k with q | q
        · exact List.pairwise_iff_getElem.mp hs i k (by omega) h q
        · have : i = k := by omega
          subst this
          exact Int.le_refl _
      simpa using this
    omega
theorem kth_one {xs : List Int} {k : Nat} {v w : Int} (hv : isK xs k v = true) (hw : isK xs k w = true) : w = v := by
  have mono : ∀ {a b : Int}, a < b → upto xs a ≤ lows xs b := fun {a b} h => List.countP_mono_left fun u _ e => by
    simp only [decide_eq_true_eq] at e ⊢
    omega
  unfold isK at hv hw
  simp only [Bool.and_eq_true, decide_eq_true_eq] at hv hw
  rcases Int.lt_trichotomy w v with q | q | q
  · have := mono q; omega
  · exact q
  · have := mono q; omega
/-- the first that fits is the one of the sorted list -/
theorem fit_head {xs : List Int} {k : Nat} (h : k < xs.length) : ∃ hk : k < (sortI xs).length, ∃ r, xs.filter (isK xs k) = (sortI xs)[k] :: r := by
  have hk : k < (sortI xs).length := by rw [(sortI_perm xs).length_eq]; exact h
  refine ⟨hk, ?_⟩
  have hm : (sortI xs)[k] ∈ xs := (sortI_perm xs).mem_iff.mp (List.getElem_mem hk)
  have hi := kth_is hk
  have hin : (sortI xs)[k] ∈ xs.filter (isK xs k) := List.mem_filter.mpr ⟨hm, hi⟩
  cases q : xs.filter (isK xs k) with
  | nil => rw [q] at hin; cases hin
  | cons w r =>
    have hw : w ∈ xs.filter (isK xs k) := by rw [q]; exact List.mem_cons_self ..
    have : w = (sortI xs)[k] := kth_one hi (List.mem_filter.mp hw).2
    exact ⟨r, by rw [this]⟩
end EGL
namespace EGL
open PySem L2 EG
def kCls : List Str := ["Rule"]
def kFrees : List Str := ["abs", "all", "bool", "enumerate", "int", "isinstance", "len", "list", "max", "range", "sorted", "str", "tuple", "zip"]
def kConsts : List GC := [⟨"MANY", .int 3⟩, ⟨"MOST_COUNT", .int 3⟩, ⟨"MOST", .int 1000000000000⟩]
def kIsiT : List (Tag × Tag × Bool) := [(.cls 0, .cls 0, true), (.ty "NoneType", .cls 0, false), (.ty "bool", .cls 0, false), (.cls 0, .ty "bool", false), (.ty "int", .cls 0, false), (.cls 0, .ty "int", false), (.ty "str", .cls 0, false), (.cls 0, .ty "str", false), (.ty "list", .cls 0, false), (.cls 0, .ty "list", false), (.ty "tuple", .cls 0, false), (.cls 0, .ty "tuple", false)]
def kFlds : List (Nat × Str) := [(0, "parts")]
def kG0 : Gam := { fns := [], consts := kConsts, clss := clsTab kCls, frees := kFrees, isi := isiOf kIsiT, flds := kFlds }
theorem kisi_0 : isiOf kIsiT (.cls 0) (.cls 0) = some true := eqp rfl
theorem kisi_1 : isiOf kIsiT (.ty "NoneType") (.cls 0) = some false := eqp rfl
theorem kisi_2 : isiOf kIsiT (.ty "bool") (.cls 0) = some false := eqp rfl
theorem kisi_3 : isiOf kIsiT (.cls 0) (.ty "bool") = some false := eqp rfl
theorem kisi_4 : isiOf kIsiT (.ty "int") (.cls 0) = some false := eqp rfl
theorem kisi_5 : isiOf kIsiT (.cls 0) (.ty "int") = some false := eqp rfl
theorem kisi_6 : isiOf kIsiT (.ty "str") (.cls 0) = some false := eqp rfl
theorem kisi_7 : isiOf kIsiT (.cls 0) (.ty "str") = some false := eqp rfl
theorem kisi_8 : isiOf kIsiT (.ty "list") (.cls 0) = some false := eqp rfl
theorem kisi_9 : isiOf kIsiT (.cls 0) (.ty "list") = some false := eqp rfl
theorem kisi_10 : isiOf kIsiT (.ty "tuple") (.cls 0) = some false := eqp rfl
theorem kisi_11 : isiOf kIsiT (.cls 0) (.ty "tuple") = some false := eqp rfl
theorem kfld_0 : memF kFlds 0 "parts" = true := eqp (by decide)
def N_law_pull : List Str := ["_law_bag_here", "_law_sides", "_law_cell", "_law_digit", "_law_seed"]
def dflD_law_pull : List D := []
def kwdD_law_pull : List (Str × D) := []
def C_law_pull : Cs := .cons (.iff (.ban (.cons (.cmp .eq (.ix (.v 0) (.int 2)) (.int 0)) (.cons (.cmp .lt (.ix (.v 0) (.int 1)) (.blt .len (.cons (.ix (.v 0) (.int 0)) .nil))) .nil))) (.cons (.set 2 (.ix (.ix (.v 0) (.int 0)) (.ix (.v 0) (.int 1)))) (.cons (.setC (.v 0) (.int 1) (.bin .add (.ix (.v 0) (.int 1)) (.int 1))) (.cons (.iff (.cmp .ge (.v 2) (.bin .pow (.int 10) (.int 18))) (.cons (.setC (.v 0) (.int 2) (.v 2)) .nil) (.cons (.setC (.v 0) (.int 3) (.bin .mod (.blt .int (.cons (.bin .add (.bin .add (.bin .mul (.ix (.v 0) (.int 3)) (.int 45179)) (.bin .mul (.bin .mod (.blt .int (.cons (.v 2) .nil)) (.int 2147483477)) (.int 39521))) (.int 43)) .nil)) (.int 2147483563))) .nil)) .nil))) .nil) (.cons (.iff (.cmp .gt (.ix (.v 0) (.int 2)) (.int 0)) (.cons (.set 3 (.bin .mod (.blt .int (.cons (.ix (.v 0) (.int 2)) .nil)) (.v 1))) (.cons (.setC (.v 0) (.int 2) (.bin .div (.ix (.v 0) (.int 2)) (.v 1))) (.cons (.ret (.v 3)) .nil))) .nil) (.cons (.setC (.v 0) (.int 4) (.bin .add (.ix (.v 0) (.int 4)) (.int 1))) (.cons (.set 4 (.ix (.v 0) (.int 3))) (.cons (.setC (.v 0) (.int 3) (.bin .mod (.blt .int (.cons (.bin .add (.bin .add (.bin .add (.bin .mul (.v 4) (.v 4)) (.bin .mul (.v 4) (.int 37363))) (.bin .mul (.ix (.v 0) (.int 4)) (.int 1500011))) (.int 77783)) .nil)) (.int 2147483563))) (.cons (.ret (.bin .mod (.blt .int (.cons (.bin .add (.bin .div (.ix (.v 0) (.int 3)) (.int 73)) (.bin .mul (.bin .mod (.blt .int (.cons (.ix (.v 0) (.int 3)) .nil)) (.int 8017)) (.int 59))) .nil)) (.v 1))) .nil)))))
noncomputable def T_law_pull : Tabs' := {}
noncomputable def F_law_pull : Fn := runF 5 (runs (kG0.put T_law_pull) C_law_pull)
def N_law_readings : List Str := ["_law_bag_here", "_law_many_z", "_law_far", "_law_k", "_law_m"]
def dflD_law_readings : List D := []
def kwdD_law_readings : List (Str × D) := []
def C_law_readings : Cs := .cons (.ret (.comp [("_law_k", 3)] (.nm 3) (.rng1 (.v 1)) .none (.blt .tuple (.cons (.comp [("_law_m", 4)] (.nm 4) (.rng1 (.int 3)) .none (.bin .sub (.call 0 (.cons (.v 0) (.cons (.bin .add (.bin .mul (.int 2) (.v 2)) (.int 1)) .nil))) (.v 2))) .nil)))) .nil
noncomputable def U0_law_pull : GFn := ⟨"_law_pull", 2, F_law_pull, 1, []⟩
noncomputable def T_law_readings : Tabs' := { fns := [U0_law_pull] }
noncomputable def F_law_readings : Fn := runF 5 (runs (kG0.put T_law_readings) C_law_readings)
def N_is_number : List Str := ["value"]
def dflD_is_number : List D := []
def kwdD_is_number : List (Str × D) := []
def C_is_number : Cs := .cons (.ret (.ban (.cons (.isi (.ty "int") (.v 0)) (.cons (.nt (.isi (.ty "bool") (.v 0))) .nil)))) .nil
noncomputable def T_is_number : Tabs' := {}
noncomputable def F_is_number : Fn := runF 1 (runs (kG0.put T_is_number) C_is_number)
def N_is_between : List Str := ["value", "least", "most"]
def dflD_is_between : List D := []
def kwdD_is_between : List (Str × D) := []
def C_is_between : Cs := .cons (.ret (.ban (.cons (.call 0 (.cons (.v 0) .nil)) (.cons (.chain .le .le (.v 1) (.v 0) (.v 2)) .nil)))) .nil
noncomputable def U1_is_number : GFn := ⟨"is_number", 1, F_is_number, 1, []⟩
noncomputable def T_is_between : Tabs' := { fns := [U1_is_number] }
noncomputable def F_is_between : Fn := runF 3 (runs (kG0.put T_is_between) C_is_between)
def N_Rule_out : List Str := ["self"]
def dflD_Rule_out : List D := []
def kwdD_Rule_out : List (Str × D) := []
def C_Rule_out : Cs := .cons (.ret (.ix (.fld (.v 0) "parts") (.int 1))) .nil
noncomputable def T_Rule_out : Tabs' := {}
noncomputable def F_Rule_out : Fn := runF 1 (runs (kG0.put T_Rule_out) C_Rule_out)
def N_Rule_back : List Str := ["self"]
def dflD_Rule_back : List D := []
def kwdD_Rule_back : List (Str × D) := []
def C_Rule_back : Cs := .cons (.ret (.ix (.fld (.v 0) "parts") (.int 2))) .nil
noncomputable def T_Rule_back : Tabs' := {}
noncomputable def F_Rule_back : Fn := runF 1 (runs (kG0.put T_Rule_back) C_Rule_back)
def N_Rule_is_modes : List Str := ["self", "value", "mode"]
def dflD_Rule_is_modes : List D := []
def kwdD_Rule_is_modes : List (Str × D) := []
def C_Rule_is_modes : Cs := .cons (.iff (.bor (.cons (.nt (.isi (.ty "tuple") (.v 1))) (.cons (.cmp .ne (.blt .len (.cons (.v 1) .nil)) (.gc 0)) .nil))) (.cons (.ret (.bl false)) .nil) .nil) (.cons (.ret (.blt .all (.cons (.comp [("mode", 2)] (.nm 2) (.seq (.v 1)) .none (.call 0 (.cons (.v 2) (.cons (.neg (.blt .max (.cons (.int 1) (.cons (.prop 1 (.v 0)) .nil)))) (.cons (.bin .sub (.prop 0 (.v 0)) (.int 1)) .nil))))) .nil))) .nil)
noncomputable def U2_is_between : GFn := ⟨"is_between", 3, F_is_between, 2, []⟩
noncomputable def U3_Rule_out : GM := ⟨0, "out", 1, F_Rule_out, 1, []⟩
noncomputable def U4_Rule_back : GM := ⟨0, "back", 1, F_Rule_back, 1, []⟩
noncomputable def T_Rule_is_modes : Tabs' := { fns := [U2_is_between], props := [U3_Rule_out, U4_Rule_back] }
noncomputable def F_Rule_is_modes : Fn := runF 3 (runs (kG0.put T_Rule_is_modes) C_Rule_is_modes)
def N_law_same : List Str := ["_law_found_z", "_law_due", "_law_a", "_law_b"]
def dflD_law_same : List D := []
def kwdD_law_same : List (Str × D) := []
def C_law_same : Cs := .cons (.iff (.isiT [.ty "list", .ty "tuple"] (.v 1)) (.cons (.iff (.bor (.cons (.cmp .ne (.isi (.ty "list") (.v 0)) (.isi (.ty "list") (.v 1))) (.cons (.cmp .ne (.isi (.ty "tuple") (.v 0)) (.isi (.ty "tuple") (.v 1))) .nil))) (.cons (.ret (.bl false)) .nil) .nil) (.cons (.ret (.ban (.cons (.cmp .eq (.blt .len (.cons (.v 0) .nil)) (.blt .len (.cons (.v 1) .nil))) (.cons (.blt .all (.cons (.comp [("_law_a", 2), ("_law_b", 3)] (.tp (.cons (.nm 2) (.cons (.nm 3) .nil))) (.zip (.v 0) (.v 1)) .none (.call 0 (.cons (.v 2) (.cons (.v 3) .nil)))) .nil)) .nil)))) .nil)) .nil) (.cons (.iff (.bor (.cons (.cmp .isN (.v 1) .non) (.cons (.cmp .isN (.v 0) .non) .nil))) (.cons (.ret (.ban (.cons (.cmp .isN (.v 1) .non) (.cons (.cmp .isN (.v 0) .non) .nil)))) .nil) .nil) (.cons (.iff (.bor (.cons (.cmp .ne (.isi (.ty "bool") (.v 1)) (.isi (.ty "bool") (.v 0))) (.cons (.cmp .ne (.isi (.ty "int") (.v 1)) (.isi (.ty "int") (.v 0))) .nil))) (.cons (.ret (.bl false)) .nil) .nil) (.cons (.ret (.ban (.cons (.cmp .eq (.isi (.ty "str") (.v 1)) (.isi (.ty "str") (.v 0))) (.cons (.cmp .eq (.v 0) (.v 1)) .nil)))) .nil)))
noncomputable def T_law_same (n : Nat) (F : Fn) : Tabs' := { fns := [⟨"_law_same", 2, F, n + 0, []⟩] }
noncomputable def F_law_same : Nat → Fn
  | 0 => fun _ _ => none
  | n + 1 => runF 4 (runs (kG0.put (T_law_same n (F_law_same n))) C_law_same)
noncomputable def Gn_law_same (n : Nat) : GFn := ⟨"_law_same", 2, F_law_same n, n + 0, []⟩
def N_Rule_mode_behind : List Str := ["self", "mode", "is_near", "late"]
def dflD_Rule_mode_behind : List D := []
def kwdD_Rule_mode_behind : List (Str × D) := []
def C_Rule_mode_behind : Cs := .cons (.iff (.cmp .ge (.v 1) (.int 0)) (.cons (.set 3 (.ife (.v 2) (.int 0) (.bin .add (.v 1) (.int 1)))) (.cons (.ret (.ife (.cmp .eq (.v 3) (.prop 1 (.v 0))) (.neg (.int 1)) (.v 3))) .nil)) .nil) (.cons (.iff (.bor (.cons (.nt (.v 2)) (.cons (.cmp .eq (.prop 0 (.v 0)) (.int 0)) .nil))) (.cons (.ret (.neg (.int 1))) .nil) .nil) (.cons (.ret (.ife (.cmp .eq (.v 1) (.neg (.prop 0 (.v 0)))) (.int 0) (.bin .sub (.v 1) (.int 1)))) .nil))
noncomputable def T_Rule_mode_behind : Tabs' := { props := [U4_Rule_back, U3_Rule_out] }
noncomputable def F_Rule_mode_behind : Fn := runF 4 (runs (kG0.put T_Rule_mode_behind) C_Rule_mode_behind)
def N_Rule_distance : List Str := ["self"]
def dflD_Rule_distance : List D := []
def kwdD_Rule_distance : List (Str × D) := []
def C_Rule_distance : Cs := .cons (.ret (.ix (.fld (.v 0) "parts") (.int 0))) .nil
noncomputable def T_Rule_distance : Tabs' := {}
noncomputable def F_Rule_distance : Fn := runF 1 (runs (kG0.put T_Rule_distance) C_Rule_distance)
def N_Rule_hold : List Str := ["self"]
def dflD_Rule_hold : List D := []
def kwdD_Rule_hold : List (Str × D) := []
def C_Rule_hold : Cs := .cons (.ret (.ix (.fld (.v 0) "parts") (.int 5))) .nil
noncomputable def T_Rule_hold : Tabs' := {}
noncomputable def F_Rule_hold : Fn := runF 1 (runs (kG0.put T_Rule_hold) C_Rule_hold)
def N_Rule_ranks : List Str := ["self"]
def dflD_Rule_ranks : List D := []
def kwdD_Rule_ranks : List (Str × D) := []
def C_Rule_ranks : Cs := .cons (.ret (.ix (.fld (.v 0) "parts") (.int 3))) .nil
noncomputable def T_Rule_ranks : Tabs' := {}
noncomputable def F_Rule_ranks : Fn := runF 1 (runs (kG0.put T_Rule_ranks) C_Rule_ranks)
def N_Rule_least : List Str := ["self"]
def dflD_Rule_least : List D := []
def kwdD_Rule_least : List (Str × D) := []
def C_Rule_least : Cs := .cons (.ret (.ix (.fld (.v 0) "parts") (.int 4))) .nil
noncomputable def T_Rule_least : Tabs' := {}
noncomputable def F_Rule_least : Fn := runF 1 (runs (kG0.put T_Rule_least) C_Rule_least)
def N_Rule_ranked : List Str := ["self", "modes", "inside", "meter", "mode"]
def dflD_Rule_ranked : List D := []
def kwdD_Rule_ranked : List (Str × D) := []
def C_Rule_ranked : Cs := .cons (.set 2 (.comp [("meter", 3), ("mode", 4)] (.tp (.cons (.nm 3) (.cons (.nm 4) .nil))) (.enum (.v 1)) (.some (.cmp .ge (.v 4) (.int 0))) (.v 3))) (.cons (.iff (.cmp .ge (.blt .len (.cons (.v 2) .nil)) (.prop 2 (.v 0))) (.cons (.ret (.tup (.cons (.v 2) (.cons (.ix (.prop 1 (.v 0)) (.bin .sub (.blt .len (.cons (.v 2) .nil)) (.int 1))) .nil)))) .nil) .nil) (.cons (.ret (.ife (.prop 0 (.v 0)) .non (.tup (.cons (.lr1 (.gc 0)) (.cons (.ix (.prop 1 (.v 0)) (.bin .sub (.gc 0) (.int 1))) .nil))))) .nil))
noncomputable def U5_Rule_hold : GM := ⟨0, "hold", 1, F_Rule_hold, 1, []⟩
noncomputable def U6_Rule_ranks : GM := ⟨0, "ranks", 1, F_Rule_ranks, 1, []⟩
noncomputable def U7_Rule_least : GM := ⟨0, "least", 1, F_Rule_least, 1, []⟩
noncomputable def T_Rule_ranked : Tabs' := { props := [U5_Rule_hold, U6_Rule_ranks, U7_Rule_least] }
noncomputable def F_Rule_ranked : Fn := runF 5 (runs (kG0.put T_Rule_ranked) C_Rule_ranked)
def N_is_listed : List Str := ["value"]
def dflD_is_listed : List D := []
def kwdD_is_listed : List (Str × D) := []
def C_is_listed : Cs := .cons (.ret (.isiT [.ty "list", .ty "tuple"] (.v 0))) .nil
noncomputable def T_is_listed : Tabs' := {}
noncomputable def F_is_listed : Fn := runF 1 (runs (kG0.put T_is_listed) C_is_listed)
def N_Rule_need_readings : List Str := ["self", "readings", "but", "at", "reading"]
def dflD_Rule_need_readings : List D := [.int (-1)]
def kwdD_Rule_need_readings : List (Str × D) := []
def C_Rule_need_readings : Cs := .cons (.iff (.bor (.cons (.nt (.call 1 (.cons (.v 1) .nil))) (.cons (.cmp .ne (.blt .len (.cons (.v 1) .nil)) (.gc 0)) .nil))) (.cons .nev .nil) .nil) (.cons (.forr (.tp (.cons (.nm 3) (.cons (.nm 4) .nil))) (.enum (.v 1)) (.cons (.iff (.ban (.cons (.cmp .ne (.v 3) (.v 2)) (.cons (.nt (.call 0 (.cons (.v 4) .nil))) .nil))) (.cons .nev .nil) .nil) .nil)) .nil)
noncomputable def U8_is_listed : GFn := ⟨"is_listed", 1, F_is_listed, 1, []⟩
noncomputable def T_Rule_need_readings : Tabs' := { fns := [U1_is_number, U8_is_listed] }
noncomputable def F_Rule_need_readings : Fn := runF 5 (runs (kG0.put T_Rule_need_readings) C_Rule_need_readings)
def N_Rule_tick : List Str := ["self", "modes", "readings", "held", "ranked", "told", "near", "reading", "mode", "is_near", "meter"]
def dflD_Rule_tick : List D := []
def kwdD_Rule_tick : List (Str × D) := [("held", .non)]
def C_Rule_tick : Cs := .cons (.expr (.km 0 (.v 0) (.cons (.v 2) .nil) .nil)) (.cons (.asg (.tp (.cons (.nm 4) (.cons (.nm 5) .nil))) (.tup (.cons (.meth 1 (.v 0) (.cons (.v 1) .nil)) (.cons (.v 3) .nil)))) (.cons (.iff (.cmp .notN (.v 4) .non) (.cons (.set 5 (.ix (.lblt .sorted (.cons (.comp [("meter", 10)] (.nm 10) (.seq (.ix (.v 4) (.int 0))) .none (.ix (.v 2) (.v 10))) .nil)) (.bin .sub (.ix (.v 4) (.int 1)) (.int 1)))) .nil) .nil) (.cons (.iff (.cmp .isN (.v 5) .non) (.cons .nev .nil) .nil) (.cons (.set 6 (.comp [("reading", 7)] (.nm 7) (.seq (.v 2)) .none (.cmp .le (.blt .abs (.cons (.bin .sub (.v 7) (.v 5)) .nil)) (.prop 0 (.v 0))))) (.cons (.ret (.tup (.cons (.v 5) (.cons (.blt .tuple (.cons (.comp [("mode", 8), ("is_near", 9)] (.tp (.cons (.nm 8) (.cons (.nm 9) .nil))) (.zip (.v 1) (.v 6)) .none (.meth 0 (.v 0) (.cons (.v 8) (.cons (.v 9) .nil)))) .nil)) .nil)))) .nil)))))
noncomputable def U9_Rule_mode_behind : GM := ⟨0, "mode_behind", 3, F_Rule_mode_behind, 3, []⟩
noncomputable def U10_Rule_ranked : GM := ⟨0, "ranked", 2, F_Rule_ranked, 3, []⟩
noncomputable def U11_Rule_distance : GM := ⟨0, "distance", 1, F_Rule_distance, 1, []⟩
noncomputable def U12_Rule_need_readings : GK := ⟨"Rule", 0, "need_readings", 1, [], 3, F_Rule_need_readings, arrQ dflD_Rule_need_readings kwdD_Rule_need_readings [] [.p 0, .p 1, .d 0], 2⟩
noncomputable def T_Rule_tick : Tabs' := { meths := [U9_Rule_mode_behind, U10_Rule_ranked], props := [U11_Rule_distance], kms := [U12_Rule_need_readings] }
noncomputable def F_Rule_tick : Fn := runF 11 (runs (kG0.put T_Rule_tick) C_Rule_tick)
def N_Rule_call : List Str := ["self", "modes", "readings"]
def dflD_Rule_call : List D := []
def kwdD_Rule_call : List (Str × D) := []
def C_Rule_call : Cs := .cons (.ret (.km 0 (.v 0) (.cons (.v 1) (.cons (.v 2) .nil)) .nil)) .nil
noncomputable def U13_Rule_tick : GK := ⟨"Rule", 0, "tick", 2, [], 4, F_Rule_tick, arrQ dflD_Rule_tick kwdD_Rule_tick ["held"] [.p 0, .p 1, .p 2, .m 0], 4⟩
noncomputable def T_Rule_call : Tabs' := { kms := [U13_Rule_tick] }
noncomputable def F_Rule_call : Fn := runF 3 (runs (kG0.put T_Rule_call) C_Rule_call)
def N_law_picked : List Str := ["_law_r", "_law_modes_z", "_law_inside", "_law_m"]
def dflD_law_picked : List D := []
def kwdD_law_picked : List (Str × D) := []
def C_law_picked : Cs := .cons (.set 2 (.comp [("_law_m", 3)] (.nm 3) (.rng1 (.int 3)) (.some (.cmp .ge (.ix (.v 1) (.v 3)) (.int 0))) (.v 3))) (.cons (.iff (.cmp .ge (.blt .len (.cons (.v 2) .nil)) (.ix (.v 0) (.int 4))) (.cons (.ret (.tup (.cons (.v 2) (.cons (.ix (.ix (.v 0) (.int 3)) (.bin .sub (.blt .len (.cons (.v 2) .nil)) (.int 1))) .nil)))) .nil) .nil) (.cons (.ret (.ife (.ix (.v 0) (.int 5)) .non (.tup (.cons (.lst (.cons (.int 0) (.cons (.int 1) (.cons (.int 2) .nil)))) (.cons (.ix (.ix (.v 0) (.int 3)) (.int 2)) .nil))))) .nil))
noncomputable def T_law_picked : Tabs' := {}
noncomputable def F_law_picked : Fn := runF 4 (runs (kG0.put T_law_picked) C_law_picked)
def N_law_behind : List Str := ["_law_r", "_law_mode_z", "_law_near", "_law_late"]
def dflD_law_behind : List D := []
def kwdD_law_behind : List (Str × D) := []
def C_law_behind : Cs := .cons (.iff (.cmp .ge (.v 1) (.int 0)) (.cons (.set 3 (.ife (.v 2) (.int 0) (.bin .add (.v 1) (.int 1)))) (.cons (.ret (.ife (.cmp .eq (.v 3) (.ix (.v 0) (.int 1))) (.bin .sub (.int 0) (.int 1)) (.v 3))) .nil)) .nil) (.cons (.iff (.bor (.cons (.nt (.v 2)) (.cons (.cmp .eq (.ix (.v 0) (.int 2)) (.int 0)) .nil))) (.cons (.ret (.bin .sub (.int 0) (.int 1))) .nil) .nil) (.cons (.ret (.ife (.cmp .eq (.bin .sub (.int 0) (.v 1)) (.ix (.v 0) (.int 2))) (.int 0) (.bin .sub (.v 1) (.int 1)))) .nil))
noncomputable def T_law_behind : Tabs' := {}
noncomputable def F_law_behind : Fn := runF 4 (runs (kG0.put T_law_behind) C_law_behind)
def N_law_tick : List Str := ["_law_r", "_law_modes_z", "_law_readings_z", "_law_held_z", "_law_picked_here", "_law_told_z", "_law_some", "_law_fit", "_law_m", "_law_v", "_law_u"]
def dflD_law_tick : List D := []
def kwdD_law_tick : List (Str × D) := []
def C_law_tick : Cs := .cons (.asg (.tp (.cons (.nm 4) (.cons (.nm 5) .nil))) (.tup (.cons (.call 1 (.cons (.v 0) (.cons (.v 1) .nil))) (.cons (.v 3) .nil)))) (.cons (.iff (.cmp .notN (.v 4) .non) (.cons (.set 6 (.comp [("_law_m", 8)] (.nm 8) (.seq (.ix (.v 4) (.int 0))) .none (.ix (.v 2) (.v 8)))) (.cons (.set 7 (.comp [("_law_v", 9)] (.nm 9) (.seq (.v 6)) (.some (.chain .lt .le (.blt .len (.cons (.comp [("_law_u", 10)] (.nm 10) (.seq (.v 6)) (.some (.cmp .lt (.v 10) (.v 9))) (.v 10)) .nil)) (.ix (.v 4) (.int 1)) (.blt .len (.cons (.comp [("_law_u", 10)] (.nm 10) (.seq (.v 6)) (.some (.cmp .le (.v 10) (.v 9))) (.v 10)) .nil)))) (.v 9))) (.cons (.set 5 (.ix (.v 7) (.int 0))) .nil))) .nil) (.cons (.ret (.tup (.cons (.v 5) (.cons (.blt .tuple (.cons (.comp [("_law_m", 8)] (.nm 8) (.rng1 (.int 3)) .none (.call 0 (.cons (.v 0) (.cons (.ix (.v 1) (.v 8)) (.cons (.cmp .le (.blt .abs (.cons (.bin .sub (.ix (.v 2) (.v 8)) (.v 5)) .nil)) (.ix (.v 0) (.int 0))) .nil))))) .nil)) .nil)))) .nil))
noncomputable def U14_law_behind : GFn := ⟨"_law_behind", 3, F_law_behind, 1, []⟩
noncomputable def U15_law_picked : GFn := ⟨"_law_picked", 2, F_law_picked, 1, []⟩
noncomputable def T_law_tick : Tabs' := { fns := [U14_law_behind, U15_law_picked] }
noncomputable def F_law_tick : Fn := runF 11 (runs (kG0.put T_law_tick) C_law_tick)
def N_law_of : List Str := ["_law_bag_here", "_law_things"]
def dflD_law_of : List D := []
def kwdD_law_of : List (Str × D) := []
def C_law_of : Cs := .cons (.ret (.ix (.v 1) (.call 0 (.cons (.v 0) (.cons (.blt .len (.cons (.v 1) .nil)) .nil))))) .nil
noncomputable def T_law_of : Tabs' := { fns := [U0_law_pull] }
noncomputable def F_law_of : Fn := runF 2 (runs (kG0.put T_law_of) C_law_of)
def N_are_ranks : List Str := ["value", "at", "rank"]
def dflD_are_ranks : List D := []
def kwdD_are_ranks : List (Str × D) := []
def C_are_ranks : Cs := .cons (.iff (.bor (.cons (.nt (.isi (.ty "tuple") (.v 0))) (.cons (.cmp .ne (.blt .len (.cons (.v 0) .nil)) (.gc 0)) .nil))) (.cons (.ret (.bl false)) .nil) .nil) (.cons (.ret (.blt .all (.cons (.comp [("at", 1), ("rank", 2)] (.tp (.cons (.nm 1) (.cons (.nm 2) .nil))) (.enum (.v 0)) .none (.call 0 (.cons (.v 2) (.cons (.int 1) (.cons (.bin .add (.v 1) (.int 1)) .nil))))) .nil))) .nil)
noncomputable def T_are_ranks : Tabs' := { fns := [U2_is_between] }
noncomputable def F_are_ranks : Fn := runF 3 (runs (kG0.put T_are_ranks) C_are_ranks)
def N_is_amount : List Str := ["value"]
def dflD_is_amount : List D := []
def kwdD_is_amount : List (Str × D) := []
def C_is_amount : Cs := .cons (.ret (.call 0 (.cons (.v 0) (.cons (.int 0) (.cons (.gc 2) .nil))))) .nil
noncomputable def T_is_amount : Tabs' := { fns := [U2_is_between] }
noncomputable def F_is_amount : Fn := runF 1 (runs (kG0.put T_is_amount) C_is_amount)
def N_Rule_init : List Str := ["self", "distance", "out", "back", "ranks", "least", "hold"]
def dflD_Rule_init : List D := []
def kwdD_Rule_init : List (Str × D) := [("out", .int 1), ("back", .int 0), ("ranks", .tup [.int 1, .int 1, .int 2]), ("least", .int 1), ("hold", .bl true)]
def C_Rule_init : Cs := .cons (.iff (.nt (.call 2 (.cons (.v 1) .nil))) (.cons .nev .nil) .nil) (.cons (.iff (.nt (.call 0 (.cons (.v 2) (.cons (.int 1) (.cons (.gc 1) .nil))))) (.cons .nev .nil) .nil) (.cons (.iff (.nt (.call 0 (.cons (.v 3) (.cons (.int 0) (.cons (.gc 1) .nil))))) (.cons .nev .nil) .nil) (.cons (.iff (.nt (.call 1 (.cons (.v 4) .nil))) (.cons .nev .nil) .nil) (.cons (.iff (.nt (.call 0 (.cons (.v 5) (.cons (.int 1) (.cons (.gc 0) .nil))))) (.cons .nev .nil) .nil) (.cons (.iff (.nt (.isi (.ty "bool") (.v 6))) (.cons .nev .nil) .nil) (.cons (.setF (.v 0) "parts" (.tup (.cons (.v 1) (.cons (.v 2) (.cons (.v 3) (.cons (.v 4) (.cons (.v 5) (.cons (.v 6) .nil)))))))) .nil))))))
noncomputable def U16_are_ranks : GFn := ⟨"are_ranks", 1, F_are_ranks, 3, []⟩
noncomputable def U17_is_amount : GFn := ⟨"is_amount", 1, F_is_amount, 3, []⟩
noncomputable def T_Rule_init : Tabs' := { fns := [U2_is_between, U16_are_ranks, U17_is_amount] }
noncomputable def F_Rule_init : Fn := runF 7 (runs (kG0.put T_Rule_init) C_Rule_init)
def N_law_rule_made : List Str := ["_law_r"]
def dflD_law_rule_made : List D := []
def kwdD_law_rule_made : List (Str × D) := []
def C_law_rule_made : Cs := .cons (.ret (.make 0 (.cons (.ix (.v 0) (.int 0)) .nil) (.cons (.ix (.v 0) (.int 5)) (.cons (.ix (.v 0) (.int 4)) (.cons (.ix (.v 0) (.int 3)) (.cons (.ix (.v 0) (.int 2)) (.cons (.ix (.v 0) (.int 1)) .nil))))))) .nil
noncomputable def U18_Rule_init : GMk := ⟨"Rule", 0, true, 1, ["hold", "least", "ranks", "back", "out"], 7, F_Rule_init, arrQ dflD_Rule_init kwdD_Rule_init [] [.p 0, .p 1, .k 4, .k 3, .k 2, .k 1, .k 0], 4⟩
noncomputable def T_law_rule_made : Tabs' := { makes := [U18_Rule_init] }
noncomputable def F_law_rule_made : Fn := runF 1 (runs (kG0.put T_law_rule_made) C_law_rule_made)
def N_law_rule : List Str := ["_law_bag_here", "_law_far", "_law_out_z", "_law_back_z", "_law_distance_z", "_law_many_z", "_law_ranks_z"]
def dflD_law_rule : List D := []
def kwdD_law_rule : List (Str × D) := []
def C_law_rule : Cs := .cons (.par 4 5 (.call 0 (.cons (.v 0) (.cons (.bin .add (.v 1) (.int 1)) .nil))) (.bin .add (.int 1) (.call 0 (.cons (.v 0) (.cons (.v 2) .nil))))) (.cons (.set 6 (.tup (.cons (.int 1) (.cons (.bin .add (.int 1) (.call 0 (.cons (.v 0) (.cons (.int 2) .nil)))) (.cons (.call 1 (.cons (.v 0) (.cons (.lst (.cons (.int 2) (.cons (.int 2) (.cons (.int 2) (.cons (.int 1) (.cons (.int 3) .nil)))))) .nil))) .nil))))) (.cons (.ret (.tup (.cons (.v 4) (.cons (.v 5) (.cons (.call 0 (.cons (.v 0) (.cons (.bin .add (.v 3) (.int 1)) .nil))) (.cons (.v 6) (.cons (.bin .add (.int 1) (.call 0 (.cons (.v 0) (.cons (.int 3) .nil)))) (.cons (.cmp .gt (.call 0 (.cons (.v 0) (.cons (.int 3) .nil))) (.int 0)) .nil)))))))) .nil))
noncomputable def U19_law_of : GFn := ⟨"_law_of", 2, F_law_of, 2, []⟩
noncomputable def T_law_rule : Tabs' := { fns := [U0_law_pull, U19_law_of] }
noncomputable def F_law_rule : Fn := runF 7 (runs (kG0.put T_law_rule) C_law_rule)
def N_law_bag : List Str := ["_law_script", "_law_start_z", "_law_cell"]
def dflD_law_bag : List D := []
def kwdD_law_bag : List (Str × D) := []
def C_law_bag : Cs := .cons (.set 1 (.int 10016)) (.cons (.forr (.nm 2) (.seq (.lsl (.v 0) .none (.some (.int 63)))) (.cons (.set 1 (.bin .mod (.blt .int (.cons (.bin .add (.bin .add (.bin .mul (.v 1) (.int 47533)) (.bin .mod (.blt .int (.cons (.v 2) .nil)) (.int 2147483497))) (.int 31)) .nil)) (.int 2147483563))) .nil)) (.cons (.retC (.lst (.cons (.lblt .list (.cons (.lsl (.v 0) .none (.some (.int 63))) .nil)) (.cons (.int 0) (.cons (.int 0) (.cons (.v 1) (.cons (.int 0) .nil))))))) .nil))
noncomputable def T_law_bag : Tabs' := {}
noncomputable def F_law_bag : Fn := runF 3 (runs (kG0.put T_law_bag) C_law_bag)
def N_law : List Str := ["_law_script", "_law_bag_here", "_law_turn", "_law_far", "_law_r", "_law_made_z", "_law_modes_z", "_law_told_z", "_law_by_z", "_law_readings_z", "_law_some", "_law_due", "_law_found_z", "_law_v"]
def dflD_law : List D := []
def kwdD_law : List (Str × D) := []
def C_law : Cs := .cons (.set 1 (.call 8 (.cons (.v 0) .nil))) (.cons (.forr (.nm 2) (.rng1 (.int 6)) (.cons (.set 3 (.call 5 (.cons (.v 1) (.cons (.lst (.cons (.int 2) (.cons (.int 4) (.cons (.bin .pow (.int 10) (.int 6)) .nil)))) .nil)))) (.cons (.set 4 (.call 7 (.cons (.v 1) (.cons (.v 3) (.cons (.int 3) (.cons (.int 3) .nil)))))) (.cons (.par3 5 6 7 (.call 6 (.cons (.v 4) .nil)) (.tup (.cons (.int 0) (.cons (.int 0) (.cons (.int 0) .nil)))) .non) (.cons (.set 8 (.call 5 (.cons (.v 1) (.cons (.lst (.cons (.int 0) (.cons (.bin .pow (.int 10) (.int 16)) (.cons (.neg (.int 7)) .nil)))) .nil)))) (.cons (.forr (.nm 9) (.seq (.call 0 (.cons (.v 1) (.cons (.call 1 (.cons (.v 1) (.cons (.int 15) .nil))) (.cons (.v 3) .nil))))) (.cons (.set 10 (.blt .tuple (.cons (.comp [("_law_v", 13)] (.nm 13) (.seq (.v 9)) .none (.bin .add (.v 13) (.v 8))) .nil))) (.cons (.set 11 (.call 4 (.cons (.v 4) (.cons (.v 6) (.cons (.v 10) (.cons (.v 7) .nil)))))) (.cons (.set 12 (.km 1 (.v 5) (.cons (.v 6) (.cons (.ife (.cmp .eq (.call 1 (.cons (.v 1) (.cons (.int 2) .nil))) (.int 0)) (.lblt .list (.cons (.v 10) .nil)) (.v 10)) .nil)) (.cons (.v 7) .nil))) (.cons (.iff (.bor (.cons (.nt (.call 2 (.cons (.v 12) (.cons (.v 11) .nil)))) (.cons (.nt (.call 2 (.cons (.km 0 (.v 5) .nil (.cons (.v 7) (.cons (.v 10) (.cons (.v 6) .nil)))) (.cons (.v 11) .nil)))) .nil))) (.cons (.ret (.bl false)) .nil) .nil) (.cons (.iff (.ban (.cons (.cmp .notN (.call 3 (.cons (.v 4) (.cons (.v 6) .nil))) .non) (.cons (.nt (.call 2 (.cons (.co 1 (.v 5) (.cons (.v 6) (.cons (.v 10) .nil))) (.cons (.v 11) .nil)))) .nil))) (.cons (.ret (.bl false)) .nil) .nil) (.cons (.asg (.tp (.cons (.nm 7) (.cons (.nm 6) .nil))) (.v 11)) (.cons (.iff (.nt (.meth 0 (.v 5) (.cons (.v 6) .nil))) (.cons (.ret (.bl false)) .nil) .nil) .nil)))))))) .nil)))))) (.cons (.ret (.bl true)) .nil))
noncomputable def U20_law_readings : GFn := ⟨"_law_readings", 3, F_law_readings, 2, []⟩
noncomputable def U21_law_same : GFn := ⟨"_law_same", 2, (F_law_same 6), 6, []⟩
noncomputable def U22_law_tick : GFn := ⟨"_law_tick", 4, F_law_tick, 2, []⟩
noncomputable def U23_law_rule_made : GFn := ⟨"_law_rule_made", 1, F_law_rule_made, 6, []⟩
noncomputable def U24_law_rule : GFn := ⟨"_law_rule", 4, F_law_rule, 3, []⟩
noncomputable def U25_law_bag : GFn := ⟨"_law_bag", 1, F_law_bag, 1, []⟩
noncomputable def U26_Rule_is_modes : GM := ⟨0, "is_modes", 2, F_Rule_is_modes, 3, []⟩
noncomputable def U27_Rule_call : GM := ⟨0, "__call__", 3, F_Rule_call, 5, []⟩
noncomputable def U28_Rule_tick : GK := ⟨"Rule", 0, "tick", 0, ["held", "readings", "modes"], 4, F_Rule_tick, arrQ dflD_Rule_tick kwdD_Rule_tick [] [.p 0, .k 2, .k 1, .k 0], 4⟩
noncomputable def U29_Rule_tick : GK := ⟨"Rule", 0, "tick", 2, ["held"], 4, F_Rule_tick, arrQ dflD_Rule_tick kwdD_Rule_tick [] [.p 0, .p 1, .p 2, .k 0], 4⟩
noncomputable def T_law : Tabs' := { fns := [U20_law_readings, U0_law_pull, U21_law_same, U15_law_picked, U22_law_tick, U19_law_of, U23_law_rule_made, U24_law_rule, U25_law_bag], meths := [U26_Rule_is_modes, U27_Rule_call], kms := [U28_Rule_tick, U29_Rule_tick] }
noncomputable def F_law : Fn := runF 14 (runs (kG0.put T_law) C_law)
end EGL
namespace EGL
open PySem L2 EG
local macro_rules
  | `(tactic| array_get_dec) => `(tactic| simp only [↓br_true, ↓br_false, ↓op_some, ↓wp_bind, ↓wp_pure, ↓wp_fail, ↓wp_opt, ↓wp_guard, ↓wp_v, ↓wp_vB, ↓wp_c, ↓wp_op2, ↓wp_op2L, ↓wp_t, ↓wp_tru, ↓wp_chain, ↓wp_andT, ↓wp_orT, ↓wp_notT, ↓wp_andV, ↓wp_orV, ↓wp_notV, ↓wp_if, ↓wp_nil, ↓wp_cons, ↓wp_tup, ↓wp_lst, ↓wp_D, ↓wp_cb, ↓wp_call, ↓wp_isi, ↓wp_neg, ↓wp_sl, ↓wp_noP, ↓wp_P, ↓wp_yes, ↓wp_items, ↓wp_signs, ↓wp_comp, ↓ws_seq, ↓thn_nx, ↓thn_rt, ↓thn_br, ↓thn_ct, ↓thn_exc, ↓ws_skip, ↓ws_break, ↓ws_cont, ↓ws_retN, ↓ws_set, ↓ws_own, ↓ws_ret, ↓ws_drop, ↓ws_if, ↓ws_asg, ↓ws_par3, ↓ws_par, ↓ws_setC, ↓wp_newc, ↓ws_app, ↓ws_ext, ↓ws_setI, ↓ws_frz, ↓ws_for, ↓wl_nil, ↓wl_cons, ↓wf_run, ↓retS_nx, ↓retS_rt, ↓lpS_nx, ↓lpS_ct, ↓lpS_br, ↓lpS_rt, ↓turn_nx, ↓turn_ct, ↓turn_br, ↓turn_rt, ↓wp_addI, ↓wp_addS, ↓wp_subI, ↓wp_mulI, ↓wp_divI, ↓wp_modI, ↓wp_powI, ↓wp_cmpI, ↓wp_eq, ↓wp_ne, ↓wp_negI, ↓wp_seqE, ↓wp_lstE, ↓wp_ixL, ↓wp_ixT, ↓wp_ixC, ↓wp_ixS, ↓wp_lenS, ↓wp_lenL, ↓wp_lenT, ↓wp_lenC, ↓wp_absI, ↓wp_intI, ↓wp_intB, ↓wp_intS, ↓wp_strI, ↓wp_boolI, ↓wp_boolB, ↓wp_all, ↓wp_any, ↓wp_sum, ↓wp_max2, ↓wp_min2, ↓wp_list, ↓wp_tuple, ↓wp_sorted, ↓wp_slS, ↓wp_slT, ↓wp_slLD, ↓wp_slC, ↓wp_slL, ↓wp_range1, ↓wp_range2, ↓wp_enum, ↓wp_enumT, ↓wp_zip, ↓wp_zipTT, ↓wp_zipTL, ↓wp_zipLT, ↓wp_cat, ↓wp_rep, ↓wp_inSg, ↓wp_notInSg, ↓wp_inL, ↓wp_inT, ↓wp_notIn, ↓wp_isN, ↓wp_notN, tt1, tt2, tt3, tt4, tt5, tt6, tu1, tu2, tu3, tu4, tu5, tu6, tu7, tu8, tu9, tu10, tu11, tu12, tu13, tu14, tu15, tu16, tu17, tu18, tu19, tu20, tu21, tu22, tu23, tu24, asB_bl, truD_non, truD_bl, truD_int, truD_str, truD_lst, truD_tup, asI_int, asS_str, items_lst, items_tup, items_str, valS_v, valB_v, valB_own, seqD_lst, seqD_tup, seqD_cell0, lstD_lst, lstD_cell0, cellL_0, own_lst, nonB_non, nonB_bl, nonB_int, nonB_str, nonB_lst, nonB_tup, nonB_cell, nonB_obj, bools_nil, bools_cons, ints_nil, ints_cons, eqD_ii, eqD_bb, eqD_ss, eqD_nn, eqD_ni, eqD_in, eqD_nb, eqD_bn, eqD_ns, eqD_sn, eqD_is, eqD_si, eqD_bs, eqD_sb, tag_non, tag_bl, tag_int, tag_str, tag_lst, tag_tup, tag_obj, bindP_nm, bindP_tp, bindPs_nil, bindPs_cons, ↓wp_get, ↓wp_meth, ↓wp_prop, ↓ws_setF, ↓wp_mk, ↓wp_own, ↓wp_kd, ↓wp_methK, ↓wp_ownNe, ↓wp_own1, ↓wp_ownT, ↓wp_fstr, ↓wp_fFn, ↓wp_fFc, ↓wp_fmtS, ↓wp_fmtI, kok_len, kok_repr, kok_bool, eqD_tt, eqD_ll, plB_non, plB_bl, plB_int, plB_str, plB_lst, plB_tup, eqBs_nn, eqBs_cc, eqBs_nc, eqBs_cn, eqB_ii, eqB_bb, eqB_ss, eqB_nn, eqB_ll, eqB_tt, eqB_ni, eqB_in, eqB_nt, eqB_tn, eqB_it, eqB_ti, ↓wp_addT, ↓wp_addL, ↓wp_mulL, objD_obj, objD_last, cellO_last, set_last, isO_obj, isO_last, putD_nil, putD_cons, lkp_nil, lkp_cons, bel_plain, bels_plain, belF_nil, belF_cons, ↓wp_compN, ↓wp_compC, rng_0, rng_1, rng_2, rng_3, enL_nil, enL_cons, zpL_nil, zpL_nilR, zpL_cons, ↓wp_maxL, ↓wp_minL, maxL_2, maxL_1, minL_2, minL_1, bel_non, bel_bl, bel_int, bel_str, bel_lst, bel_tup, bel_obj, bels_nil, bels_cons, kst_app0, ctl_hi, ctl_lo, ctl_no, kst_inj, ↓wp_rgI1, ↓wp_rgI2, ↓wp_rg1, ↓wp_rg2, ↓wp_callO, kst_beq, EG.runs, EG.run, ev, evs, evo, evr, evf, mkE, mkL, failL, bopF, copF, bltF, lbltF, env0, wipeE, isiAny, isi1, frzS, Cell.toD, atI_nn, setAt_nn, wp_inSg, Gam.put, clsTab, arrQ, arrP, Pick.of, kwM, rightB, E00, List.map_cons, List.map_nil, List.length_cons, List.length_nil, List.append_nil, List.nil_append, List.cons_append, List.getElem?_cons_zero, List.getElem?_cons_succ, List.getElem?_nil, List.set_cons_zero, List.set_cons_succ, List.filter_cons, List.filter_nil, List.contains_nil, List.elem_nil, Int.reduceNeg, Int.reducePow, nA10, nA2, le_big, Nat.reducePow, Nat.zero_add, Option.map_some, Option.bind_some, Int.reduceLE, Int.reduceToNat, Int.reduceLT, Nat.reduceLT, Nat.reduceAdd, Nat.reduceSub, true_and, and_true, decide_true, decide_false, List.length_append, List.length_map, Nat.reduceLeDiff, Nat.reduceEqDiff, Bool.not_true, Bool.not_false, decide_eq_true_eq, reduceCtorEq, Option.some.injEq, id_eq, List.all_cons, List.all_nil, List.any_cons, List.any_nil, Bool.and_true, Bool.true_and, Bool.and_false, Bool.false_and, Bool.or_true, Bool.or_false, Bool.true_or, Bool.false_or, Int.reduceAdd, Int.reduceSub, beq_self_eq_true, Option.isNone_none, Option.isNone_some, if_true, if_false, ite_true, ite_false, Nat.succ_eq_add_one, Int.natCast_add, Int.natCast_one, Int.cast_ofNat_Int, List.contains_cons, String.reduceEq, List.take_succ_cons, List.take_zero, List.drop_succ_cons, List.drop_zero, List.take_nil, List.drop_nil, List.replicate, Int.natCast_zero, Int.zero_add, kG0, kConsts, kFrees, kCls, kisi_0, kisi_1, kisi_2, kisi_3, kisi_4, kisi_5, kisi_6, kisi_7, kisi_8, kisi_9, kisi_10, kisi_11, kfld_0, dflD_law_pull, kwdD_law_pull, T_law_pull, dflD_law_readings, kwdD_law_readings, U0_law_pull, T_law_readings, dflD_is_number, kwdD_is_number, T_is_number, dflD_is_between, kwdD_is_between, U1_is_number, T_is_between, dflD_Rule_out, kwdD_Rule_out, T_Rule_out, dflD_Rule_back, kwdD_Rule_back, T_Rule_back, dflD_Rule_is_modes, kwdD_Rule_is_modes, U2_is_between, U3_Rule_out, U4_Rule_back, T_Rule_is_modes, dflD_law_same, kwdD_law_same, T_law_same, dflD_Rule_mode_behind, kwdD_Rule_mode_behind, T_Rule_mode_behind, dflD_Rule_distance, kwdD_Rule_distance, T_Rule_distance, dflD_Rule_hold, kwdD_Rule_hold, T_Rule_hold, dflD_Rule_ranks, kwdD_Rule_ranks, T_Rule_ranks, dflD_Rule_least, kwdD_Rule_least, T_Rule_least, dflD_Rule_ranked, kwdD_Rule_ranked, U5_Rule_hold, U6_Rule_ranks, U7_Rule_least, T_Rule_ranked, dflD_is_listed, kwdD_is_listed, T_is_listed, dflD_Rule_need_readings, kwdD_Rule_need_readings, U8_is_listed, T_Rule_need_readings, dflD_Rule_tick, kwdD_Rule_tick, U9_Rule_mode_behind, U10_Rule_ranked, U11_Rule_distance, U12_Rule_need_readings, T_Rule_tick, dflD_Rule_call, kwdD_Rule_call, U13_Rule_tick, T_Rule_call, dflD_law_picked, kwdD_law_picked, T_law_picked, dflD_law_behind, kwdD_law_behind, T_law_behind, dflD_law_tick, kwdD_law_tick, U14_law_behind, U15_law_picked, T_law_tick, dflD_law_of, kwdD_law_of, T_law_of, dflD_are_ranks, kwdD_are_ranks, T_are_ranks, dflD_is_amount, kwdD_is_amount, T_is_amount, dflD_Rule_init, kwdD_Rule_init, U16_are_ranks, U17_is_amount, T_Rule_init, dflD_law_rule_made, kwdD_law_rule_made, U18_Rule_init, T_law_rule_made, dflD_law_rule, kwdD_law_rule, U19_law_of, T_law_rule, dflD_law_bag, kwdD_law_bag, T_law_bag, dflD_law, kwdD_law, U20_law_readings, U21_law_same, U22_law_tick, U23_law_rule_made, U24_law_rule, U25_law_bag, U26_Rule_is_modes, U27_Rule_call, U28_Rule_tick, U29_Rule_tick, T_law])
section
variable {μ : Mu} {Q : D → Mu → Prop} {E : PX} {b : Cell}
theorem num_int {v : Int} (h : Q (.bl true) μ) : Wf F_is_number [.int v] μ Q E := by
  unfold F_is_number C_is_number
  array_get_dec; exact h
theorem btw_int {v x y : Int} (h : Q (.bl (decide (x ≤ v) && decide (v ≤ y))) μ) : Wf F_is_between [.int v, .int x, .int y] μ Q E := by
  unfold F_is_between C_is_between
  array_get_dec
  refine num_int ?_
  array_get_dec
  refine br_cases (fun e => ?_) (fun e => ?_)
  · array_get_dec; rw [e] at h; exact h
  · array_get_dec; rw [e] at h; exact h
theorem btw_yes {v x y : Int} (h1 : x ≤ v) (h2 : v ≤ y) (h : Q (.bl true) μ) : Wf F_is_between [.int v, .int x, .int y] μ Q E :=
  btw_int (by rw [decide_eq_true h1, decide_eq_true h2]; exact h)
theorem btw_no {v x y : Int} (h1 : ¬ (x ≤ v ∧ v ≤ y)) (h : Q (.bl false) μ) : Wf F_is_between [.int v, .int x, .int y] μ Q E :=
  btw_int (by rw [show (decide (x ≤ v) && decide (v ≤ y)) = false by rw [← Bool.decide_and]; exact decide_eq_false h1]; exact h)
theorem btw_odd {d : D} {x y : Int} (hd : d = .non ∨ d = .bl true ∨ d = .str "0") (h : Q (.bl false) μ) : Wf F_is_between [d, .int x, .int y] μ Q E := by
  have : Wf F_is_number [d] μ (fun v m => v = .bl false ∧ m = μ) E := by
    unfold F_is_number C_is_number
    rcases hd with rfl | rfl | rfl <;> array_get_dec
  unfold F_is_between C_is_between
  array_get_dec
  refine Wp.imp this fun v m z => ?_
  obtain ⟨rfl, rfl⟩ := z
  array_get_dec
  exact h
theorem amt_yes {v : Int} (h1 : 0 ≤ v) (h2 : v ≤ 1000000000000) (h : Q (.bl true) μ) : Wf F_is_amount [.int v] μ Q E := by
  unfold F_is_amount C_is_amount
  array_get_dec
  refine btw_yes h1 h2 ?_
  array_get_dec
  exact h
theorem ranks_yes {y z : Int} (h1 : 1 ≤ y) (h2 : y ≤ 2) (h3 : 1 ≤ z) (h4 : z ≤ 3) (h : Q (.bl true) μ) : Wf F_are_ranks [.tup [.int 1, .int y, .int z]] μ Q E := by
  unfold F_are_ranks C_are_ranks
  array_get_dec
  refine btw_yes (by omega) (by omega) ?_
  array_get_dec
  refine btw_yes (by omega) (by omega) ?_
  array_get_dec
  refine btw_yes (by omega) (by omega) ?_
  array_get_dec
  exact h
theorem init_spec {d o k y z l : Int} {h : Bool} (hd1 : 0 ≤ d) (hd2 : d ≤ 1000000000000) (ho1 : 1 ≤ o) (ho2 : o ≤ 3) (hk1 : 0 ≤ k) (hk2 : k ≤ 3) (h1 : 1 ≤ y) (h2 : y ≤ 2) (h3 : 1 ≤ z) (h4 : z ≤ 3) (hl1 : 1 ≤ l) (hl2 : l ≤ 3)
    (hq : Q .non (μ ++ [.obj 0 [("parts", .tup [.int d, .int o, .int k, .tup [.int 1, .int y, .int z], .int l, .bl h])]])) : Wf F_Rule_init [.cell μ.length, .int d, .int o, .int k, .tup [.int 1, .int y, .int z], .int l, .bl h] (μ ++ [.obj 0 []]) Q E := by
  unfold F_Rule_init C_Rule_init
  array_get_dec
  refine amt_yes hd1 hd2 ?_
  array_get_dec
  refine btw_yes ho1 ho2 ?_
  array_get_dec
  refine btw_yes hk1 hk2 ?_
  array_get_dec
  refine ranks_yes h1 h2 h3 h4 ?_
  array_get_dec
  refine btw_yes hl1 hl2 ?_
  array_get_dec
  exact hq
def Ru (d o k y z l : Int) (h : Bool) : D := .obj 0 [("parts", .tup [.int d, .int o, .int k, .tup [.int 1, .int y, .int z], .int l, .bl h])]
theorem objD_Ru {d o k y z l : Int} {h : Bool} : objD (Ru d o k y z l h) μ = some ((0 : Nat), [(("parts" : Str), D.tup [.int d, .int o, .int k, .tup [.int 1, .int y, .int z], .int l, .bl h])]) := rfl
theorem tag_Ru {d o k y z l : Int} {h : Bool} : tagD (Ru d o k y z l h) μ = some (.cls 0) := rfl
theorem isO_Ru {d o k y z l : Int} {h : Bool} {m : Str} : isObj 0 m (Ru d o k y z l h) μ = !(decide (m = "parts")) := by
  unfold Ru
  rw [isO_obj]
  by_cases q : m = "parts"
  · rw [q]; rfl
  · rw [decide_eq_false q]
    have : (m == ("parts" : Str)) = false := beq_eq_false_iff_ne.mpr q
    simp only [List.lookup, this]
    rfl
local macro_rules
  | `(tactic| sizeOf_list_dec) => `(tactic| simp only [↓br_true, ↓br_false, ↓op_some, ↓wp_bind, ↓wp_pure, ↓wp_fail, ↓wp_opt, ↓wp_guard, ↓wp_v, ↓wp_vB, ↓wp_c, ↓wp_op2, ↓wp_op2L, ↓wp_t, ↓wp_tru, ↓wp_chain, ↓wp_andT, ↓wp_orT, ↓wp_notT, ↓wp_andV, ↓wp_orV, ↓wp_notV, ↓wp_if, ↓wp_nil, ↓wp_cons, ↓wp_tup, ↓wp_lst, ↓wp_D, ↓wp_cb, ↓wp_call, ↓wp_isi, ↓wp_neg, ↓wp_sl, ↓wp_noP, ↓wp_P, ↓wp_yes, ↓wp_items, ↓wp_signs, ↓wp_comp, ↓ws_seq, ↓thn_nx, ↓thn_rt, ↓thn_br, ↓thn_ct, ↓thn_exc, ↓ws_skip, ↓ws_break, ↓ws_cont, ↓ws_retN, ↓ws_set, ↓ws_own, ↓ws_ret, ↓ws_drop, ↓ws_if, ↓ws_asg, ↓ws_par3, ↓ws_par, ↓ws_setC, ↓wp_newc, ↓ws_app, ↓ws_ext, ↓ws_setI, ↓ws_frz, ↓ws_for, ↓wl_nil, ↓wl_cons, ↓wf_run, ↓retS_nx, ↓retS_rt, ↓lpS_nx, ↓lpS_ct, ↓lpS_br, ↓lpS_rt, ↓turn_nx, ↓turn_ct, ↓turn_br, ↓turn_rt, ↓wp_addI, ↓wp_addS, ↓wp_subI, ↓wp_mulI, ↓wp_divI, ↓wp_modI, ↓wp_powI, ↓wp_cmpI, ↓wp_eq, ↓wp_ne, ↓wp_negI, ↓wp_seqE, ↓wp_lstE, ↓wp_ixL, ↓wp_ixT, ↓wp_ixC, ↓wp_ixS, ↓wp_lenS, ↓wp_lenL, ↓wp_lenT, ↓wp_lenC, ↓wp_absI, ↓wp_intI, ↓wp_intB, ↓wp_intS, ↓wp_strI, ↓wp_boolI, ↓wp_boolB, ↓wp_all, ↓wp_any, ↓wp_sum, ↓wp_max2, ↓wp_min2, ↓wp_list, ↓wp_tuple, ↓wp_sorted, ↓wp_slS, ↓wp_slT, ↓wp_slLD, ↓wp_slC, ↓wp_slL, ↓wp_range1, ↓wp_range2, ↓wp_enum, ↓wp_enumT, ↓wp_zip, ↓wp_zipTT, ↓wp_zipTL, ↓wp_zipLT, ↓wp_cat, ↓wp_rep, ↓wp_inSg, ↓wp_notInSg, ↓wp_inL, ↓wp_inT, ↓wp_notIn, ↓wp_isN, ↓wp_notN, tt1, tt2, tt3, tt4, tt5, tt6, tu1, tu2, tu3, tu4, tu5, tu6, tu7, tu8, tu9, tu10, tu11, tu12, tu13, tu14, tu15, tu16, tu17, tu18, tu19, tu20, tu21, tu22, tu23, tu24, asB_bl, truD_non, truD_bl, truD_int, truD_str, truD_lst, truD_tup, asI_int, asS_str, items_lst, items_tup, items_str, valS_v, valB_v, valB_own, seqD_lst, seqD_tup, seqD_cell0, lstD_lst, lstD_cell0, cellL_0, own_lst, nonB_non, nonB_bl, nonB_int, nonB_str, nonB_lst, nonB_tup, nonB_cell, nonB_obj, bools_nil, bools_cons, ints_nil, ints_cons, eqD_ii, eqD_bb, eqD_ss, eqD_nn, eqD_ni, eqD_in, eqD_nb, eqD_bn, eqD_ns, eqD_sn, eqD_is, eqD_si, eqD_bs, eqD_sb, tag_non, tag_bl, tag_int, tag_str, tag_lst, tag_tup, tag_obj, bindP_nm, bindP_tp, bindPs_nil, bindPs_cons, ↓wp_get, ↓wp_meth, ↓wp_prop, ↓ws_setF, ↓wp_mk, ↓wp_own, ↓wp_kd, ↓wp_methK, ↓wp_ownNe, ↓wp_own1, ↓wp_ownT, ↓wp_fstr, ↓wp_fFn, ↓wp_fFc, ↓wp_fmtS, ↓wp_fmtI, kok_len, kok_repr, kok_bool, eqD_tt, eqD_ll, plB_non, plB_bl, plB_int, plB_str, plB_lst, plB_tup, eqBs_nn, eqBs_cc, eqBs_nc, eqBs_cn, eqB_ii, eqB_bb, eqB_ss, eqB_nn, eqB_ll, eqB_tt, eqB_ni, eqB_in, eqB_nt, eqB_tn, eqB_it, eqB_ti, ↓wp_addT, ↓wp_addL, ↓wp_mulL, objD_obj, objD_last, cellO_last, set_last, isO_obj, isO_last, putD_nil, putD_cons, lkp_nil, lkp_cons, bel_plain, bels_plain, belF_nil, belF_cons, ↓wp_compN, ↓wp_compC, rng_0, rng_1, rng_2, rng_3, enL_nil, enL_cons, zpL_nil, zpL_nilR, zpL_cons, ↓wp_maxL, ↓wp_minL, maxL_2, maxL_1, minL_2, minL_1, bel_non, bel_bl, bel_int, bel_str, bel_lst, bel_tup, bel_obj, bels_nil, bels_cons, kst_app0, ctl_hi, ctl_lo, ctl_no, kst_inj, ↓wp_rgI1, ↓wp_rgI2, ↓wp_rg1, ↓wp_rg2, ↓wp_callO, kst_beq, EG.runs, EG.run, ev, evs, evo, evr, evf, mkE, mkL, failL, bopF, copF, bltF, lbltF, env0, wipeE, isiAny, isi1, frzS, Cell.toD, atI_nn, setAt_nn, wp_inSg, Gam.put, clsTab, arrQ, arrP, Pick.of, kwM, rightB, E00, List.map_cons, List.map_nil, List.length_cons, List.length_nil, List.append_nil, List.nil_append, List.cons_append, List.getElem?_cons_zero, List.getElem?_cons_succ, List.getElem?_nil, List.set_cons_zero, List.set_cons_succ, List.filter_cons, List.filter_nil, List.contains_nil, List.elem_nil, Int.reduceNeg, Int.reducePow, nA10, nA2, le_big, Nat.reducePow, Nat.zero_add, Option.map_some, Option.bind_some, Int.reduceLE, Int.reduceToNat, Int.reduceLT, Nat.reduceLT, Nat.reduceAdd, Nat.reduceSub, true_and, and_true, decide_true, decide_false, List.length_append, List.length_map, Nat.reduceLeDiff, Nat.reduceEqDiff, Bool.not_true, Bool.not_false, decide_eq_true_eq, reduceCtorEq, Option.some.injEq, id_eq, List.all_cons, List.all_nil, List.any_cons, List.any_nil, Bool.and_true, Bool.true_and, Bool.and_false, Bool.false_and, Bool.or_true, Bool.or_false, Bool.true_or, Bool.false_or, Int.reduceAdd, Int.reduceSub, beq_self_eq_true, Option.isNone_none, Option.isNone_some, if_true, if_false, ite_true, ite_false, Nat.succ_eq_add_one, Int.natCast_add, Int.natCast_one, Int.cast_ofNat_Int, List.contains_cons, String.reduceEq, List.take_succ_cons, List.take_zero, List.drop_succ_cons, List.drop_zero, List.take_nil, List.drop_nil, List.replicate, Int.natCast_zero, Int.zero_add, kG0, kConsts, kFrees, kCls, kisi_0, kisi_1, kisi_2, kisi_3, kisi_4, kisi_5, kisi_6, kisi_7, kisi_8, kisi_9, kisi_10, kisi_11, kfld_0, dflD_law_pull, kwdD_law_pull, T_law_pull, dflD_law_readings, kwdD_law_readings, U0_law_pull, T_law_readings, dflD_is_number, kwdD_is_number, T_is_number, dflD_is_between, kwdD_is_between, U1_is_number, T_is_between, dflD_Rule_out, kwdD_Rule_out, T_Rule_out, dflD_Rule_back, kwdD_Rule_back, T_Rule_back, dflD_Rule_is_modes, kwdD_Rule_is_modes, U2_is_between, U3_Rule_out, U4_Rule_back, T_Rule_is_modes, dflD_law_same, kwdD_law_same, T_law_same, dflD_Rule_mode_behind, kwdD_Rule_mode_behind, T_Rule_mode_behind, dflD_Rule_distance, kwdD_Rule_distance, T_Rule_distance, dflD_Rule_hold, kwdD_Rule_hold, T_Rule_hold, dflD_Rule_ranks, kwdD_Rule_ranks, T_Rule_ranks, dflD_Rule_least, kwdD_Rule_least, T_Rule_least, dflD_Rule_ranked, kwdD_Rule_ranked, U5_Rule_hold, U6_Rule_ranks, U7_Rule_least, T_Rule_ranked, dflD_is_listed, kwdD_is_listed, T_is_listed, dflD_Rule_need_readings, kwdD_Rule_need_readings, U8_is_listed, T_Rule_need_readings, dflD_Rule_tick, kwdD_Rule_tick, U9_Rule_mode_behind, U10_Rule_ranked, U11_Rule_distance, U12_Rule_need_readings, T_Rule_tick, dflD_Rule_call, kwdD_Rule_call, U13_Rule_tick, T_Rule_call, dflD_law_picked, kwdD_law_picked, T_law_picked, dflD_law_behind, kwdD_law_behind, T_law_behind, dflD_law_tick, kwdD_law_tick, U14_law_behind, U15_law_picked, T_law_tick, dflD_law_of, kwdD_law_of, T_law_of, dflD_are_ranks, kwdD_are_ranks, T_are_ranks, dflD_is_amount, kwdD_is_amount, T_is_amount, dflD_Rule_init, kwdD_Rule_init, U16_are_ranks, U17_is_amount, T_Rule_init, dflD_law_rule_made, kwdD_law_rule_made, U18_Rule_init, T_law_rule_made, dflD_law_rule, kwdD_law_rule, U19_law_of, T_law_rule, dflD_law_bag, kwdD_law_bag, T_law_bag, dflD_law, kwdD_law, U20_law_readings, U21_law_same, U22_law_tick, U23_law_rule_made, U24_law_rule, U25_law_bag, U26_Rule_is_modes, U27_Rule_call, U28_Rule_tick, U29_Rule_tick, T_law, objD_Ru, tag_Ru, isO_Ru])
theorem made_spec {d o k y z l : Int} {h : Bool} (hd1 : 0 ≤ d) (hd2 : d ≤ 1000000000000) (ho1 : 1 ≤ o) (ho2 : o ≤ 3) (hk1 : 0 ≤ k) (hk2 : k ≤ 3) (h1 : 1 ≤ y) (h2 : y ≤ 2) (h3 : 1 ≤ z) (h4 : z ≤ 3) (hl1 : 1 ≤ l) (hl2 : l ≤ 3)
    (hq : Q (Ru d o k y z l h) μ) : Wf F_law_rule_made [.tup [.int d, .int o, .int k, .tup [.int 1, .int y, .int z], .int l, .bl h]] μ Q E := by
  unfold F_law_rule_made C_law_rule_made
  array_get_dec
  refine wmk_fz (fun _ => rfl) (init_spec hd1 hd2 ho1 ho2 hk1 hk2 h1 h2 h3 h4 hl1 hl2 ⟨rfl, _, rfl, ?_, hq⟩)
  array_get_dec
theorem p_distance {d o k y z l : Int} {h : Bool} (hq : Q (.int d) μ) : Wf F_Rule_distance [Ru d o k y z l h] μ Q E := by
  unfold F_Rule_distance C_Rule_distance Ru
  sizeOf_list_dec
  exact hq
theorem p_out {d o k y z l : Int} {h : Bool} (hq : Q (.int o) μ) : Wf F_Rule_out [Ru d o k y z l h] μ Q E := by
  unfold F_Rule_out C_Rule_out Ru
  sizeOf_list_dec
  exact hq
theorem p_back {d o k y z l : Int} {h : Bool} (hq : Q (.int k) μ) : Wf F_Rule_back [Ru d o k y z l h] μ Q E := by
  unfold F_Rule_back C_Rule_back Ru
  sizeOf_list_dec
  exact hq
theorem p_ranks {d o k y z l : Int} {h : Bool} (hq : Q (.tup [.int 1, .int y, .int z]) μ) : Wf F_Rule_ranks [Ru d o k y z l h] μ Q E := by
  unfold F_Rule_ranks C_Rule_ranks Ru
  sizeOf_list_dec
  exact hq
theorem p_least {d o k y z l : Int} {h : Bool} (hq : Q (.int l) μ) : Wf F_Rule_least [Ru d o k y z l h] μ Q E := by
  unfold F_Rule_least C_Rule_least Ru
  sizeOf_list_dec
  exact hq
theorem p_hold {d o k y z l : Int} {h : Bool} (hq : Q (.bl h) μ) : Wf F_Rule_hold [Ru d o k y z l h] μ Q E := by
  unfold F_Rule_hold C_Rule_hold Ru
  sizeOf_list_dec
  exact hq
theorem rule_spec {far : Int} (hf0 : 0 ≤ far) (hf : far ≤ 1000000) (hb : BagOk b) (h : ∀ d o k y z l hh b', 0 ≤ d → d ≤ far → 1 ≤ o → o ≤ 3 → 0 ≤ k → k ≤ 3 → 1 ≤ y → y ≤ 2 → 1 ≤ z → z ≤ 3 → 1 ≤ l → l ≤ 3 → BagOk b' → Q (.tup [.int d, .int o, .int k, .tup [.int 1, .int y, .int z], .int l, .bl hh]) (b' :: μ)) : Wf F_law_rule [.cell 0, .int far, .int 3, .int 3] (b :: μ) Q E := by
  unfold F_law_rule C_law_rule
  array_get_dec
  refine pull_spec hb (by omega) (by omega) fun d b a1 a2 hb => ?_
  array_get_dec
  refine pull_spec hb (by decide) (by decide) fun o b a3 a4 hb => ?_
  array_get_dec
  refine pull_spec hb (by decide) (by decide) fun y b a5 a6 hb => ?_
  array_get_dec
  refine of_spec (F := F_law_pull) (lv := 1) rfl rfl hb (List.cons_ne_nil _ _) (by simp) fun zd b hz hb => ?_
  obtain ⟨z, rfl, z1, z2⟩ : ∃ z : Int, zd = .int z ∧ 1 ≤ z ∧ z ≤ 3 := by
    simp only [List.mem_cons, List.not_mem_nil, or_false] at hz
    rcases hz with rfl | rfl | rfl | rfl | rfl <;> exact ⟨_, rfl, by decide, by decide⟩
  array_get_dec
  refine pull_spec hb (by decide) (by decide) fun k b a7 a8 hb => ?_
  array_get_dec
  refine pull_spec hb (by decide) (by decide) fun l b a9 a10 hb => ?_
  array_get_dec
  refine pull_spec hb (by decide) (by decide) fun hh b a11 a12 hb => ?_
  array_get_dec
  exact h _ _ _ _ _ _ _ _ (by omega) (by omega) (by omega) (by omega) (by omega) (by omega) (by omega) (by omega) (by omega) (by omega) (by omega) (by omega) hb
/-- an entry of modes, and whether it lies between -/
def OkM (lo hi : Int) (d : D) (r : Bool) : Prop := (∃ v, d = .int v ∧ r = (decide (lo ≤ v) && decide (v ≤ hi))) ∨ ((d = .non ∨ d = .bl true ∨ d = .str "0") ∧ r = false)
theorem btw_m {lo hi : Int} {d : D} {r : Bool} (h : OkM lo hi d r) (hq : Q (.bl r) μ) : Wf F_is_between [d, .int lo, .int hi] μ Q E := by
  rcases h with ⟨v, rfl, rfl⟩ | ⟨h, rfl⟩
  · exact btw_int hq
  · exact btw_odd h hq
theorem modes_spec {d o k y z l : Int} {h : Bool} {u v w : D} {r1 r2 r3 : Bool} (h1 : OkM (-(max 1 k)) (o - 1) u r1) (h2 : OkM (-(max 1 k)) (o - 1) v r2) (h3 : OkM (-(max 1 k)) (o - 1) w r3) (hq : Q (.bl (r1 && (r2 && r3))) μ) : Wf F_Rule_is_modes [Ru d o k y z l h, .tup [u, v, w]] μ Q E := by
  have c1 : ∀ {E : PX} {Q : D → Mu → Prop} {μ : Mu}, Q (.int o) μ → Wf F_Rule_out [Ru d o k y z l h] μ Q E := fun hq => by
    unfold F_Rule_out C_Rule_out Ru
    array_get_dec
    exact hq
  have c2 : ∀ {E : PX} {Q : D → Mu → Prop} {μ : Mu}, Q (.int k) μ → Wf F_Rule_back [Ru d o k y z l h] μ Q E := fun hq => by
    unfold F_Rule_back C_Rule_back Ru
    array_get_dec
    exact hq
  unfold F_Rule_is_modes C_Rule_is_modes
  sizeOf_list_dec
  refine c2 ?_
  sizeOf_list_dec
  refine c1 ?_
  sizeOf_list_dec
  refine btw_m h1 ?_
  sizeOf_list_dec
  refine c2 ?_
  sizeOf_list_dec
  refine c1 ?_
  sizeOf_list_dec
  refine btw_m h2 ?_
  sizeOf_list_dec
  refine c2 ?_
  sizeOf_list_dec
  refine c1 ?_
  sizeOf_list_dec
  refine btw_m h3 ?_
  sizeOf_list_dec
  exact hq
/-! which meters count, which rank of theirs -/
def insB (A B C : Bool) : List Int := (match A with | true => [0] | false => []) ++ ((match B with | true => [1] | false => []) ++ (match C with | true => [2] | false => []))
def rankN (y z : Int) : Nat → Int
  | 1 => 1
  | 2 => y
  | _ => z
def pkV (y z l : Int) (h : Bool) (A B C : Bool) : Option (List Int × Int) :=
  match decide (l ≤ ((insB A B C).length : Int)) with
  | true => some (insB A B C, rankN y z (insB A B C).length)
  | false => match h with
    | true => none
    | false => some ([0, 1, 2], z)
def pkD : Option (List Int × Int) → D
  | none => .non
  | some (L, r) => .tup [.lst (L.map .int), .int r]
def sg (a : Int) : Bool := decide (0 ≤ a)
theorem ranked_spec {d o k y z l a b c : Int} {h : Bool} (hl : 1 ≤ l) (hq : Q (pkD (pkV y z l h (sg a) (sg b) (sg c))) μ) : Wf F_Rule_ranked [Ru d o k y z l h, .tup [.int a, .int b, .int c]] μ Q E := by
  unfold F_Rule_ranked C_Rule_ranked
  unfold sg at hq
  cases hA : decide (0 ≤ a) <;> cases hB : decide (0 ≤ b) <;> cases hC : decide (0 ≤ c)
  all_goals rw [hA, hB, hC] at hq
  all_goals simp only [↓br_true, ↓br_false, ↓op_some, ↓wp_bind, ↓wp_pure, ↓wp_fail, ↓wp_opt, ↓wp_guard, ↓wp_v, ↓wp_vB, ↓wp_c, ↓wp_op2, ↓wp_op2L, ↓wp_t, ↓wp_tru, ↓wp_chain, ↓wp_andT, ↓wp_orT, ↓wp_notT, ↓wp_andV, ↓wp_orV, ↓wp_notV, ↓wp_if, ↓wp_nil, ↓wp_cons, ↓wp_tup, ↓wp_lst, ↓wp_D, ↓wp_cb, ↓wp_call, ↓wp_isi, ↓wp_neg, ↓wp_sl, ↓wp_noP, ↓wp_P, ↓wp_yes, ↓wp_items, ↓wp_signs, ↓wp_comp, ↓ws_seq, ↓thn_nx, ↓thn_rt, ↓thn_br, ↓thn_ct, ↓thn_exc, ↓ws_skip, ↓ws_break, ↓ws_cont, ↓ws_retN, ↓ws_set, ↓ws_own, ↓ws_ret, ↓ws_drop, ↓ws_if, ↓ws_asg, ↓ws_par3, ↓ws_par, ↓ws_setC, ↓wp_newc, ↓ws_app, ↓ws_ext, ↓ws_setI, ↓ws_frz, ↓ws_for, ↓wl_nil, ↓wl_cons, ↓wf_run, ↓retS_nx, ↓retS_rt, ↓lpS_nx, ↓lpS_ct, ↓lpS_br, ↓lpS_rt, ↓turn_nx, ↓turn_ct, ↓turn_br, ↓turn_rt, ↓wp_addI, ↓wp_addS, ↓wp_subI, ↓wp_mulI, ↓wp_divI, ↓wp_modI, ↓wp_powI, ↓wp_cmpI, ↓wp_eq, ↓wp_ne, ↓wp_negI, ↓wp_seqE, ↓wp_lstE, ↓wp_ixL, ↓wp_ixT, ↓wp_ixC, ↓wp_ixS, ↓wp_lenS, ↓wp_lenL, ↓wp_lenT, ↓wp_lenC, ↓wp_absI, ↓wp_intI, ↓wp_intB, ↓wp_intS, ↓wp_strI, ↓wp_boolI, ↓wp_boolB, ↓wp_all, ↓wp_any, ↓wp_sum, ↓wp_max2, ↓wp_min2, ↓wp_list, ↓wp_tuple, ↓wp_sorted, ↓wp_slS, ↓wp_slT, ↓wp_slLD, ↓wp_slC, ↓wp_slL, ↓wp_range1, ↓wp_range2, ↓wp_enum, ↓wp_enumT, ↓wp_zip, ↓wp_zipTT, ↓wp_zipTL, ↓wp_zipLT, ↓wp_cat, ↓wp_rep, ↓wp_inSg, ↓wp_notInSg, ↓wp_inL, ↓wp_inT, ↓wp_notIn, ↓wp_isN, ↓wp_notN, tt1, tt2, tt3, tt4, tt5, tt6, tu1, tu2, tu3, tu4, tu5, tu6, tu7, tu8, tu9, tu10, tu11, tu12, tu13, tu14, tu15, tu16, tu17, tu18, tu19, tu20, tu21, tu22, tu23, tu24, asB_bl, truD_non, truD_bl, truD_int, truD_str, truD_lst, truD_tup, asI_int, asS_str, items_lst, items_tup, items_str, valS_v, valB_v, valB_own, seqD_lst, seqD_tup, seqD_cell0, lstD_lst, lstD_cell0, cellL_0, own_lst, nonB_non, nonB_bl, nonB_int, nonB_str, nonB_lst, nonB_tup, nonB_cell, nonB_obj, bools_nil, bools_cons, ints_nil, ints_cons, eqD_ii, eqD_bb, eqD_ss, eqD_nn, eqD_ni, eqD_in, eqD_nb, eqD_bn, eqD_ns, eqD_sn, eqD_is, eqD_si, eqD_bs, eqD_sb, tag_non, tag_bl, tag_int, tag_str, tag_lst, tag_tup, tag_obj, bindP_nm, bindP_tp, bindPs_nil, bindPs_cons, ↓wp_get, ↓wp_meth, ↓wp_prop, ↓ws_setF, ↓wp_mk, ↓wp_own, ↓wp_kd, ↓wp_methK, ↓wp_ownNe, ↓wp_own1, ↓wp_ownT, ↓wp_fstr, ↓wp_fFn, ↓wp_fFc, ↓wp_fmtS, ↓wp_fmtI, kok_len, kok_repr, kok_bool, eqD_tt, eqD_ll, plB_non, plB_bl, plB_int, plB_str, plB_lst, plB_tup, eqBs_nn, eqBs_cc, eqBs_nc, eqBs_cn, eqB_ii, eqB_bb, eqB_ss, eqB_nn, eqB_ll, eqB_tt, eqB_ni, eqB_in, eqB_nt, eqB_tn, eqB_it, eqB_ti, ↓wp_addT, ↓wp_addL, ↓wp_mulL, objD_obj, objD_last, cellO_last, set_last, isO_obj, isO_last, putD_nil, putD_cons, lkp_nil, lkp_cons, bel_plain, bels_plain, belF_nil, belF_cons, ↓wp_compN, ↓wp_compC, rng_0, rng_1, rng_2, rng_3, enL_nil, enL_cons, zpL_nil, zpL_nilR, zpL_cons, ↓wp_maxL, ↓wp_minL, maxL_2, maxL_1, minL_2, minL_1, bel_non, bel_bl, bel_int, bel_str, bel_lst, bel_tup, bel_obj, bels_nil, bels_cons, kst_app0, ctl_hi, ctl_lo, ctl_no, kst_inj, ↓wp_rgI1, ↓wp_rgI2, ↓wp_rg1, ↓wp_rg2, ↓wp_callO, kst_beq, EG.runs, EG.run, ev, evs, evo, evr, evf, mkE, mkL, failL, bopF, copF, bltF, lbltF, env0, wipeE, isiAny, isi1, frzS, Cell.toD, atI_nn, setAt_nn, wp_inSg, Gam.put, clsTab, arrQ, arrP, Pick.of, kwM, rightB, E00, List.map_cons, List.map_nil, List.length_cons, List.length_nil, List.append_nil, List.nil_append, List.cons_append, List.getElem?_cons_zero, List.getElem?_cons_succ, List.getElem?_nil, List.set_cons_zero, List.set_cons_succ, List.filter_cons, List.filter_nil, List.contains_nil, List.elem_nil, Int.reduceNeg, Int.reducePow, nA10, nA2, le_big, Nat.reducePow, Nat.zero_add, Option.map_some, Option.bind_some, Int.reduceLE, Int.reduceToNat, Int.reduceLT, Nat.reduceLT, Nat.reduceAdd, Nat.reduceSub, true_and, and_true, decide_true, decide_false, List.length_append, List.length_map, Nat.reduceLeDiff, Nat.reduceEqDiff, Bool.not_true, Bool.not_false, decide_eq_true_eq, reduceCtorEq, Option.some.injEq, id_eq, List.all_cons, List.all_nil, List.any_cons, List.any_nil, Bool.and_true, Bool.true_and, Bool.and_false, Bool.false_and, Bool.or_true, Bool.or_false, Bool.true_or, Bool.false_or, Int.reduceAdd, Int.reduceSub, beq_self_eq_true, Option.isNone_none, Option.isNone_some, if_true, if_false, ite_true, ite_false, Nat.succ_eq_add_one, Int.natCast_add, Int.natCast_one, Int.cast_ofNat_Int, List.contains_cons, String.reduceEq, List.take_succ_cons, List.take_zero, List.drop_succ_cons, List.drop_zero, List.take_nil, List.drop_nil, List.replicate, Int.natCast_zero, Int.zero_add, kG0, kConsts, kFrees, kCls, kisi_0, kisi_1, kisi_2, kisi_3, kisi_4, kisi_5, kisi_6, kisi_7, kisi_8, kisi_9, kisi_10, kisi_11, kfld_0, dflD_law_pull, kwdD_law_pull, T_law_pull, dflD_law_readings, kwdD_law_readings, U0_law_pull, T_law_readings, dflD_is_number, kwdD_is_number, T_is_number, dflD_is_between, kwdD_is_between, U1_is_number, T_is_between, dflD_Rule_out, kwdD_Rule_out, T_Rule_out, dflD_Rule_back, kwdD_Rule_back, T_Rule_back, dflD_Rule_is_modes, kwdD_Rule_is_modes, U2_is_between, U3_Rule_out, U4_Rule_back, T_Rule_is_modes, dflD_law_same, kwdD_law_same, T_law_same, dflD_Rule_mode_behind, kwdD_Rule_mode_behind, T_Rule_mode_behind, dflD_Rule_distance, kwdD_Rule_distance, T_Rule_distance, dflD_Rule_hold, kwdD_Rule_hold, T_Rule_hold, dflD_Rule_ranks, kwdD_Rule_ranks, T_Rule_ranks, dflD_Rule_least, kwdD_Rule_least, T_Rule_least, dflD_Rule_ranked, kwdD_Rule_ranked, U5_Rule_hold, U6_Rule_ranks, U7_Rule_least, T_Rule_ranked, dflD_is_listed, kwdD_is_listed, T_is_listed, dflD_Rule_need_readings, kwdD_Rule_need_readings, U8_is_listed, T_Rule_need_readings, dflD_Rule_tick, kwdD_Rule_tick, U9_Rule_mode_behind, U10_Rule_ranked, U11_Rule_distance, U12_Rule_need_readings, T_Rule_tick, dflD_Rule_call, kwdD_Rule_call, U13_Rule_tick, T_Rule_call, dflD_law_picked, kwdD_law_picked, T_law_picked, dflD_law_behind, kwdD_law_behind, T_law_behind, dflD_law_tick, kwdD_law_tick, U14_law_behind, U15_law_picked, T_law_tick, dflD_law_of, kwdD_law_of, T_law_of, dflD_are_ranks, kwdD_are_ranks, T_are_ranks, dflD_is_amount, kwdD_is_amount, T_is_amount, dflD_Rule_init, kwdD_Rule_init, U16_are_ranks, U17_is_amount, T_Rule_init, dflD_law_rule_made, kwdD_law_rule_made, U18_Rule_init, T_law_rule_made, dflD_law_rule, kwdD_law_rule, U19_law_of, T_law_rule, dflD_law_bag, kwdD_law_bag, T_law_bag, dflD_law, kwdD_law, U20_law_readings, U21_law_same, U22_law_tick, U23_law_rule_made, U24_law_rule, U25_law_bag, U26_Rule_is_modes, U27_Rule_call, U28_Rule_tick, U29_Rule_tick, T_law, objD_Ru, tag_Ru, isO_Ru, hA, hB, hC]
  all_goals refine p_least ?_
  all_goals sizeOf_list_dec
  all_goals refine br_cases (fun e => ?_) (fun e => ?_)
  all_goals sizeOf_list_dec
  all_goals first
    | (refine p_ranks ?_; sizeOf_list_dec; simpa [pkV, pkD, insB, rankN, e] using hq)
    | (exfalso; have := of_decide_eq_true e; omega)
    | (refine p_hold ?_
       sizeOf_list_dec
       refine br_cases (fun e2 => ?_) (fun e2 => ?_)
       · subst e2
         sizeOf_list_dec; simpa [pkV, pkD, insB, rankN, e] using hq
       · subst e2
         sizeOf_list_dec
         refine p_ranks ?_
         sizeOf_list_dec; simpa [pkV, pkD, insB, rankN, e] using hq)
theorem picked_spec {d o k y z l a b c : Int} {h : Bool} (hl : 1 ≤ l) (hq : Q (pkD (pkV y z l h (sg a) (sg b) (sg c))) μ) : Wf F_law_picked [.tup [.int d, .int o, .int k, .tup [.int 1, .int y, .int z], .int l, .bl h], .tup [.int a, .int b, .int c]] μ Q E := by
  unfold F_law_picked C_law_picked
  unfold sg at hq
  cases hA : decide (0 ≤ a) <;> cases hB : decide (0 ≤ b) <;> cases hC : decide (0 ≤ c)
  all_goals rw [hA, hB, hC] at hq
  all_goals simp only [↓br_true, ↓br_false, ↓op_some, ↓wp_bind, ↓wp_pure, ↓wp_fail, ↓wp_opt, ↓wp_guard, ↓wp_v, ↓wp_vB, ↓wp_c, ↓wp_op2, ↓wp_op2L, ↓wp_t, ↓wp_tru, ↓wp_chain, ↓wp_andT, ↓wp_orT, ↓wp_notT, ↓wp_andV, ↓wp_orV, ↓wp_notV, ↓wp_if, ↓wp_nil, ↓wp_cons, ↓wp_tup, ↓wp_lst, ↓wp_D, ↓wp_cb, ↓wp_call, ↓wp_isi, ↓wp_neg, ↓wp_sl, ↓wp_noP, ↓wp_P, ↓wp_yes, ↓wp_items, ↓wp_signs, ↓wp_comp, ↓ws_seq, ↓thn_nx, ↓thn_rt, ↓thn_br, ↓thn_ct, ↓thn_exc, ↓ws_skip, ↓ws_break, ↓ws_cont, ↓ws_retN, ↓ws_set, ↓ws_own, ↓ws_ret, ↓ws_drop, ↓ws_if, ↓ws_asg, ↓ws_par3, ↓ws_par, ↓ws_setC, ↓wp_newc, ↓ws_app, ↓ws_ext, ↓ws_setI, ↓ws_frz, ↓ws_for, ↓wl_nil, ↓wl_cons, ↓wf_run, ↓retS_nx, ↓retS_rt, ↓lpS_nx, ↓lpS_ct, ↓lpS_br, ↓lpS_rt, ↓turn_nx, ↓turn_ct, ↓turn_br, ↓turn_rt, ↓wp_addI, ↓wp_addS, ↓wp_subI, ↓wp_mulI, ↓wp_divI, ↓wp_modI, ↓wp_powI, ↓wp_cmpI, ↓wp_eq, ↓wp_ne, ↓wp_negI, ↓wp_seqE, ↓wp_lstE, ↓wp_ixL, ↓wp_ixT, ↓wp_ixC, ↓wp_ixS, ↓wp_lenS, ↓wp_lenL, ↓wp_lenT, ↓wp_lenC, ↓wp_absI, ↓wp_intI, ↓wp_intB, ↓wp_intS, ↓wp_strI, ↓wp_boolI, ↓wp_boolB, ↓wp_all, ↓wp_any, ↓wp_sum, ↓wp_max2, ↓wp_min2, ↓wp_list, ↓wp_tuple, ↓wp_sorted, ↓wp_slS, ↓wp_slT, ↓wp_slLD, ↓wp_slC, ↓wp_slL, ↓wp_range1, ↓wp_range2, ↓wp_enum, ↓wp_enumT, ↓wp_zip, ↓wp_zipTT, ↓wp_zipTL, ↓wp_zipLT, ↓wp_cat, ↓wp_rep, ↓wp_inSg, ↓wp_notInSg, ↓wp_inL, ↓wp_inT, ↓wp_notIn, ↓wp_isN, ↓wp_notN, tt1, tt2, tt3, tt4, tt5, tt6, tu1, tu2, tu3, tu4, tu5, tu6, tu7, tu8, tu9, tu10, tu11, tu12, tu13, tu14, tu15, tu16, tu17, tu18, tu19, tu20, tu21, tu22, tu23, tu24, asB_bl, truD_non, truD_bl, truD_int, truD_str, truD_lst, truD_tup, asI_int, asS_str, items_lst, items_tup, items_str, valS_v, valB_v, valB_own, seqD_lst, seqD_tup, seqD_cell0, lstD_lst, lstD_cell0, cellL_0, own_lst, nonB_non, nonB_bl, nonB_int, nonB_str, nonB_lst, nonB_tup, nonB_cell, nonB_obj, bools_nil, bools_cons, ints_nil, ints_cons, eqD_ii, eqD_bb, eqD_ss, eqD_nn, eqD_ni, eqD_in, eqD_nb, eqD_bn, eqD_ns, eqD_sn, eqD_is, eqD_si, eqD_bs, eqD_sb, tag_non, tag_bl, tag_int, tag_str, tag_lst, tag_tup, tag_obj, bindP_nm, bindP_tp, bindPs_nil, bindPs_cons, ↓wp_get, ↓wp_meth, ↓wp_prop, ↓ws_setF, ↓wp_mk, ↓wp_own, ↓wp_kd, ↓wp_methK, ↓wp_ownNe, ↓wp_own1, ↓wp_ownT, ↓wp_fstr, ↓wp_fFn, ↓wp_fFc, ↓wp_fmtS, ↓wp_fmtI, kok_len, kok_repr, kok_bool, eqD_tt, eqD_ll, plB_non, plB_bl, plB_int, plB_str, plB_lst, plB_tup, eqBs_nn, eqBs_cc, eqBs_nc, eqBs_cn, eqB_ii, eqB_bb, eqB_ss, eqB_nn, eqB_ll, eqB_tt, eqB_ni, eqB_in, eqB_nt, eqB_tn, eqB_it, eqB_ti, ↓wp_addT, ↓wp_addL, ↓wp_mulL, objD_obj, objD_last, cellO_last, set_last, isO_obj, isO_last, putD_nil, putD_cons, lkp_nil, lkp_cons, bel_plain, bels_plain, belF_nil, belF_cons, ↓wp_compN, ↓wp_compC, rng_0, rng_1, rng_2, rng_3, enL_nil, enL_cons, zpL_nil, zpL_nilR, zpL_cons, ↓wp_maxL, ↓wp_minL, maxL_2, maxL_1, minL_2, minL_1, bel_non, bel_bl, bel_int, bel_str, bel_lst, bel_tup, bel_obj, bels_nil, bels_cons, kst_app0, ctl_hi, ctl_lo, ctl_no, kst_inj, ↓wp_rgI1, ↓wp_rgI2, ↓wp_rg1, ↓wp_rg2, ↓wp_callO, kst_beq, EG.runs, EG.run, ev, evs, evo, evr, evf, mkE, mkL, failL, bopF, copF, bltF, lbltF, env0, wipeE, isiAny, isi1, frzS, Cell.toD, atI_nn, setAt_nn, wp_inSg, Gam.put, clsTab, arrQ, arrP, Pick.of, kwM, rightB, E00, List.map_cons, List.map_nil, List.length_cons, List.length_nil, List.append_nil, List.nil_append, List.cons_append, List.getElem?_cons_zero, List.getElem?_cons_succ, List.getElem?_nil, List.set_cons_zero, List.set_cons_succ, List.filter_cons, List.filter_nil, List.contains_nil, List.elem_nil, Int.reduceNeg, Int.reducePow, nA10, nA2, le_big, Nat.reducePow, Nat.zero_add, Option.map_some, Option.bind_some, Int.reduceLE, Int.reduceToNat, Int.reduceLT, Nat.reduceLT, Nat.reduceAdd, Nat.reduceSub, true_and, and_true, decide_true, decide_false, List.length_append, List.length_map, Nat.reduceLeDiff, Nat.reduceEqDiff, Bool.not_true, Bool.not_false, decide_eq_true_eq, reduceCtorEq, Option.some.injEq, id_eq, List.all_cons, List.all_nil, List.any_cons, List.any_nil, Bool.and_true, Bool.true_and, Bool.and_false, Bool.false_and, Bool.or_true, Bool.or_false, Bool.true_or, Bool.false_or, Int.reduceAdd, Int.reduceSub, beq_self_eq_true, Option.isNone_none, Option.isNone_some, if_true, if_false, ite_true, ite_false, Nat.succ_eq_add_one, Int.natCast_add, Int.natCast_one, Int.cast_ofNat_Int, List.contains_cons, String.reduceEq, List.take_succ_cons, List.take_zero, List.drop_succ_cons, List.drop_zero, List.take_nil, List.drop_nil, List.replicate, Int.natCast_zero, Int.zero_add, kG0, kConsts, kFrees, kCls, kisi_0, kisi_1, kisi_2, kisi_3, kisi_4, kisi_5, kisi_6, kisi_7, kisi_8, kisi_9, kisi_10, kisi_11, kfld_0, dflD_law_pull, kwdD_law_pull, T_law_pull, dflD_law_readings, kwdD_law_readings, U0_law_pull, T_law_readings, dflD_is_number, kwdD_is_number, T_is_number, dflD_is_between, kwdD_is_between, U1_is_number, T_is_between, dflD_Rule_out, kwdD_Rule_out, T_Rule_out, dflD_Rule_back, kwdD_Rule_back, T_Rule_back, dflD_Rule_is_modes, kwdD_Rule_is_modes, U2_is_between, U3_Rule_out, U4_Rule_back, T_Rule_is_modes, dflD_law_same, kwdD_law_same, T_law_same, dflD_Rule_mode_behind, kwdD_Rule_mode_behind, T_Rule_mode_behind, dflD_Rule_distance, kwdD_Rule_distance, T_Rule_distance, dflD_Rule_hold, kwdD_Rule_hold, T_Rule_hold, dflD_Rule_ranks, kwdD_Rule_ranks, T_Rule_ranks, dflD_Rule_least, kwdD_Rule_least, T_Rule_least, dflD_Rule_ranked, kwdD_Rule_ranked, U5_Rule_hold, U6_Rule_ranks, U7_Rule_least, T_Rule_ranked, dflD_is_listed, kwdD_is_listed, T_is_listed, dflD_Rule_need_readings, kwdD_Rule_need_readings, U8_is_listed, T_Rule_need_readings, dflD_Rule_tick, kwdD_Rule_tick, U9_Rule_mode_behind, U10_Rule_ranked, U11_Rule_distance, U12_Rule_need_readings, T_Rule_tick, dflD_Rule_call, kwdD_Rule_call, U13_Rule_tick, T_Rule_call, dflD_law_picked, kwdD_law_picked, T_law_picked, dflD_law_behind, kwdD_law_behind, T_law_behind, dflD_law_tick, kwdD_law_tick, U14_law_behind, U15_law_picked, T_law_tick, dflD_law_of, kwdD_law_of, T_law_of, dflD_are_ranks, kwdD_are_ranks, T_are_ranks, dflD_is_amount, kwdD_is_amount, T_is_amount, dflD_Rule_init, kwdD_Rule_init, U16_are_ranks, U17_is_amount, T_Rule_init, dflD_law_rule_made, kwdD_law_rule_made, U18_Rule_init, T_law_rule_made, dflD_law_rule, kwdD_law_rule, U19_law_of, T_law_rule, dflD_law_bag, kwdD_law_bag, T_law_bag, dflD_law, kwdD_law, U20_law_readings, U21_law_same, U22_law_tick, U23_law_rule_made, U24_law_rule, U25_law_bag, U26_Rule_is_modes, U27_Rule_call, U28_Rule_tick, U29_Rule_tick, T_law, objD_Ru, tag_Ru, isO_Ru, hA, hB, hC]
  all_goals refine br_cases (fun e => ?_) (fun e => ?_)
  all_goals sizeOf_list_dec
  all_goals first
    | (simpa [pkV, pkD, insB, rankN, e] using hq)
    | (exfalso; have := of_decide_eq_true e; omega)
    | (refine br_cases (fun e2 => ?_) (fun e2 => ?_)
       · subst e2
         sizeOf_list_dec; simpa [pkV, pkD, insB, rankN, e] using hq
       · subst e2
         sizeOf_list_dec; simpa [pkV, pkD, insB, rankN, e] using hq)
def behV (o k m : Int) (near : Bool) : Int :=
  if 0 ≤ m then (if near = true then (if 0 = o then -1 else 0) else if m + 1 = o then -1 else m + 1)
  else if near = false ∨ k = 0 then -1 else if m = -k then 0 else m - 1
theorem mode_behind_spec {d o k y z l m : Int} {h near : Bool} (hq : Q (.int (behV o k m near)) μ) : Wf F_Rule_mode_behind [Ru d o k y z l h, .int m, .bl near] μ Q E := by
  unfold F_Rule_mode_behind C_Rule_mode_behind
  unfold behV at hq
  sizeOf_list_dec
  refine br_cases (fun e => ?_) (fun e => ?_)
  · have e := of_decide_eq_true e
    rw [if_pos e] at hq
    cases near
    · sizeOf_list_dec
      refine p_out ?_
      sizeOf_list_dec
      refine br_cases (fun e2 => ?_) (fun e2 => ?_)
      · have e2 := of_decide_eq_true e2
        sizeOf_list_dec
        simpa [e2] using hq
      · have e2 := of_decide_eq_false e2
        sizeOf_list_dec
        simpa [e2] using hq
    · sizeOf_list_dec
      refine p_out ?_
      sizeOf_list_dec
      refine br_cases (fun e2 => ?_) (fun e2 => ?_)
      · have e2 := of_decide_eq_true e2
        sizeOf_list_dec
        simpa [e2] using hq
      · have e2 := of_decide_eq_false e2
        sizeOf_list_dec
        simpa [e2] using hq
  · have e := of_decide_eq_false e
    rw [if_neg e] at hq
    cases near
    · sizeOf_list_dec
      simpa using hq
    · sizeOf_list_dec
      refine p_back ?_
      sizeOf_list_dec
      refine br_cases (fun e2 => ?_) (fun e2 => ?_)
      · have e2 := of_decide_eq_true e2
        sizeOf_list_dec
        simpa [e2] using hq
      · have e2 := of_decide_eq_false e2
        sizeOf_list_dec
        refine p_back ?_
        sizeOf_list_dec
        refine br_cases (fun e3 => ?_) (fun e3 => ?_)
        · have e3 := of_decide_eq_true e3
          sizeOf_list_dec
          simpa [e2, e3] using hq
        · have e3 := of_decide_eq_false e3
          sizeOf_list_dec
          simpa [e2, e3] using hq
theorem behind_spec {d o k y z l m : Int} {h near : Bool} (hq : Q (.int (behV o k m near)) μ) : Wf F_law_behind [.tup [.int d, .int o, .int k, .tup [.int 1, .int y, .int z], .int l, .bl h], .int m, .bl near] μ Q E := by
  unfold F_law_behind C_law_behind
  unfold behV at hq
  sizeOf_list_dec
  refine br_cases (fun e => ?_) (fun e => ?_)
  · have e := of_decide_eq_true e
    rw [if_pos e] at hq
    cases near
    · sizeOf_list_dec
      refine br_cases (fun e2 => ?_) (fun e2 => ?_)
      · have e2 := of_decide_eq_true e2
        sizeOf_list_dec
        simpa [e2] using hq
      · have e2 := of_decide_eq_false e2
        sizeOf_list_dec
        simpa [e2] using hq
    · sizeOf_list_dec
      refine br_cases (fun e2 => ?_) (fun e2 => ?_)
      · have e2 := of_decide_eq_true e2
        sizeOf_list_dec
        simpa [e2] using hq
      · have e2 := of_decide_eq_false e2
        sizeOf_list_dec
        simpa [e2] using hq
  · have e := of_decide_eq_false e
    rw [if_neg e] at hq
    cases near
    · sizeOf_list_dec
      simpa using hq
    · sizeOf_list_dec
      refine br_cases (fun e2 => ?_) (fun e2 => ?_)
      · have e2 := of_decide_eq_true e2
        sizeOf_list_dec
        simpa [e2] using hq
      · have e2 := of_decide_eq_false e2
        sizeOf_list_dec
        refine br_cases (fun e3 => ?_) (fun e3 => ?_)
        · have e3 : m = -k := by have := of_decide_eq_true e3; omega
          sizeOf_list_dec
          simpa [e2, e3] using hq
        · have e3 : ¬ m = -k := by have := of_decide_eq_false e3; omega
          sizeOf_list_dec
          simpa [e2, e3] using hq
theorem ints_map : ∀ ns : List Int, intsD (ns.map D.int) = some ns
  | [] => rfl
  | n :: r => by rw [List.map_cons, ints_cons, ints_map r]; rfl
def rdg (x1 x2 x3 i : Int) : Int := if i = 0 then x1 else if i = 1 then x2 else x3
def kV (xs : List Int) (r : Int) : Int := (sortI xs).getD (r - 1).toNat 0
def tV (p : Option (List Int × Int)) (t : Int) (x1 x2 x3 : Int) : Int := match p with
  | some (L, r) => kV (L.map (rdg x1 x2 x3)) r
  | none => t
theorem pk_ok {y z l : Int} {h A B C : Bool} (hl : 1 ≤ l) (h1 : 1 ≤ y) (h2 : y ≤ 2) (h3 : 1 ≤ z) (h4 : z ≤ 3) {L : List Int} {r : Int} (e : pkV y z l h A B C = some (L, r)) : (∀ i ∈ L, i = 0 ∨ i = 1 ∨ i = 2) ∧ 1 ≤ r ∧ r ≤ (L.length : Int) ∧ L.length ≤ 3 := by
  unfold pkV at e
  cases q : decide (l ≤ ((insB A B C).length : Int)) with
  | true =>
    rw [q] at e
    have q := of_decide_eq_true q
    cases e
    refine ⟨fun i hi => ?_, ?_⟩
    · cases A <;> cases B <;> cases C <;> simp [insB] at hi <;> omega
    · cases A <;> cases B <;> cases C <;> simp [insB, rankN] at q ⊢ <;> omega
  | false =>
    rw [q] at e
    cases h with
    | true => cases e
    | false =>
      cases e
      refine ⟨fun i hi => by simpa using hi, ?_⟩
      simp
      omega
def rdD (x1 x2 x3 : Int) : D → D
  | .int i => .int (rdg x1 x2 x3 i)
  | _ => .non
theorem rd_list {x1 x2 x3 : Int} : ∀ L : List Int, ((L.map D.int).filter fun _ => true).map (rdD x1 x2 x3) = (L.map (rdg x1 x2 x3)).map D.int
  | [] => rfl
  | i :: r => by
    have := rd_list (x1 := x1) (x2 := x2) (x3 := x3) r
    simp only [List.map_cons, List.filter_cons, if_true, this]
    rfl
theorem rd_at {x1 x2 x3 i : Int} (h : i = 0 ∨ i = 1 ∨ i = 2) : atI [D.int x1, .int x2, .int x3] i = some (.int (rdg x1 x2 x3 i)) := by
  rcases h with rfl | rfl | rfl <;> rfl
theorem kV_at {xs : List Int} {r : Int} (h1 : 1 ≤ r) (h2 : r ≤ (xs.length : Int)) : atI ((sortI xs).map D.int) (r - 1) = some (.int (kV xs r)) := by
  have hl : (sortI xs).length = xs.length := (sortI_perm xs).length_eq
  rw [atI_nn (by omega), List.getElem?_map]
  have : (r - 1).toNat < (sortI xs).length := by omega
  rw [List.getElem?_eq_getElem this]
  unfold kV
  rw [List.getD_eq_getElem?_getD, List.getElem?_eq_getElem this]
  rfl
def nearB (d T x : Int) : Bool := decide ((if x - T < 0 then -(x - T) else x - T) ≤ d)
def outV (d o k a b c T x1 x2 x3 : Int) : D := .tup [.int T, .tup [.int (behV o k a (nearB d T x1)), .int (behV o k b (nearB d T x2)), .int (behV o k c (nearB d T x3))]]
theorem need_spec {d o k y z l x1 x2 x3 : Int} {h : Bool} {r : D} (hr : r = .lst [.int x1, .int x2, .int x3] ∨ r = .tup [.int x1, .int x2, .int x3]) (hq : Q .non μ) : Wf F_Rule_need_readings [Ru d o k y z l h, r, .int (-1)] μ Q E := by
  unfold F_Rule_need_readings C_Rule_need_readings
  rcases hr with rfl | rfl
  all_goals sizeOf_list_dec
  all_goals unfold F_is_listed C_is_listed
  all_goals sizeOf_list_dec
  all_goals refine num_int ?_
  all_goals sizeOf_list_dec
  all_goals refine num_int ?_
  all_goals sizeOf_list_dec
  all_goals refine num_int ?_
  all_goals sizeOf_list_dec
  all_goals exact hq
theorem tick_spec {d o k y z l a b c x1 x2 x3 t : Int} {h : Bool} {r held : D} (hl : 1 ≤ l) (h1 : 1 ≤ y) (h2 : y ≤ 2) (h3 : 1 ≤ z) (h4 : z ≤ 3) (hr : r = .lst [.int x1, .int x2, .int x3] ∨ r = .tup [.int x1, .int x2, .int x3])
    (hh : held = .int t ∨ pkV y z l h (sg a) (sg b) (sg c) ≠ none) (hq : Q (outV d o k a b c (tV (pkV y z l h (sg a) (sg b) (sg c)) t x1 x2 x3) x1 x2 x3) μ) : Wf F_Rule_tick [Ru d o k y z l h, .tup [.int a, .int b, .int c], r, held] μ Q E := by
  unfold F_Rule_tick C_Rule_tick
  sizeOf_list_dec
  refine need_spec hr ?_
  sizeOf_list_dec
  refine ranked_spec hl ?_
  unfold outV nearB at hq
  cases p : pkV y z l h (sg a) (sg b) (sg c) with
  | none =>
    rcases hh with rfl | hh
    · rw [p] at hq
      unfold tV at hq
      rcases hr with rfl | rfl
      all_goals unfold pkD
      all_goals sizeOf_list_dec
      all_goals (refine p_distance ?_; sizeOf_list_dec; refine p_distance ?_; sizeOf_list_dec; refine p_distance ?_; sizeOf_list_dec)
      all_goals (refine mode_behind_spec ?_; sizeOf_list_dec; refine mode_behind_spec ?_; sizeOf_list_dec; refine mode_behind_spec ?_; sizeOf_list_dec)
      all_goals exact hq
    · exact absurd p hh
  | some lr =>
    obtain ⟨L, rr⟩ := lr
    obtain ⟨k1, k2, k3, k4⟩ := pk_ok hl h1 h2 h3 h4 p
    rw [p] at hq
    unfold tV at hq
    unfold pkD
    have hlen : (L.map (rdg x1 x2 x3)).length = L.length := List.length_map _
    have ka := kV_at (xs := L.map (rdg x1 x2 x3)) k2 (by rw [hlen]; exact k3)
    have fin : ∀ r : D, (r = .lst [.int x1, .int x2, .int x3] ∨ r = .tup [.int x1, .int x2, .int x3]) → True := fun _ _ => trivial
    rcases hr with rfl | rfl
    all_goals simp only [↓br_true, ↓br_false, ↓op_some, ↓wp_bind, ↓wp_pure, ↓wp_fail, ↓wp_opt, ↓wp_guard, ↓wp_v, ↓wp_vB, ↓wp_c, ↓wp_op2, ↓wp_op2L, ↓wp_t, ↓wp_tru, ↓wp_chain, ↓wp_andT, ↓wp_orT, ↓wp_notT, ↓wp_andV, ↓wp_orV, ↓wp_notV, ↓wp_if, ↓wp_nil, ↓wp_cons, ↓wp_tup, ↓wp_lst, ↓wp_D, ↓wp_cb, ↓wp_call, ↓wp_isi, ↓wp_neg, ↓wp_sl, ↓wp_noP, ↓wp_P, ↓wp_yes, ↓wp_items, ↓wp_signs, ↓wp_comp, ↓ws_seq, ↓thn_nx, ↓thn_rt, ↓thn_br, ↓thn_ct, ↓thn_exc, ↓ws_skip, ↓ws_break, ↓ws_cont, ↓ws_retN, ↓ws_set, ↓ws_own, ↓ws_ret, ↓ws_drop, ↓ws_if, ↓ws_asg, ↓ws_par3, ↓ws_par, ↓ws_setC, ↓wp_newc, ↓ws_app, ↓ws_ext, ↓ws_setI, ↓ws_frz, ↓ws_for, ↓wl_nil, ↓wl_cons, ↓wf_run, ↓retS_nx, ↓retS_rt, ↓lpS_nx, ↓lpS_ct, ↓lpS_br, ↓lpS_rt, ↓turn_nx, ↓turn_ct, ↓turn_br, ↓turn_rt, ↓wp_addI, ↓wp_addS, ↓wp_subI, ↓wp_mulI, ↓wp_divI, ↓wp_modI, ↓wp_powI, ↓wp_cmpI, ↓wp_eq, ↓wp_ne, ↓wp_negI, ↓wp_seqE, ↓wp_lstE, ↓wp_ixL, ↓wp_ixT, ↓wp_ixC, ↓wp_ixS, ↓wp_lenS, ↓wp_lenL, ↓wp_lenT, ↓wp_lenC, ↓wp_absI, ↓wp_intI, ↓wp_intB, ↓wp_intS, ↓wp_strI, ↓wp_boolI, ↓wp_boolB, ↓wp_all, ↓wp_any, ↓wp_sum, ↓wp_max2, ↓wp_min2, ↓wp_list, ↓wp_tuple, ↓wp_sorted, ↓wp_slS, ↓wp_slT, ↓wp_slLD, ↓wp_slC, ↓wp_slL, ↓wp_range1, ↓wp_range2, ↓wp_enum, ↓wp_enumT, ↓wp_zip, ↓wp_zipTT, ↓wp_zipTL, ↓wp_zipLT, ↓wp_cat, ↓wp_rep, ↓wp_inSg, ↓wp_notInSg, ↓wp_inL, ↓wp_inT, ↓wp_notIn, ↓wp_isN, ↓wp_notN, tt1, tt2, tt3, tt4, tt5, tt6, tu1, tu2, tu3, tu4, tu5, tu6, tu7, tu8, tu9, tu10, tu11, tu12, tu13, tu14, tu15, tu16, tu17, tu18, tu19, tu20, tu21, tu22, tu23, tu24, asB_bl, truD_non, truD_bl, truD_int, truD_str, truD_lst, truD_tup, asI_int, asS_str, items_lst, items_tup, items_str, valS_v, valB_v, valB_own, seqD_lst, seqD_tup, seqD_cell0, lstD_lst, lstD_cell0, cellL_0, own_lst, nonB_non, nonB_bl, nonB_int, nonB_str, nonB_lst, nonB_tup, nonB_cell, nonB_obj, bools_nil, bools_cons, ints_nil, ints_cons, eqD_ii, eqD_bb, eqD_ss, eqD_nn, eqD_ni, eqD_in, eqD_nb, eqD_bn, eqD_ns, eqD_sn, eqD_is, eqD_si, eqD_bs, eqD_sb, tag_non, tag_bl, tag_int, tag_str, tag_lst, tag_tup, tag_obj, bindP_nm, bindP_tp, bindPs_nil, bindPs_cons, ↓wp_get, ↓wp_meth, ↓wp_prop, ↓ws_setF, ↓wp_mk, ↓wp_own, ↓wp_kd, ↓wp_methK, ↓wp_ownNe, ↓wp_own1, ↓wp_ownT, ↓wp_fstr, ↓wp_fFn, ↓wp_fFc, ↓wp_fmtS, ↓wp_fmtI, kok_len, kok_repr, kok_bool, eqD_tt, eqD_ll, plB_non, plB_bl, plB_int, plB_str, plB_lst, plB_tup, eqBs_nn, eqBs_cc, eqBs_nc, eqBs_cn, eqB_ii, eqB_bb, eqB_ss, eqB_nn, eqB_ll, eqB_tt, eqB_ni, eqB_in, eqB_nt, eqB_tn, eqB_it, eqB_ti, ↓wp_addT, ↓wp_addL, ↓wp_mulL, objD_obj, objD_last, cellO_last, set_last, isO_obj, isO_last, putD_nil, putD_cons, lkp_nil, lkp_cons, bel_plain, bels_plain, belF_nil, belF_cons, rng_0, rng_1, rng_2, rng_3, enL_nil, enL_cons, zpL_nil, zpL_nilR, zpL_cons, ↓wp_maxL, ↓wp_minL, maxL_2, maxL_1, minL_2, minL_1, bel_non, bel_bl, bel_int, bel_str, bel_lst, bel_tup, bel_obj, bels_nil, bels_cons, kst_app0, ctl_hi, ctl_lo, ctl_no, kst_inj, ↓wp_rgI1, ↓wp_rgI2, ↓wp_rg1, ↓wp_rg2, ↓wp_callO, kst_beq, EG.runs, EG.run, ev, evs, evo, evr, evf, mkE, mkL, failL, bopF, copF, bltF, lbltF, env0, wipeE, isiAny, isi1, frzS, Cell.toD, atI_nn, setAt_nn, wp_inSg, Gam.put, clsTab, arrQ, arrP, Pick.of, kwM, rightB, E00, List.map_cons, List.map_nil, List.length_cons, List.length_nil, List.append_nil, List.nil_append, List.cons_append, List.getElem?_cons_zero, List.getElem?_cons_succ, List.getElem?_nil, List.set_cons_zero, List.set_cons_succ, List.filter_cons, List.filter_nil, List.contains_nil, List.elem_nil, Int.reduceNeg, Int.reducePow, nA10, nA2, le_big, Nat.reducePow, Nat.zero_add, Option.map_some, Option.bind_some, Int.reduceLE, Int.reduceToNat, Int.reduceLT, Nat.reduceLT, Nat.reduceAdd, Nat.reduceSub, true_and, and_true, decide_true, decide_false, List.length_append, List.length_map, Nat.reduceLeDiff, Nat.reduceEqDiff, Bool.not_true, Bool.not_false, decide_eq_true_eq, reduceCtorEq, Option.some.injEq, id_eq, List.all_cons, List.all_nil, List.any_cons, List.any_nil, Bool.and_true, Bool.true_and, Bool.and_false, Bool.false_and, Bool.or_true, Bool.or_false, Bool.true_or, Bool.false_or, Int.reduceAdd, Int.reduceSub, beq_self_eq_true, Option.isNone_none, Option.isNone_some, if_true, if_false, ite_true, ite_false, Nat.succ_eq_add_one, Int.natCast_add, Int.natCast_one, Int.cast_ofNat_Int, List.contains_cons, String.reduceEq, List.take_succ_cons, List.take_zero, List.drop_succ_cons, List.drop_zero, List.take_nil, List.drop_nil, List.replicate, Int.natCast_zero, Int.zero_add, kG0, kConsts, kFrees, kCls, kisi_0, kisi_1, kisi_2, kisi_3, kisi_4, kisi_5, kisi_6, kisi_7, kisi_8, kisi_9, kisi_10, kisi_11, kfld_0, dflD_law_pull, kwdD_law_pull, T_law_pull, dflD_law_readings, kwdD_law_readings, U0_law_pull, T_law_readings, dflD_is_number, kwdD_is_number, T_is_number, dflD_is_between, kwdD_is_between, U1_is_number, T_is_between, dflD_Rule_out, kwdD_Rule_out, T_Rule_out, dflD_Rule_back, kwdD_Rule_back, T_Rule_back, dflD_Rule_is_modes, kwdD_Rule_is_modes, U2_is_between, U3_Rule_out, U4_Rule_back, T_Rule_is_modes, dflD_law_same, kwdD_law_same, T_law_same, dflD_Rule_mode_behind, kwdD_Rule_mode_behind, T_Rule_mode_behind, dflD_Rule_distance, kwdD_Rule_distance, T_Rule_distance, dflD_Rule_hold, kwdD_Rule_hold, T_Rule_hold, dflD_Rule_ranks, kwdD_Rule_ranks, T_Rule_ranks, dflD_Rule_least, kwdD_Rule_least, T_Rule_least, dflD_Rule_ranked, kwdD_Rule_ranked, U5_Rule_hold, U6_Rule_ranks, U7_Rule_least, T_Rule_ranked, dflD_is_listed, kwdD_is_listed, T_is_listed, dflD_Rule_need_readings, kwdD_Rule_need_readings, U8_is_listed, T_Rule_need_readings, dflD_Rule_tick, kwdD_Rule_tick, U9_Rule_mode_behind, U10_Rule_ranked, U11_Rule_distance, U12_Rule_need_readings, T_Rule_tick, dflD_Rule_call, kwdD_Rule_call, U13_Rule_tick, T_Rule_call, dflD_law_picked, kwdD_law_picked, T_law_picked, dflD_law_behind, kwdD_law_behind, T_law_behind, dflD_law_tick, kwdD_law_tick, U14_law_behind, U15_law_picked, T_law_tick, dflD_law_of, kwdD_law_of, T_law_of, dflD_are_ranks, kwdD_are_ranks, T_are_ranks, dflD_is_amount, kwdD_is_amount, T_is_amount, dflD_Rule_init, kwdD_Rule_init, U16_are_ranks, U17_is_amount, T_Rule_init, dflD_law_rule_made, kwdD_law_rule_made, U18_Rule_init, T_law_rule_made, dflD_law_rule, kwdD_law_rule, U19_law_of, T_law_rule, dflD_law_bag, kwdD_law_bag, T_law_bag, dflD_law, kwdD_law, U20_law_readings, U21_law_same, U22_law_tick, U23_law_rule_made, U24_law_rule, U25_law_bag, U26_Rule_is_modes, U27_Rule_call, U28_Rule_tick, U29_Rule_tick, T_law, objD_Ru, tag_Ru, isO_Ru]
    all_goals refine wp_of_eq (compL_pure (fun _ => true) (rdD x1 x2 x3) (L.map .int) fun dd hd => ?_) ?_
    all_goals first
      | (obtain ⟨i, hi, rfl⟩ := List.mem_map.mp hd
         refine ⟨_, bindP_nm, by sizeOf_list_dec, fun _ => ?_⟩
         simp only [↓br_true, ↓br_false, ↓op_some, ↓wp_bind, ↓wp_pure, ↓wp_fail, ↓wp_opt, ↓wp_guard, ↓wp_v, ↓wp_vB, ↓wp_c, ↓wp_op2, ↓wp_op2L, ↓wp_t, ↓wp_tru, ↓wp_chain, ↓wp_andT, ↓wp_orT, ↓wp_notT, ↓wp_andV, ↓wp_orV, ↓wp_notV, ↓wp_if, ↓wp_nil, ↓wp_cons, ↓wp_tup, ↓wp_lst, ↓wp_D, ↓wp_cb, ↓wp_call, ↓wp_isi, ↓wp_neg, ↓wp_sl, ↓wp_noP, ↓wp_P, ↓wp_yes, ↓wp_items, ↓wp_signs, ↓wp_comp, ↓ws_seq, ↓thn_nx, ↓thn_rt, ↓thn_br, ↓thn_ct, ↓thn_exc, ↓ws_skip, ↓ws_break, ↓ws_cont, ↓ws_retN, ↓ws_set, ↓ws_own, ↓ws_ret, ↓ws_drop, ↓ws_if, ↓ws_asg, ↓ws_par3, ↓ws_par, ↓ws_setC, ↓wp_newc, ↓ws_app, ↓ws_ext, ↓ws_setI, ↓ws_frz, ↓ws_for, ↓wl_nil, ↓wl_cons, ↓wf_run, ↓retS_nx, ↓retS_rt, ↓lpS_nx, ↓lpS_ct, ↓lpS_br, ↓lpS_rt, ↓turn_nx, ↓turn_ct, ↓turn_br, ↓turn_rt, ↓wp_addI, ↓wp_addS, ↓wp_subI, ↓wp_mulI, ↓wp_divI, ↓wp_modI, ↓wp_powI, ↓wp_cmpI, ↓wp_eq, ↓wp_ne, ↓wp_negI, ↓wp_seqE, ↓wp_lstE, ↓wp_ixL, ↓wp_ixT, ↓wp_ixC, ↓wp_ixS, ↓wp_lenS, ↓wp_lenL, ↓wp_lenT, ↓wp_lenC, ↓wp_absI, ↓wp_intI, ↓wp_intB, ↓wp_intS, ↓wp_strI, ↓wp_boolI, ↓wp_boolB, ↓wp_all, ↓wp_any, ↓wp_sum, ↓wp_max2, ↓wp_min2, ↓wp_list, ↓wp_tuple, ↓wp_sorted, ↓wp_slS, ↓wp_slT, ↓wp_slLD, ↓wp_slC, ↓wp_slL, ↓wp_range1, ↓wp_range2, ↓wp_enum, ↓wp_enumT, ↓wp_zip, ↓wp_zipTT, ↓wp_zipTL, ↓wp_zipLT, ↓wp_cat, ↓wp_rep, ↓wp_inSg, ↓wp_notInSg, ↓wp_inL, ↓wp_inT, ↓wp_notIn, ↓wp_isN, ↓wp_notN, tt1, tt2, tt3, tt4, tt5, tt6, tu1, tu2, tu3, tu4, tu5, tu6, tu7, tu8, tu9, tu10, tu11, tu12, tu13, tu14, tu15, tu16, tu17, tu18, tu19, tu20, tu21, tu22, tu23, tu24, asB_bl, truD_non, truD_bl, truD_int, truD_str, truD_lst, truD_tup, asI_int, asS_str, items_lst, items_tup, items_str, valS_v, valB_v, valB_own, seqD_lst, seqD_tup, seqD_cell0, lstD_lst, lstD_cell0, cellL_0, own_lst, nonB_non, nonB_bl, nonB_int, nonB_str, nonB_lst, nonB_tup, nonB_cell, nonB_obj, bools_nil, bools_cons, ints_nil, ints_cons, eqD_ii, eqD_bb, eqD_ss, eqD_nn, eqD_ni, eqD_in, eqD_nb, eqD_bn, eqD_ns, eqD_sn, eqD_is, eqD_si, eqD_bs, eqD_sb, tag_non, tag_bl, tag_int, tag_str, tag_lst, tag_tup, tag_obj, bindP_nm, bindP_tp, bindPs_nil, bindPs_cons, ↓wp_get, ↓wp_meth, ↓wp_prop, ↓ws_setF, ↓wp_mk, ↓wp_own, ↓wp_kd, ↓wp_methK, ↓wp_ownNe, ↓wp_own1, ↓wp_ownT, ↓wp_fstr, ↓wp_fFn, ↓wp_fFc, ↓wp_fmtS, ↓wp_fmtI, kok_len, kok_repr, kok_bool, eqD_tt, eqD_ll, plB_non, plB_bl, plB_int, plB_str, plB_lst, plB_tup, eqBs_nn, eqBs_cc, eqBs_nc, eqBs_cn, eqB_ii, eqB_bb, eqB_ss, eqB_nn, eqB_ll, eqB_tt, eqB_ni, eqB_in, eqB_nt, eqB_tn, eqB_it, eqB_ti, ↓wp_addT, ↓wp_addL, ↓wp_mulL, objD_obj, objD_last, cellO_last, set_last, isO_obj, isO_last, putD_nil, putD_cons, lkp_nil, lkp_cons, bel_plain, bels_plain, belF_nil, belF_cons, ↓wp_compN, ↓wp_compC, rng_0, rng_1, rng_2, rng_3, enL_nil, enL_cons, zpL_nil, zpL_nilR, zpL_cons, ↓wp_maxL, ↓wp_minL, maxL_2, maxL_1, minL_2, minL_1, bel_non, bel_bl, bel_int, bel_str, bel_lst, bel_tup, bel_obj, bels_nil, bels_cons, kst_app0, ctl_hi, ctl_lo, ctl_no, kst_inj, ↓wp_rgI1, ↓wp_rgI2, ↓wp_rg1, ↓wp_rg2, ↓wp_callO, kst_beq, EG.runs, EG.run, ev, evs, evo, evr, evf, mkE, mkL, failL, bopF, copF, bltF, lbltF, env0, wipeE, isiAny, isi1, frzS, Cell.toD, atI_nn, setAt_nn, wp_inSg, Gam.put, clsTab, arrQ, arrP, Pick.of, kwM, rightB, E00, List.map_cons, List.map_nil, List.length_cons, List.length_nil, List.append_nil, List.nil_append, List.cons_append, List.getElem?_cons_zero, List.getElem?_cons_succ, List.getElem?_nil, List.set_cons_zero, List.set_cons_succ, List.filter_cons, List.filter_nil, List.contains_nil, List.elem_nil, Int.reduceNeg, Int.reducePow, nA10, nA2, le_big, Nat.reducePow, Nat.zero_add, Option.map_some, Option.bind_some, Int.reduceLE, Int.reduceToNat, Int.reduceLT, Nat.reduceLT, Nat.reduceAdd, Nat.reduceSub, true_and, and_true, decide_true, decide_false, List.length_append, List.length_map, Nat.reduceLeDiff, Nat.reduceEqDiff, Bool.not_true, Bool.not_false, decide_eq_true_eq, reduceCtorEq, Option.some.injEq, id_eq, List.all_cons, List.all_nil, List.any_cons, List.any_nil, Bool.and_true, Bool.true_and, Bool.and_false, Bool.false_and, Bool.or_true, Bool.or_false, Bool.true_or, Bool.false_or, Int.reduceAdd, Int.reduceSub, beq_self_eq_true, Option.isNone_none, Option.isNone_some, if_true, if_false, ite_true, ite_false, Nat.succ_eq_add_one, Int.natCast_add, Int.natCast_one, Int.cast_ofNat_Int, List.contains_cons, String.reduceEq, List.take_succ_cons, List.take_zero, List.drop_succ_cons, List.drop_zero, List.take_nil, List.drop_nil, List.replicate, Int.natCast_zero, Int.zero_add, kG0, kConsts, kFrees, kCls, kisi_0, kisi_1, kisi_2, kisi_3, kisi_4, kisi_5, kisi_6, kisi_7, kisi_8, kisi_9, kisi_10, kisi_11, kfld_0, dflD_law_pull, kwdD_law_pull, T_law_pull, dflD_law_readings, kwdD_law_readings, U0_law_pull, T_law_readings, dflD_is_number, kwdD_is_number, T_is_number, dflD_is_between, kwdD_is_between, U1_is_number, T_is_between, dflD_Rule_out, kwdD_Rule_out, T_Rule_out, dflD_Rule_back, kwdD_Rule_back, T_Rule_back, dflD_Rule_is_modes, kwdD_Rule_is_modes, U2_is_between, U3_Rule_out, U4_Rule_back, T_Rule_is_modes, dflD_law_same, kwdD_law_same, T_law_same, dflD_Rule_mode_behind, kwdD_Rule_mode_behind, T_Rule_mode_behind, dflD_Rule_distance, kwdD_Rule_distance, T_Rule_distance, dflD_Rule_hold, kwdD_Rule_hold, T_Rule_hold, dflD_Rule_ranks, kwdD_Rule_ranks, T_Rule_ranks, dflD_Rule_least, kwdD_Rule_least, T_Rule_least, dflD_Rule_ranked, kwdD_Rule_ranked, U5_Rule_hold, U6_Rule_ranks, U7_Rule_least, T_Rule_ranked, dflD_is_listed, kwdD_is_listed, T_is_listed, dflD_Rule_need_readings, kwdD_Rule_need_readings, U8_is_listed, T_Rule_need_readings, dflD_Rule_tick, kwdD_Rule_tick, U9_Rule_mode_behind, U10_Rule_ranked, U11_Rule_distance, U12_Rule_need_readings, T_Rule_tick, dflD_Rule_call, kwdD_Rule_call, U13_Rule_tick, T_Rule_call, dflD_law_picked, kwdD_law_picked, T_law_picked, dflD_law_behind, kwdD_law_behind, T_law_behind, dflD_law_tick, kwdD_law_tick, U14_law_behind, U15_law_picked, T_law_tick, dflD_law_of, kwdD_law_of, T_law_of, dflD_are_ranks, kwdD_are_ranks, T_are_ranks, dflD_is_amount, kwdD_is_amount, T_is_amount, dflD_Rule_init, kwdD_Rule_init, U16_are_ranks, U17_is_amount, T_Rule_init, dflD_law_rule_made, kwdD_law_rule_made, U18_Rule_init, T_law_rule_made, dflD_law_rule, kwdD_law_rule, U19_law_of, T_law_rule, dflD_law_bag, kwdD_law_bag, T_law_bag, dflD_law, kwdD_law, U20_law_readings, U21_law_same, U22_law_tick, U23_law_rule_made, U24_law_rule, U25_law_bag, U26_Rule_is_modes, U27_Rule_call, U28_Rule_tick, U29_Rule_tick, T_law, objD_Ru, tag_Ru, isO_Ru, rd_at (k1 i hi)]
         rfl)
      | skip
    all_goals rw [rd_list]
    all_goals simp only [↓br_true, ↓br_false, ↓op_some, ↓wp_bind, ↓wp_pure, ↓wp_fail, ↓wp_opt, ↓wp_guard, ↓wp_v, ↓wp_vB, ↓wp_c, ↓wp_op2, ↓wp_op2L, ↓wp_t, ↓wp_tru, ↓wp_chain, ↓wp_andT, ↓wp_orT, ↓wp_notT, ↓wp_andV, ↓wp_orV, ↓wp_notV, ↓wp_if, ↓wp_nil, ↓wp_cons, ↓wp_tup, ↓wp_lst, ↓wp_D, ↓wp_cb, ↓wp_call, ↓wp_isi, ↓wp_neg, ↓wp_sl, ↓wp_noP, ↓wp_P, ↓wp_yes, ↓wp_items, ↓wp_signs, ↓wp_comp, ↓ws_seq, ↓thn_nx, ↓thn_rt, ↓thn_br, ↓thn_ct, ↓thn_exc, ↓ws_skip, ↓ws_break, ↓ws_cont, ↓ws_retN, ↓ws_set, ↓ws_own, ↓ws_ret, ↓ws_drop, ↓ws_if, ↓ws_asg, ↓ws_par3, ↓ws_par, ↓ws_setC, ↓wp_newc, ↓ws_app, ↓ws_ext, ↓ws_setI, ↓ws_frz, ↓ws_for, ↓wl_nil, ↓wl_cons, ↓wf_run, ↓retS_nx, ↓retS_rt, ↓lpS_nx, ↓lpS_ct, ↓lpS_br, ↓lpS_rt, ↓turn_nx, ↓turn_ct, ↓turn_br, ↓turn_rt, ↓wp_addI, ↓wp_addS, ↓wp_subI, ↓wp_mulI, ↓wp_divI, ↓wp_modI, ↓wp_powI, ↓wp_cmpI, ↓wp_eq, ↓wp_ne, ↓wp_negI, ↓wp_seqE, ↓wp_lstE, ↓wp_ixL, ↓wp_ixT, ↓wp_ixC, ↓wp_ixS, ↓wp_lenS, ↓wp_lenL, ↓wp_lenT, ↓wp_lenC, ↓wp_absI, ↓wp_intI, ↓wp_intB, ↓wp_intS, ↓wp_strI, ↓wp_boolI, ↓wp_boolB, ↓wp_all, ↓wp_any, ↓wp_sum, ↓wp_max2, ↓wp_min2, ↓wp_list, ↓wp_tuple, ↓wp_sorted, ↓wp_slS, ↓wp_slT, ↓wp_slLD, ↓wp_slC, ↓wp_slL, ↓wp_range1, ↓wp_range2, ↓wp_enum, ↓wp_enumT, ↓wp_zip, ↓wp_zipTT, ↓wp_zipTL, ↓wp_zipLT, ↓wp_cat, ↓wp_rep, ↓wp_inSg, ↓wp_notInSg, ↓wp_inL, ↓wp_inT, ↓wp_notIn, ↓wp_isN, ↓wp_notN, tt1, tt2, tt3, tt4, tt5, tt6, tu1, tu2, tu3, tu4, tu5, tu6, tu7, tu8, tu9, tu10, tu11, tu12, tu13, tu14, tu15, tu16, tu17, tu18, tu19, tu20, tu21, tu22, tu23, tu24, asB_bl, truD_non, truD_bl, truD_int, truD_str, truD_lst, truD_tup, asI_int, asS_str, items_lst, items_tup, items_str, valS_v, valB_v, valB_own, seqD_lst, seqD_tup, seqD_cell0, lstD_lst, lstD_cell0, cellL_0, own_lst, nonB_non, nonB_bl, nonB_int, nonB_str, nonB_lst, nonB_tup, nonB_cell, nonB_obj, bools_nil, bools_cons, ints_nil, ints_cons, eqD_ii, eqD_bb, eqD_ss, eqD_nn, eqD_ni, eqD_in, eqD_nb, eqD_bn, eqD_ns, eqD_sn, eqD_is, eqD_si, eqD_bs, eqD_sb, tag_non, tag_bl, tag_int, tag_str, tag_lst, tag_tup, tag_obj, bindP_nm, bindP_tp, bindPs_nil, bindPs_cons, ↓wp_get, ↓wp_meth, ↓wp_prop, ↓ws_setF, ↓wp_mk, ↓wp_own, ↓wp_kd, ↓wp_methK, ↓wp_ownNe, ↓wp_own1, ↓wp_ownT, ↓wp_fstr, ↓wp_fFn, ↓wp_fFc, ↓wp_fmtS, ↓wp_fmtI, kok_len, kok_repr, kok_bool, eqD_tt, eqD_ll, plB_non, plB_bl, plB_int, plB_str, plB_lst, plB_tup, eqBs_nn, eqBs_cc, eqBs_nc, eqBs_cn, eqB_ii, eqB_bb, eqB_ss, eqB_nn, eqB_ll, eqB_tt, eqB_ni, eqB_in, eqB_nt, eqB_tn, eqB_it, eqB_ti, ↓wp_addT, ↓wp_addL, ↓wp_mulL, objD_obj, objD_last, cellO_last, set_last, isO_obj, isO_last, putD_nil, putD_cons, lkp_nil, lkp_cons, bel_plain, bels_plain, belF_nil, belF_cons, ↓wp_compN, ↓wp_compC, rng_0, rng_1, rng_2, rng_3, enL_nil, enL_cons, zpL_nil, zpL_nilR, zpL_cons, ↓wp_maxL, ↓wp_minL, maxL_2, maxL_1, minL_2, minL_1, bel_non, bel_bl, bel_int, bel_str, bel_lst, bel_tup, bel_obj, bels_nil, bels_cons, kst_app0, ctl_hi, ctl_lo, ctl_no, kst_inj, ↓wp_rgI1, ↓wp_rgI2, ↓wp_rg1, ↓wp_rg2, ↓wp_callO, kst_beq, EG.runs, EG.run, ev, evs, evo, evr, evf, mkE, mkL, failL, bopF, copF, bltF, lbltF, env0, wipeE, isiAny, isi1, frzS, Cell.toD, atI_nn, setAt_nn, wp_inSg, Gam.put, clsTab, arrQ, arrP, Pick.of, kwM, rightB, E00, List.map_cons, List.map_nil, List.length_cons, List.length_nil, List.append_nil, List.nil_append, List.cons_append, List.getElem?_cons_zero, List.getElem?_cons_succ, List.getElem?_nil, List.set_cons_zero, List.set_cons_succ, List.filter_cons, List.filter_nil, List.contains_nil, List.elem_nil, Int.reduceNeg, Int.reducePow, nA10, nA2, le_big, Nat.reducePow, Nat.zero_add, Option.map_some, Option.bind_some, Int.reduceLE, Int.reduceToNat, Int.reduceLT, Nat.reduceLT, Nat.reduceAdd, Nat.reduceSub, true_and, and_true, decide_true, decide_false, List.length_append, List.length_map, Nat.reduceLeDiff, Nat.reduceEqDiff, Bool.not_true, Bool.not_false, decide_eq_true_eq, reduceCtorEq, Option.some.injEq, id_eq, List.all_cons, List.all_nil, List.any_cons, List.any_nil, Bool.and_true, Bool.true_and, Bool.and_false, Bool.false_and, Bool.or_true, Bool.or_false, Bool.true_or, Bool.false_or, Int.reduceAdd, Int.reduceSub, beq_self_eq_true, Option.isNone_none, Option.isNone_some, if_true, if_false, ite_true, ite_false, Nat.succ_eq_add_one, Int.natCast_add, Int.natCast_one, Int.cast_ofNat_Int, List.contains_cons, String.reduceEq, List.take_succ_cons, List.take_zero, List.drop_succ_cons, List.drop_zero, List.take_nil, List.drop_nil, List.replicate, Int.natCast_zero, Int.zero_add, kG0, kConsts, kFrees, kCls, kisi_0, kisi_1, kisi_2, kisi_3, kisi_4, kisi_5, kisi_6, kisi_7, kisi_8, kisi_9, kisi_10, kisi_11, kfld_0, dflD_law_pull, kwdD_law_pull, T_law_pull, dflD_law_readings, kwdD_law_readings, U0_law_pull, T_law_readings, dflD_is_number, kwdD_is_number, T_is_number, dflD_is_between, kwdD_is_between, U1_is_number, T_is_between, dflD_Rule_out, kwdD_Rule_out, T_Rule_out, dflD_Rule_back, kwdD_Rule_back, T_Rule_back, dflD_Rule_is_modes, kwdD_Rule_is_modes, U2_is_between, U3_Rule_out, U4_Rule_back, T_Rule_is_modes, dflD_law_same, kwdD_law_same, T_law_same, dflD_Rule_mode_behind, kwdD_Rule_mode_behind, T_Rule_mode_behind, dflD_Rule_distance, kwdD_Rule_distance, T_Rule_distance, dflD_Rule_hold, kwdD_Rule_hold, T_Rule_hold, dflD_Rule_ranks, kwdD_Rule_ranks, T_Rule_ranks, dflD_Rule_least, kwdD_Rule_least, T_Rule_least, dflD_Rule_ranked, kwdD_Rule_ranked, U5_Rule_hold, U6_Rule_ranks, U7_Rule_least, T_Rule_ranked, dflD_is_listed, kwdD_is_listed, T_is_listed, dflD_Rule_need_readings, kwdD_Rule_need_readings, U8_is_listed, T_Rule_need_readings, dflD_Rule_tick, kwdD_Rule_tick, U9_Rule_mode_behind, U10_Rule_ranked, U11_Rule_distance, U12_Rule_need_readings, T_Rule_tick, dflD_Rule_call, kwdD_Rule_call, U13_Rule_tick, T_Rule_call, dflD_law_picked, kwdD_law_picked, T_law_picked, dflD_law_behind, kwdD_law_behind, T_law_behind, dflD_law_tick, kwdD_law_tick, U14_law_behind, U15_law_picked, T_law_tick, dflD_law_of, kwdD_law_of, T_law_of, dflD_are_ranks, kwdD_are_ranks, T_are_ranks, dflD_is_amount, kwdD_is_amount, T_is_amount, dflD_Rule_init, kwdD_Rule_init, U16_are_ranks, U17_is_amount, T_Rule_init, dflD_law_rule_made, kwdD_law_rule_made, U18_Rule_init, T_law_rule_made, dflD_law_rule, kwdD_law_rule, U19_law_of, T_law_rule, dflD_law_bag, kwdD_law_bag, T_law_bag, dflD_law, kwdD_law, U20_law_readings, U21_law_same, U22_law_tick, U23_law_rule_made, U24_law_rule, U25_law_bag, U26_Rule_is_modes, U27_Rule_call, U28_Rule_tick, U29_Rule_tick, T_law, objD_Ru, tag_Ru, isO_Ru, ints_map, hlen, ka]
    all_goals refine ⟨by omega, ?_⟩
    all_goals (refine p_distance ?_; sizeOf_list_dec; refine p_distance ?_; sizeOf_list_dec; refine p_distance ?_; sizeOf_list_dec)
    all_goals (refine mode_behind_spec ?_; sizeOf_list_dec; refine mode_behind_spec ?_; sizeOf_list_dec; refine mode_behind_spec ?_; sizeOf_list_dec)
    all_goals exact hq
def ltD (v : Int) : D → Bool
  | .int u => decide (u < v)
  | _ => false
def leD (v : Int) : D → Bool
  | .int u => decide (u ≤ v)
  | _ => false
def isKD (xs : List Int) (k : Nat) : D → Bool
  | .int v => isK xs k v
  | _ => false
theorem filt_map {p : D → Bool} {q : Int → Bool} (h : ∀ i, p (.int i) = q i) : ∀ xs : List Int, (xs.map D.int).filter p = (xs.filter q).map D.int
  | [] => rfl
  | x :: r => by
    rw [List.map_cons, List.filter_cons, List.filter_cons, h, filt_map h r]
    cases q x <;> rfl
theorem lt_len {xs : List Int} {v : Int} : ((xs.map D.int).filter (ltD v)).length = lows xs v := by
  rw [filt_map (q := fun u => decide (u < v)) (fun _ => rfl), List.length_map]
  unfold lows
  rw [List.countP_eq_length_filter]
theorem le_len {xs : List Int} {v : Int} : ((xs.map D.int).filter (leD v)).length = upto xs v := by
  rw [filt_map (q := fun u => decide (u ≤ v)) (fun _ => rfl), List.length_map]
  unfold upto
  rw [List.countP_eq_length_filter]
theorem isK_int {xs : List Int} {r v : Int} (h : 1 ≤ r) : isK xs (r - 1).toNat v = (decide ((lows xs v : Int) < r) && decide (r ≤ (upto xs v : Int))) := by
  unfold isK
  congr 1
  · exact decide_eq_decide.mpr (by omega)
  · exact decide_eq_decide.mpr (by omega)
theorem fit_map {xs : List Int} {r : Int} (h1 : 1 ≤ r) (h2 : r ≤ (xs.length : Int)) : ∃ rest, (((xs.map D.int).filter (isKD xs (r - 1).toNat)).map id) = .int (kV xs r) :: rest := by
  obtain ⟨hk, rest, e⟩ := fit_head (xs := xs) (k := (r - 1).toNat) (by omega)
  rw [List.map_id, filt_map (q := isK xs (r - 1).toNat) (fun _ => rfl), e]
  refine ⟨rest.map D.int, ?_⟩
  unfold kV
  rw [List.getD_eq_getElem?_getD, List.getElem?_eq_getElem hk]
  rfl
theorem ltick_spec {d o k y z l a b c x1 x2 x3 t : Int} {h : Bool} {held : D} (hl : 1 ≤ l) (h1 : 1 ≤ y) (h2 : y ≤ 2) (h3 : 1 ≤ z) (h4 : z ≤ 3)
    (hh : held = .int t ∨ pkV y z l h (sg a) (sg b) (sg c) ≠ none) (hq : Q (outV d o k a b c (tV (pkV y z l h (sg a) (sg b) (sg c)) t x1 x2 x3) x1 x2 x3) μ) : Wf F_law_tick [.tup [.int d, .int o, .int k, .tup [.int 1, .int y, .int z], .int l, .bl h], .tup [.int a, .int b, .int c], .tup [.int x1, .int x2, .int x3], held] μ Q E := by
  unfold F_law_tick C_law_tick
  sizeOf_list_dec
  refine picked_spec hl ?_
  unfold outV nearB at hq
  cases p : pkV y z l h (sg a) (sg b) (sg c) with
  | none =>
    rcases hh with rfl | hh
    · rw [p] at hq
      unfold tV at hq
      unfold pkD
      sizeOf_list_dec
      (refine behind_spec ?_; sizeOf_list_dec; refine behind_spec ?_; sizeOf_list_dec; refine behind_spec ?_; sizeOf_list_dec)
      exact hq
    · exact absurd p hh
  | some lr =>
    obtain ⟨L, rr⟩ := lr
    obtain ⟨k1, k2, k3, k4⟩ := pk_ok hl h1 h2 h3 h4 p
    rw [p] at hq
    unfold tV at hq
    dsimp only at hq
    unfold pkD
    have hlen : (L.map (rdg x1 x2 x3)).length = L.length := List.length_map _
    simp only [↓br_true, ↓br_false, ↓op_some, ↓wp_bind, ↓wp_pure, ↓wp_fail, ↓wp_opt, ↓wp_guard, ↓wp_v, ↓wp_vB, ↓wp_c, ↓wp_op2, ↓wp_op2L, ↓wp_t, ↓wp_tru, ↓wp_chain, ↓wp_andT, ↓wp_orT, ↓wp_notT, ↓wp_andV, ↓wp_orV, ↓wp_notV, ↓wp_if, ↓wp_nil, ↓wp_cons, ↓wp_tup, ↓wp_lst, ↓wp_D, ↓wp_cb, ↓wp_call, ↓wp_isi, ↓wp_neg, ↓wp_sl, ↓wp_noP, ↓wp_P, ↓wp_yes, ↓wp_items, ↓wp_signs, ↓wp_comp, ↓ws_seq, ↓thn_nx, ↓thn_rt, ↓thn_br, ↓thn_ct, ↓thn_exc, ↓ws_skip, ↓ws_break, ↓ws_cont, ↓ws_retN, ↓ws_set, ↓ws_own, ↓ws_ret, ↓ws_drop, ↓ws_if, ↓ws_asg, ↓ws_par3, ↓ws_par, ↓ws_setC, ↓wp_newc, ↓ws_app, ↓ws_ext, ↓ws_setI, ↓ws_frz, ↓ws_for, ↓wl_nil, ↓wl_cons, ↓wf_run, ↓retS_nx, ↓retS_rt, ↓lpS_nx, ↓lpS_ct, ↓lpS_br, ↓lpS_rt, ↓turn_nx, ↓turn_ct, ↓turn_br, ↓turn_rt, ↓wp_addI, ↓wp_addS, ↓wp_subI, ↓wp_mulI, ↓wp_divI, ↓wp_modI, ↓wp_powI, ↓wp_cmpI, ↓wp_eq, ↓wp_ne, ↓wp_negI, ↓wp_seqE, ↓wp_lstE, ↓wp_ixL, ↓wp_ixT, ↓wp_ixC, ↓wp_ixS, ↓wp_lenS, ↓wp_lenL, ↓wp_lenT, ↓wp_lenC, ↓wp_absI, ↓wp_intI, ↓wp_intB, ↓wp_intS, ↓wp_strI, ↓wp_boolI, ↓wp_boolB, ↓wp_all, ↓wp_any, ↓wp_sum, ↓wp_max2, ↓wp_min2, ↓wp_list, ↓wp_tuple, ↓wp_sorted, ↓wp_slS, ↓wp_slT, ↓wp_slLD, ↓wp_slC, ↓wp_slL, ↓wp_range1, ↓wp_range2, ↓wp_enum, ↓wp_enumT, ↓wp_zip, ↓wp_zipTT, ↓wp_zipTL, ↓wp_zipLT, ↓wp_cat, ↓wp_rep, ↓wp_inSg, ↓wp_notInSg, ↓wp_inL, ↓wp_inT, ↓wp_notIn, ↓wp_isN, ↓wp_notN, tt1, tt2, tt3, tt4, tt5, tt6, tu1, tu2, tu3, tu4, tu5, tu6, tu7, tu8, tu9, tu10, tu11, tu12, tu13, tu14, tu15, tu16, tu17, tu18, tu19, tu20, tu21, tu22, tu23, tu24, asB_bl, truD_non, truD_bl, truD_int, truD_str, truD_lst, truD_tup, asI_int, asS_str, items_lst, items_tup, items_str, valS_v, valB_v, valB_own, seqD_lst, seqD_tup, seqD_cell0, lstD_lst, lstD_cell0, cellL_0, own_lst, nonB_non, nonB_bl, nonB_int, nonB_str, nonB_lst, nonB_tup, nonB_cell, nonB_obj, bools_nil, bools_cons, ints_nil, ints_cons, eqD_ii, eqD_bb, eqD_ss, eqD_nn, eqD_ni, eqD_in, eqD_nb, eqD_bn, eqD_ns, eqD_sn, eqD_is, eqD_si, eqD_bs, eqD_sb, tag_non, tag_bl, tag_int, tag_str, tag_lst, tag_tup, tag_obj, bindP_nm, bindP_tp, bindPs_nil, bindPs_cons, ↓wp_get, ↓wp_meth, ↓wp_prop, ↓ws_setF, ↓wp_mk, ↓wp_own, ↓wp_kd, ↓wp_methK, ↓wp_ownNe, ↓wp_own1, ↓wp_ownT, ↓wp_fstr, ↓wp_fFn, ↓wp_fFc, ↓wp_fmtS, ↓wp_fmtI, kok_len, kok_repr, kok_bool, eqD_tt, eqD_ll, plB_non, plB_bl, plB_int, plB_str, plB_lst, plB_tup, eqBs_nn, eqBs_cc, eqBs_nc, eqBs_cn, eqB_ii, eqB_bb, eqB_ss, eqB_nn, eqB_ll, eqB_tt, eqB_ni, eqB_in, eqB_nt, eqB_tn, eqB_it, eqB_ti, ↓wp_addT, ↓wp_addL, ↓wp_mulL, objD_obj, objD_last, cellO_last, set_last, isO_obj, isO_last, putD_nil, putD_cons, lkp_nil, lkp_cons, bel_plain, bels_plain, belF_nil, belF_cons, rng_0, rng_1, rng_2, rng_3, enL_nil, enL_cons, zpL_nil, zpL_nilR, zpL_cons, ↓wp_maxL, ↓wp_minL, maxL_2, maxL_1, minL_2, minL_1, bel_non, bel_bl, bel_int, bel_str, bel_lst, bel_tup, bel_obj, bels_nil, bels_cons, kst_app0, ctl_hi, ctl_lo, ctl_no, kst_inj, ↓wp_rgI1, ↓wp_rgI2, ↓wp_rg1, ↓wp_rg2, ↓wp_callO, kst_beq, EG.runs, EG.run, ev, evs, evo, evr, evf, mkE, mkL, failL, bopF, copF, bltF, lbltF, env0, wipeE, isiAny, isi1, frzS, Cell.toD, atI_nn, setAt_nn, wp_inSg, Gam.put, clsTab, arrQ, arrP, Pick.of, kwM, rightB, E00, List.map_cons, List.map_nil, List.length_cons, List.length_nil, List.append_nil, List.nil_append, List.cons_append, List.getElem?_cons_zero, List.getElem?_cons_succ, List.getElem?_nil, List.set_cons_zero, List.set_cons_succ, List.filter_cons, List.filter_nil, List.contains_nil, List.elem_nil, Int.reduceNeg, Int.reducePow, nA10, nA2, le_big, Nat.reducePow, Nat.zero_add, Option.map_some, Option.bind_some, Int.reduceLE, Int.reduceToNat, Int.reduceLT, Nat.reduceLT, Nat.reduceAdd, Nat.reduceSub, true_and, and_true, decide_true, decide_false, List.length_append, List.length_map, Nat.reduceLeDiff, Nat.reduceEqDiff, Bool.not_true, Bool.not_false, decide_eq_true_eq, reduceCtorEq, Option.some.injEq, id_eq, List.all_cons, List.all_nil, List.any_cons, List.any_nil, Bool.and_true, Bool.true_and, Bool.and_false, Bool.false_and, Bool.or_true, Bool.or_false, Bool.true_or, Bool.false_or, Int.reduceAdd, Int.reduceSub, beq_self_eq_true, Option.isNone_none, Option.isNone_some, if_true, if_false, ite_true, ite_false, Nat.succ_eq_add_one, Int.natCast_add, Int.natCast_one, Int.cast_ofNat_Int, List.contains_cons, String.reduceEq, List.take_succ_cons, List.take_zero, List.drop_succ_cons, List.drop_zero, List.take_nil, List.drop_nil, List.replicate, Int.natCast_zero, Int.zero_add, kG0, kConsts, kFrees, kCls, kisi_0, kisi_1, kisi_2, kisi_3, kisi_4, kisi_5, kisi_6, kisi_7, kisi_8, kisi_9, kisi_10, kisi_11, kfld_0, dflD_law_pull, kwdD_law_pull, T_law_pull, dflD_law_readings, kwdD_law_readings, U0_law_pull, T_law_readings, dflD_is_number, kwdD_is_number, T_is_number, dflD_is_between, kwdD_is_between, U1_is_number, T_is_between, dflD_Rule_out, kwdD_Rule_out, T_Rule_out, dflD_Rule_back, kwdD_Rule_back, T_Rule_back, dflD_Rule_is_modes, kwdD_Rule_is_modes, U2_is_between, U3_Rule_out, U4_Rule_back, T_Rule_is_modes, dflD_law_same, kwdD_law_same, T_law_same, dflD_Rule_mode_behind, kwdD_Rule_mode_behind, T_Rule_mode_behind, dflD_Rule_distance, kwdD_Rule_distance, T_Rule_distance, dflD_Rule_hold, kwdD_Rule_hold, T_Rule_hold, dflD_Rule_ranks, kwdD_Rule_ranks, T_Rule_ranks, dflD_Rule_least, kwdD_Rule_least, T_Rule_least, dflD_Rule_ranked, kwdD_Rule_ranked, U5_Rule_hold, U6_Rule_ranks, U7_Rule_least, T_Rule_ranked, dflD_is_listed, kwdD_is_listed, T_is_listed, dflD_Rule_need_readings, kwdD_Rule_need_readings, U8_is_listed, T_Rule_need_readings, dflD_Rule_tick, kwdD_Rule_tick, U9_Rule_mode_behind, U10_Rule_ranked, U11_Rule_distance, U12_Rule_need_readings, T_Rule_tick, dflD_Rule_call, kwdD_Rule_call, U13_Rule_tick, T_Rule_call, dflD_law_picked, kwdD_law_picked, T_law_picked, dflD_law_behind, kwdD_law_behind, T_law_behind, dflD_law_tick, kwdD_law_tick, U14_law_behind, U15_law_picked, T_law_tick, dflD_law_of, kwdD_law_of, T_law_of, dflD_are_ranks, kwdD_are_ranks, T_are_ranks, dflD_is_amount, kwdD_is_amount, T_is_amount, dflD_Rule_init, kwdD_Rule_init, U16_are_ranks, U17_is_amount, T_Rule_init, dflD_law_rule_made, kwdD_law_rule_made, U18_Rule_init, T_law_rule_made, dflD_law_rule, kwdD_law_rule, U19_law_of, T_law_rule, dflD_law_bag, kwdD_law_bag, T_law_bag, dflD_law, kwdD_law, U20_law_readings, U21_law_same, U22_law_tick, U23_law_rule_made, U24_law_rule, U25_law_bag, U26_Rule_is_modes, U27_Rule_call, U28_Rule_tick, U29_Rule_tick, T_law, objD_Ru, tag_Ru, isO_Ru]
    refine wp_of_eq (compL_pure (fun _ => true) (rdD x1 x2 x3) (L.map .int) fun dd hd => ?_) ?_
    · obtain ⟨i, hi, rfl⟩ := List.mem_map.mp hd
      refine ⟨_, bindP_nm, by sizeOf_list_dec, fun _ => ?_⟩
      simp only [↓br_true, ↓br_false, ↓op_some, ↓wp_bind, ↓wp_pure, ↓wp_fail, ↓wp_opt, ↓wp_guard, ↓wp_v, ↓wp_vB, ↓wp_c, ↓wp_op2, ↓wp_op2L, ↓wp_t, ↓wp_tru, ↓wp_chain, ↓wp_andT, ↓wp_orT, ↓wp_notT, ↓wp_andV, ↓wp_orV, ↓wp_notV, ↓wp_if, ↓wp_nil, ↓wp_cons, ↓wp_tup, ↓wp_lst, ↓wp_D, ↓wp_cb, ↓wp_call, ↓wp_isi, ↓wp_neg, ↓wp_sl, ↓wp_noP, ↓wp_P, ↓wp_yes, ↓wp_items, ↓wp_signs, ↓wp_comp, ↓ws_seq, ↓thn_nx, ↓thn_rt, ↓thn_br, ↓thn_ct, ↓thn_exc, ↓ws_skip, ↓ws_break, ↓ws_cont, ↓ws_retN, ↓ws_set, ↓ws_own, ↓ws_ret, ↓ws_drop, ↓ws_if, ↓ws_asg, ↓ws_par3, ↓ws_par, ↓ws_setC, ↓wp_newc, ↓ws_app, ↓ws_ext, ↓ws_setI, ↓ws_frz, ↓ws_for, ↓wl_nil, ↓wl_cons, ↓wf_run, ↓retS_nx, ↓retS_rt, ↓lpS_nx, ↓lpS_ct, ↓lpS_br, ↓lpS_rt, ↓turn_nx, ↓turn_ct, ↓turn_br, ↓turn_rt, ↓wp_addI, ↓wp_addS, ↓wp_subI, ↓wp_mulI, ↓wp_divI, ↓wp_modI, ↓wp_powI, ↓wp_cmpI, ↓wp_eq, ↓wp_ne, ↓wp_negI, ↓wp_seqE, ↓wp_lstE, ↓wp_ixL, ↓wp_ixT, ↓wp_ixC, ↓wp_ixS, ↓wp_lenS, ↓wp_lenL, ↓wp_lenT, ↓wp_lenC, ↓wp_absI, ↓wp_intI, ↓wp_intB, ↓wp_intS, ↓wp_strI, ↓wp_boolI, ↓wp_boolB, ↓wp_all, ↓wp_any, ↓wp_sum, ↓wp_max2, ↓wp_min2, ↓wp_list, ↓wp_tuple, ↓wp_sorted, ↓wp_slS, ↓wp_slT, ↓wp_slLD, ↓wp_slC, ↓wp_slL, ↓wp_range1, ↓wp_range2, ↓wp_enum, ↓wp_enumT, ↓wp_zip, ↓wp_zipTT, ↓wp_zipTL, ↓wp_zipLT, ↓wp_cat, ↓wp_rep, ↓wp_inSg, ↓wp_notInSg, ↓wp_inL, ↓wp_inT, ↓wp_notIn, ↓wp_isN, ↓wp_notN, tt1, tt2, tt3, tt4, tt5, tt6, tu1, tu2, tu3, tu4, tu5, tu6, tu7, tu8, tu9, tu10, tu11, tu12, tu13, tu14, tu15, tu16, tu17, tu18, tu19, tu20, tu21, tu22, tu23, tu24, asB_bl, truD_non, truD_bl, truD_int, truD_str, truD_lst, truD_tup, asI_int, asS_str, items_lst, items_tup, items_str, valS_v, valB_v, valB_own, seqD_lst, seqD_tup, seqD_cell0, lstD_lst, lstD_cell0, cellL_0, own_lst, nonB_non, nonB_bl, nonB_int, nonB_str, nonB_lst, nonB_tup, nonB_cell, nonB_obj, bools_nil, bools_cons, ints_nil, ints_cons, eqD_ii, eqD_bb, eqD_ss, eqD_nn, eqD_ni, eqD_in, eqD_nb, eqD_bn, eqD_ns, eqD_sn, eqD_is, eqD_si, eqD_bs, eqD_sb, tag_non, tag_bl, tag_int, tag_str, tag_lst, tag_tup, tag_obj, bindP_nm, bindP_tp, bindPs_nil, bindPs_cons, ↓wp_get, ↓wp_meth, ↓wp_prop, ↓ws_setF, ↓wp_mk, ↓wp_own, ↓wp_kd, ↓wp_methK, ↓wp_ownNe, ↓wp_own1, ↓wp_ownT, ↓wp_fstr, ↓wp_fFn, ↓wp_fFc, ↓wp_fmtS, ↓wp_fmtI, kok_len, kok_repr, kok_bool, eqD_tt, eqD_ll, plB_non, plB_bl, plB_int, plB_str, plB_lst, plB_tup, eqBs_nn, eqBs_cc, eqBs_nc, eqBs_cn, eqB_ii, eqB_bb, eqB_ss, eqB_nn, eqB_ll, eqB_tt, eqB_ni, eqB_in, eqB_nt, eqB_tn, eqB_it, eqB_ti, ↓wp_addT, ↓wp_addL, ↓wp_mulL, objD_obj, objD_last, cellO_last, set_last, isO_obj, isO_last, putD_nil, putD_cons, lkp_nil, lkp_cons, bel_plain, bels_plain, belF_nil, belF_cons, ↓wp_compN, ↓wp_compC, rng_0, rng_1, rng_2, rng_3, enL_nil, enL_cons, zpL_nil, zpL_nilR, zpL_cons, ↓wp_maxL, ↓wp_minL, maxL_2, maxL_1, minL_2, minL_1, bel_non, bel_bl, bel_int, bel_str, bel_lst, bel_tup, bel_obj, bels_nil, bels_cons, kst_app0, ctl_hi, ctl_lo, ctl_no, kst_inj, ↓wp_rgI1, ↓wp_rgI2, ↓wp_rg1, ↓wp_rg2, ↓wp_callO, kst_beq, EG.runs, EG.run, ev, evs, evo, evr, evf, mkE, mkL, failL, bopF, copF, bltF, lbltF, env0, wipeE, isiAny, isi1, frzS, Cell.toD, atI_nn, setAt_nn, wp_inSg, Gam.put, clsTab, arrQ, arrP, Pick.of, kwM, rightB, E00, List.map_cons, List.map_nil, List.length_cons, List.length_nil, List.append_nil, List.nil_append, List.cons_append, List.getElem?_cons_zero, List.getElem?_cons_succ, List.getElem?_nil, List.set_cons_zero, List.set_cons_succ, List.filter_cons, List.filter_nil, List.contains_nil, List.elem_nil, Int.reduceNeg, Int.reducePow, nA10, nA2, le_big, Nat.reducePow, Nat.zero_add, Option.map_some, Option.bind_some, Int.reduceLE, Int.reduceToNat, Int.reduceLT, Nat.reduceLT, Nat.reduceAdd, Nat.reduceSub, true_and, and_true, decide_true, decide_false, List.length_append, List.length_map, Nat.reduceLeDiff, Nat.reduceEqDiff, Bool.not_true, Bool.not_false, decide_eq_true_eq, reduceCtorEq, Option.some.injEq, id_eq, List.all_cons, List.all_nil, List.any_cons, List.any_nil, Bool.and_true, Bool.true_and, Bool.and_false, Bool.false_and, Bool.or_true, Bool.or_false, Bool.true_or, Bool.false_or, Int.reduceAdd, Int.reduceSub, beq_self_eq_true, Option.isNone_none, Option.isNone_some, if_true, if_false, ite_true, ite_false, Nat.succ_eq_add_one, Int.natCast_add, Int.natCast_one, Int.cast_ofNat_Int, List.contains_cons, String.reduceEq, List.take_succ_cons, List.take_zero, List.drop_succ_cons, List.drop_zero, List.take_nil, List.drop_nil, List.replicate, Int.natCast_zero, Int.zero_add, kG0, kConsts, kFrees, kCls, kisi_0, kisi_1, kisi_2, kisi_3, kisi_4, kisi_5, kisi_6, kisi_7, kisi_8, kisi_9, kisi_10, kisi_11, kfld_0, dflD_law_pull, kwdD_law_pull, T_law_pull, dflD_law_readings, kwdD_law_readings, U0_law_pull, T_law_readings, dflD_is_number, kwdD_is_number, T_is_number, dflD_is_between, kwdD_is_between, U1_is_number, T_is_between, dflD_Rule_out, kwdD_Rule_out, T_Rule_out, dflD_Rule_back, kwdD_Rule_back, T_Rule_back, dflD_Rule_is_modes, kwdD_Rule_is_modes, U2_is_between, U3_Rule_out, U4_Rule_back, T_Rule_is_modes, dflD_law_same, kwdD_law_same, T_law_same, dflD_Rule_mode_behind, kwdD_Rule_mode_behind, T_Rule_mode_behind, dflD_Rule_distance, kwdD_Rule_distance, T_Rule_distance, dflD_Rule_hold, kwdD_Rule_hold, T_Rule_hold, dflD_Rule_ranks, kwdD_Rule_ranks, T_Rule_ranks, dflD_Rule_least, kwdD_Rule_least, T_Rule_least, dflD_Rule_ranked, kwdD_Rule_ranked, U5_Rule_hold, U6_Rule_ranks, U7_Rule_least, T_Rule_ranked, dflD_is_listed, kwdD_is_listed, T_is_listed, dflD_Rule_need_readings, kwdD_Rule_need_readings, U8_is_listed, T_Rule_need_readings, dflD_Rule_tick, kwdD_Rule_tick, U9_Rule_mode_behind, U10_Rule_ranked, U11_Rule_distance, U12_Rule_need_readings, T_Rule_tick, dflD_Rule_call, kwdD_Rule_call, U13_Rule_tick, T_Rule_call, dflD_law_picked, kwdD_law_picked, T_law_picked, dflD_law_behind, kwdD_law_behind, T_law_behind, dflD_law_tick, kwdD_law_tick, U14_law_behind, U15_law_picked, T_law_tick, dflD_law_of, kwdD_law_of, T_law_of, dflD_are_ranks, kwdD_are_ranks, T_are_ranks, dflD_is_amount, kwdD_is_amount, T_is_amount, dflD_Rule_init, kwdD_Rule_init, U16_are_ranks, U17_is_amount, T_Rule_init, dflD_law_rule_made, kwdD_law_rule_made, U18_Rule_init, T_law_rule_made, dflD_law_rule, kwdD_law_rule, U19_law_of, T_law_rule, dflD_law_bag, kwdD_law_bag, T_law_bag, dflD_law, kwdD_law, U20_law_readings, U21_law_same, U22_law_tick, U23_law_rule_made, U24_law_rule, U25_law_bag, U26_Rule_is_modes, U27_Rule_call, U28_Rule_tick, U29_Rule_tick, T_law, objD_Ru, tag_Ru, isO_Ru, rd_at (k1 i hi)]
      rfl
    rw [rd_list]
    obtain ⟨rest, ef⟩ := fit_map (xs := L.map (rdg x1 x2 x3)) k2 (by rw [hlen]; exact k3)
    have hbig : (L.map (rdg x1 x2 x3)).length ≤ 3 := by omega
    simp only [↓br_true, ↓br_false, ↓op_some, ↓wp_bind, ↓wp_pure, ↓wp_fail, ↓wp_opt, ↓wp_guard, ↓wp_v, ↓wp_vB, ↓wp_c, ↓wp_op2, ↓wp_op2L, ↓wp_t, ↓wp_tru, ↓wp_chain, ↓wp_andT, ↓wp_orT, ↓wp_notT, ↓wp_andV, ↓wp_orV, ↓wp_notV, ↓wp_if, ↓wp_nil, ↓wp_cons, ↓wp_tup, ↓wp_lst, ↓wp_D, ↓wp_cb, ↓wp_call, ↓wp_isi, ↓wp_neg, ↓wp_sl, ↓wp_noP, ↓wp_P, ↓wp_yes, ↓wp_items, ↓wp_signs, ↓wp_comp, ↓ws_seq, ↓thn_nx, ↓thn_rt, ↓thn_br, ↓thn_ct, ↓thn_exc, ↓ws_skip, ↓ws_break, ↓ws_cont, ↓ws_retN, ↓ws_set, ↓ws_own, ↓ws_ret, ↓ws_drop, ↓ws_if, ↓ws_asg, ↓ws_par3, ↓ws_par, ↓ws_setC, ↓wp_newc, ↓ws_app, ↓ws_ext, ↓ws_setI, ↓ws_frz, ↓ws_for, ↓wl_nil, ↓wl_cons, ↓wf_run, ↓retS_nx, ↓retS_rt, ↓lpS_nx, ↓lpS_ct, ↓lpS_br, ↓lpS_rt, ↓turn_nx, ↓turn_ct, ↓turn_br, ↓turn_rt, ↓wp_addI, ↓wp_addS, ↓wp_subI, ↓wp_mulI, ↓wp_divI, ↓wp_modI, ↓wp_powI, ↓wp_cmpI, ↓wp_eq, ↓wp_ne, ↓wp_negI, ↓wp_seqE, ↓wp_lstE, ↓wp_ixL, ↓wp_ixT, ↓wp_ixC, ↓wp_ixS, ↓wp_lenS, ↓wp_lenL, ↓wp_lenT, ↓wp_lenC, ↓wp_absI, ↓wp_intI, ↓wp_intB, ↓wp_intS, ↓wp_strI, ↓wp_boolI, ↓wp_boolB, ↓wp_all, ↓wp_any, ↓wp_sum, ↓wp_max2, ↓wp_min2, ↓wp_list, ↓wp_tuple, ↓wp_sorted, ↓wp_slS, ↓wp_slT, ↓wp_slLD, ↓wp_slC, ↓wp_slL, ↓wp_range1, ↓wp_range2, ↓wp_enum, ↓wp_enumT, ↓wp_zip, ↓wp_zipTT, ↓wp_zipTL, ↓wp_zipLT, ↓wp_cat, ↓wp_rep, ↓wp_inSg, ↓wp_notInSg, ↓wp_inL, ↓wp_inT, ↓wp_notIn, ↓wp_isN, ↓wp_notN, tt1, tt2, tt3, tt4, tt5, tt6, tu1, tu2, tu3, tu4, tu5, tu6, tu7, tu8, tu9, tu10, tu11, tu12, tu13, tu14, tu15, tu16, tu17, tu18, tu19, tu20, tu21, tu22, tu23, tu24, asB_bl, truD_non, truD_bl, truD_int, truD_str, truD_lst, truD_tup, asI_int, asS_str, items_lst, items_tup, items_str, valS_v, valB_v, valB_own, seqD_lst, seqD_tup, seqD_cell0, lstD_lst, lstD_cell0, cellL_0, own_lst, nonB_non, nonB_bl, nonB_int, nonB_str, nonB_lst, nonB_tup, nonB_cell, nonB_obj, bools_nil, bools_cons, ints_nil, ints_cons, eqD_ii, eqD_bb, eqD_ss, eqD_nn, eqD_ni, eqD_in, eqD_nb, eqD_bn, eqD_ns, eqD_sn, eqD_is, eqD_si, eqD_bs, eqD_sb, tag_non, tag_bl, tag_int, tag_str, tag_lst, tag_tup, tag_obj, bindP_nm, bindP_tp, bindPs_nil, bindPs_cons, ↓wp_get, ↓wp_meth, ↓wp_prop, ↓ws_setF, ↓wp_mk, ↓wp_own, ↓wp_kd, ↓wp_methK, ↓wp_ownNe, ↓wp_own1, ↓wp_ownT, ↓wp_fstr, ↓wp_fFn, ↓wp_fFc, ↓wp_fmtS, ↓wp_fmtI, kok_len, kok_repr, kok_bool, eqD_tt, eqD_ll, plB_non, plB_bl, plB_int, plB_str, plB_lst, plB_tup, eqBs_nn, eqBs_cc, eqBs_nc, eqBs_cn, eqB_ii, eqB_bb, eqB_ss, eqB_nn, eqB_ll, eqB_tt, eqB_ni, eqB_in, eqB_nt, eqB_tn, eqB_it, eqB_ti, ↓wp_addT, ↓wp_addL, ↓wp_mulL, objD_obj, objD_last, cellO_last, set_last, isO_obj, isO_last, putD_nil, putD_cons, lkp_nil, lkp_cons, bel_plain, bels_plain, belF_nil, belF_cons, rng_0, rng_1, rng_2, rng_3, enL_nil, enL_cons, zpL_nil, zpL_nilR, zpL_cons, ↓wp_maxL, ↓wp_minL, maxL_2, maxL_1, minL_2, minL_1, bel_non, bel_bl, bel_int, bel_str, bel_lst, bel_tup, bel_obj, bels_nil, bels_cons, kst_app0, ctl_hi, ctl_lo, ctl_no, kst_inj, ↓wp_rgI1, ↓wp_rgI2, ↓wp_rg1, ↓wp_rg2, ↓wp_callO, kst_beq, EG.runs, EG.run, ev, evs, evo, evr, evf, mkE, mkL, failL, bopF, copF, bltF, lbltF, env0, wipeE, isiAny, isi1, frzS, Cell.toD, atI_nn, setAt_nn, wp_inSg, Gam.put, clsTab, arrQ, arrP, Pick.of, kwM, rightB, E00, List.map_cons, List.map_nil, List.length_cons, List.length_nil, List.append_nil, List.nil_append, List.cons_append, List.getElem?_cons_zero, List.getElem?_cons_succ, List.getElem?_nil, List.set_cons_zero, List.set_cons_succ, List.filter_cons, List.filter_nil, List.contains_nil, List.elem_nil, Int.reduceNeg, Int.reducePow, nA10, nA2, le_big, Nat.reducePow, Nat.zero_add, Option.map_some, Option.bind_some, Int.reduceLE, Int.reduceToNat, Int.reduceLT, Nat.reduceLT, Nat.reduceAdd, Nat.reduceSub, true_and, and_true, decide_true, decide_false, List.length_append, List.length_map, Nat.reduceLeDiff, Nat.reduceEqDiff, Bool.not_true, Bool.not_false, decide_eq_true_eq, reduceCtorEq, Option.some.injEq, id_eq, List.all_cons, List.all_nil, List.any_cons, List.any_nil, Bool.and_true, Bool.true_and, Bool.and_false, Bool.false_and, Bool.or_true, Bool.or_false, Bool.true_or, Bool.false_or, Int.reduceAdd, Int.reduceSub, beq_self_eq_true, Option.isNone_none, Option.isNone_some, if_true, if_false, ite_true, ite_false, Nat.succ_eq_add_one, Int.natCast_add, Int.natCast_one, Int.cast_ofNat_Int, List.contains_cons, String.reduceEq, List.take_succ_cons, List.take_zero, List.drop_succ_cons, List.drop_zero, List.take_nil, List.drop_nil, List.replicate, Int.natCast_zero, Int.zero_add, kG0, kConsts, kFrees, kCls, kisi_0, kisi_1, kisi_2, kisi_3, kisi_4, kisi_5, kisi_6, kisi_7, kisi_8, kisi_9, kisi_10, kisi_11, kfld_0, dflD_law_pull, kwdD_law_pull, T_law_pull, dflD_law_readings, kwdD_law_readings, U0_law_pull, T_law_readings, dflD_is_number, kwdD_is_number, T_is_number, dflD_is_between, kwdD_is_between, U1_is_number, T_is_between, dflD_Rule_out, kwdD_Rule_out, T_Rule_out, dflD_Rule_back, kwdD_Rule_back, T_Rule_back, dflD_Rule_is_modes, kwdD_Rule_is_modes, U2_is_between, U3_Rule_out, U4_Rule_back, T_Rule_is_modes, dflD_law_same, kwdD_law_same, T_law_same, dflD_Rule_mode_behind, kwdD_Rule_mode_behind, T_Rule_mode_behind, dflD_Rule_distance, kwdD_Rule_distance, T_Rule_distance, dflD_Rule_hold, kwdD_Rule_hold, T_Rule_hold, dflD_Rule_ranks, kwdD_Rule_ranks, T_Rule_ranks, dflD_Rule_least, kwdD_Rule_least, T_Rule_least, dflD_Rule_ranked, kwdD_Rule_ranked, U5_Rule_hold, U6_Rule_ranks, U7_Rule_least, T_Rule_ranked, dflD_is_listed, kwdD_is_listed, T_is_listed, dflD_Rule_need_readings, kwdD_Rule_need_readings, U8_is_listed, T_Rule_need_readings, dflD_Rule_tick, kwdD_Rule_tick, U9_Rule_mode_behind, U10_Rule_ranked, U11_Rule_distance, U12_Rule_need_readings, T_Rule_tick, dflD_Rule_call, kwdD_Rule_call, U13_Rule_tick, T_Rule_call, dflD_law_picked, kwdD_law_picked, T_law_picked, dflD_law_behind, kwdD_law_behind, T_law_behind, dflD_law_tick, kwdD_law_tick, U14_law_behind, U15_law_picked, T_law_tick, dflD_law_of, kwdD_law_of, T_law_of, dflD_are_ranks, kwdD_are_ranks, T_are_ranks, dflD_is_amount, kwdD_is_amount, T_is_amount, dflD_Rule_init, kwdD_Rule_init, U16_are_ranks, U17_is_amount, T_Rule_init, dflD_law_rule_made, kwdD_law_rule_made, U18_Rule_init, T_law_rule_made, dflD_law_rule, kwdD_law_rule, U19_law_of, T_law_rule, dflD_law_bag, kwdD_law_bag, T_law_bag, dflD_law, kwdD_law, U20_law_readings, U21_law_same, U22_law_tick, U23_law_rule_made, U24_law_rule, U25_law_bag, U26_Rule_is_modes, U27_Rule_call, U28_Rule_tick, U29_Rule_tick, T_law, objD_Ru, tag_Ru, isO_Ru]
    refine wp_of_eq (compL_pure (isKD (L.map (rdg x1 x2 x3)) (rr - 1).toNat) id ((L.map (rdg x1 x2 x3)).map .int) fun dd hd => ?_) ?_
    · obtain ⟨v, hv, rfl⟩ := List.mem_map.mp hd
      refine ⟨_, bindP_nm, ?_, fun _ => by sizeOf_list_dec⟩
      simp only [↓br_true, ↓br_false, ↓op_some, ↓wp_bind, ↓wp_pure, ↓wp_fail, ↓wp_opt, ↓wp_guard, ↓wp_v, ↓wp_vB, ↓wp_c, ↓wp_op2, ↓wp_op2L, ↓wp_t, ↓wp_tru, ↓wp_chain, ↓wp_andT, ↓wp_orT, ↓wp_notT, ↓wp_andV, ↓wp_orV, ↓wp_notV, ↓wp_if, ↓wp_nil, ↓wp_cons, ↓wp_tup, ↓wp_lst, ↓wp_D, ↓wp_cb, ↓wp_call, ↓wp_isi, ↓wp_neg, ↓wp_sl, ↓wp_noP, ↓wp_P, ↓wp_yes, ↓wp_items, ↓wp_signs, ↓wp_comp, ↓ws_seq, ↓thn_nx, ↓thn_rt, ↓thn_br, ↓thn_ct, ↓thn_exc, ↓ws_skip, ↓ws_break, ↓ws_cont, ↓ws_retN, ↓ws_set, ↓ws_own, ↓ws_ret, ↓ws_drop, ↓ws_if, ↓ws_asg, ↓ws_par3, ↓ws_par, ↓ws_setC, ↓wp_newc, ↓ws_app, ↓ws_ext, ↓ws_setI, ↓ws_frz, ↓ws_for, ↓wl_nil, ↓wl_cons, ↓wf_run, ↓retS_nx, ↓retS_rt, ↓lpS_nx, ↓lpS_ct, ↓lpS_br, ↓lpS_rt, ↓turn_nx, ↓turn_ct, ↓turn_br, ↓turn_rt, ↓wp_addI, ↓wp_addS, ↓wp_subI, ↓wp_mulI, ↓wp_divI, ↓wp_modI, ↓wp_powI, ↓wp_cmpI, ↓wp_eq, ↓wp_ne, ↓wp_negI, ↓wp_seqE, ↓wp_lstE, ↓wp_ixL, ↓wp_ixT, ↓wp_ixC, ↓wp_ixS, ↓wp_lenS, ↓wp_lenL, ↓wp_lenT, ↓wp_lenC, ↓wp_absI, ↓wp_intI, ↓wp_intB, ↓wp_intS, ↓wp_strI, ↓wp_boolI, ↓wp_boolB, ↓wp_all, ↓wp_any, ↓wp_sum, ↓wp_max2, ↓wp_min2, ↓wp_list, ↓wp_tuple, ↓wp_sorted, ↓wp_slS, ↓wp_slT, ↓wp_slLD, ↓wp_slC, ↓wp_slL, ↓wp_range1, ↓wp_range2, ↓wp_enum, ↓wp_enumT, ↓wp_zip, ↓wp_zipTT, ↓wp_zipTL, ↓wp_zipLT, ↓wp_cat, ↓wp_rep, ↓wp_inSg, ↓wp_notInSg, ↓wp_inL, ↓wp_inT, ↓wp_notIn, ↓wp_isN, ↓wp_notN, tt1, tt2, tt3, tt4, tt5, tt6, tu1, tu2, tu3, tu4, tu5, tu6, tu7, tu8, tu9, tu10, tu11, tu12, tu13, tu14, tu15, tu16, tu17, tu18, tu19, tu20, tu21, tu22, tu23, tu24, asB_bl, truD_non, truD_bl, truD_int, truD_str, truD_lst, truD_tup, asI_int, asS_str, items_lst, items_tup, items_str, valS_v, valB_v, valB_own, seqD_lst, seqD_tup, seqD_cell0, lstD_lst, lstD_cell0, cellL_0, own_lst, nonB_non, nonB_bl, nonB_int, nonB_str, nonB_lst, nonB_tup, nonB_cell, nonB_obj, bools_nil, bools_cons, ints_nil, ints_cons, eqD_ii, eqD_bb, eqD_ss, eqD_nn, eqD_ni, eqD_in, eqD_nb, eqD_bn, eqD_ns, eqD_sn, eqD_is, eqD_si, eqD_bs, eqD_sb, tag_non, tag_bl, tag_int, tag_str, tag_lst, tag_tup, tag_obj, bindP_nm, bindP_tp, bindPs_nil, bindPs_cons, ↓wp_get, ↓wp_meth, ↓wp_prop, ↓ws_setF, ↓wp_mk, ↓wp_own, ↓wp_kd, ↓wp_methK, ↓wp_ownNe, ↓wp_own1, ↓wp_ownT, ↓wp_fstr, ↓wp_fFn, ↓wp_fFc, ↓wp_fmtS, ↓wp_fmtI, kok_len, kok_repr, kok_bool, eqD_tt, eqD_ll, plB_non, plB_bl, plB_int, plB_str, plB_lst, plB_tup, eqBs_nn, eqBs_cc, eqBs_nc, eqBs_cn, eqB_ii, eqB_bb, eqB_ss, eqB_nn, eqB_ll, eqB_tt, eqB_ni, eqB_in, eqB_nt, eqB_tn, eqB_it, eqB_ti, ↓wp_addT, ↓wp_addL, ↓wp_mulL, objD_obj, objD_last, cellO_last, set_last, isO_obj, isO_last, putD_nil, putD_cons, lkp_nil, lkp_cons, bel_plain, bels_plain, belF_nil, belF_cons, rng_0, rng_1, rng_2, rng_3, enL_nil, enL_cons, zpL_nil, zpL_nilR, zpL_cons, ↓wp_maxL, ↓wp_minL, maxL_2, maxL_1, minL_2, minL_1, bel_non, bel_bl, bel_int, bel_str, bel_lst, bel_tup, bel_obj, bels_nil, bels_cons, kst_app0, ctl_hi, ctl_lo, ctl_no, kst_inj, ↓wp_rgI1, ↓wp_rgI2, ↓wp_rg1, ↓wp_rg2, ↓wp_callO, kst_beq, EG.runs, EG.run, ev, evs, evo, evr, evf, mkE, mkL, failL, bopF, copF, bltF, lbltF, env0, wipeE, isiAny, isi1, frzS, Cell.toD, atI_nn, setAt_nn, wp_inSg, Gam.put, clsTab, arrQ, arrP, Pick.of, kwM, rightB, E00, List.map_cons, List.map_nil, List.length_cons, List.length_nil, List.append_nil, List.nil_append, List.cons_append, List.getElem?_cons_zero, List.getElem?_cons_succ, List.getElem?_nil, List.set_cons_zero, List.set_cons_succ, List.filter_cons, List.filter_nil, List.contains_nil, List.elem_nil, Int.reduceNeg, Int.reducePow, nA10, nA2, le_big, Nat.reducePow, Nat.zero_add, Option.map_some, Option.bind_some, Int.reduceLE, Int.reduceToNat, Int.reduceLT, Nat.reduceLT, Nat.reduceAdd, Nat.reduceSub, true_and, and_true, decide_true, decide_false, List.length_append, List.length_map, Nat.reduceLeDiff, Nat.reduceEqDiff, Bool.not_true, Bool.not_false, decide_eq_true_eq, reduceCtorEq, Option.some.injEq, id_eq, List.all_cons, List.all_nil, List.any_cons, List.any_nil, Bool.and_true, Bool.true_and, Bool.and_false, Bool.false_and, Bool.or_true, Bool.or_false, Bool.true_or, Bool.false_or, Int.reduceAdd, Int.reduceSub, beq_self_eq_true, Option.isNone_none, Option.isNone_some, if_true, if_false, ite_true, ite_false, Nat.succ_eq_add_one, Int.natCast_add, Int.natCast_one, Int.cast_ofNat_Int, List.contains_cons, String.reduceEq, List.take_succ_cons, List.take_zero, List.drop_succ_cons, List.drop_zero, List.take_nil, List.drop_nil, List.replicate, Int.natCast_zero, Int.zero_add, kG0, kConsts, kFrees, kCls, kisi_0, kisi_1, kisi_2, kisi_3, kisi_4, kisi_5, kisi_6, kisi_7, kisi_8, kisi_9, kisi_10, kisi_11, kfld_0, dflD_law_pull, kwdD_law_pull, T_law_pull, dflD_law_readings, kwdD_law_readings, U0_law_pull, T_law_readings, dflD_is_number, kwdD_is_number, T_is_number, dflD_is_between, kwdD_is_between, U1_is_number, T_is_between, dflD_Rule_out, kwdD_Rule_out, T_Rule_out, dflD_Rule_back, kwdD_Rule_back, T_Rule_back, dflD_Rule_is_modes, kwdD_Rule_is_modes, U2_is_between, U3_Rule_out, U4_Rule_back, T_Rule_is_modes, dflD_law_same, kwdD_law_same, T_law_same, dflD_Rule_mode_behind, kwdD_Rule_mode_behind, T_Rule_mode_behind, dflD_Rule_distance, kwdD_Rule_distance, T_Rule_distance, dflD_Rule_hold, kwdD_Rule_hold, T_Rule_hold, dflD_Rule_ranks, kwdD_Rule_ranks, T_Rule_ranks, dflD_Rule_least, kwdD_Rule_least, T_Rule_least, dflD_Rule_ranked, kwdD_Rule_ranked, U5_Rule_hold, U6_Rule_ranks, U7_Rule_least, T_Rule_ranked, dflD_is_listed, kwdD_is_listed, T_is_listed, dflD_Rule_need_readings, kwdD_Rule_need_readings, U8_is_listed, T_Rule_need_readings, dflD_Rule_tick, kwdD_Rule_tick, U9_Rule_mode_behind, U10_Rule_ranked, U11_Rule_distance, U12_Rule_need_readings, T_Rule_tick, dflD_Rule_call, kwdD_Rule_call, U13_Rule_tick, T_Rule_call, dflD_law_picked, kwdD_law_picked, T_law_picked, dflD_law_behind, kwdD_law_behind, T_law_behind, dflD_law_tick, kwdD_law_tick, U14_law_behind, U15_law_picked, T_law_tick, dflD_law_of, kwdD_law_of, T_law_of, dflD_are_ranks, kwdD_are_ranks, T_are_ranks, dflD_is_amount, kwdD_is_amount, T_is_amount, dflD_Rule_init, kwdD_Rule_init, U16_are_ranks, U17_is_amount, T_Rule_init, dflD_law_rule_made, kwdD_law_rule_made, U18_Rule_init, T_law_rule_made, dflD_law_rule, kwdD_law_rule, U19_law_of, T_law_rule, dflD_law_bag, kwdD_law_bag, T_law_bag, dflD_law, kwdD_law, U20_law_readings, U21_law_same, U22_law_tick, U23_law_rule_made, U24_law_rule, U25_law_bag, U26_Rule_is_modes, U27_Rule_call, U28_Rule_tick, U29_Rule_tick, T_law, objD_Ru, tag_Ru, isO_Ru]
      refine wp_of_eq (compL_pure (ltD v) id ((L.map (rdg x1 x2 x3)).map .int) fun dd hd => ?_) ?_
      · obtain ⟨u, hu, rfl⟩ := List.mem_map.mp hd
        refine ⟨_, bindP_nm, ?_, fun _ => ?_⟩ <;> simp only [↓br_true, ↓br_false, ↓op_some, ↓wp_bind, ↓wp_pure, ↓wp_fail, ↓wp_opt, ↓wp_guard, ↓wp_v, ↓wp_vB, ↓wp_c, ↓wp_op2, ↓wp_op2L, ↓wp_t, ↓wp_tru, ↓wp_chain, ↓wp_andT, ↓wp_orT, ↓wp_notT, ↓wp_andV, ↓wp_orV, ↓wp_notV, ↓wp_if, ↓wp_nil, ↓wp_cons, ↓wp_tup, ↓wp_lst, ↓wp_D, ↓wp_cb, ↓wp_call, ↓wp_isi, ↓wp_neg, ↓wp_sl, ↓wp_noP, ↓wp_P, ↓wp_yes, ↓wp_items, ↓wp_signs, ↓wp_comp, ↓ws_seq, ↓thn_nx, ↓thn_rt, ↓thn_br, ↓thn_ct, ↓thn_exc, ↓ws_skip, ↓ws_break, ↓ws_cont, ↓ws_retN, ↓ws_set, ↓ws_own, ↓ws_ret, ↓ws_drop, ↓ws_if, ↓ws_asg, ↓ws_par3, ↓ws_par, ↓ws_setC, ↓wp_newc, ↓ws_app, ↓ws_ext, ↓ws_setI, ↓ws_frz, ↓ws_for, ↓wl_nil, ↓wl_cons, ↓wf_run, ↓retS_nx, ↓retS_rt, ↓lpS_nx, ↓lpS_ct, ↓lpS_br, ↓lpS_rt, ↓turn_nx, ↓turn_ct, ↓turn_br, ↓turn_rt, ↓wp_addI, ↓wp_addS, ↓wp_subI, ↓wp_mulI, ↓wp_divI, ↓wp_modI, ↓wp_powI, ↓wp_cmpI, ↓wp_eq, ↓wp_ne, ↓wp_negI, ↓wp_seqE, ↓wp_lstE, ↓wp_ixL, ↓wp_ixT, ↓wp_ixC, ↓wp_ixS, ↓wp_lenS, ↓wp_lenL, ↓wp_lenT, ↓wp_lenC, ↓wp_absI, ↓wp_intI, ↓wp_intB, ↓wp_intS, ↓wp_strI, ↓wp_boolI, ↓wp_boolB, ↓wp_all, ↓wp_any, ↓wp_sum, ↓wp_max2, ↓wp_min2, ↓wp_list, ↓wp_tuple, ↓wp_sorted, ↓wp_slS, ↓wp_slT, ↓wp_slLD, ↓wp_slC, ↓wp_slL, ↓wp_range1, ↓wp_range2, ↓wp_enum, ↓wp_enumT, ↓wp_zip, ↓wp_zipTT, ↓wp_zipTL, ↓wp_zipLT, ↓wp_cat, ↓wp_rep, ↓wp_inSg, ↓wp_notInSg, ↓wp_inL, ↓wp_inT, ↓wp_notIn, ↓wp_isN, ↓wp_notN, tt1, tt2, tt3, tt4, tt5, tt6, tu1, tu2, tu3, tu4, tu5, tu6, tu7, tu8, tu9, tu10, tu11, tu12, tu13, tu14, tu15, tu16, tu17, tu18, tu19, tu20, tu21, tu22, tu23, tu24, asB_bl, truD_non, truD_bl, truD_int, truD_str, truD_lst, truD_tup, asI_int, asS_str, items_lst, items_tup, items_str, valS_v, valB_v, valB_own, seqD_lst, seqD_tup, seqD_cell0, lstD_lst, lstD_cell0, cellL_0, own_lst, nonB_non, nonB_bl, nonB_int, nonB_str, nonB_lst, nonB_tup, nonB_cell, nonB_obj, bools_nil, bools_cons, ints_nil, ints_cons, eqD_ii, eqD_bb, eqD_ss, eqD_nn, eqD_ni, eqD_in, eqD_nb, eqD_bn, eqD_ns, eqD_sn, eqD_is, eqD_si, eqD_bs, eqD_sb, tag_non, tag_bl, tag_int, tag_str, tag_lst, tag_tup, tag_obj, bindP_nm, bindP_tp, bindPs_nil, bindPs_cons, ↓wp_get, ↓wp_meth, ↓wp_prop, ↓ws_setF, ↓wp_mk, ↓wp_own, ↓wp_kd, ↓wp_methK, ↓wp_ownNe, ↓wp_own1, ↓wp_ownT, ↓wp_fstr, ↓wp_fFn, ↓wp_fFc, ↓wp_fmtS, ↓wp_fmtI, kok_len, kok_repr, kok_bool, eqD_tt, eqD_ll, plB_non, plB_bl, plB_int, plB_str, plB_lst, plB_tup, eqBs_nn, eqBs_cc, eqBs_nc, eqBs_cn, eqB_ii, eqB_bb, eqB_ss, eqB_nn, eqB_ll, eqB_tt, eqB_ni, eqB_in, eqB_nt, eqB_tn, eqB_it, eqB_ti, ↓wp_addT, ↓wp_addL, ↓wp_mulL, objD_obj, objD_last, cellO_last, set_last, isO_obj, isO_last, putD_nil, putD_cons, lkp_nil, lkp_cons, bel_plain, bels_plain, belF_nil, belF_cons, rng_0, rng_1, rng_2, rng_3, enL_nil, enL_cons, zpL_nil, zpL_nilR, zpL_cons, ↓wp_maxL, ↓wp_minL, maxL_2, maxL_1, minL_2, minL_1, bel_non, bel_bl, bel_int, bel_str, bel_lst, bel_tup, bel_obj, bels_nil, bels_cons, kst_app0, ctl_hi, ctl_lo, ctl_no, kst_inj, ↓wp_rgI1, ↓wp_rgI2, ↓wp_rg1, ↓wp_rg2, ↓wp_callO, kst_beq, EG.runs, EG.run, ev, evs, evo, evr, evf, mkE, mkL, failL, bopF, copF, bltF, lbltF, env0, wipeE, isiAny, isi1, frzS, Cell.toD, atI_nn, setAt_nn, wp_inSg, Gam.put, clsTab, arrQ, arrP, Pick.of, kwM, rightB, E00, List.map_cons, List.map_nil, List.length_cons, List.length_nil, List.append_nil, List.nil_append, List.cons_append, List.getElem?_cons_zero, List.getElem?_cons_succ, List.getElem?_nil, List.set_cons_zero, List.set_cons_succ, List.filter_cons, List.filter_nil, List.contains_nil, List.elem_nil, Int.reduceNeg, Int.reducePow, nA10, nA2, le_big, Nat.reducePow, Nat.zero_add, Option.map_some, Option.bind_some, Int.reduceLE, Int.reduceToNat, Int.reduceLT, Nat.reduceLT, Nat.reduceAdd, Nat.reduceSub, true_and, and_true, decide_true, decide_false, List.length_append, List.length_map, Nat.reduceLeDiff, Nat.reduceEqDiff, Bool.not_true, Bool.not_false, decide_eq_true_eq, reduceCtorEq, Option.some.injEq, id_eq, List.all_cons, List.all_nil, List.any_cons, List.any_nil, Bool.and_true, Bool.true_and, Bool.and_false, Bool.false_and, Bool.or_true, Bool.or_false, Bool.true_or, Bool.false_or, Int.reduceAdd, Int.reduceSub, beq_self_eq_true, Option.isNone_none, Option.isNone_some, if_true, if_false, ite_true, ite_false, Nat.succ_eq_add_one, Int.natCast_add, Int.natCast_one, Int.cast_ofNat_Int, List.contains_cons, String.reduceEq, List.take_succ_cons, List.take_zero, List.drop_succ_cons, List.drop_zero, List.take_nil, List.drop_nil, List.replicate, Int.natCast_zero, Int.zero_add, kG0, kConsts, kFrees, kCls, kisi_0, kisi_1, kisi_2, kisi_3, kisi_4, kisi_5, kisi_6, kisi_7, kisi_8, kisi_9, kisi_10, kisi_11, kfld_0, dflD_law_pull, kwdD_law_pull, T_law_pull, dflD_law_readings, kwdD_law_readings, U0_law_pull, T_law_readings, dflD_is_number, kwdD_is_number, T_is_number, dflD_is_between, kwdD_is_between, U1_is_number, T_is_between, dflD_Rule_out, kwdD_Rule_out, T_Rule_out, dflD_Rule_back, kwdD_Rule_back, T_Rule_back, dflD_Rule_is_modes, kwdD_Rule_is_modes, U2_is_between, U3_Rule_out, U4_Rule_back, T_Rule_is_modes, dflD_law_same, kwdD_law_same, T_law_same, dflD_Rule_mode_behind, kwdD_Rule_mode_behind, T_Rule_mode_behind, dflD_Rule_distance, kwdD_Rule_distance, T_Rule_distance, dflD_Rule_hold, kwdD_Rule_hold, T_Rule_hold, dflD_Rule_ranks, kwdD_Rule_ranks, T_Rule_ranks, dflD_Rule_least, kwdD_Rule_least, T_Rule_least, dflD_Rule_ranked, kwdD_Rule_ranked, U5_Rule_hold, U6_Rule_ranks, U7_Rule_least, T_Rule_ranked, dflD_is_listed, kwdD_is_listed, T_is_listed, dflD_Rule_need_readings, kwdD_Rule_need_readings, U8_is_listed, T_Rule_need_readings, dflD_Rule_tick, kwdD_Rule_tick, U9_Rule_mode_behind, U10_Rule_ranked, U11_Rule_distance, U12_Rule_need_readings, T_Rule_tick, dflD_Rule_call, kwdD_Rule_call, U13_Rule_tick, T_Rule_call, dflD_law_picked, kwdD_law_picked, T_law_picked, dflD_law_behind, kwdD_law_behind, T_law_behind, dflD_law_tick, kwdD_law_tick, U14_law_behind, U15_law_picked, T_law_tick, dflD_law_of, kwdD_law_of, T_law_of, dflD_are_ranks, kwdD_are_ranks, T_are_ranks, dflD_is_amount, kwdD_is_amount, T_is_amount, dflD_Rule_init, kwdD_Rule_init, U16_are_ranks, U17_is_amount, T_Rule_init, dflD_law_rule_made, kwdD_law_rule_made, U18_Rule_init, T_law_rule_made, dflD_law_rule, kwdD_law_rule, U19_law_of, T_law_rule, dflD_law_bag, kwdD_law_bag, T_law_bag, dflD_law, kwdD_law, U20_law_readings, U21_law_same, U22_law_tick, U23_law_rule_made, U24_law_rule, U25_law_bag, U26_Rule_is_modes, U27_Rule_call, U28_Rule_tick, U29_Rule_tick, T_law, objD_Ru, tag_Ru, isO_Ru] <;> rfl
      rw [List.map_id]
      simp only [↓br_true, ↓br_false, ↓op_some, ↓wp_bind, ↓wp_pure, ↓wp_fail, ↓wp_opt, ↓wp_guard, ↓wp_v, ↓wp_vB, ↓wp_c, ↓wp_op2, ↓wp_op2L, ↓wp_t, ↓wp_tru, ↓wp_chain, ↓wp_andT, ↓wp_orT, ↓wp_notT, ↓wp_andV, ↓wp_orV, ↓wp_notV, ↓wp_if, ↓wp_nil, ↓wp_cons, ↓wp_tup, ↓wp_lst, ↓wp_D, ↓wp_cb, ↓wp_call, ↓wp_isi, ↓wp_neg, ↓wp_sl, ↓wp_noP, ↓wp_P, ↓wp_yes, ↓wp_items, ↓wp_signs, ↓wp_comp, ↓ws_seq, ↓thn_nx, ↓thn_rt, ↓thn_br, ↓thn_ct, ↓thn_exc, ↓ws_skip, ↓ws_break, ↓ws_cont, ↓ws_retN, ↓ws_set, ↓ws_own, ↓ws_ret, ↓ws_drop, ↓ws_if, ↓ws_asg, ↓ws_par3, ↓ws_par, ↓ws_setC, ↓wp_newc, ↓ws_app, ↓ws_ext, ↓ws_setI, ↓ws_frz, ↓ws_for, ↓wl_nil, ↓wl_cons, ↓wf_run, ↓retS_nx, ↓retS_rt, ↓lpS_nx, ↓lpS_ct, ↓lpS_br, ↓lpS_rt, ↓turn_nx, ↓turn_ct, ↓turn_br, ↓turn_rt, ↓wp_addI, ↓wp_addS, ↓wp_subI, ↓wp_mulI, ↓wp_divI, ↓wp_modI, ↓wp_powI, ↓wp_cmpI, ↓wp_eq, ↓wp_ne, ↓wp_negI, ↓wp_seqE, ↓wp_lstE, ↓wp_ixL, ↓wp_ixT, ↓wp_ixC, ↓wp_ixS, ↓wp_lenS, ↓wp_lenL, ↓wp_lenT, ↓wp_lenC, ↓wp_absI, ↓wp_intI, ↓wp_intB, ↓wp_intS, ↓wp_strI, ↓wp_boolI, ↓wp_boolB, ↓wp_all, ↓wp_any, ↓wp_sum, ↓wp_max2, ↓wp_min2, ↓wp_list, ↓wp_tuple, ↓wp_sorted, ↓wp_slS, ↓wp_slT, ↓wp_slLD, ↓wp_slC, ↓wp_slL, ↓wp_range1, ↓wp_range2, ↓wp_enum, ↓wp_enumT, ↓wp_zip, ↓wp_zipTT, ↓wp_zipTL, ↓wp_zipLT, ↓wp_cat, ↓wp_rep, ↓wp_inSg, ↓wp_notInSg, ↓wp_inL, ↓wp_inT, ↓wp_notIn, ↓wp_isN, ↓wp_notN, tt1, tt2, tt3, tt4, tt5, tt6, tu1, tu2, tu3, tu4, tu5, tu6, tu7, tu8, tu9, tu10, tu11, tu12, tu13, tu14, tu15, tu16, tu17, tu18, tu19, tu20, tu21, tu22, tu23, tu24, asB_bl, truD_non, truD_bl, truD_int, truD_str, truD_lst, truD_tup, asI_int, asS_str, items_lst, items_tup, items_str, valS_v, valB_v, valB_own, seqD_lst, seqD_tup, seqD_cell0, lstD_lst, lstD_cell0, cellL_0, own_lst, nonB_non, nonB_bl, nonB_int, nonB_str, nonB_lst, nonB_tup, nonB_cell, nonB_obj, bools_nil, bools_cons, ints_nil, ints_cons, eqD_ii, eqD_bb, eqD_ss, eqD_nn, eqD_ni, eqD_in, eqD_nb, eqD_bn, eqD_ns, eqD_sn, eqD_is, eqD_si, eqD_bs, eqD_sb, tag_non, tag_bl, tag_int, tag_str, tag_lst, tag_tup, tag_obj, bindP_nm, bindP_tp, bindPs_nil, bindPs_cons, ↓wp_get, ↓wp_meth, ↓wp_prop, ↓ws_setF, ↓wp_mk, ↓wp_own, ↓wp_kd, ↓wp_methK, ↓wp_ownNe, ↓wp_own1, ↓wp_ownT, ↓wp_fstr, ↓wp_fFn, ↓wp_fFc, ↓wp_fmtS, ↓wp_fmtI, kok_len, kok_repr, kok_bool, eqD_tt, eqD_ll, plB_non, plB_bl, plB_int, plB_str, plB_lst, plB_tup, eqBs_nn, eqBs_cc, eqBs_nc, eqBs_cn, eqB_ii, eqB_bb, eqB_ss, eqB_nn, eqB_ll, eqB_tt, eqB_ni, eqB_in, eqB_nt, eqB_tn, eqB_it, eqB_ti, ↓wp_addT, ↓wp_addL, ↓wp_mulL, objD_obj, objD_last, cellO_last, set_last, isO_obj, isO_last, putD_nil, putD_cons, lkp_nil, lkp_cons, bel_plain, bels_plain, belF_nil, belF_cons, rng_0, rng_1, rng_2, rng_3, enL_nil, enL_cons, zpL_nil, zpL_nilR, zpL_cons, ↓wp_maxL, ↓wp_minL, maxL_2, maxL_1, minL_2, minL_1, bel_non, bel_bl, bel_int, bel_str, bel_lst, bel_tup, bel_obj, bels_nil, bels_cons, kst_app0, ctl_hi, ctl_lo, ctl_no, kst_inj, ↓wp_rgI1, ↓wp_rgI2, ↓wp_rg1, ↓wp_rg2, ↓wp_callO, kst_beq, EG.runs, EG.run, ev, evs, evo, evr, evf, mkE, mkL, failL, bopF, copF, bltF, lbltF, env0, wipeE, isiAny, isi1, frzS, Cell.toD, atI_nn, setAt_nn, wp_inSg, Gam.put, clsTab, arrQ, arrP, Pick.of, kwM, rightB, E00, List.map_cons, List.map_nil, List.length_cons, List.length_nil, List.append_nil, List.nil_append, List.cons_append, List.getElem?_cons_zero, List.getElem?_cons_succ, List.getElem?_nil, List.set_cons_zero, List.set_cons_succ, List.filter_cons, List.filter_nil, List.contains_nil, List.elem_nil, Int.reduceNeg, Int.reducePow, nA10, nA2, le_big, Nat.reducePow, Nat.zero_add, Option.map_some, Option.bind_some, Int.reduceLE, Int.reduceToNat, Int.reduceLT, Nat.reduceLT, Nat.reduceAdd, Nat.reduceSub, true_and, and_true, decide_true, decide_false, List.length_append, List.length_map, Nat.reduceLeDiff, Nat.reduceEqDiff, Bool.not_true, Bool.not_false, decide_eq_true_eq, reduceCtorEq, Option.some.injEq, id_eq, List.all_cons, List.all_nil, List.any_cons, List.any_nil, Bool.and_true, Bool.true_and, Bool.and_false, Bool.false_and, Bool.or_true, Bool.or_false, Bool.true_or, Bool.false_or, Int.reduceAdd, Int.reduceSub, beq_self_eq_true, Option.isNone_none, Option.isNone_some, if_true, if_false, ite_true, ite_false, Nat.succ_eq_add_one, Int.natCast_add, Int.natCast_one, Int.cast_ofNat_Int, List.contains_cons, String.reduceEq, List.take_succ_cons, List.take_zero, List.drop_succ_cons, List.drop_zero, List.take_nil, List.drop_nil, List.replicate, Int.natCast_zero, Int.zero_add, kG0, kConsts, kFrees, kCls, kisi_0, kisi_1, kisi_2, kisi_3, kisi_4, kisi_5, kisi_6, kisi_7, kisi_8, kisi_9, kisi_10, kisi_11, kfld_0, dflD_law_pull, kwdD_law_pull, T_law_pull, dflD_law_readings, kwdD_law_readings, U0_law_pull, T_law_readings, dflD_is_number, kwdD_is_number, T_is_number, dflD_is_between, kwdD_is_between, U1_is_number, T_is_between, dflD_Rule_out, kwdD_Rule_out, T_Rule_out, dflD_Rule_back, kwdD_Rule_back, T_Rule_back, dflD_Rule_is_modes, kwdD_Rule_is_modes, U2_is_between, U3_Rule_out, U4_Rule_back, T_Rule_is_modes, dflD_law_same, kwdD_law_same, T_law_same, dflD_Rule_mode_behind, kwdD_Rule_mode_behind, T_Rule_mode_behind, dflD_Rule_distance, kwdD_Rule_distance, T_Rule_distance, dflD_Rule_hold, kwdD_Rule_hold, T_Rule_hold, dflD_Rule_ranks, kwdD_Rule_ranks, T_Rule_ranks, dflD_Rule_least, kwdD_Rule_least, T_Rule_least, dflD_Rule_ranked, kwdD_Rule_ranked, U5_Rule_hold, U6_Rule_ranks, U7_Rule_least, T_Rule_ranked, dflD_is_listed, kwdD_is_listed, T_is_listed, dflD_Rule_need_readings, kwdD_Rule_need_readings, U8_is_listed, T_Rule_need_readings, dflD_Rule_tick, kwdD_Rule_tick, U9_Rule_mode_behind, U10_Rule_ranked, U11_Rule_distance, U12_Rule_need_readings, T_Rule_tick, dflD_Rule_call, kwdD_Rule_call, U13_Rule_tick, T_Rule_call, dflD_law_picked, kwdD_law_picked, T_law_picked, dflD_law_behind, kwdD_law_behind, T_law_behind, dflD_law_tick, kwdD_law_tick, U14_law_behind, U15_law_picked, T_law_tick, dflD_law_of, kwdD_law_of, T_law_of, dflD_are_ranks, kwdD_are_ranks, T_are_ranks, dflD_is_amount, kwdD_is_amount, T_is_amount, dflD_Rule_init, kwdD_Rule_init, U16_are_ranks, U17_is_amount, T_Rule_init, dflD_law_rule_made, kwdD_law_rule_made, U18_Rule_init, T_law_rule_made, dflD_law_rule, kwdD_law_rule, U19_law_of, T_law_rule, dflD_law_bag, kwdD_law_bag, T_law_bag, dflD_law, kwdD_law, U20_law_readings, U21_law_same, U22_law_tick, U23_law_rule_made, U24_law_rule, U25_law_bag, U26_Rule_is_modes, U27_Rule_call, U28_Rule_tick, U29_Rule_tick, T_law, objD_Ru, tag_Ru, isO_Ru, lt_len]
      have ek : isKD (L.map (rdg x1 x2 x3)) (rr - 1).toNat (.int v) = (decide ((lows (L.map (rdg x1 x2 x3)) v : Int) < rr) && decide (rr ≤ (upto (L.map (rdg x1 x2 x3)) v : Int))) := isK_int k2
      rw [ek]
      refine br_cases (fun e => ?_) (fun e => ?_)
      · simp only [↓br_true, ↓br_false, ↓op_some, ↓wp_bind, ↓wp_pure, ↓wp_fail, ↓wp_opt, ↓wp_guard, ↓wp_v, ↓wp_vB, ↓wp_c, ↓wp_op2, ↓wp_op2L, ↓wp_t, ↓wp_tru, ↓wp_chain, ↓wp_andT, ↓wp_orT, ↓wp_notT, ↓wp_andV, ↓wp_orV, ↓wp_notV, ↓wp_if, ↓wp_nil, ↓wp_cons, ↓wp_tup, ↓wp_lst, ↓wp_D, ↓wp_cb, ↓wp_call, ↓wp_isi, ↓wp_neg, ↓wp_sl, ↓wp_noP, ↓wp_P, ↓wp_yes, ↓wp_items, ↓wp_signs, ↓wp_comp, ↓ws_seq, ↓thn_nx, ↓thn_rt, ↓thn_br, ↓thn_ct, ↓thn_exc, ↓ws_skip, ↓ws_break, ↓ws_cont, ↓ws_retN, ↓ws_set, ↓ws_own, ↓ws_ret, ↓ws_drop, ↓ws_if, ↓ws_asg, ↓ws_par3, ↓ws_par, ↓ws_setC, ↓wp_newc, ↓ws_app, ↓ws_ext, ↓ws_setI, ↓ws_frz, ↓ws_for, ↓wl_nil, ↓wl_cons, ↓wf_run, ↓retS_nx, ↓retS_rt, ↓lpS_nx, ↓lpS_ct, ↓lpS_br, ↓lpS_rt, ↓turn_nx, ↓turn_ct, ↓turn_br, ↓turn_rt, ↓wp_addI, ↓wp_addS, ↓wp_subI, ↓wp_mulI, ↓wp_divI, ↓wp_modI, ↓wp_powI, ↓wp_cmpI, ↓wp_eq, ↓wp_ne, ↓wp_negI, ↓wp_seqE, ↓wp_lstE, ↓wp_ixL, ↓wp_ixT, ↓wp_ixC, ↓wp_ixS, ↓wp_lenS, ↓wp_lenL, ↓wp_lenT, ↓wp_lenC, ↓wp_absI, ↓wp_intI, ↓wp_intB, ↓wp_intS, ↓wp_strI, ↓wp_boolI, ↓wp_boolB, ↓wp_all, ↓wp_any, ↓wp_sum, ↓wp_max2, ↓wp_min2, ↓wp_list, ↓wp_tuple, ↓wp_sorted, ↓wp_slS, ↓wp_slT, ↓wp_slLD, ↓wp_slC, ↓wp_slL, ↓wp_range1, ↓wp_range2, ↓wp_enum, ↓wp_enumT, ↓wp_zip, ↓wp_zipTT, ↓wp_zipTL, ↓wp_zipLT, ↓wp_cat, ↓wp_rep, ↓wp_inSg, ↓wp_notInSg, ↓wp_inL, ↓wp_inT, ↓wp_notIn, ↓wp_isN, ↓wp_notN, tt1, tt2, tt3, tt4, tt5, tt6, tu1, tu2, tu3, tu4, tu5, tu6, tu7, tu8, tu9, tu10, tu11, tu12, tu13, tu14, tu15, tu16, tu17, tu18, tu19, tu20, tu21, tu22, tu23, tu24, asB_bl, truD_non, truD_bl, truD_int, truD_str, truD_lst, truD_tup, asI_int, asS_str, items_lst, items_tup, items_str, valS_v, valB_v, valB_own, seqD_lst, seqD_tup, seqD_cell0, lstD_lst, lstD_cell0, cellL_0, own_lst, nonB_non, nonB_bl, nonB_int, nonB_str, nonB_lst, nonB_tup, nonB_cell, nonB_obj, bools_nil, bools_cons, ints_nil, ints_cons, eqD_ii, eqD_bb, eqD_ss, eqD_nn, eqD_ni, eqD_in, eqD_nb, eqD_bn, eqD_ns, eqD_sn, eqD_is, eqD_si, eqD_bs, eqD_sb, tag_non, tag_bl, tag_int, tag_str, tag_lst, tag_tup, tag_obj, bindP_nm, bindP_tp, bindPs_nil, bindPs_cons, ↓wp_get, ↓wp_meth, ↓wp_prop, ↓ws_setF, ↓wp_mk, ↓wp_own, ↓wp_kd, ↓wp_methK, ↓wp_ownNe, ↓wp_own1, ↓wp_ownT, ↓wp_fstr, ↓wp_fFn, ↓wp_fFc, ↓wp_fmtS, ↓wp_fmtI, kok_len, kok_repr, kok_bool, eqD_tt, eqD_ll, plB_non, plB_bl, plB_int, plB_str, plB_lst, plB_tup, eqBs_nn, eqBs_cc, eqBs_nc, eqBs_cn, eqB_ii, eqB_bb, eqB_ss, eqB_nn, eqB_ll, eqB_tt, eqB_ni, eqB_in, eqB_nt, eqB_tn, eqB_it, eqB_ti, ↓wp_addT, ↓wp_addL, ↓wp_mulL, objD_obj, objD_last, cellO_last, set_last, isO_obj, isO_last, putD_nil, putD_cons, lkp_nil, lkp_cons, bel_plain, bels_plain, belF_nil, belF_cons, rng_0, rng_1, rng_2, rng_3, enL_nil, enL_cons, zpL_nil, zpL_nilR, zpL_cons, ↓wp_maxL, ↓wp_minL, maxL_2, maxL_1, minL_2, minL_1, bel_non, bel_bl, bel_int, bel_str, bel_lst, bel_tup, bel_obj, bels_nil, bels_cons, kst_app0, ctl_hi, ctl_lo, ctl_no, kst_inj, ↓wp_rgI1, ↓wp_rgI2, ↓wp_rg1, ↓wp_rg2, ↓wp_callO, kst_beq, EG.runs, EG.run, ev, evs, evo, evr, evf, mkE, mkL, failL, bopF, copF, bltF, lbltF, env0, wipeE, isiAny, isi1, frzS, Cell.toD, atI_nn, setAt_nn, wp_inSg, Gam.put, clsTab, arrQ, arrP, Pick.of, kwM, rightB, E00, List.map_cons, List.map_nil, List.length_cons, List.length_nil, List.append_nil, List.nil_append, List.cons_append, List.getElem?_cons_zero, List.getElem?_cons_succ, List.getElem?_nil, List.set_cons_zero, List.set_cons_succ, List.filter_cons, List.filter_nil, List.contains_nil, List.elem_nil, Int.reduceNeg, Int.reducePow, nA10, nA2, le_big, Nat.reducePow, Nat.zero_add, Option.map_some, Option.bind_some, Int.reduceLE, Int.reduceToNat, Int.reduceLT, Nat.reduceLT, Nat.reduceAdd, Nat.reduceSub, true_and, and_true, decide_true, decide_false, List.length_append, List.length_map, Nat.reduceLeDiff, Nat.reduceEqDiff, Bool.not_true, Bool.not_false, decide_eq_true_eq, reduceCtorEq, Option.some.injEq, id_eq, List.all_cons, List.all_nil, List.any_cons, List.any_nil, Bool.and_true, Bool.true_and, Bool.and_false, Bool.false_and, Bool.or_true, Bool.or_false, Bool.true_or, Bool.false_or, Int.reduceAdd, Int.reduceSub, beq_self_eq_true, Option.isNone_none, Option.isNone_some, if_true, if_false, ite_true, ite_false, Nat.succ_eq_add_one, Int.natCast_add, Int.natCast_one, Int.cast_ofNat_Int, List.contains_cons, String.reduceEq, List.take_succ_cons, List.take_zero, List.drop_succ_cons, List.drop_zero, List.take_nil, List.drop_nil, List.replicate, Int.natCast_zero, Int.zero_add, kG0, kConsts, kFrees, kCls, kisi_0, kisi_1, kisi_2, kisi_3, kisi_4, kisi_5, kisi_6, kisi_7, kisi_8, kisi_9, kisi_10, kisi_11, kfld_0, dflD_law_pull, kwdD_law_pull, T_law_pull, dflD_law_readings, kwdD_law_readings, U0_law_pull, T_law_readings, dflD_is_number, kwdD_is_number, T_is_number, dflD_is_between, kwdD_is_between, U1_is_number, T_is_between, dflD_Rule_out, kwdD_Rule_out, T_Rule_out, dflD_Rule_back, kwdD_Rule_back, T_Rule_back, dflD_Rule_is_modes, kwdD_Rule_is_modes, U2_is_between, U3_Rule_out, U4_Rule_back, T_Rule_is_modes, dflD_law_same, kwdD_law_same, T_law_same, dflD_Rule_mode_behind, kwdD_Rule_mode_behind, T_Rule_mode_behind, dflD_Rule_distance, kwdD_Rule_distance, T_Rule_distance, dflD_Rule_hold, kwdD_Rule_hold, T_Rule_hold, dflD_Rule_ranks, kwdD_Rule_ranks, T_Rule_ranks, dflD_Rule_least, kwdD_Rule_least, T_Rule_least, dflD_Rule_ranked, kwdD_Rule_ranked, U5_Rule_hold, U6_Rule_ranks, U7_Rule_least, T_Rule_ranked, dflD_is_listed, kwdD_is_listed, T_is_listed, dflD_Rule_need_readings, kwdD_Rule_need_readings, U8_is_listed, T_Rule_need_readings, dflD_Rule_tick, kwdD_Rule_tick, U9_Rule_mode_behind, U10_Rule_ranked, U11_Rule_distance, U12_Rule_need_readings, T_Rule_tick, dflD_Rule_call, kwdD_Rule_call, U13_Rule_tick, T_Rule_call, dflD_law_picked, kwdD_law_picked, T_law_picked, dflD_law_behind, kwdD_law_behind, T_law_behind, dflD_law_tick, kwdD_law_tick, U14_law_behind, U15_law_picked, T_law_tick, dflD_law_of, kwdD_law_of, T_law_of, dflD_are_ranks, kwdD_are_ranks, T_are_ranks, dflD_is_amount, kwdD_is_amount, T_is_amount, dflD_Rule_init, kwdD_Rule_init, U16_are_ranks, U17_is_amount, T_Rule_init, dflD_law_rule_made, kwdD_law_rule_made, U18_Rule_init, T_law_rule_made, dflD_law_rule, kwdD_law_rule, U19_law_of, T_law_rule, dflD_law_bag, kwdD_law_bag, T_law_bag, dflD_law, kwdD_law, U20_law_readings, U21_law_same, U22_law_tick, U23_law_rule_made, U24_law_rule, U25_law_bag, U26_Rule_is_modes, U27_Rule_call, U28_Rule_tick, U29_Rule_tick, T_law, objD_Ru, tag_Ru, isO_Ru]
        refine wp_of_eq (compL_pure (leD v) id ((L.map (rdg x1 x2 x3)).map .int) fun dd hd => ?_) ?_
        · obtain ⟨u, hu, rfl⟩ := List.mem_map.mp hd
          refine ⟨_, bindP_nm, ?_, fun _ => ?_⟩ <;> simp only [↓br_true, ↓br_false, ↓op_some, ↓wp_bind, ↓wp_pure, ↓wp_fail, ↓wp_opt, ↓wp_guard, ↓wp_v, ↓wp_vB, ↓wp_c, ↓wp_op2, ↓wp_op2L, ↓wp_t, ↓wp_tru, ↓wp_chain, ↓wp_andT, ↓wp_orT, ↓wp_notT, ↓wp_andV, ↓wp_orV, ↓wp_notV, ↓wp_if, ↓wp_nil, ↓wp_cons, ↓wp_tup, ↓wp_lst, ↓wp_D, ↓wp_cb, ↓wp_call, ↓wp_isi, ↓wp_neg, ↓wp_sl, ↓wp_noP, ↓wp_P, ↓wp_yes, ↓wp_items, ↓wp_signs, ↓wp_comp, ↓ws_seq, ↓thn_nx, ↓thn_rt, ↓thn_br, ↓thn_ct, ↓thn_exc, ↓ws_skip, ↓ws_break, ↓ws_cont, ↓ws_retN, ↓ws_set, ↓ws_own, ↓ws_ret, ↓ws_drop, ↓ws_if, ↓ws_asg, ↓ws_par3, ↓ws_par, ↓ws_setC, ↓wp_newc, ↓ws_app, ↓ws_ext, ↓ws_setI, ↓ws_frz, ↓ws_for, ↓wl_nil, ↓wl_cons, ↓wf_run, ↓retS_nx, ↓retS_rt, ↓lpS_nx, ↓lpS_ct, ↓lpS_br, ↓lpS_rt, ↓turn_nx, ↓turn_ct, ↓turn_br, ↓turn_rt, ↓wp_addI, ↓wp_addS, ↓wp_subI, ↓wp_mulI, ↓wp_divI, ↓wp_modI, ↓wp_powI, ↓wp_cmpI, ↓wp_eq, ↓wp_ne, ↓wp_negI, ↓wp_seqE, ↓wp_lstE, ↓wp_ixL, ↓wp_ixT, ↓wp_ixC, ↓wp_ixS, ↓wp_lenS, ↓wp_lenL, ↓wp_lenT, ↓wp_lenC, ↓wp_absI, ↓wp_intI, ↓wp_intB, ↓wp_intS, ↓wp_strI, ↓wp_boolI, ↓wp_boolB, ↓wp_all, ↓wp_any, ↓wp_sum, ↓wp_max2, ↓wp_min2, ↓wp_list, ↓wp_tuple, ↓wp_sorted, ↓wp_slS, ↓wp_slT, ↓wp_slLD, ↓wp_slC, ↓wp_slL, ↓wp_range1, ↓wp_range2, ↓wp_enum, ↓wp_enumT, ↓wp_zip, ↓wp_zipTT, ↓wp_zipTL, ↓wp_zipLT, ↓wp_cat, ↓wp_rep, ↓wp_inSg, ↓wp_notInSg, ↓wp_inL, ↓wp_inT, ↓wp_notIn, ↓wp_isN, ↓wp_notN, tt1, tt2, tt3, tt4, tt5, tt6, tu1, tu2, tu3, tu4, tu5, tu6, tu7, tu8, tu9, tu10, tu11, tu12, tu13, tu14, tu15, tu16, tu17, tu18, tu19, tu20, tu21, tu22, tu23, tu24, asB_bl, truD_non, truD_bl, truD_int, truD_str, truD_lst, truD_tup, asI_int, asS_str, items_lst, items_tup, items_str, valS_v, valB_v, valB_own, seqD_lst, seqD_tup, seqD_cell0, lstD_lst, lstD_cell0, cellL_0, own_lst, nonB_non, nonB_bl, nonB_int, nonB_str, nonB_lst, nonB_tup, nonB_cell, nonB_obj, bools_nil, bools_cons, ints_nil, ints_cons, eqD_ii, eqD_bb, eqD_ss, eqD_nn, eqD_ni, eqD_in, eqD_nb, eqD_bn, eqD_ns, eqD_sn, eqD_is, eqD_si, eqD_bs, eqD_sb, tag_non, tag_bl, tag_int, tag_str, tag_lst, tag_tup, tag_obj, bindP_nm, bindP_tp, bindPs_nil, bindPs_cons, ↓wp_get, ↓wp_meth, ↓wp_prop, ↓ws_setF, ↓wp_mk, ↓wp_own, ↓wp_kd, ↓wp_methK, ↓wp_ownNe, ↓wp_own1, ↓wp_ownT, ↓wp_fstr, ↓wp_fFn, ↓wp_fFc, ↓wp_fmtS, ↓wp_fmtI, kok_len, kok_repr, kok_bool, eqD_tt, eqD_ll, plB_non, plB_bl, plB_int, plB_str, plB_lst, plB_tup, eqBs_nn, eqBs_cc, eqBs_nc, eqBs_cn, eqB_ii, eqB_bb, eqB_ss, eqB_nn, eqB_ll, eqB_tt, eqB_ni, eqB_in, eqB_nt, eqB_tn, eqB_it, eqB_ti, ↓wp_addT, ↓wp_addL, ↓wp_mulL, objD_obj, objD_last, cellO_last, set_last, isO_obj, isO_last, putD_nil, putD_cons, lkp_nil, lkp_cons, bel_plain, bels_plain, belF_nil, belF_cons, rng_0, rng_1, rng_2, rng_3, enL_nil, enL_cons, zpL_nil, zpL_nilR, zpL_cons, ↓wp_maxL, ↓wp_minL, maxL_2, maxL_1, minL_2, minL_1, bel_non, bel_bl, bel_int, bel_str, bel_lst, bel_tup, bel_obj, bels_nil, bels_cons, kst_app0, ctl_hi, ctl_lo, ctl_no, kst_inj, ↓wp_rgI1, ↓wp_rgI2, ↓wp_rg1, ↓wp_rg2, ↓wp_callO, kst_beq, EG.runs, EG.run, ev, evs, evo, evr, evf, mkE, mkL, failL, bopF, copF, bltF, lbltF, env0, wipeE, isiAny, isi1, frzS, Cell.toD, atI_nn, setAt_nn, wp_inSg, Gam.put, clsTab, arrQ, arrP, Pick.of, kwM, rightB, E00, List.map_cons, List.map_nil, List.length_cons, List.length_nil, List.append_nil, List.nil_append, List.cons_append, List.getElem?_cons_zero, List.getElem?_cons_succ, List.getElem?_nil, List.set_cons_zero, List.set_cons_succ, List.filter_cons, List.filter_nil, List.contains_nil, List.elem_nil, Int.reduceNeg, Int.reducePow, nA10, nA2, le_big, Nat.reducePow, Nat.zero_add, Option.map_some, Option.bind_some, Int.reduceLE, Int.reduceToNat, Int.reduceLT, Nat.reduceLT, Nat.reduceAdd, Nat.reduceSub, true_and, and_true, decide_true, decide_false, List.length_append, List.length_map, Nat.reduceLeDiff, Nat.reduceEqDiff, Bool.not_true, Bool.not_false, decide_eq_true_eq, reduceCtorEq, Option.some.injEq, id_eq, List.all_cons, List.all_nil, List.any_cons, List.any_nil, Bool.and_true, Bool.true_and, Bool.and_false, Bool.false_and, Bool.or_true, Bool.or_false, Bool.true_or, Bool.false_or, Int.reduceAdd, Int.reduceSub, beq_self_eq_true, Option.isNone_none, Option.isNone_some, if_true, if_false, ite_true, ite_false, Nat.succ_eq_add_one, Int.natCast_add, Int.natCast_one, Int.cast_ofNat_Int, List.contains_cons, String.reduceEq, List.take_succ_cons, List.take_zero, List.drop_succ_cons, List.drop_zero, List.take_nil, List.drop_nil, List.replicate, Int.natCast_zero, Int.zero_add, kG0, kConsts, kFrees, kCls, kisi_0, kisi_1, kisi_2, kisi_3, kisi_4, kisi_5, kisi_6, kisi_7, kisi_8, kisi_9, kisi_10, kisi_11, kfld_0, dflD_law_pull, kwdD_law_pull, T_law_pull, dflD_law_readings, kwdD_law_readings, U0_law_pull, T_law_readings, dflD_is_number, kwdD_is_number, T_is_number, dflD_is_between, kwdD_is_between, U1_is_number, T_is_between, dflD_Rule_out, kwdD_Rule_out, T_Rule_out, dflD_Rule_back, kwdD_Rule_back, T_Rule_back, dflD_Rule_is_modes, kwdD_Rule_is_modes, U2_is_between, U3_Rule_out, U4_Rule_back, T_Rule_is_modes, dflD_law_same, kwdD_law_same, T_law_same, dflD_Rule_mode_behind, kwdD_Rule_mode_behind, T_Rule_mode_behind, dflD_Rule_distance, kwdD_Rule_distance, T_Rule_distance, dflD_Rule_hold, kwdD_Rule_hold, T_Rule_hold, dflD_Rule_ranks, kwdD_Rule_ranks, T_Rule_ranks, dflD_Rule_least, kwdD_Rule_least, T_Rule_least, dflD_Rule_ranked, kwdD_Rule_ranked, U5_Rule_hold, U6_Rule_ranks, U7_Rule_least, T_Rule_ranked, dflD_is_listed, kwdD_is_listed, T_is_listed, dflD_Rule_need_readings, kwdD_Rule_need_readings, U8_is_listed, T_Rule_need_readings, dflD_Rule_tick, kwdD_Rule_tick, U9_Rule_mode_behind, U10_Rule_ranked, U11_Rule_distance, U12_Rule_need_readings, T_Rule_tick, dflD_Rule_call, kwdD_Rule_call, U13_Rule_tick, T_Rule_call, dflD_law_picked, kwdD_law_picked, T_law_picked, dflD_law_behind, kwdD_law_behind, T_law_behind, dflD_law_tick, kwdD_law_tick, U14_law_behind, U15_law_picked, T_law_tick, dflD_law_of, kwdD_law_of, T_law_of, dflD_are_ranks, kwdD_are_ranks, T_are_ranks, dflD_is_amount, kwdD_is_amount, T_is_amount, dflD_Rule_init, kwdD_Rule_init, U16_are_ranks, U17_is_amount, T_Rule_init, dflD_law_rule_made, kwdD_law_rule_made, U18_Rule_init, T_law_rule_made, dflD_law_rule, kwdD_law_rule, U19_law_of, T_law_rule, dflD_law_bag, kwdD_law_bag, T_law_bag, dflD_law, kwdD_law, U20_law_readings, U21_law_same, U22_law_tick, U23_law_rule_made, U24_law_rule, U25_law_bag, U26_Rule_is_modes, U27_Rule_call, U28_Rule_tick, U29_Rule_tick, T_law, objD_Ru, tag_Ru, isO_Ru] <;> rfl
        rw [List.map_id]
        simp only [↓br_true, ↓br_false, ↓op_some, ↓wp_bind, ↓wp_pure, ↓wp_fail, ↓wp_opt, ↓wp_guard, ↓wp_v, ↓wp_vB, ↓wp_c, ↓wp_op2, ↓wp_op2L, ↓wp_t, ↓wp_tru, ↓wp_chain, ↓wp_andT, ↓wp_orT, ↓wp_notT, ↓wp_andV, ↓wp_orV, ↓wp_notV, ↓wp_if, ↓wp_nil, ↓wp_cons, ↓wp_tup, ↓wp_lst, ↓wp_D, ↓wp_cb, ↓wp_call, ↓wp_isi, ↓wp_neg, ↓wp_sl, ↓wp_noP, ↓wp_P, ↓wp_yes, ↓wp_items, ↓wp_signs, ↓wp_comp, ↓ws_seq, ↓thn_nx, ↓thn_rt, ↓thn_br, ↓thn_ct, ↓thn_exc, ↓ws_skip, ↓ws_break, ↓ws_cont, ↓ws_retN, ↓ws_set, ↓ws_own, ↓ws_ret, ↓ws_drop, ↓ws_if, ↓ws_asg, ↓ws_par3, ↓ws_par, ↓ws_setC, ↓wp_newc, ↓ws_app, ↓ws_ext, ↓ws_setI, ↓ws_frz, ↓ws_for, ↓wl_nil, ↓wl_cons, ↓wf_run, ↓retS_nx, ↓retS_rt, ↓lpS_nx, ↓lpS_ct, ↓lpS_br, ↓lpS_rt, ↓turn_nx, ↓turn_ct, ↓turn_br, ↓turn_rt, ↓wp_addI, ↓wp_addS, ↓wp_subI, ↓wp_mulI, ↓wp_divI, ↓wp_modI, ↓wp_powI, ↓wp_cmpI, ↓wp_eq, ↓wp_ne, ↓wp_negI, ↓wp_seqE, ↓wp_lstE, ↓wp_ixL, ↓wp_ixT, ↓wp_ixC, ↓wp_ixS, ↓wp_lenS, ↓wp_lenL, ↓wp_lenT, ↓wp_lenC, ↓wp_absI, ↓wp_intI, ↓wp_intB, ↓wp_intS, ↓wp_strI, ↓wp_boolI, ↓wp_boolB, ↓wp_all, ↓wp_any, ↓wp_sum, ↓wp_max2, ↓wp_min2, ↓wp_list, ↓wp_tuple, ↓wp_sorted, ↓wp_slS, ↓wp_slT, ↓wp_slLD, ↓wp_slC, ↓wp_slL, ↓wp_range1, ↓wp_range2, ↓wp_enum, ↓wp_enumT, ↓wp_zip, ↓wp_zipTT, ↓wp_zipTL, ↓wp_zipLT, ↓wp_cat, ↓wp_rep, ↓wp_inSg, ↓wp_notInSg, ↓wp_inL, ↓wp_inT, ↓wp_notIn, ↓wp_isN, ↓wp_notN, tt1, tt2, tt3, tt4, tt5, tt6, tu1, tu2, tu3, tu4, tu5, tu6, tu7, tu8, tu9, tu10, tu11, tu12, tu13, tu14, tu15, tu16, tu17, tu18, tu19, tu20, tu21, tu22, tu23, tu24, asB_bl, truD_non, truD_bl, truD_int, truD_str, truD_lst, truD_tup, asI_int, asS_str, items_lst, items_tup, items_str, valS_v, valB_v, valB_own, seqD_lst, seqD_tup, seqD_cell0, lstD_lst, lstD_cell0, cellL_0, own_lst, nonB_non, nonB_bl, nonB_int, nonB_str, nonB_lst, nonB_tup, nonB_cell, nonB_obj, bools_nil, bools_cons, ints_nil, ints_cons, eqD_ii, eqD_bb, eqD_ss, eqD_nn, eqD_ni, eqD_in, eqD_nb, eqD_bn, eqD_ns, eqD_sn, eqD_is, eqD_si, eqD_bs, eqD_sb, tag_non, tag_bl, tag_int, tag_str, tag_lst, tag_tup, tag_obj, bindP_nm, bindP_tp, bindPs_nil, bindPs_cons, ↓wp_get, ↓wp_meth, ↓wp_prop, ↓ws_setF, ↓wp_mk, ↓wp_own, ↓wp_kd, ↓wp_methK, ↓wp_ownNe, ↓wp_own1, ↓wp_ownT, ↓wp_fstr, ↓wp_fFn, ↓wp_fFc, ↓wp_fmtS, ↓wp_fmtI, kok_len, kok_repr, kok_bool, eqD_tt, eqD_ll, plB_non, plB_bl, plB_int, plB_str, plB_lst, plB_tup, eqBs_nn, eqBs_cc, eqBs_nc, eqBs_cn, eqB_ii, eqB_bb, eqB_ss, eqB_nn, eqB_ll, eqB_tt, eqB_ni, eqB_in, eqB_nt, eqB_tn, eqB_it, eqB_ti, ↓wp_addT, ↓wp_addL, ↓wp_mulL, objD_obj, objD_last, cellO_last, set_last, isO_obj, isO_last, putD_nil, putD_cons, lkp_nil, lkp_cons, bel_plain, bels_plain, belF_nil, belF_cons, rng_0, rng_1, rng_2, rng_3, enL_nil, enL_cons, zpL_nil, zpL_nilR, zpL_cons, ↓wp_maxL, ↓wp_minL, maxL_2, maxL_1, minL_2, minL_1, bel_non, bel_bl, bel_int, bel_str, bel_lst, bel_tup, bel_obj, bels_nil, bels_cons, kst_app0, ctl_hi, ctl_lo, ctl_no, kst_inj, ↓wp_rgI1, ↓wp_rgI2, ↓wp_rg1, ↓wp_rg2, ↓wp_callO, kst_beq, EG.runs, EG.run, ev, evs, evo, evr, evf, mkE, mkL, failL, bopF, copF, bltF, lbltF, env0, wipeE, isiAny, isi1, frzS, Cell.toD, atI_nn, setAt_nn, wp_inSg, Gam.put, clsTab, arrQ, arrP, Pick.of, kwM, rightB, E00, List.map_cons, List.map_nil, List.length_cons, List.length_nil, List.append_nil, List.nil_append, List.cons_append, List.getElem?_cons_zero, List.getElem?_cons_succ, List.getElem?_nil, List.set_cons_zero, List.set_cons_succ, List.filter_cons, List.filter_nil, List.contains_nil, List.elem_nil, Int.reduceNeg, Int.reducePow, nA10, nA2, le_big, Nat.reducePow, Nat.zero_add, Option.map_some, Option.bind_some, Int.reduceLE, Int.reduceToNat, Int.reduceLT, Nat.reduceLT, Nat.reduceAdd, Nat.reduceSub, true_and, and_true, decide_true, decide_false, List.length_append, List.length_map, Nat.reduceLeDiff, Nat.reduceEqDiff, Bool.not_true, Bool.not_false, decide_eq_true_eq, reduceCtorEq, Option.some.injEq, id_eq, List.all_cons, List.all_nil, List.any_cons, List.any_nil, Bool.and_true, Bool.true_and, Bool.and_false, Bool.false_and, Bool.or_true, Bool.or_false, Bool.true_or, Bool.false_or, Int.reduceAdd, Int.reduceSub, beq_self_eq_true, Option.isNone_none, Option.isNone_some, if_true, if_false, ite_true, ite_false, Nat.succ_eq_add_one, Int.natCast_add, Int.natCast_one, Int.cast_ofNat_Int, List.contains_cons, String.reduceEq, List.take_succ_cons, List.take_zero, List.drop_succ_cons, List.drop_zero, List.take_nil, List.drop_nil, List.replicate, Int.natCast_zero, Int.zero_add, kG0, kConsts, kFrees, kCls, kisi_0, kisi_1, kisi_2, kisi_3, kisi_4, kisi_5, kisi_6, kisi_7, kisi_8, kisi_9, kisi_10, kisi_11, kfld_0, dflD_law_pull, kwdD_law_pull, T_law_pull, dflD_law_readings, kwdD_law_readings, U0_law_pull, T_law_readings, dflD_is_number, kwdD_is_number, T_is_number, dflD_is_between, kwdD_is_between, U1_is_number, T_is_between, dflD_Rule_out, kwdD_Rule_out, T_Rule_out, dflD_Rule_back, kwdD_Rule_back, T_Rule_back, dflD_Rule_is_modes, kwdD_Rule_is_modes, U2_is_between, U3_Rule_out, U4_Rule_back, T_Rule_is_modes, dflD_law_same, kwdD_law_same, T_law_same, dflD_Rule_mode_behind, kwdD_Rule_mode_behind, T_Rule_mode_behind, dflD_Rule_distance, kwdD_Rule_distance, T_Rule_distance, dflD_Rule_hold, kwdD_Rule_hold, T_Rule_hold, dflD_Rule_ranks, kwdD_Rule_ranks, T_Rule_ranks, dflD_Rule_least, kwdD_Rule_least, T_Rule_least, dflD_Rule_ranked, kwdD_Rule_ranked, U5_Rule_hold, U6_Rule_ranks, U7_Rule_least, T_Rule_ranked, dflD_is_listed, kwdD_is_listed, T_is_listed, dflD_Rule_need_readings, kwdD_Rule_need_readings, U8_is_listed, T_Rule_need_readings, dflD_Rule_tick, kwdD_Rule_tick, U9_Rule_mode_behind, U10_Rule_ranked, U11_Rule_distance, U12_Rule_need_readings, T_Rule_tick, dflD_Rule_call, kwdD_Rule_call, U13_Rule_tick, T_Rule_call, dflD_law_picked, kwdD_law_picked, T_law_picked, dflD_law_behind, kwdD_law_behind, T_law_behind, dflD_law_tick, kwdD_law_tick, U14_law_behind, U15_law_picked, T_law_tick, dflD_law_of, kwdD_law_of, T_law_of, dflD_are_ranks, kwdD_are_ranks, T_are_ranks, dflD_is_amount, kwdD_is_amount, T_is_amount, dflD_Rule_init, kwdD_Rule_init, U16_are_ranks, U17_is_amount, T_Rule_init, dflD_law_rule_made, kwdD_law_rule_made, U18_Rule_init, T_law_rule_made, dflD_law_rule, kwdD_law_rule, U19_law_of, T_law_rule, dflD_law_bag, kwdD_law_bag, T_law_bag, dflD_law, kwdD_law, U20_law_readings, U21_law_same, U22_law_tick, U23_law_rule_made, U24_law_rule, U25_law_bag, U26_Rule_is_modes, U27_Rule_call, U28_Rule_tick, U29_Rule_tick, T_law, objD_Ru, tag_Ru, isO_Ru, le_len, e]
      · simp only [↓br_true, ↓br_false, ↓op_some, ↓wp_bind, ↓wp_pure, ↓wp_fail, ↓wp_opt, ↓wp_guard, ↓wp_v, ↓wp_vB, ↓wp_c, ↓wp_op2, ↓wp_op2L, ↓wp_t, ↓wp_tru, ↓wp_chain, ↓wp_andT, ↓wp_orT, ↓wp_notT, ↓wp_andV, ↓wp_orV, ↓wp_notV, ↓wp_if, ↓wp_nil, ↓wp_cons, ↓wp_tup, ↓wp_lst, ↓wp_D, ↓wp_cb, ↓wp_call, ↓wp_isi, ↓wp_neg, ↓wp_sl, ↓wp_noP, ↓wp_P, ↓wp_yes, ↓wp_items, ↓wp_signs, ↓wp_comp, ↓ws_seq, ↓thn_nx, ↓thn_rt, ↓thn_br, ↓thn_ct, ↓thn_exc, ↓ws_skip, ↓ws_break, ↓ws_cont, ↓ws_retN, ↓ws_set, ↓ws_own, ↓ws_ret, ↓ws_drop, ↓ws_if, ↓ws_asg, ↓ws_par3, ↓ws_par, ↓ws_setC, ↓wp_newc, ↓ws_app, ↓ws_ext, ↓ws_setI, ↓ws_frz, ↓ws_for, ↓wl_nil, ↓wl_cons, ↓wf_run, ↓retS_nx, ↓retS_rt, ↓lpS_nx, ↓lpS_ct, ↓lpS_br, ↓lpS_rt, ↓turn_nx, ↓turn_ct, ↓turn_br, ↓turn_rt, ↓wp_addI, ↓wp_addS, ↓wp_subI, ↓wp_mulI, ↓wp_divI, ↓wp_modI, ↓wp_powI, ↓wp_cmpI, ↓wp_eq, ↓wp_ne, ↓wp_negI, ↓wp_seqE, ↓wp_lstE, ↓wp_ixL, ↓wp_ixT, ↓wp_ixC, ↓wp_ixS, ↓wp_lenS, ↓wp_lenL, ↓wp_lenT, ↓wp_lenC, ↓wp_absI, ↓wp_intI, ↓wp_intB, ↓wp_intS, ↓wp_strI, ↓wp_boolI, ↓wp_boolB, ↓wp_all, ↓wp_any, ↓wp_sum, ↓wp_max2, ↓wp_min2, ↓wp_list, ↓wp_tuple, ↓wp_sorted, ↓wp_slS, ↓wp_slT, ↓wp_slLD, ↓wp_slC, ↓wp_slL, ↓wp_range1, ↓wp_range2, ↓wp_enum, ↓wp_enumT, ↓wp_zip, ↓wp_zipTT, ↓wp_zipTL, ↓wp_zipLT, ↓wp_cat, ↓wp_rep, ↓wp_inSg, ↓wp_notInSg, ↓wp_inL, ↓wp_inT, ↓wp_notIn, ↓wp_isN, ↓wp_notN, tt1, tt2, tt3, tt4, tt5, tt6, tu1, tu2, tu3, tu4, tu5, tu6, tu7, tu8, tu9, tu10, tu11, tu12, tu13, tu14, tu15, tu16, tu17, tu18, tu19, tu20, tu21, tu22, tu23, tu24, asB_bl, truD_non, truD_bl, truD_int, truD_str, truD_lst, truD_tup, asI_int, asS_str, items_lst, items_tup, items_str, valS_v, valB_v, valB_own, seqD_lst, seqD_tup, seqD_cell0, lstD_lst, lstD_cell0, cellL_0, own_lst, nonB_non, nonB_bl, nonB_int, nonB_str, nonB_lst, nonB_tup, nonB_cell, nonB_obj, bools_nil, bools_cons, ints_nil, ints_cons, eqD_ii, eqD_bb, eqD_ss, eqD_nn, eqD_ni, eqD_in, eqD_nb, eqD_bn, eqD_ns, eqD_sn, eqD_is, eqD_si, eqD_bs, eqD_sb, tag_non, tag_bl, tag_int, tag_str, tag_lst, tag_tup, tag_obj, bindP_nm, bindP_tp, bindPs_nil, bindPs_cons, ↓wp_get, ↓wp_meth, ↓wp_prop, ↓ws_setF, ↓wp_mk, ↓wp_own, ↓wp_kd, ↓wp_methK, ↓wp_ownNe, ↓wp_own1, ↓wp_ownT, ↓wp_fstr, ↓wp_fFn, ↓wp_fFc, ↓wp_fmtS, ↓wp_fmtI, kok_len, kok_repr, kok_bool, eqD_tt, eqD_ll, plB_non, plB_bl, plB_int, plB_str, plB_lst, plB_tup, eqBs_nn, eqBs_cc, eqBs_nc, eqBs_cn, eqB_ii, eqB_bb, eqB_ss, eqB_nn, eqB_ll, eqB_tt, eqB_ni, eqB_in, eqB_nt, eqB_tn, eqB_it, eqB_ti, ↓wp_addT, ↓wp_addL, ↓wp_mulL, objD_obj, objD_last, cellO_last, set_last, isO_obj, isO_last, putD_nil, putD_cons, lkp_nil, lkp_cons, bel_plain, bels_plain, belF_nil, belF_cons, rng_0, rng_1, rng_2, rng_3, enL_nil, enL_cons, zpL_nil, zpL_nilR, zpL_cons, ↓wp_maxL, ↓wp_minL, maxL_2, maxL_1, minL_2, minL_1, bel_non, bel_bl, bel_int, bel_str, bel_lst, bel_tup, bel_obj, bels_nil, bels_cons, kst_app0, ctl_hi, ctl_lo, ctl_no, kst_inj, ↓wp_rgI1, ↓wp_rgI2, ↓wp_rg1, ↓wp_rg2, ↓wp_callO, kst_beq, EG.runs, EG.run, ev, evs, evo, evr, evf, mkE, mkL, failL, bopF, copF, bltF, lbltF, env0, wipeE, isiAny, isi1, frzS, Cell.toD, atI_nn, setAt_nn, wp_inSg, Gam.put, clsTab, arrQ, arrP, Pick.of, kwM, rightB, E00, List.map_cons, List.map_nil, List.length_cons, List.length_nil, List.append_nil, List.nil_append, List.cons_append, List.getElem?_cons_zero, List.getElem?_cons_succ, List.getElem?_nil, List.set_cons_zero, List.set_cons_succ, List.filter_cons, List.filter_nil, List.contains_nil, List.elem_nil, Int.reduceNeg, Int.reducePow, nA10, nA2, le_big, Nat.reducePow, Nat.zero_add, Option.map_some, Option.bind_some, Int.reduceLE, Int.reduceToNat, Int.reduceLT, Nat.reduceLT, Nat.reduceAdd, Nat.reduceSub, true_and, and_true, decide_true, decide_false, List.length_append, List.length_map, Nat.reduceLeDiff, Nat.reduceEqDiff, Bool.not_true, Bool.not_false, decide_eq_true_eq, reduceCtorEq, Option.some.injEq, id_eq, List.all_cons, List.all_nil, List.any_cons, List.any_nil, Bool.and_true, Bool.true_and, Bool.and_false, Bool.false_and, Bool.or_true, Bool.or_false, Bool.true_or, Bool.false_or, Int.reduceAdd, Int.reduceSub, beq_self_eq_true, Option.isNone_none, Option.isNone_some, if_true, if_false, ite_true, ite_false, Nat.succ_eq_add_one, Int.natCast_add, Int.natCast_one, Int.cast_ofNat_Int, List.contains_cons, String.reduceEq, List.take_succ_cons, List.take_zero, List.drop_succ_cons, List.drop_zero, List.take_nil, List.drop_nil, List.replicate, Int.natCast_zero, Int.zero_add, kG0, kConsts, kFrees, kCls, kisi_0, kisi_1, kisi_2, kisi_3, kisi_4, kisi_5, kisi_6, kisi_7, kisi_8, kisi_9, kisi_10, kisi_11, kfld_0, dflD_law_pull, kwdD_law_pull, T_law_pull, dflD_law_readings, kwdD_law_readings, U0_law_pull, T_law_readings, dflD_is_number, kwdD_is_number, T_is_number, dflD_is_between, kwdD_is_between, U1_is_number, T_is_between, dflD_Rule_out, kwdD_Rule_out, T_Rule_out, dflD_Rule_back, kwdD_Rule_back, T_Rule_back, dflD_Rule_is_modes, kwdD_Rule_is_modes, U2_is_between, U3_Rule_out, U4_Rule_back, T_Rule_is_modes, dflD_law_same, kwdD_law_same, T_law_same, dflD_Rule_mode_behind, kwdD_Rule_mode_behind, T_Rule_mode_behind, dflD_Rule_distance, kwdD_Rule_distance, T_Rule_distance, dflD_Rule_hold, kwdD_Rule_hold, T_Rule_hold, dflD_Rule_ranks, kwdD_Rule_ranks, T_Rule_ranks, dflD_Rule_least, kwdD_Rule_least, T_Rule_least, dflD_Rule_ranked, kwdD_Rule_ranked, U5_Rule_hold, U6_Rule_ranks, U7_Rule_least, T_Rule_ranked, dflD_is_listed, kwdD_is_listed, T_is_listed, dflD_Rule_need_readings, kwdD_Rule_need_readings, U8_is_listed, T_Rule_need_readings, dflD_Rule_tick, kwdD_Rule_tick, U9_Rule_mode_behind, U10_Rule_ranked, U11_Rule_distance, U12_Rule_need_readings, T_Rule_tick, dflD_Rule_call, kwdD_Rule_call, U13_Rule_tick, T_Rule_call, dflD_law_picked, kwdD_law_picked, T_law_picked, dflD_law_behind, kwdD_law_behind, T_law_behind, dflD_law_tick, kwdD_law_tick, U14_law_behind, U15_law_picked, T_law_tick, dflD_law_of, kwdD_law_of, T_law_of, dflD_are_ranks, kwdD_are_ranks, T_are_ranks, dflD_is_amount, kwdD_is_amount, T_is_amount, dflD_Rule_init, kwdD_Rule_init, U16_are_ranks, U17_is_amount, T_Rule_init, dflD_law_rule_made, kwdD_law_rule_made, U18_Rule_init, T_law_rule_made, dflD_law_rule, kwdD_law_rule, U19_law_of, T_law_rule, dflD_law_bag, kwdD_law_bag, T_law_bag, dflD_law, kwdD_law, U20_law_readings, U21_law_same, U22_law_tick, U23_law_rule_made, U24_law_rule, U25_law_bag, U26_Rule_is_modes, U27_Rule_call, U28_Rule_tick, U29_Rule_tick, T_law, objD_Ru, tag_Ru, isO_Ru, e]
    rw [ef]
    sizeOf_list_dec
    (refine behind_spec ?_; sizeOf_list_dec; refine behind_spec ?_; sizeOf_list_dec; refine behind_spec ?_; sizeOf_list_dec)
    exact hq
theorem call_spec {d o k y z l a b c x1 x2 x3 t : Int} {h : Bool} {r : D} (hl : 1 ≤ l) (h1 : 1 ≤ y) (h2 : y ≤ 2) (h3 : 1 ≤ z) (h4 : z ≤ 3) (hr : r = .lst [.int x1, .int x2, .int x3] ∨ r = .tup [.int x1, .int x2, .int x3])
    (hh : pkV y z l h (sg a) (sg b) (sg c) ≠ none) (hq : Q (outV d o k a b c (tV (pkV y z l h (sg a) (sg b) (sg c)) t x1 x2 x3) x1 x2 x3) μ) : Wf F_Rule_call [Ru d o k y z l h, .tup [.int a, .int b, .int c], r] μ Q E := by
  unfold F_Rule_call C_Rule_call
  sizeOf_list_dec
  refine tick_spec (t := t) hl h1 h2 h3 h4 hr (.inr hh) ?_
  sizeOf_list_dec
  exact hq
theorem beh_ok {o k m : Int} {near : Bool} (hk : 0 ≤ k) (ho : 1 ≤ o) (h1 : -(max 1 k) ≤ m) (h2 : m ≤ o - 1) : -(max 1 k) ≤ behV o k m near ∧ behV o k m near ≤ o - 1 := by
  unfold behV
  cases near <;> (repeat' split) <;> (try simp at *) <;> omega
theorem pk0 {y z l : Int} {h : Bool} (hl : l ≤ 3) : pkV y z l h (sg 0) (sg 0) (sg 0) ≠ none := by
  have : decide (l ≤ ((insB (sg 0) (sg 0) (sg 0)).length : Int)) = true := decide_eq_true (by show l ≤ 3; exact hl)
  unfold pkV
  rw [this]
  exact fun z => nomatch z
theorem comp_inv {p : Pat} {elt : EG.Env → EM D} {env : EG.Env} (I : Mu → Prop) (P : D → Prop) : ∀ (ds : List D) (μ : Mu) {QL : List D → Mu → Prop} {E : PX}, (∀ d ∈ ds, ∀ μ, I μ → ∃ e, bindP p d env = some e ∧ Wp (elt e) μ (fun x μ' => P x ∧ I μ') (fun _ _ _ => False)) → I μ →
    (∀ xs μ', xs.length = ds.length → (∀ x ∈ xs, P x) → I μ' → QL xs μ') → Wp (compL p fYes elt env ds) μ QL E
  | [], μ, QL, E, h, hI, hq => by
    rw [wp_compN]
    exact hq [] μ rfl (fun _ h => nomatch h) hI
  | d :: r, μ, QL, E, h, hI, hq => by
    obtain ⟨e, he, h1⟩ := h d (List.mem_cons_self ..) μ hI
    rw [wp_compC, he, op_some, wp_yes, br_true]
    refine Wp.imp h1 fun x μ1 z => ?_
    refine comp_inv I P r μ1 (fun d hd => h d (List.mem_cons_of_mem _ hd)) z.2 fun xs μ2 hl hx hI2 => ?_
    refine hq (x :: xs) μ2 (by rw [List.length_cons, List.length_cons, hl]) (fun y hy => ?_) hI2
    rcases List.mem_cons.mp hy with rfl | hy
    · exact z.1
    · exact hx y hy
def isRow (d : D) : Prop := ∃ x1 x2 x3 : Int, d = .tup [.int x1, .int x2, .int x3]
theorem readings_spec {many far : Int} (hb : BagOk b) (hm : many ≤ 1000) (hm0 : 0 ≤ many) (hf0 : 0 ≤ far) (hf : far ≤ 1000000) (hq : ∀ rows b', rows.length ≤ 1000 → (∀ d ∈ rows, isRow d) → BagOk b' → Q (.lst rows) (b' :: μ)) : Wf F_law_readings [.cell 0, .int many, .int far] (b :: μ) Q E := by
  unfold F_law_readings C_law_readings
  simp only [↓br_true, ↓br_false, ↓op_some, ↓wp_bind, ↓wp_pure, ↓wp_fail, ↓wp_opt, ↓wp_guard, ↓wp_v, ↓wp_vB, ↓wp_c, ↓wp_op2, ↓wp_op2L, ↓wp_t, ↓wp_tru, ↓wp_chain, ↓wp_andT, ↓wp_orT, ↓wp_notT, ↓wp_andV, ↓wp_orV, ↓wp_notV, ↓wp_if, ↓wp_nil, ↓wp_cons, ↓wp_tup, ↓wp_lst, ↓wp_D, ↓wp_cb, ↓wp_call, ↓wp_isi, ↓wp_neg, ↓wp_sl, ↓wp_noP, ↓wp_P, ↓wp_yes, ↓wp_items, ↓wp_signs, ↓wp_comp, ↓ws_seq, ↓thn_nx, ↓thn_rt, ↓thn_br, ↓thn_ct, ↓thn_exc, ↓ws_skip, ↓ws_break, ↓ws_cont, ↓ws_retN, ↓ws_set, ↓ws_own, ↓ws_ret, ↓ws_drop, ↓ws_if, ↓ws_asg, ↓ws_par3, ↓ws_par, ↓ws_setC, ↓wp_newc, ↓ws_app, ↓ws_ext, ↓ws_setI, ↓ws_frz, ↓ws_for, ↓wl_nil, ↓wl_cons, ↓wf_run, ↓retS_nx, ↓retS_rt, ↓lpS_nx, ↓lpS_ct, ↓lpS_br, ↓lpS_rt, ↓turn_nx, ↓turn_ct, ↓turn_br, ↓turn_rt, ↓wp_addI, ↓wp_addS, ↓wp_subI, ↓wp_mulI, ↓wp_divI, ↓wp_modI, ↓wp_powI, ↓wp_cmpI, ↓wp_eq, ↓wp_ne, ↓wp_negI, ↓wp_seqE, ↓wp_lstE, ↓wp_ixL, ↓wp_ixT, ↓wp_ixC, ↓wp_ixS, ↓wp_lenS, ↓wp_lenL, ↓wp_lenT, ↓wp_lenC, ↓wp_absI, ↓wp_intI, ↓wp_intB, ↓wp_intS, ↓wp_strI, ↓wp_boolI, ↓wp_boolB, ↓wp_all, ↓wp_any, ↓wp_sum, ↓wp_max2, ↓wp_min2, ↓wp_list, ↓wp_tuple, ↓wp_sorted, ↓wp_slS, ↓wp_slT, ↓wp_slLD, ↓wp_slC, ↓wp_slL, ↓wp_range1, ↓wp_range2, ↓wp_enum, ↓wp_enumT, ↓wp_zip, ↓wp_zipTT, ↓wp_zipTL, ↓wp_zipLT, ↓wp_cat, ↓wp_rep, ↓wp_inSg, ↓wp_notInSg, ↓wp_inL, ↓wp_inT, ↓wp_notIn, ↓wp_isN, ↓wp_notN, tt1, tt2, tt3, tt4, tt5, tt6, tu1, tu2, tu3, tu4, tu5, tu6, tu7, tu8, tu9, tu10, tu11, tu12, tu13, tu14, tu15, tu16, tu17, tu18, tu19, tu20, tu21, tu22, tu23, tu24, asB_bl, truD_non, truD_bl, truD_int, truD_str, truD_lst, truD_tup, asI_int, asS_str, items_lst, items_tup, items_str, valS_v, valB_v, valB_own, seqD_lst, seqD_tup, seqD_cell0, lstD_lst, lstD_cell0, cellL_0, own_lst, nonB_non, nonB_bl, nonB_int, nonB_str, nonB_lst, nonB_tup, nonB_cell, nonB_obj, bools_nil, bools_cons, ints_nil, ints_cons, eqD_ii, eqD_bb, eqD_ss, eqD_nn, eqD_ni, eqD_in, eqD_nb, eqD_bn, eqD_ns, eqD_sn, eqD_is, eqD_si, eqD_bs, eqD_sb, tag_non, tag_bl, tag_int, tag_str, tag_lst, tag_tup, tag_obj, bindP_nm, bindP_tp, bindPs_nil, bindPs_cons, ↓wp_get, ↓wp_meth, ↓wp_prop, ↓ws_setF, ↓wp_mk, ↓wp_own, ↓wp_kd, ↓wp_methK, ↓wp_ownNe, ↓wp_own1, ↓wp_ownT, ↓wp_fstr, ↓wp_fFn, ↓wp_fFc, ↓wp_fmtS, ↓wp_fmtI, kok_len, kok_repr, kok_bool, eqD_tt, eqD_ll, plB_non, plB_bl, plB_int, plB_str, plB_lst, plB_tup, eqBs_nn, eqBs_cc, eqBs_nc, eqBs_cn, eqB_ii, eqB_bb, eqB_ss, eqB_nn, eqB_ll, eqB_tt, eqB_ni, eqB_in, eqB_nt, eqB_tn, eqB_it, eqB_ti, ↓wp_addT, ↓wp_addL, ↓wp_mulL, objD_obj, objD_last, cellO_last, set_last, isO_obj, isO_last, putD_nil, putD_cons, lkp_nil, lkp_cons, bel_plain, bels_plain, belF_nil, belF_cons, rng_0, rng_1, rng_2, rng_3, enL_nil, enL_cons, zpL_nil, zpL_nilR, zpL_cons, ↓wp_maxL, ↓wp_minL, maxL_2, maxL_1, minL_2, minL_1, bel_non, bel_bl, bel_int, bel_str, bel_lst, bel_tup, bel_obj, bels_nil, bels_cons, kst_app0, ctl_hi, ctl_lo, ctl_no, kst_inj, ↓wp_rgI1, ↓wp_rgI2, ↓wp_rg1, ↓wp_rg2, ↓wp_callO, kst_beq, EG.runs, EG.run, ev, evs, evo, evr, evf, mkE, mkL, failL, bopF, copF, bltF, lbltF, env0, wipeE, isiAny, isi1, frzS, Cell.toD, atI_nn, setAt_nn, wp_inSg, Gam.put, clsTab, arrQ, arrP, Pick.of, kwM, rightB, E00, List.map_cons, List.map_nil, List.length_cons, List.length_nil, List.append_nil, List.nil_append, List.cons_append, List.getElem?_cons_zero, List.getElem?_cons_succ, List.getElem?_nil, List.set_cons_zero, List.set_cons_succ, List.filter_cons, List.filter_nil, List.contains_nil, List.elem_nil, Int.reduceNeg, Int.reducePow, nA10, nA2, le_big, Nat.reducePow, Nat.zero_add, Option.map_some, Option.bind_some, Int.reduceLE, Int.reduceToNat, Int.reduceLT, Nat.reduceLT, Nat.reduceAdd, Nat.reduceSub, true_and, and_true, decide_true, decide_false, List.length_append, List.length_map, Nat.reduceLeDiff, Nat.reduceEqDiff, Bool.not_true, Bool.not_false, decide_eq_true_eq, reduceCtorEq, Option.some.injEq, id_eq, List.all_cons, List.all_nil, List.any_cons, List.any_nil, Bool.and_true, Bool.true_and, Bool.and_false, Bool.false_and, Bool.or_true, Bool.or_false, Bool.true_or, Bool.false_or, Int.reduceAdd, Int.reduceSub, beq_self_eq_true, Option.isNone_none, Option.isNone_some, if_true, if_false, ite_true, ite_false, Nat.succ_eq_add_one, Int.natCast_add, Int.natCast_one, Int.cast_ofNat_Int, List.contains_cons, String.reduceEq, List.take_succ_cons, List.take_zero, List.drop_succ_cons, List.drop_zero, List.take_nil, List.drop_nil, List.replicate, Int.natCast_zero, Int.zero_add, kG0, kConsts, kFrees, kCls, kisi_0, kisi_1, kisi_2, kisi_3, kisi_4, kisi_5, kisi_6, kisi_7, kisi_8, kisi_9, kisi_10, kisi_11, kfld_0, dflD_law_pull, kwdD_law_pull, T_law_pull, dflD_law_readings, kwdD_law_readings, U0_law_pull, T_law_readings, dflD_is_number, kwdD_is_number, T_is_number, dflD_is_between, kwdD_is_between, U1_is_number, T_is_between, dflD_Rule_out, kwdD_Rule_out, T_Rule_out, dflD_Rule_back, kwdD_Rule_back, T_Rule_back, dflD_Rule_is_modes, kwdD_Rule_is_modes, U2_is_between, U3_Rule_out, U4_Rule_back, T_Rule_is_modes, dflD_law_same, kwdD_law_same, T_law_same, dflD_Rule_mode_behind, kwdD_Rule_mode_behind, T_Rule_mode_behind, dflD_Rule_distance, kwdD_Rule_distance, T_Rule_distance, dflD_Rule_hold, kwdD_Rule_hold, T_Rule_hold, dflD_Rule_ranks, kwdD_Rule_ranks, T_Rule_ranks, dflD_Rule_least, kwdD_Rule_least, T_Rule_least, dflD_Rule_ranked, kwdD_Rule_ranked, U5_Rule_hold, U6_Rule_ranks, U7_Rule_least, T_Rule_ranked, dflD_is_listed, kwdD_is_listed, T_is_listed, dflD_Rule_need_readings, kwdD_Rule_need_readings, U8_is_listed, T_Rule_need_readings, dflD_Rule_tick, kwdD_Rule_tick, U9_Rule_mode_behind, U10_Rule_ranked, U11_Rule_distance, U12_Rule_need_readings, T_Rule_tick, dflD_Rule_call, kwdD_Rule_call, U13_Rule_tick, T_Rule_call, dflD_law_picked, kwdD_law_picked, T_law_picked, dflD_law_behind, kwdD_law_behind, T_law_behind, dflD_law_tick, kwdD_law_tick, U14_law_behind, U15_law_picked, T_law_tick, dflD_law_of, kwdD_law_of, T_law_of, dflD_are_ranks, kwdD_are_ranks, T_are_ranks, dflD_is_amount, kwdD_is_amount, T_is_amount, dflD_Rule_init, kwdD_Rule_init, U16_are_ranks, U17_is_amount, T_Rule_init, dflD_law_rule_made, kwdD_law_rule_made, U18_Rule_init, T_law_rule_made, dflD_law_rule, kwdD_law_rule, U19_law_of, T_law_rule, dflD_law_bag, kwdD_law_bag, T_law_bag, dflD_law, kwdD_law, U20_law_readings, U21_law_same, U22_law_tick, U23_law_rule_made, U24_law_rule, U25_law_bag, U26_Rule_is_modes, U27_Rule_call, U28_Rule_tick, U29_Rule_tick, T_law, objD_Ru, tag_Ru, isO_Ru]
  have hl : (rangeL 0 many.toNat).length = many.toNat := rangeL_len
  refine ⟨⟨by omega, by omega, by show many.toNat ≤ 16777216; omega⟩, comp_inv (fun μ' => ∃ b, BagOk b ∧ μ' = b :: μ) isRow _ _ (fun dd hd μ' hI => ?_) ⟨b, hb, rfl⟩ fun xs μ' hx hp hI => ?_⟩
  · obtain ⟨b, hb, rfl⟩ := hI
    refine ⟨_, bindP_nm, ?_⟩
    sizeOf_list_dec
    refine ⟨okMul_r (by omega) (by omega), pull_spec hb (by omega) (by omega) fun x1 b _ _ hb => ?_⟩
    sizeOf_list_dec
    refine ⟨okMul_r (by omega) (by omega), pull_spec hb (by omega) (by omega) fun x2 b _ _ hb => ?_⟩
    sizeOf_list_dec
    refine ⟨okMul_r (by omega) (by omega), pull_spec hb (by omega) (by omega) fun x3 b _ _ hb => ?_⟩
    sizeOf_list_dec
    exact ⟨⟨_, _, _, rfl⟩, _, hb, rfl⟩
  · obtain ⟨b, hb, rfl⟩ := hI
    sizeOf_list_dec
    exact hq xs b (by omega) hp hb
end
local macro_rules
  | `(tactic| sizeOf_list_dec) => `(tactic| simp only [↓br_true, ↓br_false, ↓op_some, ↓wp_bind, ↓wp_pure, ↓wp_fail, ↓wp_opt, ↓wp_guard, ↓wp_v, ↓wp_vB, ↓wp_c, ↓wp_op2, ↓wp_op2L, ↓wp_t, ↓wp_tru, ↓wp_chain, ↓wp_andT, ↓wp_orT, ↓wp_notT, ↓wp_andV, ↓wp_orV, ↓wp_notV, ↓wp_if, ↓wp_nil, ↓wp_cons, ↓wp_tup, ↓wp_lst, ↓wp_D, ↓wp_cb, ↓wp_call, ↓wp_isi, ↓wp_neg, ↓wp_sl, ↓wp_noP, ↓wp_P, ↓wp_yes, ↓wp_items, ↓wp_signs, ↓wp_comp, ↓ws_seq, ↓thn_nx, ↓thn_rt, ↓thn_br, ↓thn_ct, ↓thn_exc, ↓ws_skip, ↓ws_break, ↓ws_cont, ↓ws_retN, ↓ws_set, ↓ws_own, ↓ws_ret, ↓ws_drop, ↓ws_if, ↓ws_asg, ↓ws_par3, ↓ws_par, ↓ws_setC, ↓wp_newc, ↓ws_app, ↓ws_ext, ↓ws_setI, ↓ws_frz, ↓ws_for, ↓wl_nil, ↓wl_cons, ↓wf_run, ↓retS_nx, ↓retS_rt, ↓lpS_nx, ↓lpS_ct, ↓lpS_br, ↓lpS_rt, ↓turn_nx, ↓turn_ct, ↓turn_br, ↓turn_rt, ↓wp_addI, ↓wp_addS, ↓wp_subI, ↓wp_mulI, ↓wp_divI, ↓wp_modI, ↓wp_powI, ↓wp_cmpI, ↓wp_eq, ↓wp_ne, ↓wp_negI, ↓wp_seqE, ↓wp_lstE, ↓wp_ixL, ↓wp_ixT, ↓wp_ixC, ↓wp_ixS, ↓wp_lenS, ↓wp_lenL, ↓wp_lenT, ↓wp_lenC, ↓wp_absI, ↓wp_intI, ↓wp_intB, ↓wp_intS, ↓wp_strI, ↓wp_boolI, ↓wp_boolB, ↓wp_all, ↓wp_any, ↓wp_sum, ↓wp_max2, ↓wp_min2, ↓wp_list, ↓wp_tuple, ↓wp_sorted, ↓wp_slS, ↓wp_slT, ↓wp_slLD, ↓wp_slC, ↓wp_slL, ↓wp_range1, ↓wp_range2, ↓wp_enum, ↓wp_enumT, ↓wp_zip, ↓wp_zipTT, ↓wp_zipTL, ↓wp_zipLT, ↓wp_cat, ↓wp_rep, ↓wp_inSg, ↓wp_notInSg, ↓wp_inL, ↓wp_inT, ↓wp_notIn, ↓wp_isN, ↓wp_notN, tt1, tt2, tt3, tt4, tt5, tt6, tu1, tu2, tu3, tu4, tu5, tu6, tu7, tu8, tu9, tu10, tu11, tu12, tu13, tu14, tu15, tu16, tu17, tu18, tu19, tu20, tu21, tu22, tu23, tu24, asB_bl, truD_non, truD_bl, truD_int, truD_str, truD_lst, truD_tup, asI_int, asS_str, items_lst, items_tup, items_str, valS_v, valB_v, valB_own, seqD_lst, seqD_tup, seqD_cell0, lstD_lst, lstD_cell0, cellL_0, own_lst, nonB_non, nonB_bl, nonB_int, nonB_str, nonB_lst, nonB_tup, nonB_cell, nonB_obj, bools_nil, bools_cons, ints_nil, ints_cons, eqD_ii, eqD_bb, eqD_ss, eqD_nn, eqD_ni, eqD_in, eqD_nb, eqD_bn, eqD_ns, eqD_sn, eqD_is, eqD_si, eqD_bs, eqD_sb, tag_non, tag_bl, tag_int, tag_str, tag_lst, tag_tup, tag_obj, bindP_nm, bindP_tp, bindPs_nil, bindPs_cons, ↓wp_get, ↓wp_meth, ↓wp_prop, ↓ws_setF, ↓wp_mk, ↓wp_own, ↓wp_kd, ↓wp_methK, ↓wp_ownNe, ↓wp_own1, ↓wp_ownT, ↓wp_fstr, ↓wp_fFn, ↓wp_fFc, ↓wp_fmtS, ↓wp_fmtI, kok_len, kok_repr, kok_bool, eqD_tt, eqD_ll, plB_non, plB_bl, plB_int, plB_str, plB_lst, plB_tup, eqBs_nn, eqBs_cc, eqBs_nc, eqBs_cn, eqB_ii, eqB_bb, eqB_ss, eqB_nn, eqB_ll, eqB_tt, eqB_ni, eqB_in, eqB_nt, eqB_tn, eqB_it, eqB_ti, ↓wp_addT, ↓wp_addL, ↓wp_mulL, objD_obj, objD_last, cellO_last, set_last, isO_obj, isO_last, putD_nil, putD_cons, lkp_nil, lkp_cons, bel_plain, bels_plain, belF_nil, belF_cons, ↓wp_compN, ↓wp_compC, rng_0, rng_1, rng_2, rng_3, enL_nil, enL_cons, zpL_nil, zpL_nilR, zpL_cons, ↓wp_maxL, ↓wp_minL, maxL_2, maxL_1, minL_2, minL_1, bel_non, bel_bl, bel_int, bel_str, bel_lst, bel_tup, bel_obj, bels_nil, bels_cons, kst_app0, ctl_hi, ctl_lo, ctl_no, kst_inj, ↓wp_rgI1, ↓wp_rgI2, ↓wp_rg1, ↓wp_rg2, ↓wp_callO, kst_beq, EG.runs, EG.run, ev, evs, evo, evr, evf, mkE, mkL, failL, bopF, copF, bltF, lbltF, env0, wipeE, isiAny, isi1, frzS, Cell.toD, atI_nn, setAt_nn, wp_inSg, Gam.put, clsTab, arrQ, arrP, Pick.of, kwM, rightB, E00, List.map_cons, List.map_nil, List.length_cons, List.length_nil, List.append_nil, List.nil_append, List.cons_append, List.getElem?_cons_zero, List.getElem?_cons_succ, List.getElem?_nil, List.set_cons_zero, List.set_cons_succ, List.filter_cons, List.filter_nil, List.contains_nil, List.elem_nil, Int.reduceNeg, Int.reducePow, nA10, nA2, le_big, Nat.reducePow, Nat.zero_add, Option.map_some, Option.bind_some, Int.reduceLE, Int.reduceToNat, Int.reduceLT, Nat.reduceLT, Nat.reduceAdd, Nat.reduceSub, true_and, and_true, decide_true, decide_false, List.length_append, List.length_map, Nat.reduceLeDiff, Nat.reduceEqDiff, Bool.not_true, Bool.not_false, decide_eq_true_eq, reduceCtorEq, Option.some.injEq, id_eq, List.all_cons, List.all_nil, List.any_cons, List.any_nil, Bool.and_true, Bool.true_and, Bool.and_false, Bool.false_and, Bool.or_true, Bool.or_false, Bool.true_or, Bool.false_or, Int.reduceAdd, Int.reduceSub, beq_self_eq_true, Option.isNone_none, Option.isNone_some, if_true, if_false, ite_true, ite_false, Nat.succ_eq_add_one, Int.natCast_add, Int.natCast_one, Int.cast_ofNat_Int, List.contains_cons, String.reduceEq, List.take_succ_cons, List.take_zero, List.drop_succ_cons, List.drop_zero, List.take_nil, List.drop_nil, List.replicate, Int.natCast_zero, Int.zero_add, kG0, kConsts, kFrees, kCls, kisi_0, kisi_1, kisi_2, kisi_3, kisi_4, kisi_5, kisi_6, kisi_7, kisi_8, kisi_9, kisi_10, kisi_11, kfld_0, dflD_law_pull, kwdD_law_pull, T_law_pull, dflD_law_readings, kwdD_law_readings, U0_law_pull, T_law_readings, dflD_is_number, kwdD_is_number, T_is_number, dflD_is_between, kwdD_is_between, U1_is_number, T_is_between, dflD_Rule_out, kwdD_Rule_out, T_Rule_out, dflD_Rule_back, kwdD_Rule_back, T_Rule_back, dflD_Rule_is_modes, kwdD_Rule_is_modes, U2_is_between, U3_Rule_out, U4_Rule_back, T_Rule_is_modes, dflD_law_same, kwdD_law_same, T_law_same, dflD_Rule_mode_behind, kwdD_Rule_mode_behind, T_Rule_mode_behind, dflD_Rule_distance, kwdD_Rule_distance, T_Rule_distance, dflD_Rule_hold, kwdD_Rule_hold, T_Rule_hold, dflD_Rule_ranks, kwdD_Rule_ranks, T_Rule_ranks, dflD_Rule_least, kwdD_Rule_least, T_Rule_least, dflD_Rule_ranked, kwdD_Rule_ranked, U5_Rule_hold, U6_Rule_ranks, U7_Rule_least, T_Rule_ranked, dflD_is_listed, kwdD_is_listed, T_is_listed, dflD_Rule_need_readings, kwdD_Rule_need_readings, U8_is_listed, T_Rule_need_readings, dflD_Rule_tick, kwdD_Rule_tick, U9_Rule_mode_behind, U10_Rule_ranked, U11_Rule_distance, U12_Rule_need_readings, T_Rule_tick, dflD_Rule_call, kwdD_Rule_call, U13_Rule_tick, T_Rule_call, dflD_law_picked, kwdD_law_picked, T_law_picked, dflD_law_behind, kwdD_law_behind, T_law_behind, dflD_law_tick, kwdD_law_tick, U14_law_behind, U15_law_picked, T_law_tick, dflD_law_of, kwdD_law_of, T_law_of, dflD_are_ranks, kwdD_are_ranks, T_are_ranks, dflD_is_amount, kwdD_is_amount, T_is_amount, dflD_Rule_init, kwdD_Rule_init, U16_are_ranks, U17_is_amount, T_Rule_init, dflD_law_rule_made, kwdD_law_rule_made, U18_Rule_init, T_law_rule_made, dflD_law_rule, kwdD_law_rule, U19_law_of, T_law_rule, dflD_law_bag, kwdD_law_bag, T_law_bag, dflD_law, kwdD_law, U20_law_readings, U21_law_same, U22_law_tick, U23_law_rule_made, U24_law_rule, U25_law_bag, U26_Rule_is_modes, U27_Rule_call, U28_Rule_tick, U29_Rule_tick, T_law, objD_Ru, tag_Ru, isO_Ru])
def Inv (ns : List Int) : List D → EG.Env → Mu → Prop := fun _ env μ => (∃ s2 s3 s4 s5 s6 s7 s8 s9 s10 s11 s12 s13, env = [.v (.scr ns), .v (.cell 0), s2, s3, s4, s5, s6, s7, s8, s9, s10, s11, s12, s13]) ∧ ∃ b, BagOk b ∧ μ = [b]
def Inv2 (ns : List Int) (d o k y z l by_ : Int) (h : Bool) : List D → EG.Env → Mu → Prop := fun r env μ => (∀ x ∈ r, isRow x) ∧ (∃ (s2 s3 : Slot) (a b c : Int) (t : D) (s9 s10 s11 s12 s13 : Slot),
    env = [.v (.scr ns), .v (.cell 0), s2, s3, .v (.tup [.int d, .int o, .int k, .tup [.int 1, .int y, .int z], .int l, .bl h]), .v (Ru d o k y z l h), .v (.tup [.int a, .int b, .int c]), .v t, .v (.int by_), s9, s10, s11, s12, s13]
    ∧ (-(max 1 k) ≤ a ∧ a ≤ o - 1 ∧ -(max 1 k) ≤ b ∧ b ≤ o - 1 ∧ -(max 1 k) ≤ c ∧ c ≤ o - 1) ∧ ((∃ v, t = .int v) ∨ (t = .non ∧ a = 0 ∧ b = 0 ∧ c = 0))) ∧ ∃ b, BagOk b ∧ μ = [b]
theorem law_wf (ns : List Int) : Wf F_law [.scr ns] [] (fun d _ => d = .bl true) (fun _ _ _ => False) := by
  unfold F_law C_law
  sizeOf_list_dec
  refine bag_spec fun b hb => ?_
  sizeOf_list_dec
  refine wl_inv (Inv ns) ?_ ?_ _ _ _ ⟨⟨_, _, _, _, _, _, _, _, _, _, _, _, rfl⟩, b, hb, rfl⟩
  · rintro dd rr env μ ⟨⟨s2, s3, s4, s5, s6, s7, s8, s9, s10, s11, s12, s13, rfl⟩, b, hb, rfl⟩
    refine ⟨_, bindP_nm, ?_⟩
    sizeOf_list_dec
    refine of_spec (F := F_law_pull) (lv := 1) rfl rfl hb (List.cons_ne_nil _ _) (by simp) fun fd b hfd hb => ?_
    obtain ⟨far, rfl, f1, f2⟩ : ∃ far : Int, fd = .int far ∧ 2 ≤ far ∧ far ≤ 1000000 := by
      simp only [List.mem_cons, List.not_mem_nil, or_false] at hfd
      rcases hfd with rfl | rfl | rfl <;> exact ⟨_, rfl, by decide, by decide⟩
    sizeOf_list_dec
    refine rule_spec (far := far) (by omega) (by omega) hb fun d o k y z l h b d1 d2 o1 o2 k1 k2 y1 y2 z1 z2 l1 l2 hb => ?_
    sizeOf_list_dec
    refine made_spec (by omega) (by omega) (by omega) (by omega) (by omega) (by omega) (by omega) (by omega) (by omega) (by omega) (by omega) (by omega) ?_
    sizeOf_list_dec
    refine of_spec (F := F_law_pull) (lv := 1) rfl rfl hb (List.cons_ne_nil _ _) (by simp) fun bd b hbd hb => ?_
    obtain ⟨by_, rfl⟩ : ∃ far : Int, bd = .int far := by
      simp only [List.mem_cons, List.not_mem_nil, or_false] at hbd
      rcases hbd with rfl | rfl | rfl <;> exact ⟨_, rfl⟩
    sizeOf_list_dec
    refine pull_spec hb (by omega) (by omega) fun many b m1 m2 hb => ?_
    sizeOf_list_dec
    refine readings_spec hb (by omega) (by omega) (by omega) (by omega) fun rows b hr1 hrows hb => ?_
    sizeOf_list_dec
    refine wl_inv (Inv2 ns d o k y z l by_ h) ?_ ?_ _ _ _ ⟨hrows, ⟨_, _, 0, 0, 0, .non, _, _, _, _, _, rfl, ⟨by omega, by omega, by omega, by omega, by omega, by omega⟩, .inr ⟨rfl, rfl, rfl, rfl⟩⟩, b, hb, rfl⟩
    · rintro dd rr env μ ⟨hrows, ⟨s2, s3, a, m, c, t, s9, s10, s11, s12, s13, rfl, ⟨a1, a2, m1, m2, c1, c2⟩, ht⟩, b, hb, rfl⟩
      obtain ⟨x1, x2, x3, rfl⟩ := hrows dd (List.mem_cons_self ..)
      have hrows := fun x hx => hrows x (List.mem_cons_of_mem _ hx)
      refine ⟨_, bindP_nm, ?_⟩
      sizeOf_list_dec
      obtain ⟨tv, hh⟩ : ∃ tv, t = .int tv ∨ pkV y z l h (sg a) (sg m) (sg c) ≠ none := by
        rcases ht with ⟨v, rfl⟩ | ⟨rfl, rfl, rfl, rfl⟩
        · exact ⟨v, .inl rfl⟩
        · exact ⟨0, .inr (pk0 l2)⟩
      refine ltick_spec (t := tv) l1 y1 y2 z1 z2 hh ?_
      sizeOf_list_dec
      refine pull_spec hb (by omega) (by omega) fun w b w1 w2 hb => ?_
      sizeOf_list_dec
      have go : ∀ r : D, (r = .lst [.int (x1 + by_), .int (x2 + by_), .int (x3 + by_)] ∨ r = .tup [.int (x1 + by_), .int (x2 + by_), .int (x3 + by_)]) → True := fun _ _ => trivial
      refine br_cases (fun e => ?_) (fun e => ?_)
      all_goals sizeOf_list_dec
      all_goals refine tick_spec (t := tv) l1 y1 y2 z1 z2 (by first | exact .inl rfl | exact .inr rfl) hh ?_
      all_goals sizeOf_list_dec
      all_goals refine same_spec (F := F_law_same) (G := fun n => kG0.put (T_law_same n (F_law_same n))) (lv := fun n => n + 0) (fun _ => rfl) (fun _ => rfl) 6 _ _ _ _ rfl ?_
      all_goals sizeOf_list_dec
      all_goals refine tick_spec (t := tv) l1 y1 y2 z1 z2 (.inr rfl) hh ?_
      all_goals sizeOf_list_dec
      all_goals refine same_spec (F := F_law_same) (G := fun n => kG0.put (T_law_same n (F_law_same n))) (lv := fun n => n + 0) (fun _ => rfl) (fun _ => rfl) 6 _ _ _ _ rfl ?_
      all_goals sizeOf_list_dec
      all_goals refine picked_spec l1 ?_
      all_goals sizeOf_list_dec
      all_goals
        have okI : ∀ {i : Int}, -(max 1 k) ≤ i ∧ i ≤ o - 1 → OkM (-(max 1 k)) (o - 1) (.int i) true := fun ab => .inl ⟨_, rfl, by rw [decide_eq_true ab.1, decide_eq_true ab.2]; rfl⟩
        have B : ∀ {near m'}, -(max 1 k) ≤ m' → m' ≤ o - 1 → -(max 1 k) ≤ behV o k m' near ∧ behV o k m' near ≤ o - 1 := fun q1 q2 => beh_ok k1 o1 q1 q2
        cases p : pkV y z l h (sg a) (sg m) (sg c) with
        | none =>
          unfold pkD
          sizeOf_list_dec
          unfold outV
          sizeOf_list_dec
          refine modes_spec (okI (B a1 a2)) (okI (B m1 m2)) (okI (B c1 c2)) ?_
          sizeOf_list_dec
          exact ⟨hrows, ⟨_, _, _, _, _, _, _, _, _, _, _, rfl, ⟨(B a1 a2).1, (B a1 a2).2, (B m1 m2).1, (B m1 m2).2, (B c1 c2).1, (B c1 c2).2⟩, .inl ⟨_, rfl⟩⟩, b, hb, rfl⟩
        | some lr =>
          obtain ⟨L, rr⟩ := lr
          unfold pkD
          sizeOf_list_dec
          refine call_spec (t := tv) l1 y1 y2 z1 z2 (.inr rfl) (by rw [p]; exact fun z => nomatch z) ?_
          rw [p]
          sizeOf_list_dec
          refine same_spec (F := F_law_same) (G := fun n => kG0.put (T_law_same n (F_law_same n))) (lv := fun n => n + 0) (fun _ => rfl) (fun _ => rfl) 6 _ _ _ _ rfl ?_
          sizeOf_list_dec
          unfold outV
          sizeOf_list_dec
          refine modes_spec (okI (B a1 a2)) (okI (B m1 m2)) (okI (B c1 c2)) ?_
          sizeOf_list_dec
          exact ⟨hrows, ⟨_, _, _, _, _, _, _, _, _, _, _, rfl, ⟨(B a1 a2).1, (B a1 a2).2, (B m1 m2).1, (B m1 m2).2, (B c1 c2).1, (B c1 c2).2⟩, .inl ⟨_, rfl⟩⟩, b, hb, rfl⟩
    · rintro env μ ⟨_, ⟨s2, s3, a, m, c, t, s9, s10, s11, s12, s13, rfl, _, ht⟩, b, hb, rfl⟩
      sizeOf_list_dec
      exact ⟨⟨_, _, _, _, _, _, _, _, _, _, _, _, rfl⟩, b, hb, rfl⟩
  · rintro env μ ⟨⟨s2, s3, s4, s5, s6, s7, s8, s9, s10, s11, s12, s13, rfl⟩, b, hb, rfl⟩
    sizeOf_list_dec
theorem law_true : ∀ ns : List Int, ns.length ≤ 63 → ∃ μ, F_law [.scr ns] [] = some (.ok (.bl true), μ) := fun ns _ => by
  have h := law_wf ns
  unfold Wf Wp at h
  cases q : F_law [.scr ns] [] with
  | none => rw [q] at h; exact h.elim
  | some o =>
    obtain ⟨o, μ1⟩ := o
    rw [q] at h
    cases o with
    | exc c fs => exact h.elim
    | ok v =>
      have h : v = .bl true := h
      rw [h]
      exact ⟨μ1, rfl⟩
end EGL
namespace EGL
open PySem L2 EG
def top (i : Nat) : Stmt := PySem.Challenge.pw_middlehold_k14_whole_ticks_of_rules.main.body.getD i (.Pass ⟨0, 0, 0, 0⟩)
def inCls (i j : Nat) : Stmt := match top i with
  | .ClassDef (body := b) .. => b.getD j (.Pass ⟨0, 0, 0, 0⟩)
  | s => s
abbrev s_law_pull : Stmt := top 18
theorem sc_law_pull : FnScope N_law_pull ["_law_bag_here", "_law_sides"] (defScope s_law_pull) := ⟨rfl, rfl, rfl, by decide +kernel, rfl, by decide +kernel, by decide +kernel⟩
def dn_law_pull : DefN := ⟨0, "_law_pull", "", "_law_pull", "_law_pull", defArgs s_law_pull, defBody s_law_pull, defScope s_law_pull, dflD_law_pull, kwdD_law_pull⟩
abbrev s_law_readings : Stmt := top 26
theorem sc_law_readings : FnScope N_law_readings ["_law_bag_here", "_law_many_z", "_law_far"] (defScope s_law_readings) := ⟨rfl, rfl, rfl, by decide +kernel, rfl, by decide +kernel, by decide +kernel⟩
def dn_law_readings : DefN := ⟨0, "_law_readings", "", "_law_readings", "_law_readings", defArgs s_law_readings, defBody s_law_readings, defScope s_law_readings, dflD_law_readings, kwdD_law_readings⟩
abbrev s_is_number : Stmt := top 3
theorem sc_is_number : FnScope N_is_number ["value"] (defScope s_is_number) := ⟨rfl, rfl, rfl, by decide +kernel, rfl, by decide +kernel, by decide +kernel⟩
def dn_is_number : DefN := ⟨0, "is_number", "", "is_number", "is_number", defArgs s_is_number, defBody s_is_number, defScope s_is_number, dflD_is_number, kwdD_is_number⟩
abbrev s_is_between : Stmt := top 4
theorem sc_is_between : FnScope N_is_between ["value", "least", "most"] (defScope s_is_between) := ⟨rfl, rfl, rfl, by decide +kernel, rfl, by decide +kernel, by decide +kernel⟩
def dn_is_between : DefN := ⟨0, "is_between", "", "is_between", "is_between", defArgs s_is_between, defBody s_is_between, defScope s_is_between, dflD_is_between, kwdD_is_between⟩
abbrev s_Rule_out : Stmt := inCls 15 3
theorem sc_Rule_out : FnScope N_Rule_out ["self"] (defScope s_Rule_out) := ⟨rfl, rfl, rfl, by decide +kernel, rfl, by decide +kernel, by decide +kernel⟩
def dn_Rule_out : DefN := ⟨2, "Rule", "out", "out", "Rule.out", defArgs s_Rule_out, defBody s_Rule_out, defScope s_Rule_out, dflD_Rule_out, kwdD_Rule_out⟩
abbrev s_Rule_back : Stmt := inCls 15 4
theorem sc_Rule_back : FnScope N_Rule_back ["self"] (defScope s_Rule_back) := ⟨rfl, rfl, rfl, by decide +kernel, rfl, by decide +kernel, by decide +kernel⟩
def dn_Rule_back : DefN := ⟨2, "Rule", "back", "back", "Rule.back", defArgs s_Rule_back, defBody s_Rule_back, defScope s_Rule_back, dflD_Rule_back, kwdD_Rule_back⟩
abbrev s_Rule_is_modes : Stmt := inCls 15 9
theorem sc_Rule_is_modes : FnScope N_Rule_is_modes ["self", "value"] (defScope s_Rule_is_modes) := ⟨rfl, rfl, rfl, by decide +kernel, rfl, by decide +kernel, by decide +kernel⟩
def dn_Rule_is_modes : DefN := ⟨1, "Rule", "is_modes", "is_modes", "Rule.is_modes", defArgs s_Rule_is_modes, defBody s_Rule_is_modes, defScope s_Rule_is_modes, dflD_Rule_is_modes, kwdD_Rule_is_modes⟩
abbrev s_law_same : Stmt := top 20
theorem sc_law_same : FnScope N_law_same ["_law_found_z", "_law_due"] (defScope s_law_same) := ⟨rfl, rfl, rfl, by decide +kernel, rfl, by decide +kernel, by decide +kernel⟩
def dn_law_same : DefN := ⟨0, "_law_same", "", "_law_same", "_law_same", defArgs s_law_same, defBody s_law_same, defScope s_law_same, dflD_law_same, kwdD_law_same⟩
abbrev s_Rule_mode_behind : Stmt := inCls 15 12
theorem sc_Rule_mode_behind : FnScope N_Rule_mode_behind ["self", "mode", "is_near"] (defScope s_Rule_mode_behind) := ⟨rfl, rfl, rfl, by decide +kernel, rfl, by decide +kernel, by decide +kernel⟩
def dn_Rule_mode_behind : DefN := ⟨1, "Rule", "mode_behind", "mode_behind", "Rule.mode_behind", defArgs s_Rule_mode_behind, defBody s_Rule_mode_behind, defScope s_Rule_mode_behind, dflD_Rule_mode_behind, kwdD_Rule_mode_behind⟩
abbrev s_Rule_distance : Stmt := inCls 15 2
theorem sc_Rule_distance : FnScope N_Rule_distance ["self"] (defScope s_Rule_distance) := ⟨rfl, rfl, rfl, by decide +kernel, rfl, by decide +kernel, by decide +kernel⟩
def dn_Rule_distance : DefN := ⟨2, "Rule", "distance", "distance", "Rule.distance", defArgs s_Rule_distance, defBody s_Rule_distance, defScope s_Rule_distance, dflD_Rule_distance, kwdD_Rule_distance⟩
abbrev s_Rule_hold : Stmt := inCls 15 7
theorem sc_Rule_hold : FnScope N_Rule_hold ["self"] (defScope s_Rule_hold) := ⟨rfl, rfl, rfl, by decide +kernel, rfl, by decide +kernel, by decide +kernel⟩
def dn_Rule_hold : DefN := ⟨2, "Rule", "hold", "hold", "Rule.hold", defArgs s_Rule_hold, defBody s_Rule_hold, defScope s_Rule_hold, dflD_Rule_hold, kwdD_Rule_hold⟩
abbrev s_Rule_ranks : Stmt := inCls 15 5
theorem sc_Rule_ranks : FnScope N_Rule_ranks ["self"] (defScope s_Rule_ranks) := ⟨rfl, rfl, rfl, by decide +kernel, rfl, by decide +kernel, by decide +kernel⟩
def dn_Rule_ranks : DefN := ⟨2, "Rule", "ranks", "ranks", "Rule.ranks", defArgs s_Rule_ranks, defBody s_Rule_ranks, defScope s_Rule_ranks, dflD_Rule_ranks, kwdD_Rule_ranks⟩
abbrev s_Rule_least : Stmt := inCls 15 6
theorem sc_Rule_least : FnScope N_Rule_least ["self"] (defScope s_Rule_least) := ⟨rfl, rfl, rfl, by decide +kernel, rfl, by decide +kernel, by decide +kernel⟩
def dn_Rule_least : DefN := ⟨2, "Rule", "least", "least", "Rule.least", defArgs s_Rule_least, defBody s_Rule_least, defScope s_Rule_least, dflD_Rule_least, kwdD_Rule_least⟩
abbrev s_Rule_ranked : Stmt := inCls 15 11
theorem sc_Rule_ranked : FnScope N_Rule_ranked ["self", "modes"] (defScope s_Rule_ranked) := ⟨rfl, rfl, rfl, by decide +kernel, rfl, by decide +kernel, by decide +kernel⟩
def dn_Rule_ranked : DefN := ⟨1, "Rule", "ranked", "ranked", "Rule.ranked", defArgs s_Rule_ranked, defBody s_Rule_ranked, defScope s_Rule_ranked, dflD_Rule_ranked, kwdD_Rule_ranked⟩
abbrev s_is_listed : Stmt := top 6
theorem sc_is_listed : FnScope N_is_listed ["value"] (defScope s_is_listed) := ⟨rfl, rfl, rfl, by decide +kernel, rfl, by decide +kernel, by decide +kernel⟩
def dn_is_listed : DefN := ⟨0, "is_listed", "", "is_listed", "is_listed", defArgs s_is_listed, defBody s_is_listed, defScope s_is_listed, dflD_is_listed, kwdD_is_listed⟩
abbrev s_Rule_need_readings : Stmt := inCls 15 13
theorem sc_Rule_need_readings : FnScope N_Rule_need_readings ["self", "readings", "but"] (defScope s_Rule_need_readings) := ⟨rfl, rfl, rfl, by decide +kernel, rfl, by decide +kernel, by decide +kernel⟩
def dn_Rule_need_readings : DefN := ⟨1, "Rule", "need_readings", "need_readings", "Rule.need_readings", defArgs s_Rule_need_readings, defBody s_Rule_need_readings, defScope s_Rule_need_readings, dflD_Rule_need_readings, kwdD_Rule_need_readings⟩
abbrev s_Rule_tick : Stmt := inCls 15 14
theorem sc_Rule_tick : FnScope N_Rule_tick ["self", "modes", "readings", "held"] (defScope s_Rule_tick) := ⟨rfl, rfl, rfl, by decide +kernel, rfl, by decide +kernel, by decide +kernel⟩
def dn_Rule_tick : DefN := ⟨1, "Rule", "tick", "tick", "Rule.tick", defArgs s_Rule_tick, defBody s_Rule_tick, defScope s_Rule_tick, dflD_Rule_tick, kwdD_Rule_tick⟩
abbrev s_Rule_call : Stmt := inCls 15 17
theorem sc_Rule_call : FnScope N_Rule_call ["self", "modes", "readings"] (defScope s_Rule_call) := ⟨rfl, rfl, rfl, by decide +kernel, rfl, by decide +kernel, by decide +kernel⟩
def dn_Rule_call : DefN := ⟨1, "Rule", "__call__", "__call__", "Rule.__call__", defArgs s_Rule_call, defBody s_Rule_call, defScope s_Rule_call, dflD_Rule_call, kwdD_Rule_call⟩
abbrev s_law_picked : Stmt := top 23
theorem sc_law_picked : FnScope N_law_picked ["_law_r", "_law_modes_z"] (defScope s_law_picked) := ⟨rfl, rfl, rfl, by decide +kernel, rfl, by decide +kernel, by decide +kernel⟩
def dn_law_picked : DefN := ⟨0, "_law_picked", "", "_law_picked", "_law_picked", defArgs s_law_picked, defBody s_law_picked, defScope s_law_picked, dflD_law_picked, kwdD_law_picked⟩
abbrev s_law_behind : Stmt := top 24
theorem sc_law_behind : FnScope N_law_behind ["_law_r", "_law_mode_z", "_law_near"] (defScope s_law_behind) := ⟨rfl, rfl, rfl, by decide +kernel, rfl, by decide +kernel, by decide +kernel⟩
def dn_law_behind : DefN := ⟨0, "_law_behind", "", "_law_behind", "_law_behind", defArgs s_law_behind, defBody s_law_behind, defScope s_law_behind, dflD_law_behind, kwdD_law_behind⟩
abbrev s_law_tick : Stmt := top 25
theorem sc_law_tick : FnScope N_law_tick ["_law_r", "_law_modes_z", "_law_readings_z", "_law_held_z"] (defScope s_law_tick) := ⟨rfl, rfl, rfl, by decide +kernel, rfl, by decide +kernel, by decide +kernel⟩
def dn_law_tick : DefN := ⟨0, "_law_tick", "", "_law_tick", "_law_tick", defArgs s_law_tick, defBody s_law_tick, defScope s_law_tick, dflD_law_tick, kwdD_law_tick⟩
abbrev s_law_of : Stmt := top 19
theorem sc_law_of : FnScope N_law_of ["_law_bag_here", "_law_things"] (defScope s_law_of) := ⟨rfl, rfl, rfl, by decide +kernel, rfl, by decide +kernel, by decide +kernel⟩
def dn_law_of : DefN := ⟨0, "_law_of", "", "_law_of", "_law_of", defArgs s_law_of, defBody s_law_of, defScope s_law_of, dflD_law_of, kwdD_law_of⟩
abbrev s_are_ranks : Stmt := top 14
theorem sc_are_ranks : FnScope N_are_ranks ["value"] (defScope s_are_ranks) := ⟨rfl, rfl, rfl, by decide +kernel, rfl, by decide +kernel, by decide +kernel⟩
def dn_are_ranks : DefN := ⟨0, "are_ranks", "", "are_ranks", "are_ranks", defArgs s_are_ranks, defBody s_are_ranks, defScope s_are_ranks, dflD_are_ranks, kwdD_are_ranks⟩
abbrev s_is_amount : Stmt := top 5
theorem sc_is_amount : FnScope N_is_amount ["value"] (defScope s_is_amount) := ⟨rfl, rfl, rfl, by decide +kernel, rfl, by decide +kernel, by decide +kernel⟩
def dn_is_amount : DefN := ⟨0, "is_amount", "", "is_amount", "is_amount", defArgs s_is_amount, defBody s_is_amount, defScope s_is_amount, dflD_is_amount, kwdD_is_amount⟩
abbrev s_Rule_init : Stmt := inCls 15 0
theorem sc_Rule_init : FnScope N_Rule_init ["self", "distance", "out", "back", "ranks", "least", "hold"] (defScope s_Rule_init) := ⟨rfl, rfl, rfl, by decide +kernel, rfl, by decide +kernel, by decide +kernel⟩
def dn_Rule_init : DefN := ⟨1, "Rule", "__init__", "__init__", "Rule.__init__", defArgs s_Rule_init, defBody s_Rule_init, defScope s_Rule_init, dflD_Rule_init, kwdD_Rule_init⟩
abbrev s_law_rule_made : Stmt := top 22
theorem sc_law_rule_made : FnScope N_law_rule_made ["_law_r"] (defScope s_law_rule_made) := ⟨rfl, rfl, rfl, by decide +kernel, rfl, by decide +kernel, by decide +kernel⟩
def dn_law_rule_made : DefN := ⟨0, "_law_rule_made", "", "_law_rule_made", "_law_rule_made", defArgs s_law_rule_made, defBody s_law_rule_made, defScope s_law_rule_made, dflD_law_rule_made, kwdD_law_rule_made⟩
abbrev s_law_rule : Stmt := top 21
theorem sc_law_rule : FnScope N_law_rule ["_law_bag_here", "_law_far", "_law_out_z", "_law_back_z"] (defScope s_law_rule) := ⟨rfl, rfl, rfl, by decide +kernel, rfl, by decide +kernel, by decide +kernel⟩
def dn_law_rule : DefN := ⟨0, "_law_rule", "", "_law_rule", "_law_rule", defArgs s_law_rule, defBody s_law_rule, defScope s_law_rule, dflD_law_rule, kwdD_law_rule⟩
abbrev s_law_bag : Stmt := top 17
theorem sc_law_bag : FnScope N_law_bag ["_law_script"] (defScope s_law_bag) := ⟨rfl, rfl, rfl, by decide +kernel, rfl, by decide +kernel, by decide +kernel⟩
def dn_law_bag : DefN := ⟨0, "_law_bag", "", "_law_bag", "_law_bag", defArgs s_law_bag, defBody s_law_bag, defScope s_law_bag, dflD_law_bag, kwdD_law_bag⟩
abbrev s_law : Stmt := top 27
theorem sc_law : FnScope N_law ["_law_script"] (defScope s_law) := ⟨rfl, rfl, rfl, by decide +kernel, rfl, by decide +kernel, by decide +kernel⟩
def dn_law : DefN := ⟨0, "law", "", "law", "law", defArgs s_law, defBody s_law, defScope s_law, dflD_law, kwdD_law⟩
theorem chk_law_pull : chkCs (kG0.put T_law_pull) N_law_pull (defScope s_law_pull) C_law_pull (defBody s_law_pull) = true := by kernel_rfl
theorem chk_law_readings : chkCs (kG0.put T_law_readings) N_law_readings (defScope s_law_readings) C_law_readings (defBody s_law_readings) = true := by kernel_rfl
theorem chk_is_number : chkCs (kG0.put T_is_number) N_is_number (defScope s_is_number) C_is_number (defBody s_is_number) = true := by kernel_rfl
theorem chk_is_between : chkCs (kG0.put T_is_between) N_is_between (defScope s_is_between) C_is_between (defBody s_is_between) = true := by kernel_rfl
theorem chk_Rule_out : chkCs (kG0.put T_Rule_out) N_Rule_out (defScope s_Rule_out) C_Rule_out (defBody s_Rule_out) = true := by kernel_rfl
theorem chk_Rule_back : chkCs (kG0.put T_Rule_back) N_Rule_back (defScope s_Rule_back) C_Rule_back (defBody s_Rule_back) = true := by kernel_rfl
theorem chk_Rule_is_modes : chkCs (kG0.put T_Rule_is_modes) N_Rule_is_modes (defScope s_Rule_is_modes) C_Rule_is_modes (defBody s_Rule_is_modes) = true := by kernel_rfl
theorem chk_law_same (n : Nat) (F : Fn) : chkCs (kG0.put (T_law_same n F)) N_law_same (defScope s_law_same) C_law_same (defBody s_law_same) = true := by kernel_rfl
theorem chk_Rule_mode_behind : chkCs (kG0.put T_Rule_mode_behind) N_Rule_mode_behind (defScope s_Rule_mode_behind) C_Rule_mode_behind (defBody s_Rule_mode_behind) = true := by kernel_rfl
theorem chk_Rule_distance : chkCs (kG0.put T_Rule_distance) N_Rule_distance (defScope s_Rule_distance) C_Rule_distance (defBody s_Rule_distance) = true := by kernel_rfl
theorem chk_Rule_hold : chkCs (kG0.put T_Rule_hold) N_Rule_hold (defScope s_Rule_hold) C_Rule_hold (defBody s_Rule_hold) = true := by kernel_rfl
theorem chk_Rule_ranks : chkCs (kG0.put T_Rule_ranks) N_Rule_ranks (defScope s_Rule_ranks) C_Rule_ranks (defBody s_Rule_ranks) = true := by kernel_rfl
theorem chk_Rule_least : chkCs (kG0.put T_Rule_least) N_Rule_least (defScope s_Rule_least) C_Rule_least (defBody s_Rule_least) = true := by kernel_rfl
theorem chk_Rule_ranked : chkCs (kG0.put T_Rule_ranked) N_Rule_ranked (defScope s_Rule_ranked) C_Rule_ranked (defBody s_Rule_ranked) = true := by kernel_rfl
theorem chk_is_listed : chkCs (kG0.put T_is_listed) N_is_listed (defScope s_is_listed) C_is_listed (defBody s_is_listed) = true := by kernel_rfl
theorem chk_Rule_need_readings : chkCs (kG0.put T_Rule_need_readings) N_Rule_need_readings (defScope s_Rule_need_readings) C_Rule_need_readings (defBody s_Rule_need_readings) = true := by kernel_rfl
theorem chk_Rule_tick : chkCs (kG0.put T_Rule_tick) N_Rule_tick (defScope s_Rule_tick) C_Rule_tick (defBody s_Rule_tick) = true := by kernel_rfl
theorem chk_Rule_call : chkCs (kG0.put T_Rule_call) N_Rule_call (defScope s_Rule_call) C_Rule_call (defBody s_Rule_call) = true := by kernel_rfl
theorem chk_law_picked : chkCs (kG0.put T_law_picked) N_law_picked (defScope s_law_picked) C_law_picked (defBody s_law_picked) = true := by kernel_rfl
theorem chk_law_behind : chkCs (kG0.put T_law_behind) N_law_behind (defScope s_law_behind) C_law_behind (defBody s_law_behind) = true := by kernel_rfl
theorem chk_law_tick : chkCs (kG0.put T_law_tick) N_law_tick (defScope s_law_tick) C_law_tick (defBody s_law_tick) = true := by kernel_rfl
theorem chk_law_of : chkCs (kG0.put T_law_of) N_law_of (defScope s_law_of) C_law_of (defBody s_law_of) = true := by kernel_rfl
theorem chk_are_ranks : chkCs (kG0.put T_are_ranks) N_are_ranks (defScope s_are_ranks) C_are_ranks (defBody s_are_ranks) = true := by kernel_rfl
theorem chk_is_amount : chkCs (kG0.put T_is_amount) N_is_amount (defScope s_is_amount) C_is_amount (defBody s_is_amount) = true := by kernel_rfl
theorem chk_Rule_init : chkCs (kG0.put T_Rule_init) N_Rule_init (defScope s_Rule_init) C_Rule_init (defBody s_Rule_init) = true := by kernel_rfl
theorem chk_law_rule_made : chkCs (kG0.put T_law_rule_made) N_law_rule_made (defScope s_law_rule_made) C_law_rule_made (defBody s_law_rule_made) = true := by kernel_rfl
theorem chk_law_rule : chkCs (kG0.put T_law_rule) N_law_rule (defScope s_law_rule) C_law_rule (defBody s_law_rule) = true := by kernel_rfl
theorem chk_law_bag : chkCs (kG0.put T_law_bag) N_law_bag (defScope s_law_bag) C_law_bag (defBody s_law_bag) = true := by kernel_rfl
theorem chk_law : chkCs (kG0.put T_law) N_law (defScope s_law) C_law (defBody s_law) = true := by kernel_rfl
abbrev kW (K : PySem.W.Frag) : Wd := lawW K kCls
def fa0 : List FaN := [.old (.glo "_law_pull"), .old (.glo "_law_readings"), .old (.glo "is_number"), .old (.glo "is_between"), .old (.glo "_law_same"), .old (.glo "is_listed"), .old (.glo "_law_picked"), .old (.glo "_law_behind"), .old (.glo "_law_tick"), .old (.glo "_law_of"), .old (.glo "are_ranks"), .old (.glo "is_amount"), .old (.glo "_law_rule_made"), .old (.glo "_law_rule"), .old (.glo "_law_bag"), .old (.glo "law"), .prop "Rule" "out", .prop "Rule" "back", .prop "Rule" "hold", .prop "Rule" "ranks", .prop "Rule" "least", .old (.meth "Rule" "mode_behind"), .old (.meth "Rule" "ranked"), .prop "Rule" "distance", .old (.meth "Rule" "need_readings"), .old (.meth "Rule" "tick"), .old (.mkr "Rule"), .old (.meth "Rule" "is_modes"), .old (.meth "Rule" "__call__")]
def fa : List FaN := fa0 ++ genFa kCls kFrees kConsts kIsiT kFlds
def fn : List DefN := [dn_law_pull, dn_law_readings, dn_is_number, dn_is_between, dn_Rule_out, dn_Rule_back, dn_Rule_is_modes, dn_law_same, dn_Rule_mode_behind, dn_Rule_distance, dn_Rule_hold, dn_Rule_ranks, dn_Rule_least, dn_Rule_ranked, dn_is_listed, dn_Rule_need_readings, dn_Rule_tick, dn_Rule_call, dn_law_picked, dn_law_behind, dn_law_tick, dn_law_of, dn_are_ranks, dn_is_amount, dn_Rule_init, dn_law_rule_made, dn_law_rule, dn_law_bag, dn_law]
section
variable {K : PySem.W.Frag} {P : Program} {w : World} {mg : Str → Option Value} {base : Heap} {fd : FuncData} {dvs : List V} {kws : List (Str × V)} {h : Heap}
theorem ok_law_pull (T : DefT (kW K) dn_law_pull (dAd K 0 "_law_pull" "") fd dvs kws) (m0 : M0k kG0 (kW K) mg)  : FnOk P w K mg base (L2.CX P w) 1 (dAd K 0 "_law_pull" "") fd ["_law_bag_here", "_law_sides"] (spF (kW K) 2 F_law_pull) :=
  FunD.okE (W := kW K) (P := P) (w := w) (base := base) T.1 sc_law_pull (mok_of (k := 0) (T := T_law_pull) m0 {  } (by decide)) chk_law_pull
theorem ok_law_readings (T : DefT (kW K) dn_law_readings (dAd K 0 "_law_readings" "") fd dvs kws) (m0 : M0k kG0 (kW K) mg) (h0 : FKeep (kW K) P w mg base U0_law_pull) : FnOk P w K mg base (L2.CX P w) 2 (dAd K 0 "_law_readings" "") fd ["_law_bag_here", "_law_many_z", "_law_far"] (spF (kW K) 3 F_law_readings) :=
  FunD.okE (W := kW K) (P := P) (w := w) (base := base) T.1 sc_law_readings (mok_of (k := 1) (T := T_law_readings) m0 { fns := List.forall_mem_cons.mpr ⟨h0, List.forall_mem_nil _⟩ } (by decide)) chk_law_readings
theorem ok_is_number (T : DefT (kW K) dn_is_number (dAd K 0 "is_number" "") fd dvs kws) (m0 : M0k kG0 (kW K) mg)  : FnOk P w K mg base (L2.CX P w) 1 (dAd K 0 "is_number" "") fd ["value"] (spF (kW K) 1 F_is_number) :=
  FunD.okE (W := kW K) (P := P) (w := w) (base := base) T.1 sc_is_number (mok_of (k := 0) (T := T_is_number) m0 {  } (by decide)) chk_is_number
theorem ok_is_between (T : DefT (kW K) dn_is_between (dAd K 0 "is_between" "") fd dvs kws) (m0 : M0k kG0 (kW K) mg) (h0 : FKeep (kW K) P w mg base U1_is_number) : FnOk P w K mg base (L2.CX P w) 2 (dAd K 0 "is_between" "") fd ["value", "least", "most"] (spF (kW K) 3 F_is_between) :=
  FunD.okE (W := kW K) (P := P) (w := w) (base := base) T.1 sc_is_between (mok_of (k := 1) (T := T_is_between) m0 { fns := List.forall_mem_cons.mpr ⟨h0, List.forall_mem_nil _⟩ } (by decide)) chk_is_between
theorem ok_Rule_out (T : DefT (kW K) dn_Rule_out (dAd K 2 "Rule" "out") fd dvs kws) (m0 : M0k kG0 (kW K) mg)  : FnOk P w K mg base (L2.CX P w) 1 (dAd K 2 "Rule" "out") fd ["self"] (spF (kW K) 1 F_Rule_out) :=
  FunD.okE (W := kW K) (P := P) (w := w) (base := base) T.1 sc_Rule_out (mok_of (k := 0) (T := T_Rule_out) m0 {  } (by decide)) chk_Rule_out
theorem ok_Rule_back (T : DefT (kW K) dn_Rule_back (dAd K 2 "Rule" "back") fd dvs kws) (m0 : M0k kG0 (kW K) mg)  : FnOk P w K mg base (L2.CX P w) 1 (dAd K 2 "Rule" "back") fd ["self"] (spF (kW K) 1 F_Rule_back) :=
  FunD.okE (W := kW K) (P := P) (w := w) (base := base) T.1 sc_Rule_back (mok_of (k := 0) (T := T_Rule_back) m0 {  } (by decide)) chk_Rule_back
theorem ok_Rule_is_modes (T : DefT (kW K) dn_Rule_is_modes (dAd K 1 "Rule" "is_modes") fd dvs kws) (m0 : M0k kG0 (kW K) mg) (h0 : FKeep (kW K) P w mg base U2_is_between) (h1 : PKeep (kW K) P w mg base U3_Rule_out) (h2 : PKeep (kW K) P w mg base U4_Rule_back) : FnOk P w K mg base (L2.CX P w) 3 (dAd K 1 "Rule" "is_modes") fd ["self", "value"] (spF (kW K) 2 F_Rule_is_modes) :=
  FunD.okE (W := kW K) (P := P) (w := w) (base := base) T.1 sc_Rule_is_modes (mok_of (k := 2) (T := T_Rule_is_modes) m0 { fns := List.forall_mem_cons.mpr ⟨h0, List.forall_mem_nil _⟩, props := List.forall_mem_cons.mpr ⟨h1, List.forall_mem_cons.mpr ⟨h2, List.forall_mem_nil _⟩⟩ } (by decide)) chk_Rule_is_modes
theorem ok_law_same (T : DefT (kW K) dn_law_same (dAd K 0 "_law_same" "") fd dvs kws) (m0 : M0k kG0 (kW K) mg) (gm : mg "_law_same" = some (.ref (dAd K 0 "_law_same" "")))  : ∀ n, FKeep (kW K) P w mg base (Gn_law_same n)
  | 0 => use_fn (ps := ["_law_found_z", "_law_due"]) T FnOk.stuck gm (T.binds rfl (fun _ _ _ _ _ _ us hl => match us, hl with | [_, _], _ => rfl))
  | n + 1 => by
    have ih := ok_law_same T m0 gm  n
    have z := FunD.okE (W := kW K) (P := P) (w := w) (base := base) T.1 sc_law_same (mok_of (k := n + 0) (T := T_law_same n (F_law_same n)) m0 { fns := List.forall_mem_cons.mpr ⟨ih, List.forall_mem_nil _⟩ } (by simp [Tabs'.lvl, T_law_same])) (chk_law_same _ _)
    exact use_fn (k := n + 1 + 0) T z gm (T.binds rfl (fun _ _ _ _ _ _ us hl => match us, hl with | [_, _], _ => rfl))
theorem ok_Rule_mode_behind (T : DefT (kW K) dn_Rule_mode_behind (dAd K 1 "Rule" "mode_behind") fd dvs kws) (m0 : M0k kG0 (kW K) mg) (h0 : PKeep (kW K) P w mg base U4_Rule_back) (h1 : PKeep (kW K) P w mg base U3_Rule_out) : FnOk P w K mg base (L2.CX P w) 3 (dAd K 1 "Rule" "mode_behind") fd ["self", "mode", "is_near"] (spF (kW K) 3 F_Rule_mode_behind) :=
  FunD.okE (W := kW K) (P := P) (w := w) (base := base) T.1 sc_Rule_mode_behind (mok_of (k := 2) (T := T_Rule_mode_behind) m0 { props := List.forall_mem_cons.mpr ⟨h0, List.forall_mem_cons.mpr ⟨h1, List.forall_mem_nil _⟩⟩ } (by decide)) chk_Rule_mode_behind
theorem ok_Rule_distance (T : DefT (kW K) dn_Rule_distance (dAd K 2 "Rule" "distance") fd dvs kws) (m0 : M0k kG0 (kW K) mg)  : FnOk P w K mg base (L2.CX P w) 1 (dAd K 2 "Rule" "distance") fd ["self"] (spF (kW K) 1 F_Rule_distance) :=
  FunD.okE (W := kW K) (P := P) (w := w) (base := base) T.1 sc_Rule_distance (mok_of (k := 0) (T := T_Rule_distance) m0 {  } (by decide)) chk_Rule_distance
theorem ok_Rule_hold (T : DefT (kW K) dn_Rule_hold (dAd K 2 "Rule" "hold") fd dvs kws) (m0 : M0k kG0 (kW K) mg)  : FnOk P w K mg base (L2.CX P w) 1 (dAd K 2 "Rule" "hold") fd ["self"] (spF (kW K) 1 F_Rule_hold) :=
  FunD.okE (W := kW K) (P := P) (w := w) (base := base) T.1 sc_Rule_hold (mok_of (k := 0) (T := T_Rule_hold) m0 {  } (by decide)) chk_Rule_hold
theorem ok_Rule_ranks (T : DefT (kW K) dn_Rule_ranks (dAd K 2 "Rule" "ranks") fd dvs kws) (m0 : M0k kG0 (kW K) mg)  : FnOk P w K mg base (L2.CX P w) 1 (dAd K 2 "Rule" "ranks") fd ["self"] (spF (kW K) 1 F_Rule_ranks) :=
  FunD.okE (W := kW K) (P := P) (w := w) (base := base) T.1 sc_Rule_ranks (mok_of (k := 0) (T := T_Rule_ranks) m0 {  } (by decide)) chk_Rule_ranks
theorem ok_Rule_least (T : DefT (kW K) dn_Rule_least (dAd K 2 "Rule" "least") fd dvs kws) (m0 : M0k kG0 (kW K) mg)  : FnOk P w K mg base (L2.CX P w) 1 (dAd K 2 "Rule" "least") fd ["self"] (spF (kW K) 1 F_Rule_least) :=
  FunD.okE (W := kW K) (P := P) (w := w) (base := base) T.1 sc_Rule_least (mok_of (k := 0) (T := T_Rule_least) m0 {  } (by decide)) chk_Rule_least
theorem ok_Rule_ranked (T : DefT (kW K) dn_Rule_ranked (dAd K 1 "Rule" "ranked") fd dvs kws) (m0 : M0k kG0 (kW K) mg) (h0 : PKeep (kW K) P w mg base U5_Rule_hold) (h1 : PKeep (kW K) P w mg base U6_Rule_ranks) (h2 : PKeep (kW K) P w mg base U7_Rule_least) : FnOk P w K mg base (L2.CX P w) 3 (dAd K 1 "Rule" "ranked") fd ["self", "modes"] (spF (kW K) 2 F_Rule_ranked) :=
  FunD.okE (W := kW K) (P := P) (w := w) (base := base) T.1 sc_Rule_ranked (mok_of (k := 2) (T := T_Rule_ranked) m0 { props := List.forall_mem_cons.mpr ⟨h0, List.forall_mem_cons.mpr ⟨h1, List.forall_mem_cons.mpr ⟨h2, List.forall_mem_nil _⟩⟩⟩ } (by decide)) chk_Rule_ranked
theorem ok_is_listed (T : DefT (kW K) dn_is_listed (dAd K 0 "is_listed" "") fd dvs kws) (m0 : M0k kG0 (kW K) mg)  : FnOk P w K mg base (L2.CX P w) 1 (dAd K 0 "is_listed" "") fd ["value"] (spF (kW K) 1 F_is_listed) :=
  FunD.okE (W := kW K) (P := P) (w := w) (base := base) T.1 sc_is_listed (mok_of (k := 0) (T := T_is_listed) m0 {  } (by decide)) chk_is_listed
theorem ok_Rule_need_readings (T : DefT (kW K) dn_Rule_need_readings (dAd K 1 "Rule" "need_readings") fd dvs kws) (m0 : M0k kG0 (kW K) mg) (h0 : FKeep (kW K) P w mg base U1_is_number) (h1 : FKeep (kW K) P w mg base U8_is_listed) : FnOk P w K mg base (L2.CX P w) 2 (dAd K 1 "Rule" "need_readings") fd ["self", "readings", "but"] (spF (kW K) 3 F_Rule_need_readings) :=
  FunD.okE (W := kW K) (P := P) (w := w) (base := base) T.1 sc_Rule_need_readings (mok_of (k := 1) (T := T_Rule_need_readings) m0 { fns := List.forall_mem_cons.mpr ⟨h0, List.forall_mem_cons.mpr ⟨h1, List.forall_mem_nil _⟩⟩ } (by decide)) chk_Rule_need_readings
theorem ok_Rule_tick (T : DefT (kW K) dn_Rule_tick (dAd K 1 "Rule" "tick") fd dvs kws) (m0 : M0k kG0 (kW K) mg) (h0 : MKeep (kW K) P w mg base U9_Rule_mode_behind) (h1 : MKeep (kW K) P w mg base U10_Rule_ranked) (h2 : PKeep (kW K) P w mg base U11_Rule_distance) (h3 : KmKeep (kW K) P w mg base U12_Rule_need_readings) : FnOk P w K mg base (L2.CX P w) 4 (dAd K 1 "Rule" "tick") fd ["self", "modes", "readings", "held"] (spF (kW K) 4 F_Rule_tick) :=
  FunD.okE (W := kW K) (P := P) (w := w) (base := base) T.1 sc_Rule_tick (mok_of (k := 3) (T := T_Rule_tick) m0 { meths := List.forall_mem_cons.mpr ⟨h0, List.forall_mem_cons.mpr ⟨h1, List.forall_mem_nil _⟩⟩, props := List.forall_mem_cons.mpr ⟨h2, List.forall_mem_nil _⟩, kms := List.forall_mem_cons.mpr ⟨h3, List.forall_mem_nil _⟩ } (by decide)) chk_Rule_tick
theorem ok_Rule_call (T : DefT (kW K) dn_Rule_call (dAd K 1 "Rule" "__call__") fd dvs kws) (m0 : M0k kG0 (kW K) mg) (h0 : KmKeep (kW K) P w mg base U13_Rule_tick) : FnOk P w K mg base (L2.CX P w) 5 (dAd K 1 "Rule" "__call__") fd ["self", "modes", "readings"] (spF (kW K) 3 F_Rule_call) :=
  FunD.okE (W := kW K) (P := P) (w := w) (base := base) T.1 sc_Rule_call (mok_of (k := 4) (T := T_Rule_call) m0 { kms := List.forall_mem_cons.mpr ⟨h0, List.forall_mem_nil _⟩ } (by decide)) chk_Rule_call
theorem ok_law_picked (T : DefT (kW K) dn_law_picked (dAd K 0 "_law_picked" "") fd dvs kws) (m0 : M0k kG0 (kW K) mg)  : FnOk P w K mg base (L2.CX P w) 1 (dAd K 0 "_law_picked" "") fd ["_law_r", "_law_modes_z"] (spF (kW K) 2 F_law_picked) :=
  FunD.okE (W := kW K) (P := P) (w := w) (base := base) T.1 sc_law_picked (mok_of (k := 0) (T := T_law_picked) m0 {  } (by decide)) chk_law_picked
theorem ok_law_behind (T : DefT (kW K) dn_law_behind (dAd K 0 "_law_behind" "") fd dvs kws) (m0 : M0k kG0 (kW K) mg)  : FnOk P w K mg base (L2.CX P w) 1 (dAd K 0 "_law_behind" "") fd ["_law_r", "_law_mode_z", "_law_near"] (spF (kW K) 3 F_law_behind) :=
  FunD.okE (W := kW K) (P := P) (w := w) (base := base) T.1 sc_law_behind (mok_of (k := 0) (T := T_law_behind) m0 {  } (by decide)) chk_law_behind
theorem ok_law_tick (T : DefT (kW K) dn_law_tick (dAd K 0 "_law_tick" "") fd dvs kws) (m0 : M0k kG0 (kW K) mg) (h0 : FKeep (kW K) P w mg base U14_law_behind) (h1 : FKeep (kW K) P w mg base U15_law_picked) : FnOk P w K mg base (L2.CX P w) 2 (dAd K 0 "_law_tick" "") fd ["_law_r", "_law_modes_z", "_law_readings_z", "_law_held_z"] (spF (kW K) 4 F_law_tick) :=
  FunD.okE (W := kW K) (P := P) (w := w) (base := base) T.1 sc_law_tick (mok_of (k := 1) (T := T_law_tick) m0 { fns := List.forall_mem_cons.mpr ⟨h0, List.forall_mem_cons.mpr ⟨h1, List.forall_mem_nil _⟩⟩ } (by decide)) chk_law_tick
theorem ok_law_of (T : DefT (kW K) dn_law_of (dAd K 0 "_law_of" "") fd dvs kws) (m0 : M0k kG0 (kW K) mg) (h0 : FKeep (kW K) P w mg base U0_law_pull) : FnOk P w K mg base (L2.CX P w) 2 (dAd K 0 "_law_of" "") fd ["_law_bag_here", "_law_things"] (spF (kW K) 2 F_law_of) :=
  FunD.okE (W := kW K) (P := P) (w := w) (base := base) T.1 sc_law_of (mok_of (k := 1) (T := T_law_of) m0 { fns := List.forall_mem_cons.mpr ⟨h0, List.forall_mem_nil _⟩ } (by decide)) chk_law_of
theorem ok_are_ranks (T : DefT (kW K) dn_are_ranks (dAd K 0 "are_ranks" "") fd dvs kws) (m0 : M0k kG0 (kW K) mg) (h0 : FKeep (kW K) P w mg base U2_is_between) : FnOk P w K mg base (L2.CX P w) 3 (dAd K 0 "are_ranks" "") fd ["value"] (spF (kW K) 1 F_are_ranks) :=
  FunD.okE (W := kW K) (P := P) (w := w) (base := base) T.1 sc_are_ranks (mok_of (k := 2) (T := T_are_ranks) m0 { fns := List.forall_mem_cons.mpr ⟨h0, List.forall_mem_nil _⟩ } (by decide)) chk_are_ranks
theorem ok_is_amount (T : DefT (kW K) dn_is_amount (dAd K 0 "is_amount" "") fd dvs kws) (m0 : M0k kG0 (kW K) mg) (h0 : FKeep (kW K) P w mg base U2_is_between) : FnOk P w K mg base (L2.CX P w) 3 (dAd K 0 "is_amount" "") fd ["value"] (spF (kW K) 1 F_is_amount) :=
  FunD.okE (W := kW K) (P := P) (w := w) (base := base) T.1 sc_is_amount (mok_of (k := 2) (T := T_is_amount) m0 { fns := List.forall_mem_cons.mpr ⟨h0, List.forall_mem_nil _⟩ } (by decide)) chk_is_amount
theorem ok_Rule_init (T : DefT (kW K) dn_Rule_init (dAd K 1 "Rule" "__init__") fd dvs kws) (m0 : M0k kG0 (kW K) mg) (h0 : FKeep (kW K) P w mg base U2_is_between) (h1 : FKeep (kW K) P w mg base U16_are_ranks) (h2 : FKeep (kW K) P w mg base U17_is_amount) : FnOk P w K mg base (L2.CX P w) 4 (dAd K 1 "Rule" "__init__") fd ["self", "distance", "out", "back", "ranks", "least", "hold"] (spF (kW K) 7 F_Rule_init) :=
  FunD.okE (W := kW K) (P := P) (w := w) (base := base) T.1 sc_Rule_init (mok_of (k := 3) (T := T_Rule_init) m0 { fns := List.forall_mem_cons.mpr ⟨h0, List.forall_mem_cons.mpr ⟨h1, List.forall_mem_cons.mpr ⟨h2, List.forall_mem_nil _⟩⟩⟩ } (by decide)) chk_Rule_init
theorem ok_law_rule_made (T : DefT (kW K) dn_law_rule_made (dAd K 0 "_law_rule_made" "") fd dvs kws) (m0 : M0k kG0 (kW K) mg) (h0 : KKeep (kW K) P w mg base U18_Rule_init) : FnOk P w K mg base (L2.CX P w) 6 (dAd K 0 "_law_rule_made" "") fd ["_law_r"] (spF (kW K) 1 F_law_rule_made) :=
  FunD.okE (W := kW K) (P := P) (w := w) (base := base) T.1 sc_law_rule_made (mok_of (k := 5) (T := T_law_rule_made) m0 { makes := List.forall_mem_cons.mpr ⟨h0, List.forall_mem_nil _⟩ } (by decide)) chk_law_rule_made
theorem ok_law_rule (T : DefT (kW K) dn_law_rule (dAd K 0 "_law_rule" "") fd dvs kws) (m0 : M0k kG0 (kW K) mg) (h0 : FKeep (kW K) P w mg base U0_law_pull) (h1 : FKeep (kW K) P w mg base U19_law_of) : FnOk P w K mg base (L2.CX P w) 3 (dAd K 0 "_law_rule" "") fd ["_law_bag_here", "_law_far", "_law_out_z", "_law_back_z"] (spF (kW K) 4 F_law_rule) :=
  FunD.okE (W := kW K) (P := P) (w := w) (base := base) T.1 sc_law_rule (mok_of (k := 2) (T := T_law_rule) m0 { fns := List.forall_mem_cons.mpr ⟨h0, List.forall_mem_cons.mpr ⟨h1, List.forall_mem_nil _⟩⟩ } (by decide)) chk_law_rule
theorem ok_law_bag (T : DefT (kW K) dn_law_bag (dAd K 0 "_law_bag" "") fd dvs kws) (m0 : M0k kG0 (kW K) mg)  : FnOk P w K mg base (L2.CX P w) 1 (dAd K 0 "_law_bag" "") fd ["_law_script"] (spF (kW K) 1 F_law_bag) :=
  FunD.okE (W := kW K) (P := P) (w := w) (base := base) T.1 sc_law_bag (mok_of (k := 0) (T := T_law_bag) m0 {  } (by decide)) chk_law_bag
theorem ok_law (T : DefT (kW K) dn_law (dAd K 0 "law" "") fd dvs kws) (m0 : M0k kG0 (kW K) mg) (h0 : FKeep (kW K) P w mg base U20_law_readings) (h1 : FKeep (kW K) P w mg base U0_law_pull) (h2 : FKeep (kW K) P w mg base U21_law_same) (h3 : FKeep (kW K) P w mg base U15_law_picked) (h4 : FKeep (kW K) P w mg base U22_law_tick) (h5 : FKeep (kW K) P w mg base U19_law_of) (h6 : FKeep (kW K) P w mg base U23_law_rule_made) (h7 : FKeep (kW K) P w mg base U24_law_rule) (h8 : FKeep (kW K) P w mg base U25_law_bag) (h9 : MKeep (kW K) P w mg base U26_Rule_is_modes) (h10 : MKeep (kW K) P w mg base U27_Rule_call) (h11 : KmKeep (kW K) P w mg base U28_Rule_tick) (h12 : KmKeep (kW K) P w mg base U29_Rule_tick) : FnOk P w K mg base (L2.CX P w) 7 (dAd K 0 "law" "") fd ["_law_script"] (spF (kW K) 1 F_law) :=
  FunD.okE (W := kW K) (P := P) (w := w) (base := base) T.1 sc_law (mok_of (k := 6) (T := T_law) m0 { fns := List.forall_mem_cons.mpr ⟨h0, List.forall_mem_cons.mpr ⟨h1, List.forall_mem_cons.mpr ⟨h2, List.forall_mem_cons.mpr ⟨h3, List.forall_mem_cons.mpr ⟨h4, List.forall_mem_cons.mpr ⟨h5, List.forall_mem_cons.mpr ⟨h6, List.forall_mem_cons.mpr ⟨h7, List.forall_mem_cons.mpr ⟨h8, List.forall_mem_nil _⟩⟩⟩⟩⟩⟩⟩⟩⟩, meths := List.forall_mem_cons.mpr ⟨h9, List.forall_mem_cons.mpr ⟨h10, List.forall_mem_nil _⟩⟩, kms := List.forall_mem_cons.mpr ⟨h11, List.forall_mem_cons.mpr ⟨h12, List.forall_mem_nil _⟩⟩ } (by decide)) chk_law
theorem use_U0_law_pull (T : DefT (kW K) dn_law_pull (dAd K 0 "_law_pull" "") fd dvs kws) (hf : FnOk P w K mg base (L2.CX P w) 1 (dAd K 0 "_law_pull" "") fd ["_law_bag_here", "_law_sides"] (spF (kW K) 2 F_law_pull)) (gm : mg "_law_pull" = some (.ref (dAd K 0 "_law_pull" ""))) : FKeep (kW K) P w mg base U0_law_pull := use_fn T hf gm (T.binds rfl (fun _ _ _ _ _ _ us hl => match us, hl with | [_, _], _ => rfl))
theorem use_U1_is_number (T : DefT (kW K) dn_is_number (dAd K 0 "is_number" "") fd dvs kws) (hf : FnOk P w K mg base (L2.CX P w) 1 (dAd K 0 "is_number" "") fd ["value"] (spF (kW K) 1 F_is_number)) (gm : mg "is_number" = some (.ref (dAd K 0 "is_number" ""))) : FKeep (kW K) P w mg base U1_is_number := use_fn T hf gm (T.binds rfl (fun _ _ _ _ _ _ us hl => match us, hl with | [_], _ => rfl))
theorem use_U2_is_between (T : DefT (kW K) dn_is_between (dAd K 0 "is_between" "") fd dvs kws) (hf : FnOk P w K mg base (L2.CX P w) 2 (dAd K 0 "is_between" "") fd ["value", "least", "most"] (spF (kW K) 3 F_is_between)) (gm : mg "is_between" = some (.ref (dAd K 0 "is_between" ""))) : FKeep (kW K) P w mg base U2_is_between := use_fn T hf gm (T.binds rfl (fun _ _ _ _ _ _ us hl => match us, hl with | [_, _, _], _ => rfl))
theorem use_U3_Rule_out (T : DefT (kW K) dn_Rule_out (dAd K 2 "Rule" "out") fd dvs kws) (hf : FnOk P w K mg base (L2.CX P w) 1 (dAd K 2 "Rule" "out") fd ["self"] (spF (kW K) 1 F_Rule_out)) (c1 : Cls K (He.ga K "Rule")) (c2 : PropOf K (He.ga K "Rule") "out" (He.ma K (He.ga K "Rule") "out") (dAd K 2 "Rule" "out")) : PKeep (kW K) P w mg base U3_Rule_out := use_prop T hf c1 c2 (T.binds rfl (fun _ _ _ _ _ _ us hl => match us, hl with | [_], _ => rfl))
theorem use_U4_Rule_back (T : DefT (kW K) dn_Rule_back (dAd K 2 "Rule" "back") fd dvs kws) (hf : FnOk P w K mg base (L2.CX P w) 1 (dAd K 2 "Rule" "back") fd ["self"] (spF (kW K) 1 F_Rule_back)) (c1 : Cls K (He.ga K "Rule")) (c2 : PropOf K (He.ga K "Rule") "back" (He.ma K (He.ga K "Rule") "back") (dAd K 2 "Rule" "back")) : PKeep (kW K) P w mg base U4_Rule_back := use_prop T hf c1 c2 (T.binds rfl (fun _ _ _ _ _ _ us hl => match us, hl with | [_], _ => rfl))
theorem use_U5_Rule_hold (T : DefT (kW K) dn_Rule_hold (dAd K 2 "Rule" "hold") fd dvs kws) (hf : FnOk P w K mg base (L2.CX P w) 1 (dAd K 2 "Rule" "hold") fd ["self"] (spF (kW K) 1 F_Rule_hold)) (c1 : Cls K (He.ga K "Rule")) (c2 : PropOf K (He.ga K "Rule") "hold" (He.ma K (He.ga K "Rule") "hold") (dAd K 2 "Rule" "hold")) : PKeep (kW K) P w mg base U5_Rule_hold := use_prop T hf c1 c2 (T.binds rfl (fun _ _ _ _ _ _ us hl => match us, hl with | [_], _ => rfl))
theorem use_U6_Rule_ranks (T : DefT (kW K) dn_Rule_ranks (dAd K 2 "Rule" "ranks") fd dvs kws) (hf : FnOk P w K mg base (L2.CX P w) 1 (dAd K 2 "Rule" "ranks") fd ["self"] (spF (kW K) 1 F_Rule_ranks)) (c1 : Cls K (He.ga K "Rule")) (c2 : PropOf K (He.ga K "Rule") "ranks" (He.ma K (He.ga K "Rule") "ranks") (dAd K 2 "Rule" "ranks")) : PKeep (kW K) P w mg base U6_Rule_ranks := use_prop T hf c1 c2 (T.binds rfl (fun _ _ _ _ _ _ us hl => match us, hl with | [_], _ => rfl))
theorem use_U7_Rule_least (T : DefT (kW K) dn_Rule_least (dAd K 2 "Rule" "least") fd dvs kws) (hf : FnOk P w K mg base (L2.CX P w) 1 (dAd K 2 "Rule" "least") fd ["self"] (spF (kW K) 1 F_Rule_least)) (c1 : Cls K (He.ga K "Rule")) (c2 : PropOf K (He.ga K "Rule") "least" (He.ma K (He.ga K "Rule") "least") (dAd K 2 "Rule" "least")) : PKeep (kW K) P w mg base U7_Rule_least := use_prop T hf c1 c2 (T.binds rfl (fun _ _ _ _ _ _ us hl => match us, hl with | [_], _ => rfl))
theorem use_U8_is_listed (T : DefT (kW K) dn_is_listed (dAd K 0 "is_listed" "") fd dvs kws) (hf : FnOk P w K mg base (L2.CX P w) 1 (dAd K 0 "is_listed" "") fd ["value"] (spF (kW K) 1 F_is_listed)) (gm : mg "is_listed" = some (.ref (dAd K 0 "is_listed" ""))) : FKeep (kW K) P w mg base U8_is_listed := use_fn T hf gm (T.binds rfl (fun _ _ _ _ _ _ us hl => match us, hl with | [_], _ => rfl))
theorem use_U9_Rule_mode_behind (T : DefT (kW K) dn_Rule_mode_behind (dAd K 1 "Rule" "mode_behind") fd dvs kws) (hf : FnOk P w K mg base (L2.CX P w) 3 (dAd K 1 "Rule" "mode_behind") fd ["self", "mode", "is_near"] (spF (kW K) 3 F_Rule_mode_behind)) (c1 : Cls K (He.ga K "Rule")) (c2 : Meth K (He.ga K "Rule") "mode_behind" (dAd K 1 "Rule" "mode_behind")) : MKeep (kW K) P w mg base U9_Rule_mode_behind := use_meth T hf c1 c2 (T.binds rfl (fun _ _ _ _ _ _ us hl => match us, hl with | [_, _, _], _ => rfl))
theorem use_U10_Rule_ranked (T : DefT (kW K) dn_Rule_ranked (dAd K 1 "Rule" "ranked") fd dvs kws) (hf : FnOk P w K mg base (L2.CX P w) 3 (dAd K 1 "Rule" "ranked") fd ["self", "modes"] (spF (kW K) 2 F_Rule_ranked)) (c1 : Cls K (He.ga K "Rule")) (c2 : Meth K (He.ga K "Rule") "ranked" (dAd K 1 "Rule" "ranked")) : MKeep (kW K) P w mg base U10_Rule_ranked := use_meth T hf c1 c2 (T.binds rfl (fun _ _ _ _ _ _ us hl => match us, hl with | [_, _], _ => rfl))
theorem use_U11_Rule_distance (T : DefT (kW K) dn_Rule_distance (dAd K 2 "Rule" "distance") fd dvs kws) (hf : FnOk P w K mg base (L2.CX P w) 1 (dAd K 2 "Rule" "distance") fd ["self"] (spF (kW K) 1 F_Rule_distance)) (c1 : Cls K (He.ga K "Rule")) (c2 : PropOf K (He.ga K "Rule") "distance" (He.ma K (He.ga K "Rule") "distance") (dAd K 2 "Rule" "distance")) : PKeep (kW K) P w mg base U11_Rule_distance := use_prop T hf c1 c2 (T.binds rfl (fun _ _ _ _ _ _ us hl => match us, hl with | [_], _ => rfl))
theorem use_U12_Rule_need_readings (T : DefT (kW K) dn_Rule_need_readings (dAd K 1 "Rule" "need_readings") fd dvs kws) (hf : FnOk P w K mg base (L2.CX P w) 2 (dAd K 1 "Rule" "need_readings") fd ["self", "readings", "but"] (spF (kW K) 3 F_Rule_need_readings)) (c1 : Cls K (He.ga K "Rule")) (c2 : Meth K (He.ga K "Rule") "need_readings" (dAd K 1 "Rule" "need_readings")) : KmKeep (kW K) P w mg base U12_Rule_need_readings := use_km T hf c1 c2 (T.kbD (n := 1 + 1) (ps := ["self", "readings", "but"]) (ks := []) (pk := [.p 0, .p 1, .d 0]) (by decide) (fun _ _ _ _ _ _ _ us its ws h1 h2 h3 => match us, its, ws, h1, h2, h3 with | [_, _], [_], [], _, _, _ => ⟨_, rfl, rfl⟩))
theorem use_U13_Rule_tick (T : DefT (kW K) dn_Rule_tick (dAd K 1 "Rule" "tick") fd dvs kws) (hf : FnOk P w K mg base (L2.CX P w) 4 (dAd K 1 "Rule" "tick") fd ["self", "modes", "readings", "held"] (spF (kW K) 4 F_Rule_tick)) (c1 : Cls K (He.ga K "Rule")) (c2 : Meth K (He.ga K "Rule") "tick" (dAd K 1 "Rule" "tick")) : KmKeep (kW K) P w mg base U13_Rule_tick := use_km T hf c1 c2 (T.kbK (n := 1 + 2) (ps := ["self", "modes", "readings", "held"]) (ks := []) (mn := ["held"]) (pk := [.p 0, .p 1, .p 2, .m 0]) rfl (by decide) (fun _ _ _ _ _ _ us mv ws h1 h2 h3 => match us, mv, ws, h1, h2, h3 with | [_, _, _], [_], [], _, _, _ => ⟨_, _, _, _, _, _, rfl, rfl, rfl⟩))
theorem use_U14_law_behind (T : DefT (kW K) dn_law_behind (dAd K 0 "_law_behind" "") fd dvs kws) (hf : FnOk P w K mg base (L2.CX P w) 1 (dAd K 0 "_law_behind" "") fd ["_law_r", "_law_mode_z", "_law_near"] (spF (kW K) 3 F_law_behind)) (gm : mg "_law_behind" = some (.ref (dAd K 0 "_law_behind" ""))) : FKeep (kW K) P w mg base U14_law_behind := use_fn T hf gm (T.binds rfl (fun _ _ _ _ _ _ us hl => match us, hl with | [_, _, _], _ => rfl))
theorem use_U15_law_picked (T : DefT (kW K) dn_law_picked (dAd K 0 "_law_picked" "") fd dvs kws) (hf : FnOk P w K mg base (L2.CX P w) 1 (dAd K 0 "_law_picked" "") fd ["_law_r", "_law_modes_z"] (spF (kW K) 2 F_law_picked)) (gm : mg "_law_picked" = some (.ref (dAd K 0 "_law_picked" ""))) : FKeep (kW K) P w mg base U15_law_picked := use_fn T hf gm (T.binds rfl (fun _ _ _ _ _ _ us hl => match us, hl with | [_, _], _ => rfl))
theorem use_U16_are_ranks (T : DefT (kW K) dn_are_ranks (dAd K 0 "are_ranks" "") fd dvs kws) (hf : FnOk P w K mg base (L2.CX P w) 3 (dAd K 0 "are_ranks" "") fd ["value"] (spF (kW K) 1 F_are_ranks)) (gm : mg "are_ranks" = some (.ref (dAd K 0 "are_ranks" ""))) : FKeep (kW K) P w mg base U16_are_ranks := use_fn T hf gm (T.binds rfl (fun _ _ _ _ _ _ us hl => match us, hl with | [_], _ => rfl))
theorem use_U17_is_amount (T : DefT (kW K) dn_is_amount (dAd K 0 "is_amount" "") fd dvs kws) (hf : FnOk P w K mg base (L2.CX P w) 3 (dAd K 0 "is_amount" "") fd ["value"] (spF (kW K) 1 F_is_amount)) (gm : mg "is_amount" = some (.ref (dAd K 0 "is_amount" ""))) : FKeep (kW K) P w mg base U17_is_amount := use_fn T hf gm (T.binds rfl (fun _ _ _ _ _ _ us hl => match us, hl with | [_], _ => rfl))
theorem use_U18_Rule_init (T : DefT (kW K) dn_Rule_init (dAd K 1 "Rule" "__init__") fd dvs kws) (hf : FnOk P w K mg base (L2.CX P w) 4 (dAd K 1 "Rule" "__init__") fd ["self", "distance", "out", "back", "ranks", "least", "hold"] (spF (kW K) 7 F_Rule_init)) (c1 : Mk K (He.ga K "Rule") (dAd K 1 "Rule" "__init__")) (gm : mg "Rule" = some (.ref (He.ga K "Rule"))) : KKeep (kW K) P w mg base U18_Rule_init := use_make T hf c1 gm (T.kb0 (n := 2) (ps := ["self", "distance", "out", "back", "ranks", "least", "hold"]) (ks := ["hold", "least", "ranks", "back", "out"]) (pk := [.p 0, .p 1, .k 4, .k 3, .k 2, .k 1, .k 0]) rfl (fun _ _ _ _ _ _ us ws h1 h2 => match us, ws, h1, h2 with | [_, _], [_, _, _, _, _], _, _ => rfl))
theorem use_U19_law_of (T : DefT (kW K) dn_law_of (dAd K 0 "_law_of" "") fd dvs kws) (hf : FnOk P w K mg base (L2.CX P w) 2 (dAd K 0 "_law_of" "") fd ["_law_bag_here", "_law_things"] (spF (kW K) 2 F_law_of)) (gm : mg "_law_of" = some (.ref (dAd K 0 "_law_of" ""))) : FKeep (kW K) P w mg base U19_law_of := use_fn T hf gm (T.binds rfl (fun _ _ _ _ _ _ us hl => match us, hl with | [_, _], _ => rfl))
theorem use_U20_law_readings (T : DefT (kW K) dn_law_readings (dAd K 0 "_law_readings" "") fd dvs kws) (hf : FnOk P w K mg base (L2.CX P w) 2 (dAd K 0 "_law_readings" "") fd ["_law_bag_here", "_law_many_z", "_law_far"] (spF (kW K) 3 F_law_readings)) (gm : mg "_law_readings" = some (.ref (dAd K 0 "_law_readings" ""))) : FKeep (kW K) P w mg base U20_law_readings := use_fn T hf gm (T.binds rfl (fun _ _ _ _ _ _ us hl => match us, hl with | [_, _, _], _ => rfl))
theorem use_U22_law_tick (T : DefT (kW K) dn_law_tick (dAd K 0 "_law_tick" "") fd dvs kws) (hf : FnOk P w K mg base (L2.CX P w) 2 (dAd K 0 "_law_tick" "") fd ["_law_r", "_law_modes_z", "_law_readings_z", "_law_held_z"] (spF (kW K) 4 F_law_tick)) (gm : mg "_law_tick" = some (.ref (dAd K 0 "_law_tick" ""))) : FKeep (kW K) P w mg base U22_law_tick := use_fn T hf gm (T.binds rfl (fun _ _ _ _ _ _ us hl => match us, hl with | [_, _, _, _], _ => rfl))
theorem use_U23_law_rule_made (T : DefT (kW K) dn_law_rule_made (dAd K 0 "_law_rule_made" "") fd dvs kws) (hf : FnOk P w K mg base (L2.CX P w) 6 (dAd K 0 "_law_rule_made" "") fd ["_law_r"] (spF (kW K) 1 F_law_rule_made)) (gm : mg "_law_rule_made" = some (.ref (dAd K 0 "_law_rule_made" ""))) : FKeep (kW K) P w mg base U23_law_rule_made := use_fn T hf gm (T.binds rfl (fun _ _ _ _ _ _ us hl => match us, hl with | [_], _ => rfl))
theorem use_U24_law_rule (T : DefT (kW K) dn_law_rule (dAd K 0 "_law_rule" "") fd dvs kws) (hf : FnOk P w K mg base (L2.CX P w) 3 (dAd K 0 "_law_rule" "") fd ["_law_bag_here", "_law_far", "_law_out_z", "_law_back_z"] (spF (kW K) 4 F_law_rule)) (gm : mg "_law_rule" = some (.ref (dAd K 0 "_law_rule" ""))) : FKeep (kW K) P w mg base U24_law_rule := use_fn T hf gm (T.binds rfl (fun _ _ _ _ _ _ us hl => match us, hl with | [_, _, _, _], _ => rfl))
theorem use_U25_law_bag (T : DefT (kW K) dn_law_bag (dAd K 0 "_law_bag" "") fd dvs kws) (hf : FnOk P w K mg base (L2.CX P w) 1 (dAd K 0 "_law_bag" "") fd ["_law_script"] (spF (kW K) 1 F_law_bag)) (gm : mg "_law_bag" = some (.ref (dAd K 0 "_law_bag" ""))) : FKeep (kW K) P w mg base U25_law_bag := use_fn T hf gm (T.binds rfl (fun _ _ _ _ _ _ us hl => match us, hl with | [_], _ => rfl))
theorem use_U26_Rule_is_modes (T : DefT (kW K) dn_Rule_is_modes (dAd K 1 "Rule" "is_modes") fd dvs kws) (hf : FnOk P w K mg base (L2.CX P w) 3 (dAd K 1 "Rule" "is_modes") fd ["self", "value"] (spF (kW K) 2 F_Rule_is_modes)) (c1 : Cls K (He.ga K "Rule")) (c2 : Meth K (He.ga K "Rule") "is_modes" (dAd K 1 "Rule" "is_modes")) : MKeep (kW K) P w mg base U26_Rule_is_modes := use_meth T hf c1 c2 (T.binds rfl (fun _ _ _ _ _ _ us hl => match us, hl with | [_, _], _ => rfl))
theorem use_U27_Rule_call (T : DefT (kW K) dn_Rule_call (dAd K 1 "Rule" "__call__") fd dvs kws) (hf : FnOk P w K mg base (L2.CX P w) 5 (dAd K 1 "Rule" "__call__") fd ["self", "modes", "readings"] (spF (kW K) 3 F_Rule_call)) (c1 : Cls K (He.ga K "Rule")) (c2 : Meth K (He.ga K "Rule") "__call__" (dAd K 1 "Rule" "__call__")) : MKeep (kW K) P w mg base U27_Rule_call := use_meth T hf c1 c2 (T.binds rfl (fun _ _ _ _ _ _ us hl => match us, hl with | [_, _, _], _ => rfl))
theorem use_U28_Rule_tick (T : DefT (kW K) dn_Rule_tick (dAd K 1 "Rule" "tick") fd dvs kws) (hf : FnOk P w K mg base (L2.CX P w) 4 (dAd K 1 "Rule" "tick") fd ["self", "modes", "readings", "held"] (spF (kW K) 4 F_Rule_tick)) (c1 : Cls K (He.ga K "Rule")) (c2 : Meth K (He.ga K "Rule") "tick" (dAd K 1 "Rule" "tick")) : KmKeep (kW K) P w mg base U28_Rule_tick := use_km T hf c1 c2 (T.kb0 (n := 1 + 0) (ps := ["self", "modes", "readings", "held"]) (ks := ["held", "readings", "modes"]) (pk := [.p 0, .k 2, .k 1, .k 0]) rfl (fun _ _ _ _ _ _ us ws h1 h2 => match us, ws, h1, h2 with | [_], [_, _, _], _, _ => rfl))
theorem use_U29_Rule_tick (T : DefT (kW K) dn_Rule_tick (dAd K 1 "Rule" "tick") fd dvs kws) (hf : FnOk P w K mg base (L2.CX P w) 4 (dAd K 1 "Rule" "tick") fd ["self", "modes", "readings", "held"] (spF (kW K) 4 F_Rule_tick)) (c1 : Cls K (He.ga K "Rule")) (c2 : Meth K (He.ga K "Rule") "tick" (dAd K 1 "Rule" "tick")) : KmKeep (kW K) P w mg base U29_Rule_tick := use_km T hf c1 c2 (T.kb0 (n := 1 + 2) (ps := ["self", "modes", "readings", "held"]) (ks := ["held"]) (pk := [.p 0, .p 1, .p 2, .k 0]) rfl (fun _ _ _ _ _ _ us ws h1 h2 => match us, ws, h1, h2 with | [_, _, _], [_], _, _ => rfl))
end
abbrev R : PySem.W.OpenRow := PySem.W.OpenLaw.row PySem.Challenge.rw_middlehold_k14_whole_ticks_of_rules
abbrev hk : PySem.W.Hook := hookN 7 fa fn
def ob (s : PySem.W.SharedT) : AlN := obsN 7 fa fn (HandSHeadRun.getT s)
theorem ob_eq (s : PySem.W.SharedT) : ob s = hk.obs s.abs := obsN_eq (HandSHeadRun.getT_eq s)
def loose : List Str := (["_wall", "MOST", "is_number", "is_between", "is_amount", "is_listed", "MeterError", "InvalidRule", "InvalidReadings", "MANY", "MOST_COUNT", "are_ranks", "Rule", "_law_bag", "_law_pull", "_law_of", "_law_same", "_law_rule", "_law_rule_made", "_law_picked", "_law_behind", "_law_tick", "_law_readings"] : List Str)
theorem run (w : World) : HandSHeadRun.RunEq R (PySem.W.view R.prog [27]) hk ob 6000 loose w := by
  intro os
  kernel_rfl
theorem facts {P : Program} {w : World} {K : PySem.W.Frag} {h : Heap} {mg : Str → Option Value} {f : Addr} (X : K.In h) (G : h.Ns mainGlobals mg) (hfa : mg ("law" : Str) = some (.ref f)) (c : SaysN fa fn K) :
    ∃ fd : FuncData, (∀ (s : Shared) (v : Value), BindsTo s fd ⟨[v], []⟩ [("_law_script", v)]) ∧ ∀ base : Heap, K.In base → base.Ns mainGlobals mg → FnOk P w K mg base (L2.CX P w) 7 f fd ["_law_script"] (spF (kW K) 1 F_law) := by
  have m0 : M0k kG0 (kW K) mg := m0_of X G c (fun f hf => List.mem_append_right _ hf)
  obtain ⟨fd0, dv0, kw0, T0⟩ := c.def_ (W := kW K) 0 (d := dn_law_pull) rfl
  have g0 : mg "_law_pull" = some (.ref (dAd K 0 "_law_pull" "")) := He.glo_ok X G (c.fact 0 (f := .old (.glo "_law_pull")) rfl)
  obtain ⟨fd1, dv1, kw1, T1⟩ := c.def_ (W := kW K) 1 (d := dn_law_readings) rfl
  have g1 : mg "_law_readings" = some (.ref (dAd K 0 "_law_readings" "")) := He.glo_ok X G (c.fact 1 (f := .old (.glo "_law_readings")) rfl)
  obtain ⟨fd2, dv2, kw2, T2⟩ := c.def_ (W := kW K) 2 (d := dn_is_number) rfl
  have g2 : mg "is_number" = some (.ref (dAd K 0 "is_number" "")) := He.glo_ok X G (c.fact 2 (f := .old (.glo "is_number")) rfl)
  obtain ⟨fd3, dv3, kw3, T3⟩ := c.def_ (W := kW K) 3 (d := dn_is_between) rfl
  have g3 : mg "is_between" = some (.ref (dAd K 0 "is_between" "")) := He.glo_ok X G (c.fact 3 (f := .old (.glo "is_between")) rfl)
  obtain ⟨fd4, dv4, kw4, T4⟩ := c.def_ (W := kW K) 4 (d := dn_Rule_out) rfl
  obtain ⟨fd5, dv5, kw5, T5⟩ := c.def_ (W := kW K) 5 (d := dn_Rule_back) rfl
  obtain ⟨fd6, dv6, kw6, T6⟩ := c.def_ (W := kW K) 6 (d := dn_Rule_is_modes) rfl
  obtain ⟨fd7, dv7, kw7, T7⟩ := c.def_ (W := kW K) 7 (d := dn_law_same) rfl
  have g7 : mg "_law_same" = some (.ref (dAd K 0 "_law_same" "")) := He.glo_ok X G (c.fact 4 (f := .old (.glo "_law_same")) rfl)
  obtain ⟨fd8, dv8, kw8, T8⟩ := c.def_ (W := kW K) 8 (d := dn_Rule_mode_behind) rfl
  obtain ⟨fd9, dv9, kw9, T9⟩ := c.def_ (W := kW K) 9 (d := dn_Rule_distance) rfl
  obtain ⟨fd10, dv10, kw10, T10⟩ := c.def_ (W := kW K) 10 (d := dn_Rule_hold) rfl
  obtain ⟨fd11, dv11, kw11, T11⟩ := c.def_ (W := kW K) 11 (d := dn_Rule_ranks) rfl
  obtain ⟨fd12, dv12, kw12, T12⟩ := c.def_ (W := kW K) 12 (d := dn_Rule_least) rfl
  obtain ⟨fd13, dv13, kw13, T13⟩ := c.def_ (W := kW K) 13 (d := dn_Rule_ranked) rfl
  obtain ⟨fd14, dv14, kw14, T14⟩ := c.def_ (W := kW K) 14 (d := dn_is_listed) rfl
  have g14 : mg "is_listed" = some (.ref (dAd K 0 "is_listed" "")) := He.glo_ok X G (c.fact 5 (f := .old (.glo "is_listed")) rfl)
  obtain ⟨fd15, dv15, kw15, T15⟩ := c.def_ (W := kW K) 15 (d := dn_Rule_need_readings) rfl
  obtain ⟨fd16, dv16, kw16, T16⟩ := c.def_ (W := kW K) 16 (d := dn_Rule_tick) rfl
  obtain ⟨fd17, dv17, kw17, T17⟩ := c.def_ (W := kW K) 17 (d := dn_Rule_call) rfl
  obtain ⟨fd18, dv18, kw18, T18⟩ := c.def_ (W := kW K) 18 (d := dn_law_picked) rfl
  have g18 : mg "_law_picked" = some (.ref (dAd K 0 "_law_picked" "")) := He.glo_ok X G (c.fact 6 (f := .old (.glo "_law_picked")) rfl)
  obtain ⟨fd19, dv19, kw19, T19⟩ := c.def_ (W := kW K) 19 (d := dn_law_behind) rfl
  have g19 : mg "_law_behind" = some (.ref (dAd K 0 "_law_behind" "")) := He.glo_ok X G (c.fact 7 (f := .old (.glo "_law_behind")) rfl)
  obtain ⟨fd20, dv20, kw20, T20⟩ := c.def_ (W := kW K) 20 (d := dn_law_tick) rfl
  have g20 : mg "_law_tick" = some (.ref (dAd K 0 "_law_tick" "")) := He.glo_ok X G (c.fact 8 (f := .old (.glo "_law_tick")) rfl)
  obtain ⟨fd21, dv21, kw21, T21⟩ := c.def_ (W := kW K) 21 (d := dn_law_of) rfl
  have g21 : mg "_law_of" = some (.ref (dAd K 0 "_law_of" "")) := He.glo_ok X G (c.fact 9 (f := .old (.glo "_law_of")) rfl)
  obtain ⟨fd22, dv22, kw22, T22⟩ := c.def_ (W := kW K) 22 (d := dn_are_ranks) rfl
  have g22 : mg "are_ranks" = some (.ref (dAd K 0 "are_ranks" "")) := He.glo_ok X G (c.fact 10 (f := .old (.glo "are_ranks")) rfl)
  obtain ⟨fd23, dv23, kw23, T23⟩ := c.def_ (W := kW K) 23 (d := dn_is_amount) rfl
  have g23 : mg "is_amount" = some (.ref (dAd K 0 "is_amount" "")) := He.glo_ok X G (c.fact 11 (f := .old (.glo "is_amount")) rfl)
  obtain ⟨fd24, dv24, kw24, T24⟩ := c.def_ (W := kW K) 24 (d := dn_Rule_init) rfl
  obtain ⟨fd25, dv25, kw25, T25⟩ := c.def_ (W := kW K) 25 (d := dn_law_rule_made) rfl
  have g25 : mg "_law_rule_made" = some (.ref (dAd K 0 "_law_rule_made" "")) := He.glo_ok X G (c.fact 12 (f := .old (.glo "_law_rule_made")) rfl)
  obtain ⟨fd26, dv26, kw26, T26⟩ := c.def_ (W := kW K) 26 (d := dn_law_rule) rfl
  have g26 : mg "_law_rule" = some (.ref (dAd K 0 "_law_rule" "")) := He.glo_ok X G (c.fact 13 (f := .old (.glo "_law_rule")) rfl)
  obtain ⟨fd27, dv27, kw27, T27⟩ := c.def_ (W := kW K) 27 (d := dn_law_bag) rfl
  have g27 : mg "_law_bag" = some (.ref (dAd K 0 "_law_bag" "")) := He.glo_ok X G (c.fact 14 (f := .old (.glo "_law_bag")) rfl)
  obtain ⟨fd28, dv28, kw28, T28⟩ := c.def_ (W := kW K) 28 (d := dn_law) rfl
  have g28 : mg "law" = some (.ref (dAd K 0 "law" "")) := He.glo_ok X G (c.fact 15 (f := .old (.glo "law")) rfl)
  have gc0 : mg "Rule" = some (.ref (He.ga K "Rule")) := m0.clss "Rule" 0 (by decide)
  have ok0 : ClsOk (kW K) 0 := clsok_of c (fun f hf => List.mem_append_right _ hf) 0 (by decide)
  have e := hfa.symm.trans g28
  cases e
  refine ⟨fd28, fun s v => T28.bindsA (ps := ["_law_script"]) rfl (fun _ _ _ _ _ _ us hl => match us, hl with | [_], _ => rfl) s [v] rfl, fun base _ _ => ?_⟩
  have o0 := ok_law_pull (P := P) (w := w) (base := base) T0 m0 
  have k_U0_law_pull := (use_U0_law_pull T0 o0 g0)
  have o1 := ok_law_readings (P := P) (w := w) (base := base) T1 m0 k_U0_law_pull
  have o2 := ok_is_number (P := P) (w := w) (base := base) T2 m0 
  have k_U1_is_number := (use_U1_is_number T2 o2 g2)
  have o3 := ok_is_between (P := P) (w := w) (base := base) T3 m0 k_U1_is_number
  have o4 := ok_Rule_out (P := P) (w := w) (base := base) T4 m0 
  have o5 := ok_Rule_back (P := P) (w := w) (base := base) T5 m0 
  have k_U2_is_between := (use_U2_is_between T3 o3 g3)
  have k_U3_Rule_out := (use_U3_Rule_out T4 o4 ok0.cl (FaN.prop_ok (c.fact 16 (f := .prop "Rule" "out") rfl)))
  have k_U4_Rule_back := (use_U4_Rule_back T5 o5 ok0.cl (FaN.prop_ok (c.fact 17 (f := .prop "Rule" "back") rfl)))
  have o6 := ok_Rule_is_modes (P := P) (w := w) (base := base) T6 m0 k_U2_is_between k_U3_Rule_out k_U4_Rule_back
  have o8 := ok_Rule_mode_behind (P := P) (w := w) (base := base) T8 m0 k_U4_Rule_back k_U3_Rule_out
  have o9 := ok_Rule_distance (P := P) (w := w) (base := base) T9 m0 
  have o10 := ok_Rule_hold (P := P) (w := w) (base := base) T10 m0 
  have o11 := ok_Rule_ranks (P := P) (w := w) (base := base) T11 m0 
  have o12 := ok_Rule_least (P := P) (w := w) (base := base) T12 m0 
  have k_U5_Rule_hold := (use_U5_Rule_hold T10 o10 ok0.cl (FaN.prop_ok (c.fact 18 (f := .prop "Rule" "hold") rfl)))
  have k_U6_Rule_ranks := (use_U6_Rule_ranks T11 o11 ok0.cl (FaN.prop_ok (c.fact 19 (f := .prop "Rule" "ranks") rfl)))
  have k_U7_Rule_least := (use_U7_Rule_least T12 o12 ok0.cl (FaN.prop_ok (c.fact 20 (f := .prop "Rule" "least") rfl)))
  have o13 := ok_Rule_ranked (P := P) (w := w) (base := base) T13 m0 k_U5_Rule_hold k_U6_Rule_ranks k_U7_Rule_least
  have o14 := ok_is_listed (P := P) (w := w) (base := base) T14 m0 
  have k_U8_is_listed := (use_U8_is_listed T14 o14 g14)
  have o15 := ok_Rule_need_readings (P := P) (w := w) (base := base) T15 m0 k_U1_is_number k_U8_is_listed
  have k_U9_Rule_mode_behind := (use_U9_Rule_mode_behind T8 o8 ok0.cl (He.meth_ok (c.fact 21 (f := .old (.meth "Rule" "mode_behind")) rfl)))
  have k_U10_Rule_ranked := (use_U10_Rule_ranked T13 o13 ok0.cl (He.meth_ok (c.fact 22 (f := .old (.meth "Rule" "ranked")) rfl)))
  have k_U11_Rule_distance := (use_U11_Rule_distance T9 o9 ok0.cl (FaN.prop_ok (c.fact 23 (f := .prop "Rule" "distance") rfl)))
  have k_U12_Rule_need_readings := (use_U12_Rule_need_readings T15 o15 ok0.cl (He.meth_ok (c.fact 24 (f := .old (.meth "Rule" "need_readings")) rfl)))
  have o16 := ok_Rule_tick (P := P) (w := w) (base := base) T16 m0 k_U9_Rule_mode_behind k_U10_Rule_ranked k_U11_Rule_distance k_U12_Rule_need_readings
  have k_U13_Rule_tick := (use_U13_Rule_tick T16 o16 ok0.cl (He.meth_ok (c.fact 25 (f := .old (.meth "Rule" "tick")) rfl)))
  have o17 := ok_Rule_call (P := P) (w := w) (base := base) T17 m0 k_U13_Rule_tick
  have o18 := ok_law_picked (P := P) (w := w) (base := base) T18 m0 
  have o19 := ok_law_behind (P := P) (w := w) (base := base) T19 m0 
  have k_U14_law_behind := (use_U14_law_behind T19 o19 g19)
  have k_U15_law_picked := (use_U15_law_picked T18 o18 g18)
  have o20 := ok_law_tick (P := P) (w := w) (base := base) T20 m0 k_U14_law_behind k_U15_law_picked
  have o21 := ok_law_of (P := P) (w := w) (base := base) T21 m0 k_U0_law_pull
  have o22 := ok_are_ranks (P := P) (w := w) (base := base) T22 m0 k_U2_is_between
  have o23 := ok_is_amount (P := P) (w := w) (base := base) T23 m0 k_U2_is_between
  have k_U16_are_ranks := (use_U16_are_ranks T22 o22 g22)
  have k_U17_is_amount := (use_U17_is_amount T23 o23 g23)
  have o24 := ok_Rule_init (P := P) (w := w) (base := base) T24 m0 k_U2_is_between k_U16_are_ranks k_U17_is_amount
  have k_U18_Rule_init := (use_U18_Rule_init T24 o24 (He.mkr_ok (c.fact 26 (f := .old (.mkr "Rule")) rfl)) gc0)
  have o25 := ok_law_rule_made (P := P) (w := w) (base := base) T25 m0 k_U18_Rule_init
  have k_U19_law_of := (use_U19_law_of T21 o21 g21)
  have o26 := ok_law_rule (P := P) (w := w) (base := base) T26 m0 k_U0_law_pull k_U19_law_of
  have o27 := ok_law_bag (P := P) (w := w) (base := base) T27 m0 
  have k_U20_law_readings := (use_U20_law_readings T1 o1 g1)
  have k_U21_law_same := (ok_law_same (P := P) (w := w) (base := base) T7 m0 g7  6)
  have k_U22_law_tick := (use_U22_law_tick T20 o20 g20)
  have k_U23_law_rule_made := (use_U23_law_rule_made T25 o25 g25)
  have k_U24_law_rule := (use_U24_law_rule T26 o26 g26)
  have k_U25_law_bag := (use_U25_law_bag T27 o27 g27)
  have k_U26_Rule_is_modes := (use_U26_Rule_is_modes T6 o6 ok0.cl (He.meth_ok (c.fact 27 (f := .old (.meth "Rule" "is_modes")) rfl)))
  have k_U27_Rule_call := (use_U27_Rule_call T17 o17 ok0.cl (He.meth_ok (c.fact 28 (f := .old (.meth "Rule" "__call__")) rfl)))
  have k_U28_Rule_tick := (use_U28_Rule_tick T16 o16 ok0.cl (He.meth_ok (c.fact 25 (f := .old (.meth "Rule" "tick")) rfl)))
  have k_U29_Rule_tick := (use_U29_Rule_tick T16 o16 ok0.cl (He.meth_ok (c.fact 25 (f := .old (.meth "Rule" "tick")) rfl)))
  exact ok_law (P := P) (w := w) (base := base) T28 m0 k_U20_law_readings k_U0_law_pull k_U21_law_same k_U15_law_picked k_U22_law_tick k_U19_law_of k_U23_law_rule_made k_U24_law_rule k_U25_law_bag k_U26_Rule_is_modes k_U27_Rule_call k_U28_Rule_tick k_U29_Rule_tick
end EGL
open PySem PySem.W PySem.Calls PyProof.Rows
theorem PySem.Challenge.cw_middlehold_k14_whole_ticks_of_rules_holds : PySem.Challenge.rw_middlehold_k14_whole_ticks_of_rules.Holds := by
  w_on; o_law
  refine HandSHeadRun.head_any (r := PySem.W.OpenLaw.row PySem.Challenge.rw_middlehold_k14_whole_ticks_of_rules) (q := PySem.W.view (PySem.W.OpenLaw.row PySem.Challenge.rw_middlehold_k14_whole_ticks_of_rules).prog [27]) (H := EGL.hk) (ob := EGL.ob) (M := 6000) (loose := EGL.loose) (d := HandSHeadRun.topDef (PySem.W.OpenLaw.row PySem.Challenge.rw_middlehold_k14_whole_ticks_of_rules).prog 27) (kwd := []) EGL.ob_eq
    (by kernel_rfl) (fun s => by kernel_rfl) EGL.run (by kernel_rfl) (by kernel_rfl) (by kernel_rfl) (by rfl) (by first | assumption | decide +kernel) (by decide +kernel) ⟨rfl, rfl, rfl, rfl, rfl, by decide +kernel⟩ ?hw ?hc
  case hw => w_witness2
  case hc =>
    refine L2.walk_ofE (l := PySem.Challenge.rw_middlehold_k14_whole_ticks_of_rules) (n := 63) (k := 7) (x := "_law_script") (CX := L2.CX0) rfl (by decide) (by kernel_rfl) ⟨rfl, by decide, by decide⟩ ?F (fun _ _ _ _ z => z)
    case F =>
      intro w mg fa h Y G hmg0
      obtain ⟨K, KX, c⟩ := Y
      have hmg : mg ("law" : PySem.Str) = some (.ref fa) := by
        have e : (HandSHeadRun.topDef (PySem.W.OpenLaw.row PySem.Challenge.rw_middlehold_k14_whole_ticks_of_rules).prog 27).name = ("law" : PySem.Str) := by kernel_rfl
        rw [← e]
        exact hmg0
      obtain ⟨fd, hb, hF⟩ := EGL.facts (P := (PySem.Challenge.rw_middlehold_k14_whole_ticks_of_rules).prog) (w := w) KX G hmg c
      exact ⟨K, fd, fun vs H Q _ => EG.spF (EGL.kW K) 1 EGL.F_law vs H Q fun _ _ _ => False, KX, hb, fun H a ns hl _ hS => EG.law_sp (W := EGL.kW K) EGL.law_true H a ns hl hS, fun base h1 h2 => EG.FnOk.calmE (W := EGL.kW K) (hF base h1 h2)⟩
